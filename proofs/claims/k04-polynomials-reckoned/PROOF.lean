import PyProof.Rows.All
import Wide.All
import OpenK.AllK
import Wide.FinOn
import HandS.ForMost
import HandS.ForExc
import HandS.Wide
import HandS.Slots
import HandS.SlotsOwn
import HandS.ClsMeth
import HandS.CallSlots
import HandS.ExcInit
import HandS.IsInst
import HandS.NoneIn
import HandS.Zip
import HandS.Style
import HandS.Property
import KE.KOpsOwn
import HandS.Defaults
import HandS.MakeKw
import HandS.MakeKwOnly
import HandS.TryMany
import HandS.ExcField
import HandS.Base
import HandS.Call
import HandS.List
import HandS.Dict
import HandS.Iter
import KE.GoesZip
import KE.GoesMore
import KE.GoesEnum
import HandS.TupLe
import HandS.DictEq
import KE.KStateDown
import HandS.Ends
import HandS.Head0
import HandS.Head1
import HandS.Head2
import HandS.HeadEnd
import HandS.HeadHook1
import HandS.HeadHook2
import HandS.EndBits
import HandS.Text
import HandS.TupAny
import HandS.Star
import HandS.CallLocal
import HandS.Conv
import PyProof.Rows.SeqMore
import HandS.NamedTupGet
import HandS.Deep
import PyProof.InstNe
import PyProof.NeKinds
import PyProof.ListMulAny
import HandS.Sort
import KE.KDictZip
import PyProof.ListNew
import PySem.Challenge.RW_rowpicks_k04_polynomials_reckoned
set_option Elab.async false
set_option linter.all false
set_option maxRecDepth 100000
set_option maxHeartbeats 2000000
set_option autoImplicit false
/-! The data layer: values as trees, worlds, readings by plain functions. -/
namespace DL
open PySem L2

/-- plain data; cell i: a list that may be changed, the i-th of the store -/
inductive D where
  | non | bl (b : Bool) | int (i : Int) | str (x : Str) | ty (n : String) | cls (k : Nat) | cell (i : Nat)
  | lst (ds : List D) | tup (ds : List D) | obj (k : Nat) (ds : List D) | dct (ks : List Key) (ds : List D)
  deriving Inhabited

/-- what a store's cell holds -/
abbrev Store := List (List D)

inductive Res where
  | ok (d : D) (S : Store)
  | exc (k : Nat) (fs : List (Str × D)) (S : Store)
  | bad
inductive ResA where
  | ok (ds : List D) (S : Store)
  | exc (k : Nat) (fs : List (Str × D)) (S : Store)
  | bad
def Res.bind (r : Res) (k : D → Store → Res) : Res := match r with
  | .ok d S => k d S
  | .exc c fs S => .exc c fs S
  | .bad => .bad
def Res.bindA (r : Res) (k : D → Store → ResA) : ResA := match r with
  | .ok d S => k d S
  | .exc c fs S => .exc c fs S
  | .bad => .bad
def ResA.bind (r : ResA) (k : List D → Store → Res) : Res := match r with
  | .ok d S => k d S
  | .exc c fs S => .exc c fs S
  | .bad => .bad
/-- nothing may be raised here -/
def Res.nox (r : Res) : Res := match r with
  | .ok d S => .ok d S
  | _ => .bad

structure Wd where
  F : Hp
  P : Hp
  m : List Addr

/-- what is fixed for a program: its written part, its classes -/
structure Pg where
  K : PySem.W.Frag
  cl : Nat → Addr
  /-- the names of the fields, in order, of a class whose instances have a dict; none: slots -/
  at_ : Nat → Option (List Str)
/-- an instance of the k-th class: vs its fields -/
def ObjAt (Γ : Pg) (F : Hp) (k : Nat) (a dx : Addr) (vs : List V) : Prop := match Γ.at_ k with
  | none => SlX.Slt F a (Γ.cl k) dx (vs.map some)
  | some ns => F a = some (.ins (Γ.cl k) dx (ns.zip vs)) ∧ ns.length = vs.length
theorem ObjAt.mono {Γ : Pg} {F H : Hp} (e : ∀ a o, F a = some o → H a = some o) {k : Nat} {a dx : Addr} {vs : List V} (h : ObjAt Γ F k a dx vs) : ObjAt Γ H k a dx vs := by
  unfold ObjAt at h ⊢
  split at h
  · rcases h with ⟨h, z⟩ | ⟨h, z⟩
    · exact .inl ⟨e _ _ h, z⟩
    · exact .inr ⟨e _ _ h, e _ _ z⟩
  · exact ⟨e _ _ h.1, h.2⟩

section
variable (Γ : Pg)
mutual
def Rep (W : Wd) : D → V → Prop
  | .non, v => v = .non
  | .bl b, v => v = .bl b
  | .int i, v => v = .int i
  | .str x, v => v = .str x
  | .ty n, v => v = .ty n
  | .cls k, v => v = .ref (Γ.cl k)
  | .cell i, v => ∃ a, v = .ref a ∧ W.m[i]? = some a
  | .lst ds, v => ∃ a vs, v = .ref a ∧ SqL Γ.K W.F a vs ∧ Reps W ds vs
  | .tup ds, v => ∃ a vs, v = .ref a ∧ SqT Γ.K W.F a vs ∧ Reps W ds vs
  | .obj k ds, v => ∃ a dx vs, v = .ref a ∧ ObjAt Γ W.F k a dx vs ∧ Reps W ds vs
  | .dct ks ds, v => ∃ a kvs vs, v = .ref a ∧ W.F a = some (.dK kvs) ∧ kvs.map (·.1) = ks ∧ kvs.map (·.2) = vs ∧ Reps W ds vs
def Reps (W : Wd) : List D → List V → Prop
  | [], vs => vs = []
  | d :: ds, vs => ∃ v vs', vs = v :: vs' ∧ Rep W d v ∧ Reps W ds vs'
end
end

/-- the world has grown -/
structure Le (W W' : Wd) : Prop where
  f : ∀ a o, W.F a = some o → W'.F a = some o
  p : W'.P = W.P
  m : ∀ (i : Nat) (a : Addr), W.m[i]? = some a → W'.m[i]? = some a
theorem Le.refl (W : Wd) : Le W W := ⟨fun _ _ h => h, rfl, fun _ _ h => h⟩
theorem Le.trans {W W1 W2 : Wd} (a : Le W W1) (b : Le W1 W2) : Le W W2 := ⟨fun x o h => b.f x o (a.f x o h), b.p.trans a.p, fun i x h => b.m i x (a.m i x h)⟩
/-- the world has grown, but for what belongs to a frame -/
structure LeS (W W' : Wd) : Prop where
  f : ∀ a o, W.F a = some o → W'.F a = some o
  m : ∀ (i : Nat) (a : Addr), W.m[i]? = some a → W'.m[i]? = some a
theorem LeS.refl (W : Wd) : LeS W W := ⟨fun _ _ h => h, fun _ _ h => h⟩
theorem LeS.trans {W W1 W2 : Wd} (a : LeS W W1) (b : LeS W1 W2) : LeS W W2 := ⟨fun x o h => b.f x o (a.f x o h), fun i x h => b.m i x (a.m i x h)⟩
theorem Le.s {W W' : Wd} (a : Le W W') : LeS W W' := ⟨a.f, a.m⟩

theorem rd_le {W W' : Wd} (e : LeS W W') {a : Addr} {u : HO} (h : Rd W.F a u) : Rd W'.F a u := by
  rcases h with h | ⟨o, h⟩
  · exact .inl (e.f _ _ h)
  · exact .inr ⟨o, e.f _ _ h⟩
theorem sqL_le {K : PySem.W.Frag} {W W' : Wd} (e : LeS W W') {a : Addr} {vs : List V} (h : SqL K W.F a vs) : SqL K W'.F a vs := by
  rcases h with h | h
  · exact .inl (rd_le e h)
  · exact .inr h
theorem sqT_le {K : PySem.W.Frag} {W W' : Wd} (e : LeS W W') {a : Addr} {vs : List V} (h : SqT K W.F a vs) : SqT K W'.F a vs := by
  rcases h with h | h
  · exact .inl (rd_le e h)
  · exact .inr h
theorem slt_le {W W' : Wd} (e : LeS W W') {a C dx : Addr} {vs : List (Option V)} (h : SlX.Slt W.F a C dx vs) : SlX.Slt W'.F a C dx vs := by
  rcases h with ⟨h, z⟩ | ⟨h, z⟩
  · exact .inl ⟨e.f _ _ h, z⟩
  · exact .inr ⟨e.f _ _ h, e.f _ _ z⟩
section
variable {Γ : Pg}
mutual
theorem Rep.mono {W W' : Wd} (e : LeS W W') : ∀ {d : D} {v : V}, Rep Γ W d v → Rep Γ W' d v
  | .non, v, h => by simpa only [Rep] using h
  | .bl b, v, h => by simpa only [Rep] using h
  | .int i, v, h => by simpa only [Rep] using h
  | .str x, v, h => by simpa only [Rep] using h
  | .ty n, v, h => by simpa only [Rep] using h
  | .cls k, v, h => by simpa only [Rep] using h
  | .cell i, v, h => by
    simp only [Rep] at h ⊢
    obtain ⟨a, h1, h2⟩ := h
    exact ⟨a, h1, e.m _ _ h2⟩
  | .lst ds, v, h => by
    simp only [Rep] at h ⊢
    obtain ⟨a, vs, h1, h2, h3⟩ := h
    exact ⟨a, vs, h1, sqL_le e h2, Reps.mono e h3⟩
  | .tup ds, v, h => by
    simp only [Rep] at h ⊢
    obtain ⟨a, vs, h1, h2, h3⟩ := h
    exact ⟨a, vs, h1, sqT_le e h2, Reps.mono e h3⟩
  | .obj k ds, v, h => by
    simp only [Rep] at h ⊢
    obtain ⟨a, dx, vs, h1, h2, h3⟩ := h
    exact ⟨a, dx, vs, h1, h2.mono e.f, Reps.mono e h3⟩
  | .dct ks ds, v, h => by
    simp only [Rep] at h ⊢
    obtain ⟨a, kvs, vs, h1, h2, h3, h4, h5⟩ := h
    exact ⟨a, kvs, vs, h1, e.f _ _ h2, h3, h4, Reps.mono e h5⟩
theorem Reps.mono {W W' : Wd} (e : LeS W W') : ∀ {ds : List D} {vs : List V}, Reps Γ W ds vs → Reps Γ W' ds vs
  | [], vs, h => by simpa only [Reps] using h
  | d :: ds, vs, h => by
    simp only [Reps] at h ⊢
    obtain ⟨v, vs', h1, h2, h3⟩ := h
    exact ⟨v, vs', h1, Rep.mono e h2, Reps.mono e h3⟩
end
theorem Reps.length {W : Wd} : ∀ {ds : List D} {vs : List V}, Reps Γ W ds vs → vs.length = ds.length
  | [], vs, h => by simp only [Reps] at h; subst h; rfl
  | d :: ds, vs, h => by
    simp only [Reps] at h
    obtain ⟨v, vs', rfl, _, h3⟩ := h
    simp [Reps.length h3]
theorem Reps.nil {W : Wd} : Reps Γ W [] [] := by simp only [Reps]
theorem Reps.cons {W : Wd} {d : D} {ds : List D} {v : V} {vs : List V} (h : Rep Γ W d v) (t : Reps Γ W ds vs) : Reps Γ W (d :: ds) (v :: vs) := by
  simp only [Reps]; exact ⟨v, vs, rfl, h, t⟩
theorem Reps.append {W : Wd} : ∀ {ds es : List D} {vs us : List V}, Reps Γ W ds vs → Reps Γ W es us → Reps Γ W (ds ++ es) (vs ++ us)
  | [], es, vs, us, h, h2 => by simp only [Reps] at h; subst h; exact h2
  | d :: ds, es, vs, us, h, h2 => by
    simp only [Reps] at h
    obtain ⟨v, vs', rfl, h1, h3⟩ := h
    exact Reps.cons h1 (Reps.append h3 h2)
theorem Reps.get {W : Wd} : ∀ {ds : List D} {vs : List V} {i : Nat} {d : D}, Reps Γ W ds vs → ds[i]? = some d → ∃ v, vs[i]? = some v ∧ Rep Γ W d v
  | [], _, _, _, _, h => by simp at h
  | d0 :: ds, vs, i, d, h, hi => by
    simp only [Reps] at h
    obtain ⟨v, vs', rfl, h1, h3⟩ := h
    cases i with
    | zero => simp at hi; subst hi; exact ⟨v, rfl, h1⟩
    | succ i => simpa using Reps.get h3 (by simpa using hi)
end

/-! ### the store and the heap -/
section
variable (Γ : Pg)
def CellOk (W : Wd) (ds : List D) (a : Addr) (H : Hp) : Prop := ∃ vs, H a = some (.lst vs) ∧ Reps Γ W ds vs
structure Ok (W : Wd) (S : Store) (H : Hp) : Prop where
  f : ∀ a o, W.F a = some o → H a = some o
  p : ∀ a o, W.P a = some o → H a = some o ∧ W.F a = none
  m : ∀ (i : Nat) (a : Addr), W.m[i]? = some a → W.F a = none ∧ W.P a = none
  nd : W.m.Nodup
  len : W.m.length = S.length
  c : ∀ (i : Nat) (a : Addr) (ds : List D), W.m[i]? = some a → S[i]? = some ds → CellOk Γ W ds a H
end

/-- a slot: nothing, a value, a list of the frame's own that is being built, the exception that a suite holds -/
inductive SD where
  | no | val (d : D) | acc (ds : List D) | exn (k : Nat) (fs : List (Str × D)) | slf
  deriving Inhabited
/-- the exception that a suite holds: where it stands, its class, its own dict -/
structure Xx where
  a : Addr
  c : Value
  d : Option Addr
section
variable {Γ : Pg}
def RepX (W : Wd) (fs : List (Str × D)) (d : Option Addr) : Prop := fs = [] ∨ ∃ dx vfs, d = some dx ∧ W.F dx = some (.xd vfs) ∧ vfs.map (·.1) = fs.map (·.1) ∧ Reps Γ W (fs.map (·.2)) (vfs.map (·.2))
end
section
variable (Γ : Pg) (ξ : Xx)
def SlotsR (W : Wd) : List SD → L2.St → List (Addr × HO) → Prop
  | [], σ, own => σ = [] ∧ own = []
  | .no :: es, σ, own => ∃ o σ', σ = o :: σ' ∧ SlotsR W es σ' own
  | .val d :: es, σ, own => ∃ v σ', σ = some v :: σ' ∧ Rep Γ W d v ∧ SlotsR W es σ' own
  | .acc ds :: es, σ, own => ∃ a vs σ' own', σ = some (.ref a) :: σ' ∧ own = (a, .lst vs) :: own' ∧ Reps Γ W ds vs ∧ SlotsR W es σ' own'
  | .exn k fs :: es, σ, own => ∃ σ', σ = some (.ref ξ.a) :: σ' ∧ ξ.c = .ref (Γ.cl k) ∧ RepX (Γ := Γ) W fs ξ.d ∧ SlotsR W es σ' own
  | .slf :: es, σ, own => ∃ σ', σ = some (.ref ξ.a) :: σ' ∧ SlotsR W es σ' own
structure OwnP (W : Wd) (own : List (Addr × HO)) (P0 : Hp) : Prop where
  nd : (own.map (·.1)).Nodup
  at_ : ∀ p ∈ own, P0 p.1 = none ∧ W.P p.1 = some p.2
  rest : ∀ a, a ∉ own.map (·.1) → W.P a = P0 a
def Frame (W : Wd) (es : List SD) (σ : L2.St) (P0 : Hp) : Prop := ∃ own, SlotsR Γ ξ W es σ own ∧ OwnP W own P0
end
section
variable {Γ : Pg} {ξ : Xx}
theorem repX_le {W W' : Wd} {fs : List (Str × D)} {d : Option Addr} (h : RepX (Γ := Γ) W fs d) (e : LeS W W') : RepX (Γ := Γ) W' fs d := by
  rcases h with h | ⟨dx, vfs, h1, h2, h3, h4⟩
  · exact .inl h
  · exact .inr ⟨dx, vfs, h1, e.f _ _ h2, h3, h4.mono e⟩
theorem SlotsR.mono {W W' : Wd} (e : LeS W W') : ∀ {es : List SD} {σ : L2.St} {own : List (Addr × HO)}, SlotsR Γ ξ W es σ own → SlotsR Γ ξ W' es σ own
  | [], σ, own, h => h
  | .no :: es, σ, own, h => by
    obtain ⟨o, σ', h1, h2⟩ := h
    exact ⟨o, σ', h1, SlotsR.mono e h2⟩
  | .val d :: es, σ, own, h => by
    obtain ⟨v, σ', h1, h2, h3⟩ := h
    exact ⟨v, σ', h1, h2.mono e, SlotsR.mono e h3⟩
  | .acc ds :: es, σ, own, h => by
    obtain ⟨a, vs, σ', own', h1, h2, h3, h4⟩ := h
    exact ⟨a, vs, σ', own', h1, h2, h3.mono e, SlotsR.mono e h4⟩
  | .exn k fs :: es, σ, own, h => by
    obtain ⟨σ', h1, h2, h3, h4⟩ := h
    exact ⟨σ', h1, h2, repX_le h3 e, SlotsR.mono e h4⟩
  | .slf :: es, σ, own, h => by
    obtain ⟨σ', h1, h4⟩ := h
    exact ⟨σ', h1, SlotsR.mono e h4⟩
theorem Frame.le {W W' : Wd} {es : List SD} {σ : L2.St} {P0 : Hp} (h : Frame Γ ξ W es σ P0) (e : Le W W') : Frame Γ ξ W' es σ P0 := by
  obtain ⟨own, h1, h2⟩ := h
  exact ⟨own, h1.mono e.s, h2.nd, fun p hp => by rw [e.p]; exact h2.at_ p hp, fun a ha => by rw [e.p]; exact h2.rest a ha⟩
theorem SlotsR.length {W : Wd} : ∀ {es : List SD} {σ : L2.St} {own : List (Addr × HO)}, SlotsR Γ ξ W es σ own → σ.length = es.length
  | [], σ, own, h => by rw [h.1]; rfl
  | .no :: es, σ, own, h => by
    obtain ⟨o, σ', rfl, h2⟩ := h
    simp [SlotsR.length h2]
  | .val d :: es, σ, own, h => by
    obtain ⟨v, σ', rfl, h2, h3⟩ := h
    simp [SlotsR.length h3]
  | .acc ds :: es, σ, own, h => by
    obtain ⟨a, vs, σ', own', rfl, h2, h3, h4⟩ := h
    simp [SlotsR.length h4]
  | .exn k fs :: es, σ, own, h => by
    obtain ⟨σ', rfl, h2, h3, h4⟩ := h
    simp [SlotsR.length h4]
  | .slf :: es, σ, own, h => by
    obtain ⟨σ', rfl, h4⟩ := h
    simp [SlotsR.length h4]
theorem SlotsR.val {W : Wd} : ∀ {es : List SD} {σ : L2.St} {own : List (Addr × HO)} {i : Nat} {d : D}, SlotsR Γ ξ W es σ own → es[i]? = some (.val d) → ∃ v, σ[i]? = some (some v) ∧ Rep Γ W d v
  | [], σ, own, i, d, h, hi => by simp at hi
  | .no :: es, σ, own, i, d, h, hi => by
    obtain ⟨o, σ', rfl, h2⟩ := h
    cases i with
    | zero => simp at hi
    | succ i => simpa using SlotsR.val h2 (by simpa using hi)
  | .val d0 :: es, σ, own, i, d, h, hi => by
    obtain ⟨v, σ', rfl, h2, h3⟩ := h
    cases i with
    | zero => simp at hi; subst hi; exact ⟨v, rfl, h2⟩
    | succ i => simpa using SlotsR.val h3 (by simpa using hi)
  | .acc ds :: es, σ, own, i, d, h, hi => by
    obtain ⟨a, vs, σ', own', rfl, h2, h3, h4⟩ := h
    cases i with
    | zero => simp at hi
    | succ i => simpa using SlotsR.val h4 (by simpa using hi)
  | .exn k fs :: es, σ, own, i, d, h, hi => by
    obtain ⟨σ', rfl, h2, h3, h4⟩ := h
    cases i with
    | zero => simp at hi
    | succ i => simpa using SlotsR.val h4 (by simpa using hi)
  | .slf :: es, σ, own, i, d, h, hi => by
    obtain ⟨σ', rfl, h4⟩ := h
    cases i with
    | zero => simp at hi
    | succ i => simpa using SlotsR.val h4 (by simpa using hi)
theorem SlotsR.acc {W : Wd} : ∀ {es : List SD} {σ : L2.St} {own : List (Addr × HO)} {i : Nat} {ds : List D}, SlotsR Γ ξ W es σ own → es[i]? = some (.acc ds) → ∃ a vs, σ[i]? = some (some (.ref a)) ∧ Reps Γ W ds vs ∧ (a, HO.lst vs) ∈ own
  | [], σ, own, i, d, h, hi => by simp at hi
  | .no :: es, σ, own, i, d, h, hi => by
    obtain ⟨o, σ', rfl, h2⟩ := h
    cases i with
    | zero => simp at hi
    | succ i => simpa using SlotsR.acc h2 (by simpa using hi)
  | .val d0 :: es, σ, own, i, d, h, hi => by
    obtain ⟨v, σ', rfl, h2, h3⟩ := h
    cases i with
    | zero => simp at hi
    | succ i => simpa using SlotsR.acc h3 (by simpa using hi)
  | .acc ds :: es, σ, own, i, d, h, hi => by
    obtain ⟨a, vs, σ', own', rfl, rfl, h3, h4⟩ := h
    cases i with
    | zero => simp at hi; subst hi; exact ⟨a, vs, rfl, h3, List.mem_cons_self⟩
    | succ i =>
      obtain ⟨a', vs', h5, h6, h7⟩ := SlotsR.acc h4 (by simpa using hi)
      exact ⟨a', vs', by simpa using h5, h6, List.mem_cons_of_mem _ h7⟩
  | .exn k fs :: es, σ, own, i, d, h, hi => by
    obtain ⟨σ', rfl, h2, h3, h4⟩ := h
    cases i with
    | zero => simp at hi
    | succ i => simpa using SlotsR.acc h4 (by simpa using hi)
  | .slf :: es, σ, own, i, d, h, hi => by
    obtain ⟨σ', rfl, h4⟩ := h
    cases i with
    | zero => simp at hi
    | succ i => simpa using SlotsR.acc h4 (by simpa using hi)
theorem SlotsR.exn {W : Wd} : ∀ {es : List SD} {σ : L2.St} {own : List (Addr × HO)} {i k : Nat} {fs : List (Str × D)}, SlotsR Γ ξ W es σ own → es[i]? = some (.exn k fs) → σ[i]? = some (some (.ref ξ.a)) ∧ ξ.c = .ref (Γ.cl k) ∧ RepX (Γ := Γ) W fs ξ.d
  | [], σ, own, i, _, _, h, hi => by simp at hi
  | .no :: es, σ, own, i, _, _, h, hi => by
    obtain ⟨o, σ', rfl, h2⟩ := h
    cases i with
    | zero => simp at hi
    | succ i => simpa using SlotsR.exn h2 (by simpa using hi)
  | .val d0 :: es, σ, own, i, _, _, h, hi => by
    obtain ⟨v, σ', rfl, h2, h3⟩ := h
    cases i with
    | zero => simp at hi
    | succ i => simpa using SlotsR.exn h3 (by simpa using hi)
  | .acc ds :: es, σ, own, i, _, _, h, hi => by
    obtain ⟨a, vs, σ', own', rfl, rfl, h3, h4⟩ := h
    cases i with
    | zero => simp at hi
    | succ i => simpa using SlotsR.exn h4 (by simpa using hi)
  | .exn k0 fs0 :: es, σ, own, i, k, fs, h, hi => by
    obtain ⟨σ', rfl, h2, h3, h4⟩ := h
    cases i with
    | zero => simp at hi; obtain ⟨rfl, rfl⟩ := hi; exact ⟨rfl, h2, h3⟩
    | succ i => simpa using SlotsR.exn h4 (by simpa using hi)
  | .slf :: es, σ, own, i, _, _, h, hi => by
    obtain ⟨σ', rfl, h4⟩ := h
    cases i with
    | zero => simp at hi
    | succ i => simpa using SlotsR.exn h4 (by simpa using hi)
theorem SlotsR.slf {W : Wd} : ∀ {es : List SD} {σ : L2.St} {own : List (Addr × HO)} {i : Nat}, SlotsR Γ ξ W es σ own → es[i]? = some .slf → σ[i]? = some (some (.ref ξ.a))
  | [], σ, own, i, h, hi => by simp at hi
  | .no :: es, σ, own, i, h, hi => by
    obtain ⟨o, σ', rfl, h2⟩ := h
    cases i with
    | zero => simp at hi
    | succ i => simpa using SlotsR.slf h2 (by simpa using hi)
  | .val d0 :: es, σ, own, i, h, hi => by
    obtain ⟨v, σ', rfl, h2, h3⟩ := h
    cases i with
    | zero => simp at hi
    | succ i => simpa using SlotsR.slf h3 (by simpa using hi)
  | .acc ds :: es, σ, own, i, h, hi => by
    obtain ⟨a, vs, σ', own', rfl, rfl, h3, h4⟩ := h
    cases i with
    | zero => simp at hi
    | succ i => simpa using SlotsR.slf h4 (by simpa using hi)
  | .exn k0 fs0 :: es, σ, own, i, h, hi => by
    obtain ⟨σ', rfl, h2, h3, h4⟩ := h
    cases i with
    | zero => simp at hi
    | succ i => simpa using SlotsR.slf h4 (by simpa using hi)
  | .slf :: es, σ, own, i, h, hi => by
    obtain ⟨σ', rfl, h4⟩ := h
    cases i with
    | zero => rfl
    | succ i => simpa using SlotsR.slf h4 (by simpa using hi)

/-! ### what follows a result -/
def Cont (Γ : Pg) (r : Res) (W : Wd) (Q : VK) (E : XK) : Prop := match r with
  | .ok d S => ∀ W' v H', Le W W' → Ok Γ W' S H' → Rep Γ W' d v → Q v H'
  | .exc k fs S => ∀ W' d H', Le W W' → Ok Γ W' S H' → RepX (Γ := Γ) W' fs d → E (.ref (Γ.cl k)) d H'
  | .bad => False
def ContA (Γ : Pg) (r : ResA) (W : Wd) (Q : List V → Hp → Prop) (E : XK) : Prop := match r with
  | .ok ds S => ∀ W' vs H', Le W W' → Ok Γ W' S H' → Reps Γ W' ds vs → Q vs H'
  | .exc k fs S => ∀ W' d H', Le W W' → Ok Γ W' S H' → RepX (Γ := Γ) W' fs d → E (.ref (Γ.cl k)) d H'
  | .bad => False
theorem Cont.le {r : Res} {W W' : Wd} {Q : VK} {E : XK} (h : Cont Γ r W Q E) (e : Le W W') : Cont Γ r W' Q E := by
  cases r with
  | ok d S => exact fun W2 v H2 l => h W2 v H2 (e.trans l)
  | exc k fs S => exact fun W2 v H2 l => h W2 v H2 (e.trans l)
  | bad => exact h
theorem ContA.le {r : ResA} {W W' : Wd} {Q : List V → Hp → Prop} {E : XK} (h : ContA Γ r W Q E) (e : Le W W') : ContA Γ r W' Q E := by
  cases r with
  | ok d S => exact fun W2 v H2 l => h W2 v H2 (e.trans l)
  | exc k fs S => exact fun W2 v H2 l => h W2 v H2 (e.trans l)
  | bad => exact h
theorem Cont.bind {r : Res} {k : D → Store → Res} {W : Wd} {Q Q1 : VK} {E : XK} (h : Cont Γ (r.bind k) W Q E)
    (q : ∀ d S1 W1 v H1, Le W W1 → Ok Γ W1 S1 H1 → Rep Γ W1 d v → Cont Γ (k d S1) W1 Q E → Q1 v H1) : Cont Γ r W Q1 E := by
  cases r with
  | ok d S => exact fun W1 v H1 l o r => q d S W1 v H1 l o r (Cont.le h l)
  | exc c fs S => exact h
  | bad => exact h
theorem Cont.bindA {r : Res} {k : D → Store → ResA} {W : Wd} {Q : List V → Hp → Prop} {Q1 : VK} {E : XK} (h : ContA Γ (r.bindA k) W Q E)
    (q : ∀ d S1 W1 v H1, Le W W1 → Ok Γ W1 S1 H1 → Rep Γ W1 d v → ContA Γ (k d S1) W1 Q E → Q1 v H1) : Cont Γ r W Q1 E := by
  cases r with
  | ok d S => exact fun W1 v H1 l o r => q d S W1 v H1 l o r (ContA.le h l)
  | exc c fs S => exact h
  | bad => exact h
theorem ContA.bind {r : ResA} {k : List D → Store → Res} {W : Wd} {Q : VK} {Q1 : List V → Hp → Prop} {E : XK} (h : Cont Γ (r.bind k) W Q E)
    (q : ∀ ds S1 W1 vs H1, Le W W1 → Ok Γ W1 S1 H1 → Reps Γ W1 ds vs → Cont Γ (k ds S1) W1 Q E → Q1 vs H1) : ContA Γ r W Q1 E := by
  cases r with
  | ok d S => exact fun W1 v H1 l o r => q d S W1 v H1 l o r (Cont.le h l)
  | exc c fs S => exact h
  | bad => exact h
theorem Cont.nox {r : Res} {W : Wd} {Q : VK} {E E' : XK} (h : Cont Γ r.nox W Q E) : Cont Γ r W Q E' := by
  cases r with
  | ok d S => exact h
  | exc c fs S => exact h.elim
  | bad => exact h
theorem Cont.imp {r : Res} {W : Wd} {Q Q' : VK} {E : XK} (h : Cont Γ r W Q E) (q : ∀ v H, Q v H → Q' v H) : Cont Γ r W Q' E := by
  cases r with
  | ok d S => exact fun W1 v H1 l o r => q _ _ (h W1 v H1 l o r)
  | exc c fs S => exact h
  | bad => exact h

/-! ### readings -/
abbrev EF := List SD → Store → Res
abbrev AF := List SD → Store → ResA
/-- an exception's wish by slots -/
abbrev WX := Value → Option Addr → L2.St → Hp → Prop
def at_ (E : WX) (σ : L2.St) : XK := fun c d H => E c d σ H
def dE (Γ : Pg) (ξ : Xx) (f : EF) (E : WX) : TE := fun σ H Q => ∃ W es S P0, Ok Γ W S H ∧ Frame Γ ξ W es σ P0 ∧ Cont Γ (f es S) W Q (at_ E σ)
def dA (Γ : Pg) (ξ : Xx) (f : AF) (E : WX) : TA := fun σ H Q => ∃ W es S P0, Ok Γ W S H ∧ Frame Γ ξ W es σ P0 ∧ ContA Γ (f es S) W Q (at_ E σ)
theorem _root_.L2.PE.imp {X : Cx} {e : Expr} {t t' : TE} (h : PE X e t) (q : ∀ σ H Q, t' σ H Q → t σ H Q) : PE X e t' := ⟨fun pins s σ H Q I z => h.run pins s σ H Q I (q σ H Q z)⟩
theorem _root_.L2.PA.imp {X : Cx} {es : List Expr} {t t' : TA} (h : PA X es t) (q : ∀ σ H Q, t' σ H Q → t σ H Q) : PA X es t' := ⟨fun p pins s σ H Q I z => h.run p pins s σ H Q I (q σ H Q z)⟩
theorem _root_.L2.PT.imp {X : Cx} {e : Expr} {t t' : TT} (h : PT X e t) (q : ∀ σ H Q, t' σ H Q → t σ H Q) : PT X e t' := ⟨fun pins s σ H Q I z => h.run pins s σ H Q I (q σ H Q z)⟩
theorem _root_.L2.PS.imp {X : Cx} {e : Stmt} {t t' : TS} (h : PS X e t) (q : ∀ D σ H, t' D σ H → t D σ H) : PS X e t' := ⟨fun pins s σ H D I z => h.run pins s σ H D I (q D σ H z)⟩
theorem _root_.L2.PSs.imp {X : Cx} {e : List Stmt} {t t' : TS} (h : PSs X e t) (q : ∀ D σ H, t' D σ H → t D σ H) : PSs X e t' := ⟨fun pins s σ H D I z => h.run pins s σ H D I (q D σ H z)⟩

/-! ### names, constants -/
def eVar (i : Nat) : EF := fun es S => match es[i]? with
  | some (.val d) => .ok d S
  | _ => .bad
def eC (d : D) : EF := fun _ S => .ok d S
section
variable {X : Cx} {E : WX}
theorem de_var (i : Nat) {x : Str} {pos : Pos} (hN : X.N[i]? = some x := by rfl) (hv : Vis X.env.scope x := by first | exact Or.inl rfl | exact Or.inr (Or.inl rfl) | exact Or.inr (Or.inr rfl)) (hd : (x == ("__debug__" : Str)) = false := by decide)
    (hcd : (x == ("__classdict__" : Str)) = false := by decide) : PE X (.Name x pos) (dE Γ ξ (eVar i) E) := (pe_var hN hv hd hcd).imp fun σ H Q ⟨W, es, S, P0, ok, ⟨own, fr, _⟩, h⟩ => by
  unfold eVar at h
  cases hi : es[i]? with
  | none => rw [hi] at h; exact h.elim
  | some sd =>
    rw [hi] at h
    cases sd with
    | no => exact h.elim
    | acc ds => exact h.elim
    | exn k fs => exact h.elim
    | slf => exact h.elim
    | val d =>
      obtain ⟨v, h1, h2⟩ := fr.val hi
      exact ⟨v, h1, h W v H (Le.refl W) ok h2⟩
theorem de_c {e : Expr} {d : D} {v : V} (h : PE X e (tC v)) (r : ∀ W, Rep Γ W d v) : PE X e (dE Γ ξ (eC d) E) := h.imp fun σ H Q ⟨W, es, S, P0, ok, fr, h⟩ => h W v H (Le.refl W) ok (r W)
theorem de_int {i j pos} : PE X (.Constant (.int i) j pos) (dE Γ ξ (eC (.int i)) E) := de_c pe_int fun W => by simp only [Rep]
theorem de_bl {b j pos} : PE X (.Constant (.bool b) j pos) (dE Γ ξ (eC (.bl b)) E) := de_c pe_bl fun W => by simp only [Rep]
theorem de_non {j pos} : PE X (.Constant .none j pos) (dE Γ ξ (eC .non) E) := de_c pe_non fun W => by simp only [Rep]
theorem de_str {x j pos} : PE X (.Constant (.str x) j pos) (dE Γ ξ (eC (.str x)) E) := de_c pe_str fun W => by simp only [Rep]

/-! ### operations of two values -/
def eOp2 (g : D → D → Store → Res) (a b : EF) : EF := fun es S => (a es S).bind fun x S1 => (b es S1).bind fun y S2 => (g x y S2).nox
def rD (Γ : Pg) (g : D → D → Store → Res) : R2 := fun x y H Q => ∃ W S a b, Ok Γ W S H ∧ Rep Γ W a x ∧ Rep Γ W b y ∧ Cont Γ (g a b S) W Q (fun _ _ _ => False)
theorem tOp_of {g : D → D → Store → Res} {fa fb : EF} {σ : L2.St} {H : Hp} {Q : VK} (h : dE Γ ξ (eOp2 g fa fb) E σ H Q) : tOp (rD Γ g) (dE Γ ξ fa E) (dE Γ ξ fb E) σ H Q := by
  obtain ⟨W, es, S, P0, ok, fr, h⟩ := h
  refine ⟨W, es, S, P0, ok, fr, h.bind fun d S1 W1 v H1 le ok1 rv h1 => ?_⟩
  refine ⟨W1, es, S1, P0, ok1, fr.le le, h1.bind fun d2 S2 W2 v2 H2 le2 ok2 rv2 h2 => ?_⟩
  exact ⟨W2, S2, d, d2, ok2, rv.mono le2.s, rv2, h2.nox⟩
theorem de_op {op : Operator} {a b : Expr} {fa fb : EF} {g : D → D → Store → Res} {pos : Pos} (ho : OpR X (binaryOp op) (rD Γ g)) (ha : PE X a (dE Γ ξ fa E)) (hb : PE X b (dE Γ ξ fb E)) : PE X (.BinOp a op b pos) (dE Γ ξ (eOp2 g fa fb) E) :=
  (pe_op ho ha hb).imp fun σ H Q h => tOp_of h
theorem de_cmp {op : CmpOp} {a b : Expr} {fa fb : EF} {g : D → D → Store → Res} {pos : Pos} (ho : OpR X (compareOp op) (rD Γ g)) (ha : PE X a (dE Γ ξ fa E)) (hb : PE X b (dE Γ ξ fb E)) (hm : behindInMarks op b = false := by rfl) : PE X (.Compare a [op] [b] pos) (dE Γ ξ (eOp2 g fa fb) E) :=
  (pe_cmpR ho ha hb hm).imp fun σ H Q h => tOp_of h
/-- what is laid of an operation on the values, without a change of the heap -/
def gI (f : Int → Int → D) (C : Int → Int → Bool) : D → D → Store → Res := fun x y S => match x, y with
  | .int i, .int j => if C i j then .ok (f i j) S else .bad
  | _, _ => .bad
theorem op_gI {F : Value → Value → Sem Value} {r : R2} (ho : OpR X F r) {f : Int → Int → D} {C : Int → Int → Bool} {fv : Int → Int → V} (hr : ∀ i j H (Q : VK), C i j = true → Q (fv i j) H → r (.int i) (.int j) H Q) (hv : ∀ W i j, Rep Γ W (f i j) (fv i j)) : OpR X F (rD Γ (gI f C)) := by
  intro pins s σ H x y v u Q I rx ry ⟨W, S, a, b, ok, ra, rb, h⟩
  unfold gI at h
  split at h
  · rename_i i j
    simp only [Rep] at ra rb
    subst ra rb
    split at h
    · rename_i hc
      exact ho pins s σ H _ _ v u Q I rx ry (hr i j H Q hc (h W _ H (Le.refl W) ok (hv W i j)))
    · exact h.elim
  · exact h.elim
end
end
end DL
set_option Elab.async false
set_option linter.all false
set_option maxRecDepth 100000
set_option maxHeartbeats 2000000
set_option autoImplicit false
/-! The data layer, 2: operators, tests, calls, displays. -/
namespace DL
open PySem L2

/-! ### a further way for what is bad -/
def gOr (g1 g2 : D → D → Store → Res) : D → D → Store → Res := fun x y S => match g1 x y S with
  | .bad => g2 x y S
  | r => r
section
variable {Γ : Pg} {ξ : Xx} {X : Cx} {E : WX}
theorem op_or {F : Value → Value → Sem Value} {g1 g2 : D → D → Store → Res} (h1 : OpR X F (rD Γ g1)) (h2 : OpR X F (rD Γ g2)) : OpR X F (rD Γ (gOr g1 g2)) := by
  intro pins s σ H x y v u Q I rx ry ⟨W, S, a, b, ok, ra, rb, h⟩
  unfold gOr at h
  cases e : g1 a b S with
  | bad =>
    rw [e] at h
    exact h2 pins s σ H x y v u Q I rx ry ⟨W, S, a, b, ok, ra, rb, h⟩
  | ok d S' =>
    rw [e] at h
    exact h1 pins s σ H x y v u Q I rx ry ⟨W, S, a, b, ok, ra, rb, by rw [e]; exact h⟩
  | exc k fs S' =>
    rw [e] at h
    exact h1 pins s σ H x y v u Q I rx ry ⟨W, S, a, b, ok, ra, rb, by rw [e]; exact h⟩

/-! ### ints -/
def yes2 : Int → Int → Bool := fun _ _ => true
def bits (i : Int) : Nat := i.natAbs.log2
def iAdd : D → D → Store → Res := gI (fun i j => .int (i + j)) yes2
def iSub : D → D → Store → Res := gI (fun i j => .int (i - j)) yes2
def iMul : D → D → Store → Res := gI (fun i j => .int (i * j)) fun i j => decide (bits i + bits j < 1000000)
def iDiv : D → D → Store → Res := gI (fun i j => .int (i / j)) fun _ j => decide (0 < j) && decide (bits j < 9000)
def iMod : D → D → Store → Res := gI (fun i j => .int (i % j)) fun _ j => decide (0 < j)
def iPow : D → D → Store → Res := gI (fun i j => .int (i ^ j.toNat)) fun i j => decide (0 ≤ j) && decide (j ≤ 1000000) && decide (i.natAbs < 2 ^ 64)
def iLt : D → D → Store → Res := gI (fun i j => .bl (decide (i < j))) yes2
def iLe : D → D → Store → Res := gI (fun i j => .bl (decide (i ≤ j))) yes2
def iGt : D → D → Store → Res := gI (fun i j => .bl (decide (j < i))) yes2
def iGe : D → D → Store → Res := gI (fun i j => .bl (decide (j ≤ i))) yes2
theorem op_iAdd : OpR X (binaryOp .Add) (rD Γ iAdd) := op_gI op_add (fun i j H Q _ q => ⟨i, j, rfl, rfl, q⟩) fun W i j => by simp only [Rep]
theorem op_iSub : OpR X (binaryOp .Sub) (rD Γ iSub) := op_gI op_sub (fun i j H Q _ q => ⟨i, j, rfl, rfl, q⟩) fun W i j => by simp only [Rep]
theorem op_iMul : OpR X (binaryOp .Mult) (rD Γ iMul) := op_gI op_mulW (fun i j H Q c q => ⟨i, j, rfl, rfl, (of_decide_eq_true c : bits i + bits j < 1000000), q⟩) fun W i j => by simp only [Rep]
theorem op_iDiv : OpR X (binaryOp .FloorDiv) (rD Γ iDiv) := op_gI op_fdivW (fun i j H Q c q => ⟨i, j, rfl, rfl, ⟨of_decide_eq_true (Bool.and_eq_true_iff.mp c).1, of_decide_eq_true (Bool.and_eq_true_iff.mp c).2⟩, q⟩) fun W i j => by simp only [Rep]
theorem op_iMod : OpR X (binaryOp .Mod) (rD Γ iMod) := op_gI op_mod (fun i j H Q c q => ⟨i, j, rfl, rfl, of_decide_eq_true c, q⟩) fun W i j => by simp only [Rep]
theorem op_iPow : OpR X (binaryOp .Pow) (rD Γ iPow) := op_gI op_pow (fun i j H Q c q => ⟨i, j, rfl, rfl, ⟨of_decide_eq_true (Bool.and_eq_true_iff.mp (Bool.and_eq_true_iff.mp c).1).1, of_decide_eq_true (Bool.and_eq_true_iff.mp (Bool.and_eq_true_iff.mp c).1).2, of_decide_eq_true (Bool.and_eq_true_iff.mp c).2⟩, q⟩) fun W i j => by simp only [Rep]
theorem op_iLt : OpR X (compareOp .Lt) (rD Γ iLt) := op_gI op_lt (fun i j H Q _ q => ⟨i, j, rfl, rfl, q⟩) fun W i j => by simp only [Rep]
theorem op_iLe : OpR X (compareOp .LtE) (rD Γ iLe) := op_gI op_le (fun i j H Q _ q => ⟨i, j, rfl, rfl, q⟩) fun W i j => by simp only [Rep]
theorem op_iGt : OpR X (compareOp .Gt) (rD Γ iGt) := op_gI op_gt (fun i j H Q _ q => ⟨i, j, rfl, rfl, q⟩) fun W i j => by simp only [Rep]
theorem op_iGe : OpR X (compareOp .GtE) (rD Γ iGe) := op_gI op_ge (fun i j H Q _ q => ⟨i, j, rfl, rfl, q⟩) fun W i j => by simp only [Rep]

/-! ### == and != of nested data without objects -/
mutual
def toP : D → Option PyData
  | .non => some .none
  | .bl b => some (.bool b)
  | .int i => some (.int i)
  | .str x => some (.str x)
  | .lst ds => (toPs ds).map .list
  | .tup ds => (toPs ds).map .tuple
  | .ty _ => none
  | .cls _ => none
  | .cell _ => none
  | .obj _ _ => none
  | .dct _ _ => none
def toPs : List D → Option (List PyData)
  | [] => some []
  | d :: ds => (toP d).bind fun p => (toPs ds).map fun ps => p :: ps
end
/-- a cell's list is looked up -/
def deref (S : Store) : D → D
  | .cell i => match S[i]? with
    | some ds => .lst ds
    | none => .cell i
  | d => d
/-! cells become lists, to the bottom -/
mutual
def thc (c : Nat → D) : D → D
  | .cell i => c i
  | .lst ds => .lst (thcs c ds)
  | .tup ds => .tup (thcs c ds)
  | .non => .non
  | .bl b => .bl b
  | .int i => .int i
  | .str x => .str x
  | .ty n => .ty n
  | .cls k => .cls k
  | .obj k ds => .obj k ds
  | .dct ks ds => .dct ks ds
def thcs (c : Nat → D) : List D → List D
  | [] => []
  | d :: ds => thc c d :: thcs c ds
end
def cellD (S : Store) : Nat → Nat → D
  | 0, i => .cell i
  | n + 1, i => match S[i]? with
    | some ds => .lst (thcs (cellD S n) ds)
    | none => .cell i
def thw (S : Store) (d : D) : D := thc (cellD S 6) d
def eqB (S : Store) (a b : D) : Option Bool := match toP (thw S a), toP (thw S b) with
  | some p, some q => if SeqAt.shaped p && SeqAt.shaped q then some (PyData.eqv p q) else none
  | _, _ => none
def gEq : D → D → Store → Res := fun x y S => match eqB S x y with
  | some b => .ok (.bl b) S
  | none => .bad
def gNe : D → D → Store → Res := fun x y S => match eqB S x y with
  | some b => .ok (.bl (!b)) S
  | none => .bad
theorem sqL_H {K : PySem.W.Frag} {F H : Hp} (e : ∀ a o, F a = some o → H a = some o) {a : Addr} {vs : List V} (h : SqL K F a vs) : SqL K H a vs := by
  rcases h with (h | ⟨o, h⟩) | h
  · exact .inl (.inl (e _ _ h))
  · exact .inl (.inr ⟨o, e _ _ h⟩)
  · exact .inr h
theorem sqT_H {K : PySem.W.Frag} {F H : Hp} (e : ∀ a o, F a = some o → H a = some o) {a : Addr} {vs : List V} (h : SqT K F a vs) : SqT K H a vs := by
  rcases h with (h | ⟨o, h⟩) | h
  · exact .inl (.inl (e _ _ h))
  · exact .inl (.inr ⟨o, e _ _ h⟩)
  · exact .inr h
mutual
theorem dp_of {W : Wd} {H : Hp} (e : ∀ a o, W.F a = some o → H a = some o) : ∀ {d : D} {v : V} {p : PyData}, Rep Γ W d v → toP d = some p → Dp Γ.K H v p
  | .non, v, p, h, t => by simp only [Rep] at h; simp only [toP, Option.some.injEq] at t; subst h t; exact .non
  | .bl b, v, p, h, t => by simp only [Rep] at h; simp only [toP, Option.some.injEq] at t; subst h t; exact .bl b
  | .int b, v, p, h, t => by simp only [Rep] at h; simp only [toP, Option.some.injEq] at t; subst h t; exact .int b
  | .str b, v, p, h, t => by simp only [Rep] at h; simp only [toP, Option.some.injEq] at t; subst h t; exact .str b
  | .lst ds, v, p, h, t => by
    simp only [Rep] at h
    obtain ⟨a, vs, rfl, h2, h3⟩ := h
    simp only [toP, Option.map_eq_some_iff] at t
    obtain ⟨ps, t1, rfl⟩ := t
    exact .lst (sqL_H e h2) (dps_of e h3 t1)
  | .tup ds, v, p, h, t => by
    simp only [Rep] at h
    obtain ⟨a, vs, rfl, h2, h3⟩ := h
    simp only [toP, Option.map_eq_some_iff] at t
    obtain ⟨ps, t1, rfl⟩ := t
    exact .tup (sqT_H e h2) (dps_of e h3 t1)
  | .ty _, v, p, h, t => by simp [toP] at t
  | .cls _, v, p, h, t => by simp [toP] at t
  | .cell _, v, p, h, t => by simp [toP] at t
  | .obj _ _, v, p, h, t => by simp [toP] at t
  | .dct _ _, v, p, h, t => by simp [toP] at t
theorem dps_of {W : Wd} {H : Hp} (e : ∀ a o, W.F a = some o → H a = some o) : ∀ {ds : List D} {vs : List V} {ps : List PyData}, Reps Γ W ds vs → toPs ds = some ps → DpAll Γ.K H vs ps
  | [], vs, ps, h, t => by simp only [Reps] at h; simp only [toPs, Option.some.injEq] at t; subst h t; exact .nil
  | d :: ds, vs, ps, h, t => by
    simp only [Reps] at h
    obtain ⟨v, vs', rfl, h2, h3⟩ := h
    simp only [toPs, Option.bind_eq_some_iff, Option.map_eq_some_iff] at t
    obtain ⟨p, t1, ps', t2, rfl⟩ := t
    exact .cons (dp_of e h2 t1) (dps_of e h3 t2)
end
theorem Ok.cell {W : Wd} {S : Store} {H : Hp} (ok : Ok Γ W S H) {i : Nat} {a : Addr} (h : W.m[i]? = some a) : ∃ ds vs, S[i]? = some ds ∧ H a = some (.lst vs) ∧ Reps Γ W ds vs := by
  have hl : i < W.m.length := (List.getElem?_eq_some_iff.mp h).1
  have hs : i < S.length := by rw [← ok.len]; exact hl
  obtain ⟨vs, h1, h2⟩ := ok.c i a S[i] h (List.getElem?_eq_getElem hs)
  exact ⟨S[i], vs, List.getElem?_eq_getElem hs, h1, h2⟩
mutual
theorem dp_thc {W : Wd} {H : Hp} {c : Nat → D} (e : ∀ a o, W.F a = some o → H a = some o) (hc : ∀ i v p, Rep Γ W (.cell i) v → toP (c i) = some p → Dp Γ.K H v p) : ∀ {d : D} {v : V} {p : PyData}, Rep Γ W d v → toP (thc c d) = some p → Dp Γ.K H v p
  | .cell i, v, p, h, t => hc i v p h t
  | .non, v, p, h, t => dp_of e h t
  | .bl b, v, p, h, t => dp_of e h t
  | .int b, v, p, h, t => dp_of e h t
  | .str b, v, p, h, t => dp_of e h t
  | .ty b, v, p, h, t => dp_of e h t
  | .cls b, v, p, h, t => dp_of e h t
  | .obj k ds, v, p, h, t => dp_of e h t
  | .dct k ds, v, p, h, t => dp_of e h t
  | .lst ds, v, p, h, t => by
    simp only [Rep] at h
    obtain ⟨a, vs, rfl, h2, h3⟩ := h
    simp only [thc, toP, Option.map_eq_some_iff] at t
    obtain ⟨ps, t1, rfl⟩ := t
    exact .lst (sqL_H e h2) (dps_thc e hc h3 t1)
  | .tup ds, v, p, h, t => by
    simp only [Rep] at h
    obtain ⟨a, vs, rfl, h2, h3⟩ := h
    simp only [thc, toP, Option.map_eq_some_iff] at t
    obtain ⟨ps, t1, rfl⟩ := t
    exact .tup (sqT_H e h2) (dps_thc e hc h3 t1)
theorem dps_thc {W : Wd} {H : Hp} {c : Nat → D} (e : ∀ a o, W.F a = some o → H a = some o) (hc : ∀ i v p, Rep Γ W (.cell i) v → toP (c i) = some p → Dp Γ.K H v p) : ∀ {ds : List D} {vs : List V} {ps : List PyData}, Reps Γ W ds vs → toPs (thcs c ds) = some ps → DpAll Γ.K H vs ps
  | [], vs, ps, h, t => by simp only [Reps] at h; simp only [thcs, toPs, Option.some.injEq] at t; subst h t; exact .nil
  | d :: ds, vs, ps, h, t => by
    simp only [Reps] at h
    obtain ⟨v, vs', rfl, h2, h3⟩ := h
    simp only [thcs, toPs, Option.bind_eq_some_iff, Option.map_eq_some_iff] at t
    obtain ⟨p, t1, ps', t2, rfl⟩ := t
    exact .cons (dp_thc e hc h2 t1) (dps_thc e hc h3 t2)
end
theorem dp_cell {W : Wd} {S : Store} {H : Hp} (ok : Ok Γ W S H) : ∀ (n : Nat) (i : Nat) (v : V) (p : PyData), Rep Γ W (.cell i) v → toP (cellD S n i) = some p → Dp Γ.K H v p
  | 0, i, v, p, r, h => by simp [cellD, toP] at h
  | n + 1, i, v, p, r, h => by
    simp only [Rep] at r
    obtain ⟨a, rfl, h2⟩ := r
    obtain ⟨ds, vs, h3, h4, h5⟩ := ok.cell h2
    simp only [cellD, h3, toP, Option.map_eq_some_iff] at h
    obtain ⟨ps, t1, rfl⟩ := h
    exact .lst (.inl (.inl h4)) (dps_thc ok.f (dp_cell ok n) h5 t1)
theorem dp_deref {W : Wd} {S : Store} {H : Hp} (ok : Ok Γ W S H) {d : D} {v : V} {p : PyData} (h : Rep Γ W d v) (t : toP (thw S d) = some p) : Dp Γ.K H v p := dp_thc ok.f (dp_cell ok 6) h t
theorem op_gEq (hK : X.K = Γ.K) (hu : X.A.units + 64 < cLine) : OpR X (compareOp .Eq) (rD Γ gEq) := by
  intro pins s σ H x y v u Q I rx ry ⟨W, S, a, b, ok, ra, rb, h⟩
  unfold gEq eqB at h
  split at h
  · rename_i r hr
    split at hr
    · rename_i p q hp hq
      split at hr
      · rename_i hs
        cases hr
        have hs := Bool.and_eq_true_iff.mp hs
        exact op_eqD hu pins s σ H x y v u Q I rx ry ⟨p, q, by rw [hK]; exact dp_deref ok ra hp, by rw [hK]; exact dp_deref ok rb hq, hs.1, hs.2, h W _ H (Le.refl W) ok (by simp only [Rep])⟩
      · cases hr
    · cases hr
  · exact h.elim
theorem op_gNe (hK : X.K = Γ.K) (hu : X.A.units + 64 < cLine) : OpR X (compareOp .NotEq) (rD Γ gNe) := by
  intro pins s σ H x y v u Q I rx ry ⟨W, S, a, b, ok, ra, rb, h⟩
  unfold gNe eqB at h
  split at h
  · rename_i r hr
    split at hr
    · rename_i p q hp hq
      split at hr
      · rename_i hs
        cases hr
        have hs := Bool.and_eq_true_iff.mp hs
        exact op_neD hu pins s σ H x y v u Q I rx ry ⟨p, q, by rw [hK]; exact dp_deref ok ra hp, by rw [hK]; exact dp_deref ok rb hq, hs.1, hs.2, h W _ H (Le.refl W) ok (by simp only [Rep])⟩
      · cases hr
    · cases hr
  · exact h.elim

/-! ### one operand -/
def eOp1 (g : D → Store → Res) (a : EF) : EF := fun es S => (a es S).bind fun x S1 => (g x S1).nox
def rU1 (Γ : Pg) (g : D → Store → Res) : V → Hp → VK → Prop := fun x H Q => ∃ W S a, Ok Γ W S H ∧ Rep Γ W a x ∧ Cont Γ (g a S) W Q (fun _ _ _ => False)
theorem de_un {op : UnaryOp} {a : Expr} {fa : EF} {g : D → Store → Res} {pos : Pos} (ho : UnR X (unaryOp op) (rU1 Γ g)) (ha : PE X a (dE Γ ξ fa E)) : PE X (.UnaryOp op a pos) (dE Γ ξ (eOp1 g fa) E) :=
  (pe_un ho ha).imp fun σ H Q ⟨W, es, S, P0, ok, fr, h⟩ => ⟨W, es, S, P0, ok, fr, h.bind fun d S1 W1 v H1 le ok1 rv h1 => ⟨W1, S1, d, ok1, rv, h1.nox⟩⟩
def iNeg : D → Store → Res := fun x S => match x with
  | .int i => .ok (.int (-i)) S
  | _ => .bad
theorem un_iNeg : UnR X (unaryOp .USub) (rU1 Γ iNeg) := by
  intro pins s σ H x v Q I rx ⟨W, S, a, ok, ra, h⟩
  unfold iNeg at h
  split at h
  · simp only [Rep] at ra
    subst ra
    exact un_neg pins s σ H _ v Q I rx ⟨_, rfl, h W _ H (Le.refl W) ok (by simp only [Rep])⟩
  · exact h.elim
def gOr1 (g1 g2 : D → Store → Res) : D → Store → Res := fun x S => match g1 x S with
  | .bad => g2 x S
  | r => r
theorem un_or {F : Value → Sem Value} {g1 g2 : D → Store → Res} (h1 : UnR X F (rU1 Γ g1)) (h2 : UnR X F (rU1 Γ g2)) : UnR X F (rU1 Γ (gOr1 g1 g2)) := by
  intro pins s σ H x v Q I rx ⟨W, S, a, ok, ra, h⟩
  unfold gOr1 at h
  cases e : g1 a S with
  | bad =>
    rw [e] at h
    exact h2 pins s σ H x v Q I rx ⟨W, S, a, ok, ra, h⟩
  | ok d S' =>
    rw [e] at h
    exact h1 pins s σ H x v Q I rx ⟨W, S, a, ok, ra, by rw [e]; exact h⟩
  | exc k fs S' =>
    rw [e] at h
    exact h1 pins s σ H x v Q I rx ⟨W, S, a, ok, ra, by rw [e]; exact h⟩

/-! ### tests -/
def ContB (Γ : Pg) (r : Res) (W : Wd) (Q : Bool → Hp → Prop) (E : XK) : Prop := match r with
  | .ok (.bl b) S => ∀ W' H', Le W W' → Ok Γ W' S H' → Q b H'
  | .exc k fs S => ∀ W' d H', Le W W' → Ok Γ W' S H' → RepX (Γ := Γ) W' fs d → E (.ref (Γ.cl k)) d H'
  | _ => False
theorem ContB.le {r : Res} {W W' : Wd} {Q : Bool → Hp → Prop} {E : XK} (h : ContB Γ r W Q E) (e : Le W W') : ContB Γ r W' Q E := by
  unfold ContB at h ⊢
  split at h
  · exact fun W2 H2 l => h W2 H2 (e.trans l)
  · exact fun W2 d H2 l => h W2 d H2 (e.trans l)
  · exact h
def dT (Γ : Pg) (ξ : Xx) (f : EF) (E : WX) : TT := fun σ H Q => ∃ W es S P0, Ok Γ W S H ∧ Frame Γ ξ W es σ P0 ∧ ContB Γ (f es S) W Q (at_ E σ)
/-- from a test's end to a value's -/
theorem ContB.val {r : Res} {W : Wd} {Q : Bool → Hp → Prop} {E : XK} (h : ContB Γ r W Q E) : Cont Γ r W (fun x H1 => ∃ c, x = .bl c ∧ Q c H1) E := by
  unfold ContB at h
  split at h
  · rename_i b S
    intro W' v H' l o r
    simp only [Rep] at r
    exact ⟨b, r, h W' H' l o⟩
  · exact h
  · exact h.elim
theorem dt_val {e : Expr} {f : EF} (h : PE X e (dE Γ ξ f E)) (he : ∀ whole, isTrue e X.env whole = (do let v ← whole; standAt e.pos; holding [v] (truthy v)) := by intro _; rfl) : PT X e (dT Γ ξ f E) :=
  (pt_val h he).imp fun σ H Q ⟨W, es, S, P0, ok, fr, h⟩ => ⟨W, es, S, P0, ok, fr, h.val⟩
theorem dt_cmp {op : CmpOp} {a b : Expr} {fa fb : EF} {g : D → D → Store → Res} {pos : Pos} (ho : OpR X (compareOp op) (rD Γ g)) (ha : PE X a (dE Γ ξ fa E)) (hb : PE X b (dE Γ ξ fb E)) (hm : behindInMarks op b = false := by rfl) : PT X (.Compare a [op] [b] pos) (dT Γ ξ (eOp2 g fa fb) E) :=
  (pt_cmpR ho ha hb hm).imp fun σ H Q ⟨W, es, S, P0, ok, fr, h⟩ => tOp_of ⟨W, es, S, P0, ok, fr, h.val⟩
def nB : D → Store → Res := fun d S => match d with
  | .bl b => .ok (.bl (!b)) S
  | _ => .bad
def eNot (f : EF) : EF := fun es S => (f es S).bind nB
theorem dt_not {a : Expr} {f : EF} {pos : Pos} (h : PT X a (dT Γ ξ f E)) : PT X (.UnaryOp .Not a pos) (dT Γ ξ (eNot f) E) := (pt_not h).imp fun σ H Q ⟨W, es, S, P0, ok, fr, h⟩ => ⟨W, es, S, P0, ok, fr, by
  unfold eNot at h
  cases e : f es S with
  | bad => rw [e] at h; exact h.elim
  | exc k fs S' => rw [e] at h; exact h
  | ok d S' =>
    rw [e] at h
    cases d with
    | bl b => exact h
    | _ => exact h.elim⟩
def eAnd (a b : EF) : EF := fun es S => (a es S).bind fun d S1 => match d with
  | .bl true => b es S1
  | .bl false => .ok (.bl false) S1
  | _ => .bad
def eOr (a b : EF) : EF := fun es S => (a es S).bind fun d S1 => match d with
  | .bl false => b es S1
  | .bl true => .ok (.bl true) S1
  | _ => .bad
theorem _root_.L2.PW.imp {X : Cx} {e : Expr} {t t' : TT} (h : PW X e t) (q : ∀ σ H Q, t' σ H Q → t σ H Q) : PW X e t' := ⟨fun wh pins s σ H Q I z => h.run wh pins s σ H Q I (q σ H Q z)⟩
theorem tAnd_of {fa fb : EF} {σ : L2.St} {H : Hp} {Q : Bool → Hp → Prop} (h : dT Γ ξ (eAnd fa fb) E σ H Q) : tAnd (dT Γ ξ fa E) (dT Γ ξ fb E) σ H Q := by
  obtain ⟨W, es, S, P0, ok, fr, h⟩ := h
  refine ⟨W, es, S, P0, ok, fr, ?_⟩
  unfold eAnd at h
  cases e : fa es S with
  | bad => rw [e] at h; exact h.elim
  | exc k fs S' => rw [e] at h; exact h
  | ok d S' =>
    rw [e] at h
    cases d with
    | bl b =>
      intro W1 H1 l o
      cases b with
      | true => exact ⟨W1, es, S', P0, o, fr.le l, h.le l⟩
      | false => exact h W1 H1 l o
    | _ => exact h.elim
theorem tOr_of {fa fb : EF} {σ : L2.St} {H : Hp} {Q : Bool → Hp → Prop} (h : dT Γ ξ (eOr fa fb) E σ H Q) : tOr (dT Γ ξ fa E) (dT Γ ξ fb E) σ H Q := by
  obtain ⟨W, es, S, P0, ok, fr, h⟩ := h
  refine ⟨W, es, S, P0, ok, fr, ?_⟩
  unfold eOr at h
  cases e : fa es S with
  | bad => rw [e] at h; exact h.elim
  | exc k fs S' => rw [e] at h; exact h
  | ok d S' =>
    rw [e] at h
    cases d with
    | bl b =>
      intro W1 H1 l o
      cases b with
      | false => exact ⟨W1, es, S', P0, o, fr.le l, h.le l⟩
      | true => exact h W1 H1 l o
    | _ => exact h.elim
section
variable {a b c : Expr} {rest : List Expr} {fa fb fc : EF} {pos : Pos}
theorem dw_and (ha : PT X a (dT Γ ξ fa E)) (hb : PW X (.BoolOp .And (b :: rest) pos) (dT Γ ξ fb E)) : PW X (.BoolOp .And (a :: b :: rest) pos) (dT Γ ξ (eAnd fa fb) E) := (pw_and ha hb).imp fun σ H Q h => tAnd_of h
theorem dw_or (ha : PT X a (dT Γ ξ fa E)) (hb : PW X (.BoolOp .Or (b :: rest) pos) (dT Γ ξ fb E)) : PW X (.BoolOp .Or (a :: b :: rest) pos) (dT Γ ξ (eOr fa fb) E) := (pw_or ha hb).imp fun σ H Q h => tOr_of h
theorem dw_and1 (ha : PT X a (dT Γ ξ fa E)) : PW X (.BoolOp .And [a] pos) (dT Γ ξ fa E) := pw_and1 ha
theorem dw_or1 (ha : PT X a (dT Γ ξ fa E)) : PW X (.BoolOp .Or [a] pos) (dT Γ ξ fa E) := pw_or1 ha
/-- truths as values -/
theorem Cont.bl {r : Res} {k : D → Store → Res} {W : Wd} {Q Q1 : VK} {E : XK} (h : Cont Γ (r.bind k) W Q E) (hk : ∀ d S, (∀ b, d ≠ .bl b) → k d S = .bad)
    (q : ∀ b S1 W1 H1, Le W W1 → Ok Γ W1 S1 H1 → Cont Γ (k (.bl b) S1) W1 Q E → Q1 (.bl b) H1) : Cont Γ r W Q1 E := h.bind fun d S1 W1 v H1 le ok1 rv h1 => by
  cases d with
  | bl b => simp only [Rep] at rv; subst rv; exact q b S1 W1 H1 le ok1 h1
  | _ => rw [hk _ _ (fun b => by simp)] at h1; exact h1.elim
theorem de_and (ha : PE X a (dE Γ ξ fa E)) (hb : PE X (.BoolOp .And (b :: rest) pos) (dE Γ ξ fb E)) : PE X (.BoolOp .And (a :: b :: rest) pos) (dE Γ ξ (eAnd fa fb) E) := (pe_and ha hb).imp fun σ H Q ⟨W, es, S, P0, ok, fr, h⟩ =>
  ⟨W, es, S, P0, ok, fr, Cont.bl h (fun d S hd => by cases d <;> first | rfl | exact absurd rfl (hd _)) fun b S1 W1 H1 le ok1 h1 => ⟨b, rfl, by
    cases b with
    | true => rw [if_pos rfl]; exact ⟨W1, es, S1, P0, ok1, fr.le le, h1⟩
    | false => rw [if_neg Bool.false_ne_true]; exact h1 W1 _ H1 (Le.refl W1) ok1 (by simp only [Rep])⟩⟩
theorem de_or (ha : PE X a (dE Γ ξ fa E)) (hb : PE X (.BoolOp .Or (b :: rest) pos) (dE Γ ξ fb E)) : PE X (.BoolOp .Or (a :: b :: rest) pos) (dE Γ ξ (eOr fa fb) E) := (pe_or ha hb).imp fun σ H Q ⟨W, es, S, P0, ok, fr, h⟩ =>
  ⟨W, es, S, P0, ok, fr, Cont.bl h (fun d S hd => by cases d <;> first | rfl | exact absurd rfl (hd _)) fun b S1 W1 H1 le ok1 h1 => ⟨b, rfl, by
    cases b with
    | false => rw [if_neg Bool.false_ne_true]; exact ⟨W1, es, S1, P0, ok1, fr.le le, h1⟩
    | true => rw [if_pos rfl]; exact h1 W1 _ H1 (Le.refl W1) ok1 (by simp only [Rep])⟩⟩
theorem de_not (ha : PE X a (dE Γ ξ fa E)) : PE X (.UnaryOp .Not a pos) (dE Γ ξ (eNot fa) E) := (pe_not ha).imp fun σ H Q ⟨W, es, S, P0, ok, fr, h⟩ =>
  ⟨W, es, S, P0, ok, fr, Cont.bl h (fun d S hd => by cases d <;> first | rfl | exact absurd rfl (hd _)) fun b S1 W1 H1 le ok1 h1 => ⟨b, rfl, h1 W1 _ H1 (Le.refl W1) ok1 (by simp only [Rep])⟩⟩
theorem de_one {op : BoolOp} (ha : PE X a (dE Γ ξ fa E)) : PE X (.BoolOp op [a] pos) (dE Γ ξ fa E) := pe_one ha
def eIf (c a b : EF) : EF := fun es S => (c es S).bind fun d S1 => match d with
  | .bl true => a es S1
  | .bl false => b es S1
  | _ => .bad
theorem de_if (hc : PT X c (dT Γ ξ fc E)) (ha : PE X a (dE Γ ξ fa E)) (hb : PE X b (dE Γ ξ fb E)) : PE X (.IfExp c a b pos) (dE Γ ξ (eIf fc fa fb) E) := (pe_ifExp hc ha hb).imp fun σ H Q ⟨W, es, S, P0, ok, fr, h⟩ => by
  refine ⟨W, es, S, P0, ok, fr, ?_⟩
  unfold eIf at h
  cases e : fc es S with
  | bad => rw [e] at h; exact h.elim
  | exc k fs S' => rw [e] at h; exact h
  | ok d S' =>
    rw [e] at h
    cases d with
    | bl b =>
      intro W1 H1 l o
      cases b with
      | true => rw [if_pos rfl]; exact ⟨W1, es, S', P0, o, fr.le l, Cont.le h l⟩
      | false => rw [if_neg Bool.false_ne_true]; exact ⟨W1, es, S', P0, o, fr.le l, Cont.le h l⟩
    | _ => exact h.elim
end

/-! ### arguments and calls -/
def ResA.bindL (r : ResA) (k : List D → Store → ResA) : ResA := match r with
  | .ok d S => k d S
  | .exc c fs S => .exc c fs S
  | .bad => .bad
def aNil : AF := fun _ S => .ok [] S
def aCons (f : EF) (g : AF) : AF := fun es S => (f es S).bindA fun d S1 => (g es S1).bindL fun ds S2 => .ok (d :: ds) S2
theorem da_nil : PA X [] (dA Γ ξ aNil E) := pa_nil.imp fun σ H Q ⟨W, es, S, P0, ok, fr, h⟩ => h W _ H (Le.refl W) ok Reps.nil
theorem da_cons {e : Expr} {es : List Expr} {f : EF} {g : AF} (he : PE X e (dE Γ ξ f E)) (hr : PA X es (dA Γ ξ g E)) (hs : starEach (e :: es) X.env = (false, eval e X.env) :: starEach es X.env := by rfl) : PA X (e :: es) (dA Γ ξ (aCons f g) E) :=
  (pa_cons he hr hs).imp fun σ H Q ⟨W, es, S, P0, ok, fr, h⟩ => ⟨W, es, S, P0, ok, fr, Cont.bindA h fun d S1 W1 v H1 le ok1 rv h1 => ⟨W1, es, S1, P0, ok1, fr.le le, by
    cases e : g es S1 with
    | bad => rw [e] at h1; exact h1.elim
    | exc k fs S' => rw [e] at h1; exact h1
    | ok ds S' =>
      rw [e] at h1
      intro W2 vs H2 l2 ok2 rs
      exact h1 W2 _ H2 l2 ok2 (Reps.cons (rv.mono l2.s) rs)⟩⟩
/-- a def's promise by its plain function -/
def spD (Γ : Pg) (n : Nat) (f : List D → Store → Res) : Sp := fun vs H Q E => ∃ W S ds, Ok Γ W S H ∧ Reps Γ W ds vs ∧ ds.length = n ∧ Cont Γ (f ds S) W Q E
theorem spD_len {n : Nat} {f : List D → Store → Res} {ps : List Str} (hn : ps.length = n) : ∀ vs H Q E, spD Γ n f vs H Q E → vs.length = ps.length := fun vs H Q E ⟨W, S, ds, ok, r, hl, _⟩ => by rw [r.length, hl, hn]
def chk (n : Nat) (f : List D → Store → Res) : List D → Store → Res := fun ds S => if ds.length = n then f ds S else .bad
def eCall (n : Nat) (den : List D → Store → Res) (a : AF) : EF := fun es S => (a es S).bind (chk n den)
theorem spD_of {n : Nat} {f : List D → Store → Res} {W : Wd} {S : Store} {ds : List D} {vs : List V} {H : Hp} {Q : VK} {E : XK} (ok : Ok Γ W S H) (r : Reps Γ W ds vs) (h : Cont Γ (chk n f ds S) W Q E) : spD Γ n f vs H Q E := by
  unfold chk at h
  split at h
  · rename_i hl
    exact ⟨W, S, ds, ok, r, hl, h⟩
  · exact h.elim
/-- what a caller wants of a def -/
structure Cal (Γ : Pg) (P : Program) (w : World) (mg : Str → Option Value) (base : Heap) (k : Nat) (x : Str) (n : Nat) (den : List D → Store → Res) : Prop where
  ex : ∃ (fa : Addr) (fd : FuncData) (ps : List Str), FnOk P w Γ.K mg base (L2.CX P w) k fa fd ps (spD Γ n den) ∧ mg x = some (.ref fa) ∧ PySem.W.keepIn Γ.K (.ref fa) = true ∧ Binds Γ.K fd ps []
theorem Cal.mono {P : Program} {w : World} {mg : Str → Option Value} {base : Heap} {j k : Nat} {x : Str} {n : Nat} {den : List D → Store → Res} (c : Cal Γ P w mg base j x n den) (h : j ≤ k) : Cal Γ P w mg base k x n den := by
  obtain ⟨fa, fd, ps, F, h1, h2, h3⟩ := c.ex
  exact ⟨fa, fd, ps, F.mono h, h1, h2, h3⟩
/-- the context of a body stands for the program -/
structure Here (Γ : Pg) (P : Program) (w : World) (mg : Str → Option Value) (base : Heap) (k : Nat) (X : Cx) (E : WX) : Prop where
  p : X.prog = P
  w : X.w = w
  K : X.K = Γ.K
  mg : X.mg = mg
  base : X.base = base
  room : Room k X.A
  tk : Takes X E
theorem pass_of (tk : Takes X E) (σ : L2.St) : PassesAt (L2.CX X.prog X.w) X σ (at_ E σ) := L2.passAt tk σ
section
variable {P : Program} {w : World} {mg : Str → Option Value} {base : Heap} {k j n : Nat} {x : Str} {den : List D → Store → Res} {p pos : Pos} {e : Expr} {es : List Expr} {fs : AF}
theorem de_call (hh : Here Γ P w mg base k X E) (c : Cal Γ P w mg base j x n den) (ha : PA X (e :: es) (dA Γ ξ fs E)) (hj : j ≤ k := by decide) (hg : Gl X x := by rfl) (hdb : (x == ("__debug__" : Str)) = false := by decide) (he : starEach (e :: es) X.env = (false, eval e X.env) :: starEach es X.env := by rfl)
    (hpl : (backTo pos (starEach es X.env)).any (·.1) = false := by rfl) : PE X (.Call (.Name x p) (e :: es) [] pos) (dE Γ ξ (eCall n den fs) E) := by
  obtain ⟨h1, h2, h3, h4, h5, h6, h7⟩ := hh
  subst h1 h2 h4 h5
  obtain ⟨fa, fd, ps, F, hm, hk, hb⟩ := c.ex
  refine (pe_callSD (E := fun σ => at_ E σ) (dvs := []) (ds := []) (by rw [h3]; exact F) (h6.mono hj) hg hm (by rw [h3]; exact hk) (by rw [h3]; exact hb) .nil (fun σ => pass_of h7 σ) ha hdb he hpl).imp fun σ H Q ⟨W, es, S, P0, ok, fr, h⟩ => ?_
  refine ⟨W, es, S, P0, ok, fr, ContA.bind h fun ds S1 W1 vs H1 le ok1 rs h1 => ?_⟩
  rw [List.append_nil]
  exact spD_of ok1 rs h1
end

/-! ### a def's body -/
inductive Fl where
  | next (es : List SD) (S : Store)
  | ret (d : D) (S : Store)
  | brk (es : List SD) (S : Store)
  | ct (es : List SD) (S : Store)
  | exc (k : Nat) (fs : List (Str × D)) (es : List SD) (S : Store)
  | bad
abbrev SF := List SD → Store → Fl
def Fl.bind (r : Fl) (k : SF) : Fl := match r with
  | .next es S => k es S
  | r => r
def ContS (Γ : Pg) (ξ : Xx) (r : Fl) (W : Wd) (P0 : Hp) (Dn : Ends) (E : WX) : Prop := match r with
  | .next es S => ∀ W' σ' H', LeS W W' → Ok Γ W' S H' → Frame Γ ξ W' es σ' P0 → Dn.nx σ' H'
  | .brk es S => ∀ W' σ' H', LeS W W' → Ok Γ W' S H' → Frame Γ ξ W' es σ' P0 → Dn.bk σ' H'
  | .ct es S => ∀ W' σ' H', LeS W W' → Ok Γ W' S H' → Frame Γ ξ W' es σ' P0 → Dn.ct σ' H'
  | .ret d S => ∀ W' v H', LeS W W' → W'.P = P0 → Ok Γ W' S H' → Rep Γ W' d v → Dn.rt v H'
  | .exc k fs es S => ∀ W' σ' d H', LeS W W' → Ok Γ W' S H' → Frame Γ ξ W' es σ' P0 → RepX (Γ := Γ) W' fs d → E (.ref (Γ.cl k)) d σ' H'
  | .bad => False
theorem ContS.le {r : Fl} {W W' : Wd} {P0 : Hp} {Dn : Ends} {E : WX} (h : ContS Γ ξ r W P0 Dn E) (e : LeS W W') : ContS Γ ξ r W' P0 Dn E := by
  cases r with
  | next es S => exact fun W2 a b l => h W2 a b (e.trans l)
  | brk es S => exact fun W2 a b l => h W2 a b (e.trans l)
  | ct es S => exact fun W2 a b l => h W2 a b (e.trans l)
  | ret d S => exact fun W2 a b l => h W2 a b (e.trans l)
  | exc k fs es S => exact fun W2 a b c l => h W2 a b c (e.trans l)
  | bad => exact h
def dS (Γ : Pg) (ξ : Xx) (f : SF) (E : WX) : TS := fun Dn σ H => ∃ W es S P0, Ok Γ W S H ∧ Frame Γ ξ W es σ P0 ∧ ContS Γ ξ (f es S) W P0 Dn E
/-- a def's function, of its body's; N: how many names -/
def startD (N : Nat) (ds : List D) : List SD := ds.map .val ++ List.replicate (N - ds.length) .no
def fnD (N : Nat) (body : SF) : List D → Store → Res := fun ds S => match body (startD N ds) S with
  | .next _ S' => .ok .non S'
  | .ret d S' => .ok d S'
  | .exc k fs _ S' => .exc k fs S'
  | _ => .bad
theorem slots_start {W : Wd} : ∀ {ds : List D} {vs : List V} (m : Nat), Reps Γ W ds vs → SlotsR Γ ξ W (ds.map .val ++ List.replicate m .no) (vs.map some ++ List.replicate m none) []
  | [], vs, m, h => by
    simp only [Reps] at h
    subst h
    simp only [List.map_nil, List.nil_append]
    induction m with
    | zero => exact ⟨rfl, rfl⟩
    | succ m ih => exact ⟨none, _, rfl, ih⟩
  | d :: ds, vs, m, h => by
    simp only [Reps] at h
    obtain ⟨v, vs', rfl, h1, h2⟩ := h
    exact ⟨v, _, rfl, h1, slots_start m h2⟩
/-- the frame's own lists are let go -/
theorem Ok.leave {W : Wd} {S : Store} {H : Hp} {own : List (Addr × HO)} {P0 : Hp} (ok : Ok Γ W S H) (o : OwnP W own P0) : Ok Γ { W with P := P0 } S H where
  f := ok.f
  p := fun a u e => by
    refine ok.p a u ?_
    rw [o.rest a ?_]
    · exact e
    · intro ha
      obtain ⟨p, hp, rfl⟩ := List.mem_map.mp ha
      exact absurd ((o.at_ p hp).1.symm.trans e) (by simp)
  m := fun i a h => by
    refine ⟨(ok.m i a h).1, ?_⟩
    show P0 a = none
    by_cases ha : a ∈ own.map (·.1)
    · obtain ⟨p, hp, rfl⟩ := List.mem_map.mp ha
      exact (o.at_ p hp).1
    · rw [← o.rest a ha]
      exact (ok.m i a h).2
  nd := ok.nd
  len := ok.len
  c := fun i a ds h1 h2 => by
    obtain ⟨vs, h3, h4⟩ := ok.c i a ds h1 h2
    exact ⟨vs, h3, Reps.mono (W := W) (W' := { W with P := P0 }) ⟨fun _ _ h => h, fun _ _ h => h⟩ h4⟩
theorem enter {N : Nat} {body : SF} {vs : List V} {H : Hp} {Q : VK} {E : XK} {names : List Str} {n : Nat} (hN : names.length = N) (h : spD Γ n (fnD N body) vs H Q E) :
    dS Γ ξ body (fun c d _ H => E c d H) { nx := fun _ H' => Q .non H', rt := Q } (L2.start names vs) H := by
  obtain ⟨W, S, ds, ok, r, hl, h⟩ := h
  refine ⟨W, startD N ds, S, W.P, ok, ⟨[], ?_, ⟨List.nodup_nil, fun p hp => absurd hp (by simp), fun a _ => rfl⟩⟩, ?_⟩
  · unfold startD L2.start
    rw [r.length, hN]
    exact slots_start _ r
  · unfold fnD at h
    have back : ∀ {W' : Wd} {H' : Hp} {S' : Store} {es' : List SD} {σ' : L2.St}, LeS W W' → Ok Γ W' S' H' → Frame Γ ξ W' es' σ' W.P → Le W { W' with P := W.P } ∧ Ok Γ { W' with P := W.P } S' H' := fun l o ⟨own, _, p⟩ =>
      ⟨⟨l.f, rfl, l.m⟩, o.leave p⟩
    cases e : body (startD N ds) S with
    | next es S' =>
      rw [e] at h
      intro W' σ' H' l o fr
      obtain ⟨l2, o2⟩ := back l o fr
      exact h _ _ H' l2 o2 (by simp only [Rep])
    | ret d S' =>
      rw [e] at h
      intro W' v H' l hp o r
      exact h W' v H' ⟨l.f, hp, l.m⟩ o r
    | exc k fs es S' =>
      rw [e] at h
      intro W' σ' d H' l o fr rx
      obtain ⟨l2, o2⟩ := back l o fr
      exact h _ d H' l2 o2 (repX_le rx ⟨fun _ _ h => h, fun _ _ h => h⟩)
    | brk es S' => rw [e] at h; exact h.elim
    | ct es S' => rw [e] at h; exact h.elim
    | bad => rw [e] at h; exact h.elim

/-! ### statements -/
theorem dss_nil : PSs X [] (dS Γ ξ (fun es S => .next es S) E) := pss_nil.imp fun Dn σ H ⟨W, es, S, P0, ok, fr, h⟩ => h W σ H (LeS.refl W) ok fr
def sSeq (f g : SF) : SF := fun es S => (f es S).bind g
theorem tSeq_of {f g : SF} {Dn : Ends} {σ : L2.St} {H : Hp} (h : dS Γ ξ (sSeq f g) E Dn σ H) : tSeq (dS Γ ξ f E) (dS Γ ξ g E) Dn σ H := by
  obtain ⟨W, es, S, P0, ok, fr, h⟩ := h
  refine ⟨W, es, S, P0, ok, fr, ?_⟩
  unfold sSeq at h
  cases e : f es S with
  | next es' S' =>
    rw [e] at h
    exact fun W' σ' H' l o fr' => ⟨W', es', S', P0, o, fr', ContS.le h l⟩
  | brk es' S' => rw [e] at h; exact h
  | ct es' S' => rw [e] at h; exact h
  | ret d S' => rw [e] at h; exact h
  | exc k fs es' S' => rw [e] at h; exact h
  | bad => rw [e] at h; exact h.elim
theorem dss_cons {st : Stmt} {rest : List Stmt} {f g : SF} (h1 : PS X st (dS Γ ξ f E)) (h2 : PSs X rest (dS Γ ξ g E)) : PSs X (st :: rest) (dS Γ ξ (sSeq f g) E) := (pss_cons h1 h2).imp fun Dn σ H h => tSeq_of h
theorem dss_one {st : Stmt} {f : SF} (h1 : PS X st (dS Γ ξ f E)) : PSs X [st] (dS Γ ξ f E) := pss_one h1
def sPass : SF := fun es S => .next es S
theorem ds_pass {pos : Pos} : PS X (.Pass pos) (dS Γ ξ sPass E) := ps_pass.imp fun Dn σ H ⟨W, es, S, P0, ok, fr, h⟩ => h W σ H (LeS.refl W) ok fr
def sBrk : SF := fun es S => .brk es S
theorem ds_break {pos : Pos} : PS X (.Break pos) (dS Γ ξ sBrk E) := ps_break.imp fun Dn σ H ⟨W, es, S, P0, ok, fr, h⟩ => h W σ H (LeS.refl W) ok fr
/-- an expression's result goes on as a statement's -/
def Res.toS (r : Res) (es : List SD) (k : D → Store → Fl) : Fl := match r with
  | .ok d S => k d S
  | .exc c fs S => .exc c fs es S
  | .bad => .bad
theorem ContS.toS {r : Res} {es : List SD} {σ : L2.St} {k : D → Store → Fl} {W : Wd} {P0 : Hp} {Dn : Ends} {Q : VK} (fr : Frame Γ ξ W es σ P0) (h : ContS Γ ξ (r.toS es k) W P0 Dn E)
    (q : ∀ d S1 W1 v H1, Le W W1 → Ok Γ W1 S1 H1 → Rep Γ W1 d v → ContS Γ ξ (k d S1) W1 P0 Dn E → Q v H1) : Cont Γ r W Q (at_ E σ) := by
  cases r with
  | ok d S => exact fun W1 v H1 l o r => q d S W1 v H1 l o r (ContS.le h l.s)
  | exc c fs S => exact fun W1 d H1 l o rx => h W1 σ d H1 l.s o (fr.le l) rx
  | bad => exact h.elim
def sExpr (f : EF) : SF := fun es S => (f es S).toS es fun _ S' => .next es S'
theorem ds_expr {e : Expr} {f : EF} {pos : Pos} (he : PE X e (dE Γ ξ f E)) (hs : swapsWith e none pos.line X.env = pure false := by rfl) : PS X (.Expr e pos) (dS Γ ξ (sExpr f) E) := (ps_expr he hs).imp fun Dn σ H ⟨W, es, S, P0, ok, fr, h⟩ =>
  ⟨W, es, S, P0, ok, fr, ContS.toS fr h fun d S1 W1 v H1 le ok1 rv h1 => h1 W1 σ H1 (LeS.refl W1) ok1 (fr.le le)⟩
def sIf (c : EF) (a b : SF) : SF := fun es S => (c es S).toS es fun d S1 => match d with
  | .bl true => a es S1
  | .bl false => b es S1
  | _ => .bad
theorem ds_if {c : Expr} {a b : List Stmt} {fc : EF} {fa fb : SF} {pos : Pos} (hc : PT X c (dT Γ ξ fc E)) (ha : PSs X a (dS Γ ξ fa E)) (hb : PSs X b (dS Γ ξ fb E)) : PS X (.If c a b pos) (dS Γ ξ (sIf fc fa fb) E) := (ps_if hc ha hb).imp fun Dn σ H ⟨W, es, S, P0, ok, fr, h⟩ => by
  refine ⟨W, es, S, P0, ok, fr, ?_⟩
  unfold sIf at h
  cases e : fc es S with
  | bad => rw [e] at h; exact h.elim
  | exc k fs S' => rw [e] at h; exact fun W1 d H1 l o rx => h W1 σ d H1 l.s o (fr.le l) rx
  | ok d S' =>
    rw [e] at h
    cases d with
    | bl b =>
      intro W1 H1 l o
      cases b with
      | true => rw [if_pos rfl]; exact ⟨W1, es, S', P0, o, fr.le l, ContS.le h l.s⟩
      | false => rw [if_neg Bool.false_ne_true]; exact ⟨W1, es, S', P0, o, fr.le l, ContS.le h l.s⟩
    | _ => exact h.elim
end
end DL
set_option Elab.async false
set_option linter.all false
set_option maxRecDepth 100000
set_option maxHeartbeats 2000000
set_option autoImplicit false
/-! The data layer, 3: displays, stores to names, loops. -/
namespace DL
open PySem L2

section
variable {Γ : Pg} {ξ : Xx} {X : Cx} {E : WX}
/-! ### a new object -/
theorem Ok.fresh {W : Wd} {S : Store} {H : Hp} (ok : Ok Γ W S H) {p : Addr} (hp : H p = none) : W.F p = none ∧ W.P p = none ∧ ∀ (i : Nat) (a : Addr), W.m[i]? = some a → a ≠ p := by
  refine ⟨?_, ?_, fun i a h z => ?_⟩
  · cases e : W.F p with
    | none => rfl
    | some o => rw [ok.f p o e] at hp; cases hp
  · cases e : W.P p with
    | none => rfl
    | some o => rw [(ok.p p o e).1] at hp; cases hp
  · obtain ⟨ds, vs, _, h4, _⟩ := ok.cell h
    rw [z, hp] at h4
    cases h4
abbrev Wd.lay (W : Wd) (p : Addr) (o : HO) : Wd := { W with F := upd W.F p o }
theorem Le.lay {W : Wd} {p : Addr} {o : HO} (hp : W.F p = none) : Le W (W.lay p o) := ⟨fun a u e => by
  show upd W.F p o a = some u
  rw [upd_ne (ne_of_none e hp)]
  exact e, rfl, fun _ _ h => h⟩
theorem Ok.lay {W : Wd} {S : Store} {H : Hp} (ok : Ok Γ W S H) {p : Addr} (hp : H p = none) (o : HO) : Ok Γ (W.lay p o) S (upd H p o) := by
  obtain ⟨hF, hP, hm⟩ := ok.fresh hp
  refine ⟨fun a u e => ?_, fun a u e => ?_, fun i a h => ?_, ok.nd, ok.len, fun i a ds h1 h2 => ?_⟩
  · by_cases z : a = p
    · subst z
      have e : upd W.F a o a = some u := e
      rw [upd_same] at e ⊢
      exact e
    · have e : upd W.F p o a = some u := e
      rw [upd_ne z] at e ⊢
      exact ok.f a u e
  · have n : a ≠ p := ne_of_none (show W.P a = some u from e) hP
    refine ⟨by rw [upd_ne n]; exact (ok.p a u e).1, ?_⟩
    show upd W.F p o a = none
    rw [upd_ne n]
    exact (ok.p a u e).2
  · have n := hm i a h
    refine ⟨?_, (ok.m i a h).2⟩
    show upd W.F p o a = none
    rw [upd_ne n]
    exact (ok.m i a h).1
  · obtain ⟨vs, h3, h4⟩ := ok.c i a ds h1 h2
    exact ⟨vs, by rw [upd_ne (hm i a h1)]; exact h3, h4.mono (Le.lay hF).s⟩
theorem rep_tup {W : Wd} {p : Addr} {vs : List V} {ds : List D} (h : Reps Γ (W.lay p (.tup vs)) ds vs) : Rep Γ (W.lay p (.tup vs)) (.tup ds) (.ref p) := by
  simp only [Rep]
  exact ⟨p, vs, rfl, .inl (.inl upd_same), h⟩
theorem rep_lst {W : Wd} {p : Addr} {vs : List V} {ds : List D} (h : Reps Γ (W.lay p (.lst vs)) ds vs) : Rep Γ (W.lay p (.lst vs)) (.lst ds) (.ref p) := by
  simp only [Rep]
  exact ⟨p, vs, rfl, .inl (.inl upd_same), h⟩

/-! ### displays -/
def eTup (a : AF) : EF := fun es S => (a es S).bind fun ds S1 => if ds.length ≤ 16777216 then .ok (.tup ds) S1 else .bad
def eLst (a : AF) : EF := fun es S => (a es S).bind fun ds S1 => if ds.length ≤ 16777216 then .ok (.lst ds) S1 else .bad
theorem de_tup {es : List Expr} {a : AF} {x1} {pos : Pos} (h : PA X es (dA Γ ξ a E)) : PE X (.Tuple es x1 pos) (dE Γ ξ (eTup a) E) := (pe_tup h).imp fun σ H Q ⟨W, es, S, P0, ok, fr, h⟩ =>
  ⟨W, es, S, P0, ok, fr, ContA.bind h fun ds S1 W1 vs H1 le ok1 rs h1 => by
    split at h1
    · rename_i hz
      refine ⟨by rw [rs.length, sizeLine_eq]; exact hz, fun p hp => ?_⟩
      have l := Le.lay (o := .tup vs) (ok1.fresh hp).1
      exact h1 _ _ _ l (ok1.lay hp _) (rep_tup (rs.mono l.s))
    · exact h1.elim⟩
theorem de_lst {es : List Expr} {a : AF} {pos : Pos} (h : PA X es (dA Γ ξ a E)) : PE X (.List es pos) (dE Γ ξ (eLst a) E) := (pe_lst h).imp fun σ H Q ⟨W, es, S, P0, ok, fr, h⟩ =>
  ⟨W, es, S, P0, ok, fr, ContA.bind h fun ds S1 W1 vs H1 le ok1 rs h1 => by
    split at h1
    · rename_i hz
      refine ⟨by rw [rs.length, sizeLine_eq]; exact hz, fun p hp => ?_⟩
      have l := Le.lay (o := .lst vs) (ok1.fresh hp).1
      exact h1 _ _ _ l (ok1.lay hp _) (rep_lst (rs.mono l.s))
    · exact h1.elim⟩
/-- a list that may be changed later -/
def eCell (a : AF) : EF := fun es S => (a es S).bind fun ds S1 => if ds.length ≤ 16777216 then .ok (.cell S1.length) (S1 ++ [ds]) else .bad
abbrev Wd.cell (W : Wd) (p : Addr) : Wd := { W with m := W.m ++ [p] }
theorem Le.cell {W : Wd} {p : Addr} : Le W (W.cell p) := ⟨fun _ _ e => e, rfl, fun i a h => by
  show (W.m ++ [p])[i]? = some a
  rw [List.getElem?_append_left (List.getElem?_eq_some_iff.mp h).1]
  exact h⟩
theorem Ok.cellNew {W : Wd} {S : Store} {H : Hp} (ok : Ok Γ W S H) {p : Addr} (hp : H p = none) {vs : List V} {ds : List D} (r : Reps Γ W ds vs) : Ok Γ (W.cell p) (S ++ [ds]) (upd H p (.lst vs)) := by
  obtain ⟨hF, hP, hm⟩ := ok.fresh hp
  have at1 : ∀ (i : Nat) (a : Addr), (W.m ++ [p])[i]? = some a → (W.m[i]? = some a) ∨ (i = W.m.length ∧ a = p) := fun i a h => by
    by_cases hi : i < W.m.length
    · rw [List.getElem?_append_left hi] at h
      exact .inl h
    · rw [List.getElem?_append_right (Nat.le_of_not_lt hi)] at h
      have e : i - W.m.length = 0 := by
        have := (List.getElem?_eq_some_iff.mp h).1
        simp at this
        omega
      rw [e] at h
      simp at h
      exact .inr ⟨by omega, h.symm⟩
  refine ⟨fun a u e => ?_, fun a u e => ?_, fun i a h => ?_, ?_, ?_, fun i a es h1 h2 => ?_⟩
  · rw [upd_ne (ne_of_none (show W.F a = some u from e) hF)]
    exact ok.f a u e
  · rw [upd_ne (ne_of_none (show W.P a = some u from e) hP)]
    exact ok.p a u e
  · rcases at1 i a h with h | ⟨_, rfl⟩
    · exact ok.m i a h
    · exact ⟨hF, hP⟩
  · show (W.m ++ [p]).Nodup
    refine List.nodup_append.mpr ⟨ok.nd, by simp, fun a ha b hb => ?_⟩
    have hb : b = p := by simpa using hb
    subst hb
    obtain ⟨i, hi⟩ := List.getElem?_of_mem ha
    exact hm i a hi
  · show (W.m ++ [p]).length = _
    simp [ok.len]
  · rcases at1 i a h1 with h | ⟨hi, rfl⟩
    · have hl : i < S.length := by rw [← ok.len]; exact (List.getElem?_eq_some_iff.mp h).1
      rw [List.getElem?_append_left hl] at h2
      obtain ⟨us, h3, h4⟩ := ok.c i a es h h2
      exact ⟨us, by rw [upd_ne (hm i a h)]; exact h3, h4.mono Le.cell.s⟩
    · rw [List.getElem?_append_right (by rw [← ok.len, hi]; exact Nat.le_refl _)] at h2
      have e0 : i - S.length = 0 := by rw [← ok.len, hi]; exact Nat.sub_self _
      rw [e0] at h2
      simp at h2
      subst h2
      exact ⟨vs, upd_same, r.mono Le.cell.s⟩
theorem de_cell {es : List Expr} {a : AF} {pos : Pos} (h : PA X es (dA Γ ξ a E)) : PE X (.List es pos) (dE Γ ξ (eCell a) E) := (pe_lst h).imp fun σ H Q ⟨W, es, S, P0, ok, fr, h⟩ =>
  ⟨W, es, S, P0, ok, fr, ContA.bind h fun ds S1 W1 vs H1 le ok1 rs h1 => by
    split at h1
    · rename_i hz
      refine ⟨by rw [rs.length, sizeLine_eq]; exact hz, fun p hp => ?_⟩
      refine h1 _ _ _ Le.cell (ok1.cellNew hp rs) ?_
      simp only [Rep]
      refine ⟨p, rfl, ?_⟩
      show (W1.m ++ [p])[S1.length]? = some p
      rw [← ok1.len, List.getElem?_append_right (Nat.le_refl _)]
      simp
    · exact h1.elim⟩

/-! ### slots are set -/
theorem SlotsR.set {W : Wd} {d : D} {v : V} (r : Rep Γ W d v) : ∀ {es : List SD} {σ : L2.St} {own : List (Addr × HO)} (i : Nat), SlotsR Γ ξ W es σ own → ∃ own', SlotsR Γ ξ W (es.set i (.val d)) (σ.set i (some v)) own' ∧ own'.Sublist own
  | [], σ, own, i, h => ⟨own, by obtain ⟨rfl, rfl⟩ := h; exact ⟨rfl, rfl⟩, List.Sublist.refl _⟩
  | .no :: es, σ, own, i, h => by
    obtain ⟨o, σ', rfl, h2⟩ := h
    cases i with
    | zero => exact ⟨own, ⟨v, σ', rfl, r, h2⟩, List.Sublist.refl _⟩
    | succ i =>
      obtain ⟨own', h3, h4⟩ := SlotsR.set r i h2
      exact ⟨own', ⟨o, _, rfl, h3⟩, h4⟩
  | .val d0 :: es, σ, own, i, h => by
    obtain ⟨v0, σ', rfl, h2, h3⟩ := h
    cases i with
    | zero => exact ⟨own, ⟨v, σ', rfl, r, h3⟩, List.Sublist.refl _⟩
    | succ i =>
      obtain ⟨own', h4, h5⟩ := SlotsR.set r i h3
      exact ⟨own', ⟨v0, _, rfl, h2, h4⟩, h5⟩
  | .acc ds :: es, σ, own, i, h => by
    obtain ⟨a, vs, σ', own0, rfl, rfl, h3, h4⟩ := h
    cases i with
    | zero => exact ⟨own0, ⟨v, σ', rfl, r, h4⟩, List.sublist_cons_self _ _⟩
    | succ i =>
      obtain ⟨own', h5, h6⟩ := SlotsR.set r i h4
      exact ⟨(a, .lst vs) :: own', ⟨a, vs, _, own', rfl, rfl, h3, h5⟩, h6.cons_cons _⟩
  | .exn k fs :: es, σ, own, i, h => by
    obtain ⟨σ', rfl, h2, h3, h4⟩ := h
    cases i with
    | zero => exact ⟨own, ⟨v, σ', rfl, r, h4⟩, List.Sublist.refl _⟩
    | succ i =>
      obtain ⟨own', h5, h6⟩ := SlotsR.set r i h4
      exact ⟨own', ⟨_, rfl, h2, h3, h5⟩, h6⟩
  | .slf :: es, σ, own, i, h => by
    obtain ⟨σ', rfl, h4⟩ := h
    cases i with
    | zero => exact ⟨own, ⟨v, σ', rfl, r, h4⟩, List.Sublist.refl _⟩
    | succ i =>
      obtain ⟨own', h5, h6⟩ := SlotsR.set r i h4
      exact ⟨own', ⟨_, rfl, h5⟩, h6⟩
/-- some of the frame's own lists are let go -/
noncomputable def Wd.shrink (W : Wd) (own : List (Addr × HO)) (P0 : Hp) : Wd := { W with P := fun a => open Classical in if a ∈ own.map (·.1) then W.P a else P0 a }
theorem Wd.shrink_le {W : Wd} {own : List (Addr × HO)} {P0 : Hp} : LeS W (W.shrink own P0) := ⟨fun _ _ h => h, fun _ _ h => h⟩
theorem Ok.shrink {W : Wd} {S : Store} {H : Hp} {own own' : List (Addr × HO)} {P0 : Hp} (ok : Ok Γ W S H) (o : OwnP W own P0) (sb : own'.Sublist own) : Ok Γ (W.shrink own' P0) S H ∧ OwnP (W.shrink own' P0) own' P0 := by
  have out : ∀ a, a ∈ own.map (·.1) → P0 a = none := fun a ha => by
    obtain ⟨p, hp, rfl⟩ := List.mem_map.mp ha
    exact (o.at_ p hp).1
  have get : ∀ a u, (W.shrink own' P0).P a = some u → W.P a = some u := fun a u e => by
    unfold Wd.shrink at e
    simp only at e
    split at e
    · exact e
    · rw [o.rest a ?_]
      · exact e
      · intro ha
        rw [out a ha] at e
        cases e
  refine ⟨⟨ok.f, fun a u e => ok.p a u (get a u e), fun i a h => ⟨(ok.m i a h).1, ?_⟩, ok.nd, ok.len, fun i a ds h1 h2 => ?_⟩, ⟨o.nd.sublist (sb.map _), fun p hp => ⟨(o.at_ p (sb.subset hp)).1, ?_⟩, fun a ha => ?_⟩⟩
  · cases e : (W.shrink own' P0).P a with
    | none => rfl
    | some u =>
      have := get a u e
      rw [(ok.m i a h).2] at this
      cases this
  · obtain ⟨vs, h3, h4⟩ := ok.c i a ds h1 h2
    exact ⟨vs, h3, h4.mono Wd.shrink_le⟩
  · unfold Wd.shrink
    simp only
    rw [if_pos (List.mem_map.mpr ⟨p, hp, rfl⟩)]
    exact (o.at_ p (sb.subset hp)).2
  · unfold Wd.shrink
    simp only
    rw [if_neg ha]
/-- same but for the frame's own -/
structure Eqv (W W' : Wd) : Prop where
  f : W'.F = W.F
  m : W'.m = W.m
theorem Eqv.le {W W' : Wd} (e : Eqv W W') : LeS W W' := ⟨fun a o h => by rw [e.f]; exact h, fun i a h => by rw [e.m]; exact h⟩
theorem Eqv.refl (W : Wd) : Eqv W W := ⟨rfl, rfl⟩
theorem Eqv.trans {W W1 W2 : Wd} (a : Eqv W W1) (b : Eqv W1 W2) : Eqv W W2 := ⟨b.f.trans a.f, b.m.trans a.m⟩
theorem Frame.set {W : Wd} {S : Store} {H : Hp} {es : List SD} {σ : L2.St} {P0 : Hp} {d : D} {v : V} (ok : Ok Γ W S H) (fr : Frame Γ ξ W es σ P0) (r : Rep Γ W d v) (i : Nat) :
    ∃ W', Eqv W W' ∧ Ok Γ W' S H ∧ Frame Γ ξ W' (es.set i (.val d)) (σ.set i (some v)) P0 := by
  obtain ⟨own, h1, h2⟩ := fr
  obtain ⟨own', h3, sb⟩ := h1.set r i
  obtain ⟨o1, o2⟩ := ok.shrink h2 sb
  exact ⟨W.shrink own' P0, ⟨rfl, rfl⟩, o1, own', h3.mono Wd.shrink_le, o2⟩

/-! ### targets -/
def noAcc (es : List SD) (ix : List Nat) : Bool := ix.all fun j => match es[j]? with
  | some (.acc _) => false
  | _ => true
theorem noAcc_at {es : List SD} {ix : List Nat} (h : noAcc es ix = true) {j : Nat} (hj : j ∈ ix) (ds : List D) : es[j]? ≠ some (.acc ds) := fun e => by
  have := List.all_eq_true.mp h j hj
  rw [e] at this
  cases this
theorem noAcc_of {es : List SD} {ix : List Nat} (h : ∀ j ∈ ix, ∀ ds, es[j]? ≠ some (.acc ds)) : noAcc es ix = true := List.all_eq_true.mpr fun j hj => by
  split
  · rename_i ds e
    exact absurd e (h j hj ds)
  · rfl
/-- what a target's store does: ix: the slots that it may set -/
structure Step (ix : List Nat) (W W' : Wd) (es es' : List SD) (σ σ' : L2.St) : Prop where
  eqv : Eqv W W'
  len : σ'.length = σ.length
  out : ∀ j, j ∉ ix → σ'[j]? = σ[j]?
  acc : ∀ (j : Nat) (ds : List D), es'[j]? = some (.acc ds) → es[j]? = some (.acc ds)
  same : noAcc es ix = true → W' = W
theorem Step.refl (W : Wd) (es : List SD) (σ : L2.St) : Step [] W W es es σ σ := ⟨Eqv.refl W, rfl, fun _ _ => rfl, fun _ _ h => h, fun _ => rfl⟩
theorem Step.trans {ix iy : List Nat} {W W1 W2 : Wd} {es es1 es2 : List SD} {σ σ1 σ2 : L2.St} (a : Step ix W W1 es es1 σ σ1) (b : Step iy W1 W2 es1 es2 σ1 σ2) : Step (ix ++ iy) W W2 es es2 σ σ2 where
  eqv := a.eqv.trans b.eqv
  len := b.len.trans a.len
  out := fun j hj => (b.out j fun h => hj (List.mem_append_right _ h)).trans (a.out j fun h => hj (List.mem_append_left _ h))
  acc := fun j ds h => a.acc j ds (b.acc j ds h)
  same := fun h => by
    have h1 : noAcc es ix = true := noAcc_of fun j hj => noAcc_at h (List.mem_append_left _ hj)
    have h2 : noAcc es1 iy = true := noAcc_of fun j hj ds e => noAcc_at h (List.mem_append_right _ hj) ds (a.acc j ds e)
    exact (b.same h2).trans (a.same h1)
theorem SlotsR.setVal {W : Wd} {d : D} {v : V} (r : Rep Γ W d v) : ∀ {es : List SD} {σ : L2.St} {own : List (Addr × HO)} (i : Nat), SlotsR Γ ξ W es σ own → (∀ ds, es[i]? ≠ some (.acc ds)) → SlotsR Γ ξ W (es.set i (.val d)) (σ.set i (some v)) own
  | [], σ, own, i, h, _ => by obtain ⟨rfl, rfl⟩ := h; exact ⟨rfl, rfl⟩
  | .no :: es, σ, own, i, h, hn => by
    obtain ⟨o, σ', rfl, h2⟩ := h
    cases i with
    | zero => exact ⟨v, σ', rfl, r, h2⟩
    | succ i => exact ⟨o, _, rfl, SlotsR.setVal r i h2 (by simpa using hn)⟩
  | .val d0 :: es, σ, own, i, h, hn => by
    obtain ⟨v0, σ', rfl, h2, h3⟩ := h
    cases i with
    | zero => exact ⟨v, σ', rfl, r, h3⟩
    | succ i => exact ⟨v0, _, rfl, h2, SlotsR.setVal r i h3 (by simpa using hn)⟩
  | .acc ds :: es, σ, own, i, h, hn => by
    obtain ⟨a, vs, σ', own0, rfl, rfl, h3, h4⟩ := h
    cases i with
    | zero => exact absurd rfl (hn ds)
    | succ i => exact ⟨a, vs, _, own0, rfl, rfl, h3, SlotsR.setVal r i h4 (by simpa using hn)⟩
  | .exn k fs :: es, σ, own, i, h, hn => by
    obtain ⟨σ', rfl, h2, h3, h4⟩ := h
    cases i with
    | zero => exact ⟨v, σ', rfl, r, h4⟩
    | succ i => exact ⟨_, rfl, h2, h3, SlotsR.setVal r i h4 (by simpa using hn)⟩
  | .slf :: es, σ, own, i, h, hn => by
    obtain ⟨σ', rfl, h4⟩ := h
    cases i with
    | zero => exact ⟨v, σ', rfl, r, h4⟩
    | succ i => exact ⟨_, rfl, SlotsR.setVal r i h4 (by simpa using hn)⟩
theorem get_set_acc {es : List SD} {i j : Nat} {d : D} {ds : List D} (h : (es.set i (.val d))[j]? = some (.acc ds)) : es[j]? = some (.acc ds) := by
  by_cases e : i = j
  · subst e
    rw [List.getElem?_set] at h
    simp at h
  · rwa [List.getElem?_set_ne e] at h
theorem Frame.step {W : Wd} {S : Store} {H : Hp} {es : List SD} {σ : L2.St} {P0 : Hp} {d : D} {v : V} (ok : Ok Γ W S H) (fr : Frame Γ ξ W es σ P0) (r : Rep Γ W d v) (i : Nat) :
    ∃ W', Step [i] W W' es (es.set i (.val d)) σ (σ.set i (some v)) ∧ Ok Γ W' S H ∧ Frame Γ ξ W' (es.set i (.val d)) (σ.set i (some v)) P0 := by
  have out : ∀ j, j ∉ [i] → (σ.set i (some v))[j]? = σ[j]? := fun j hj => List.getElem?_set_ne fun e => hj (by simp [e])
  by_cases hn : noAcc es [i] = true
  · obtain ⟨own, h1, h2⟩ := fr
    exact ⟨W, ⟨Eqv.refl W, by simp, out, fun j ds h => get_set_acc h, fun _ => rfl⟩, ok, own, h1.setVal r i (noAcc_at hn (by simp)), h2⟩
  · obtain ⟨W', e, o, f⟩ := Frame.set ok fr r i
    exact ⟨W', ⟨e, by simp, out, fun j ds h => get_set_acc h, fun h => absurd h hn⟩, o, f⟩
abbrev TF := D → List SD → Store → Option (List SD)
abbrev TFs := List D → List SD → Store → Option (List SD)
def dG (Γ : Pg) (ξ : Xx) (t : TF) (ix : List Nat) : TG := fun v σ H Q => ∃ W es S P0 d es', Ok Γ W S H ∧ Frame Γ ξ W es σ P0 ∧ Rep Γ W d v ∧ t d es S = some es' ∧ ∀ W' σ', Step ix W W' es es' σ σ' → Ok Γ W' S H → Frame Γ ξ W' es' σ' P0 → Q σ' H
def dGs (Γ : Pg) (ξ : Xx) (t : TFs) (ix : List Nat) : TGs := fun vs σ H Q => ∃ W es S P0 ds es', Ok Γ W S H ∧ Frame Γ ξ W es σ P0 ∧ Reps Γ W ds vs ∧ t ds es S = some es' ∧ ∀ W' σ', Step ix W W' es es' σ σ' → Ok Γ W' S H → Frame Γ ξ W' es' σ' P0 → Q σ' H
theorem _root_.L2.PG.imp {X : Cx} {e : Expr} {t t' : TG} (h : PG X e t) (q : ∀ v σ H Q, t' v σ H Q → t v σ H Q) : PG X e t' := ⟨fun pins s σ H v u Q I r z => h.run pins s σ H v u Q I r (q v σ H Q z)⟩
theorem _root_.L2.PGs.imp {X : Cx} {es : List Expr} {t t' : TGs} (h : PGs X es t) (q : ∀ v σ H Q, t' v σ H Q → t v σ H Q) : PGs X es t' := ⟨fun pins s σ H v u Q I r z => h.run pins s σ H v u Q I r (q v σ H Q z)⟩
def tgN (i : Nat) : TF := fun d es _ => some (es.set i (.val d))
theorem dg_name {i : Nat} {x : Str} {pos : Pos} (hN : X.N.Nodup) (hi : X.N[i]? = some x := by rfl) (hx : Loc X.env.scope x := by first | exact Or.inl rfl | exact Or.inr rfl) (hf : X.fn x = true ∨ X.env.scope.names.lookup x = some .local := by first | exact .inl rfl | exact .inr rfl | assumption) : PG X (.Name x pos) (dG Γ ξ (tgN i) [i]) :=
  (pg_name hN hi hx hf).imp fun v σ H Q ⟨W, es, S, P0, d, es', ok, fr, r, ht, q⟩ => by
    obtain rfl : es.set i (.val d) = es' := Option.some.inj ht
    obtain ⟨W', e, ok', fr'⟩ := Frame.step ok fr r i
    exact q W' _ e ok' fr'
def tsNil : TFs := fun ds es _ => match ds with
  | [] => some es
  | _ => none
def tsCons (t : TF) (u : TFs) : TFs := fun ds es S => match ds with
  | d :: ds => (t d es S).bind fun es1 => u ds es1 S
  | [] => none
theorem dgs_nil : PGs X [] (dGs Γ ξ tsNil []) := pgs_nil.imp fun vs σ H Q ⟨W, es, S, P0, ds, es', ok, fr, r, ht, q⟩ => by
  cases ds with
  | nil =>
    simp only [Reps] at r
    subst r
    obtain rfl : es = es' := Option.some.inj ht
    exact ⟨rfl, q W σ (Step.refl W es σ) ok fr⟩
  | cons d ds => cases ht
theorem dgs_cons {e : Expr} {es : List Expr} {t : TF} {u : TFs} {ix iy : List Nat} (h1 : PG X e (dG Γ ξ t ix)) (h2 : PGs X es (dGs Γ ξ u iy)) (hs : (assignEach (e :: es) X.env).map (·.2) = assign e X.env :: (assignEach es X.env).map (·.2) := by rfl) : PGs X (e :: es) (dGs Γ ξ (tsCons t u) (ix ++ iy)) :=
  (pgs_cons h1 h2 hs).imp fun vs σ H Q ⟨W, es, S, P0, ds, es', ok, fr, r, ht, q⟩ => by
    cases ds with
    | nil => cases ht
    | cons d ds =>
      simp only [Reps] at r
      obtain ⟨v, vs', rfl, r1, r2⟩ := r
      simp only [tsCons, Option.bind_eq_some_iff] at ht
      obtain ⟨es1, ht1, ht2⟩ := ht
      refine ⟨v, vs', rfl, W, es, S, P0, d, es1, ok, fr, r1, ht1, fun W1 σ1 e1 ok1 fr1 => ?_⟩
      exact ⟨W1, es1, S, P0, ds, es', ok1, fr1, r2.mono e1.eqv.le, ht2, fun W2 σ2 e2 => q W2 σ2 (e1.trans e2)⟩
def tgT (n : Nat) (t : TFs) : TF := fun d es S => match d with
  | .tup ds => if ds.length = n then t ds es S else none
  | .lst ds => if ds.length = n then t ds es S else none
  | .cell c => match S[c]? with
    | some ds => if ds.length = n then t ds es S else none
    | none => none
  | _ => none
theorem _root_.L2.PG.or {X : Cx} {e : Expr} {t t' : TG} (h : PG X e t) (h' : PG X e t') : PG X e (fun v σ H Q => t v σ H Q ∨ t' v σ H Q) := ⟨fun pins s σ H v u Q I r z => z.elim (h.run pins s σ H v u Q I r) (h'.run pins s σ H v u Q I r)⟩
theorem dg_tup {es : List Expr} {k : Nat} {t : TFs} {ix : List Nat} {n : Nat} {pos : Pos} (hK : X.K = Γ.K) (hc : X.calm = true) (h : PGs X es (dGs Γ ξ t ix)) (hn : (assignEach es X.env).length = n := by rfl) (hst : (assignEach es X.env).findIdx? (·.1) = none := by rfl) : PG X (.Tuple es k pos) (dG Γ ξ (tgT n t) ix) :=
  ((pg_tup hc h hn hst).or (pg_unl hc h hn hst)).imp fun v σ H Q ⟨W, es, S, P0, d, es', ok, fr, r, ht, q⟩ => by
    cases d with
    | tup ds =>
      simp only [tgT] at ht
      split at ht
      · rename_i hl
        simp only [Rep] at r
        obtain ⟨a, vs, rfl, r1, r2⟩ := r
        exact .inl ⟨a, vs, rfl, by rw [hK]; exact sqT_H ok.f r1, by rw [r2.length, hl], W, es, S, P0, ds, es', ok, fr, r2, ht, q⟩
      · cases ht
    | lst ds =>
      simp only [tgT] at ht
      split at ht
      · rename_i hl
        simp only [Rep] at r
        obtain ⟨a, vs, rfl, r1, r2⟩ := r
        exact .inr ⟨a, vs, rfl, by rw [hK]; exact sqL_H ok.f r1, by rw [r2.length, hl], W, es, S, P0, ds, es', ok, fr, r2, ht, q⟩
      · cases ht
    | cell c =>
      simp only [Rep] at r
      obtain ⟨a, rfl, hm⟩ := r
      obtain ⟨ds, vs, h3, h4, h5⟩ := ok.cell hm
      simp only [tgT, h3] at ht
      split at ht
      · rename_i hl
        exact .inr ⟨a, vs, rfl, .inl (.inl h4), by rw [h5.length, hl], W, es, S, P0, ds, es', ok, fr, h5, ht, q⟩
      · cases ht
    | _ => cases ht

/-! ### assignments -/
def sAsg (t : TF) (f : EF) : SF := fun es S => (f es S).toS es fun d S1 => match t d es S1 with
  | some es' => .next es' S1
  | none => .bad
theorem tAsg_of {t : TF} {ix : List Nat} {f : EF} {Dn : Ends} {σ : L2.St} {H : Hp} (h : dS Γ ξ (sAsg t f) E Dn σ H) : tAsg (dE Γ ξ f E) (dG Γ ξ t ix) Dn σ H := by
  obtain ⟨W, es, S, P0, ok, fr, h⟩ := h
  refine ⟨W, es, S, P0, ok, fr, ContS.toS fr h fun d S1 W1 v H1 le ok1 rv h1 => ?_⟩
  split at h1
  · rename_i es' ht
    exact ⟨W1, es, S1, P0, d, es', ok1, fr.le le, rv, ht, fun W2 σ2 e2 ok2 fr2 => h1 W2 σ2 H1 e2.eqv.le ok2 fr2⟩
  · exact h1.elim
theorem ds_asg {tg e : Expr} {f : EF} {t : TF} {ix : List Nat} {pos : Pos} (he : PE X e (dE Γ ξ f E)) (hg : PG X tg (dG Γ ξ t ix)) (hs : swapsWithSole [tg] e pos.line X.env = pure false := by rfl) (hw : swappedStores [tg] e X.env = pure none := by rfl)
    (h1 : (assignEach [tg] X.env).map (·.2) = [assign tg X.env] := by rfl) : PS X (.Assign [tg] e pos) (dS Γ ξ (sAsg t f) E) := (ps_asg he hg hs hw h1).imp fun Dn σ H h => tAsg_of h
theorem ds_set {i : Nat} {x : Str} {e : Expr} {f : EF} {pos pos' : Pos} (hN : X.N.Nodup) (he : PE X e (dE Γ ξ f E)) (hi : X.N[i]? = some x := by rfl) (hx : Loc X.env.scope x := by first | exact Or.inl rfl | exact Or.inr rfl) (hs : swapsWith e (some (.Name x pos')) pos.line X.env = pure false := by rfl)
    (hf : X.fn x = true ∨ X.env.scope.names.lookup x = some .local := by first | exact .inl rfl | exact .inr rfl | assumption) : PS X (.Assign [.Name x pos'] e pos) (dS Γ ξ (sAsg (tgN i) f) E) :=
  (ps_set hN hi hx he hs hf).imp fun Dn σ H ⟨W, es, S, P0, ok, fr, h⟩ => ⟨W, es, S, P0, ok, fr, ContS.toS fr h fun d S1 W1 v H1 le ok1 rv h1 => by
    obtain ⟨W', e, ok', fr'⟩ := Frame.set ok1 (fr.le le) rv i
    exact h1 W' _ H1 e.le ok' fr'⟩
def sPar (i j : Nat) (a : AF) : SF := fun es S => match a es S with
  | .ok [d1, d2] S1 => .next ((es.set i (.val d1)).set j (.val d2)) S1
  | .exc k fs S1 => .exc k fs es S1
  | _ => .bad
theorem ds_par {i j : Nat} {x y : Str} {a b : Expr} {f : AF} {px py pt pos : Pos} {kt k2 pt2} (hc : X.calm = true) (hN : X.N.Nodup) (ha : PA X [a, b] (dA Γ ξ f E)) (hi : X.N[i]? = some x := by rfl) (hj : X.N[j]? = some y := by rfl) (hij : i ≠ j := by decide)
    (hx : X.env.scope.names.lookup x = some .local := by rfl) (hy : X.env.scope.names.lookup y = some .local := by rfl)
    (hw : swappedStores [.Tuple [.Name x px, .Name y py] kt pt] (.Tuple [a, b] k2 pt2) X.env = pure (some [x, y]) := by rfl)
    (hs : swapsWithSole [.Tuple [.Name x px, .Name y py] kt pt] (.Tuple [a, b] k2 pt2) pos.line X.env = pure false := by rfl) : PS X (.Assign [.Tuple [.Name x px, .Name y py] kt pt] (.Tuple [a, b] k2 pt2) pos) (dS Γ ξ (sPar i j f) E) :=
  (ps_par hc hN hi hj hij hx hy ha hw hs).imp fun Dn σ H ⟨W, es, S, P0, ok, fr, h⟩ => by
    refine ⟨W, es, S, P0, ok, fr, ?_⟩
    unfold sPar at h
    split at h
    · rename_i d1 d2 S1 e
      rw [e]
      intro W1 vs H1 le ok1 rs
      simp only [Reps] at rs
      obtain ⟨v1, _, rfl, r1, v2, _, rfl, r2, rfl⟩ := rs
      obtain ⟨W2, e2, ok2, fr2⟩ := Frame.set ok1 (fr.le le) r1 i
      obtain ⟨W3, e3, ok3, fr3⟩ := Frame.set ok2 fr2 (r2.mono e2.le) j
      exact ⟨v1, v2, rfl, h W3 _ H1 (le.s.trans (e2.le.trans e3.le)) ok3 fr3⟩
    · rename_i k fs S1 e
      rw [e]
      exact fun W1 d H1 l o rx => h W1 σ d H1 l.s o (fr.le l) rx
    · exact h.elim

/-! ### return: the frame's own lists become data -/
def frz1 : SD → SD
  | .acc ds => .val (.lst ds)
  | d => d
noncomputable def Wd.keep (W : Wd) (own : List (Addr × HO)) (P0 : Hp) : Wd := { W with F := fun a => open Classical in if a ∈ own.map (·.1) then W.P a else W.F a, P := P0 }
theorem keep_le {W : Wd} {S : Store} {H : Hp} {own : List (Addr × HO)} {P0 : Hp} (ok : Ok Γ W S H) (o : OwnP W own P0) : LeS W (W.keep own P0) := by
  refine ⟨fun a u h => ?_, fun _ _ h => h⟩
  unfold Wd.keep
  simp only
  rw [if_neg]
  · exact h
  · intro ha
    obtain ⟨p, hp, rfl⟩ := List.mem_map.mp ha
    exact absurd ((ok.p _ _ (o.at_ p hp).2).2.symm.trans h) (by simp)
theorem slots_frz {W W' : Wd} (l : LeS W W') : ∀ {es : List SD} {σ : L2.St} {own : List (Addr × HO)}, SlotsR Γ ξ W es σ own → (∀ p ∈ own, W'.F p.1 = some p.2) → SlotsR Γ ξ W' (es.map frz1) σ []
  | [], σ, own, h, _ => ⟨h.1, rfl⟩
  | .no :: es, σ, own, h, hp => by
    obtain ⟨o, σ', rfl, h2⟩ := h
    exact ⟨o, σ', rfl, slots_frz l h2 hp⟩
  | .val d :: es, σ, own, h, hp => by
    obtain ⟨v, σ', rfl, h2, h3⟩ := h
    exact ⟨v, σ', rfl, h2.mono l, slots_frz l h3 hp⟩
  | .acc ds :: es, σ, own, h, hp => by
    obtain ⟨a, vs, σ', own', rfl, rfl, h3, h4⟩ := h
    refine ⟨.ref a, σ', rfl, ?_, slots_frz l h4 fun p h => hp p (List.mem_cons_of_mem _ h)⟩
    simp only [Rep]
    exact ⟨a, vs, rfl, .inl (.inl (hp _ List.mem_cons_self)), h3.mono l⟩
  | .exn k fs :: es, σ, own, h, hp => by
    obtain ⟨σ', rfl, h2, h3, h4⟩ := h
    exact ⟨σ', rfl, h2, repX_le h3 l, slots_frz l h4 hp⟩
  | .slf :: es, σ, own, h, hp => by
    obtain ⟨σ', rfl, h4⟩ := h
    exact ⟨σ', rfl, slots_frz l h4 hp⟩
theorem Frame.frz {W : Wd} {S : Store} {H : Hp} {es : List SD} {σ : L2.St} {P0 : Hp} (ok : Ok Γ W S H) (fr : Frame Γ ξ W es σ P0) : ∃ W', LeS W W' ∧ W'.P = P0 ∧ Ok Γ W' S H ∧ Frame Γ ξ W' (es.map frz1) σ P0 := by
  obtain ⟨own, h1, o⟩ := fr
  have l := keep_le ok o
  have hP : ∀ a u, P0 a = some u → W.P a = some u ∧ a ∉ own.map (·.1) := fun a u e => by
    have na : a ∉ own.map (·.1) := fun ha => by
      obtain ⟨p, hp, rfl⟩ := List.mem_map.mp ha
      rw [(o.at_ p hp).1] at e
      cases e
    exact ⟨by rw [o.rest a na]; exact e, na⟩
  refine ⟨W.keep own P0, l, rfl, ⟨fun a u e => ?_, fun a u e => ?_, fun i a h => ?_, ok.nd, ok.len, fun i a ds h3 h4 => ?_⟩, [], slots_frz l h1 fun p hp => ?_, ⟨List.nodup_nil, fun p hp => absurd hp (by simp), fun a _ => rfl⟩⟩
  · unfold Wd.keep at e
    simp only at e
    split at e
    · exact (ok.p a u e).1
    · exact ok.f a u e
  · obtain ⟨e1, na⟩ := hP a u e
    refine ⟨(ok.p a u e1).1, ?_⟩
    unfold Wd.keep
    simp only
    rw [if_neg na]
    exact (ok.p a u e1).2
  · have hm := ok.m i a h
    have na : a ∉ own.map (·.1) := fun ha => by
      obtain ⟨p, hp, rfl⟩ := List.mem_map.mp ha
      rw [(o.at_ p hp).2] at hm
      cases hm.2
    refine ⟨?_, ?_⟩
    · unfold Wd.keep
      simp only
      rw [if_neg na]
      exact hm.1
    · show P0 a = none
      rw [← o.rest a na]
      exact hm.2
  · obtain ⟨vs, h5, h6⟩ := ok.c i a ds h3 h4
    exact ⟨vs, h5, h6.mono l⟩
  · unfold Wd.keep
    simp only
    rw [if_pos (List.mem_map.mpr ⟨p, hp, rfl⟩)]
    exact (o.at_ p hp).2
def sRet (f : EF) : SF := fun es S => match f (es.map frz1) S with
  | .ok d S1 => .ret d S1
  | .exc k fs S1 => .exc k fs (es.map frz1) S1
  | .bad => .bad
theorem ds_ret {e : Expr} {f : EF} {pos : Pos} (he : PE X e (dE Γ ξ f E)) : PS X (.Return (some e) pos) (dS Γ ξ (sRet f) E) := (ps_ret he).imp fun Dn σ H ⟨W, es, S, P0, ok, fr, h⟩ => by
  obtain ⟨W', l, hp, ok', fr'⟩ := fr.frz ok
  refine ⟨W', es.map frz1, S, P0, ok', fr', ?_⟩
  unfold sRet at h
  cases e : f (es.map frz1) S with
  | ok d S1 =>
    rw [e] at h
    exact fun W2 v H2 l2 ok2 r => h W2 v H2 (l.trans l2.s) (l2.p.trans hp) ok2 r
  | exc k fs S1 =>
    rw [e] at h
    exact fun W2 d H2 l2 ok2 rx => h W2 σ d H2 (l.trans l2.s) ok2 (fr'.le l2) rx
  | bad => rw [e] at h; exact h.elim
def sRetN : SF := fun es S => .ret .non S
theorem ds_retN {pos : Pos} : PS X (.Return none pos) (dS Γ ξ sRetN E) := ps_retN.imp fun Dn σ H ⟨W, es, S, P0, ok, fr, h⟩ => by
  obtain ⟨W', l, hp, ok', fr'⟩ := fr.frz ok
  exact h W' _ H l hp ok' (by simp only [Rep])

/-! ### while -/
def whileN (c : EF) (b : SF) : Nat → List SD → Store → Option Fl
  | 0, _, _ => none
  | n + 1, es, S => match c es S with
    | .ok (.bl true) S1 => match b es S1 with
      | .next es2 S2 => whileN c b n es2 S2
      | .ct es2 S2 => whileN c b n es2 S2
      | .brk es2 S2 => some (.next es2 S2)
      | r => some r
    | .ok (.bl false) S1 => some (.next es S1)
    | .exc k fs S1 => some (.exc k fs es S1)
    | _ => some .bad
theorem whileN_succ {c : EF} {b : SF} : ∀ {n : Nat} {es : List SD} {S : Store} {r : Fl}, whileN c b n es S = some r → whileN c b (n + 1) es S = some r
  | 0, es, S, r, h => by simp [whileN] at h
  | n + 1, es, S, r, h => by
    rw [whileN] at h ⊢
    cases hc : c es S with
    | bad => rw [hc] at h; exact h
    | exc k fs S1 => rw [hc] at h; exact h
    | ok d S1 =>
      rw [hc] at h
      cases d with
      | bl t =>
        cases t with
        | false => exact h
        | true =>
          simp only at h ⊢
          cases hb : b es S1 with
          | next es2 S2 => rw [hb] at h; exact whileN_succ h
          | ct es2 S2 => rw [hb] at h; exact whileN_succ h
          | brk es2 S2 => rw [hb] at h; exact h
          | ret d2 S2 => rw [hb] at h; exact h
          | exc k fs es2 S2 => rw [hb] at h; exact h
          | bad => rw [hb] at h; exact h
      | _ => exact h
theorem whileN_le {c : EF} {b : SF} {n m : Nat} {es : List SD} {S : Store} {r : Fl} (h : whileN c b n es S = some r) (hm : n ≤ m) : whileN c b m es S = some r := by
  induction hm with
  | refl => exact h
  | step _ ih => exact whileN_succ ih
open Classical in
noncomputable def sWhile (c : EF) (b : SF) : SF := fun es S => if h : ∃ n r, whileN c b n es S = some r then h.choose_spec.choose else .bad
theorem sWhile_eq {c : EF} {b : SF} {n : Nat} {es : List SD} {S : Store} {r : Fl} (h : whileN c b n es S = some r) : sWhile c b es S = r := by
  have hx : ∃ n r, whileN c b n es S = some r := ⟨n, r, h⟩
  unfold sWhile
  rw [dif_pos hx]
  have h2 := hx.choose_spec.choose_spec
  have h3 := whileN_le h (Nat.le_max_left n hx.choose)
  have h4 := whileN_le h2 (Nat.le_max_right n hx.choose)
  rw [h3] at h4
  exact (Option.some.inj h4).symm
theorem ds_while {c : Expr} {body : List Stmt} {fc : EF} {fb : SF} {pos : Pos} (hp : PassesOwn (model X.prog X.w) X.A X.env X.xe) (hc : PT X c (dT Γ ξ fc E)) (hb : PSs X body (dS Γ ξ fb E)) : PS X (.While c body [] pos) (dS Γ ξ (sWhile fc fb) E) :=
  (ps_while hp hc hb).imp fun Dn σ H ⟨W, es, S, P0, ok, fr, h⟩ => by
    by_cases hx : ∃ n r, whileN fc fb n es S = some r
    · obtain ⟨n, r, hr⟩ := hx
      rw [sWhile_eq hr] at h
      refine ⟨fun m σ H => ∃ W es S r, Ok Γ W S H ∧ Frame Γ ξ W es σ P0 ∧ whileN fc fb m es S = some r ∧ ContS Γ ξ r W P0 Dn E, ⟨n, W, es, S, r, ok, fr, hr, h⟩, ?_⟩
      rintro m σ H ⟨W, es, S, r, ok, fr, hr, h⟩
      refine ⟨W, es, S, P0, ok, fr, ?_⟩
      cases m with
      | zero => simp [whileN] at hr
      | succ m =>
        rw [whileN] at hr
        cases e : fc es S with
        | bad =>
          rw [e] at hr
          obtain rfl := Option.some.inj hr
          exact h.elim
        | exc k fs S1 =>
          rw [e] at hr
          obtain rfl := Option.some.inj hr
          exact fun W1 d H1 l o rx => h W1 σ d H1 l.s o (fr.le l) rx
        | ok d S1 =>
          rw [e] at hr
          cases d with
          | bl t =>
            intro W1 H1 l ok1
            cases t with
            | false =>
              obtain rfl := Option.some.inj hr
              rw [if_neg Bool.false_ne_true]
              exact h W1 σ H1 l.s ok1 (fr.le l)
            | true =>
              rw [if_pos rfl]
              refine ⟨fun σ' H' => ∃ W es S r, Ok Γ W S H' ∧ Frame Γ ξ W es σ' P0 ∧ whileN fc fb m es S = some r ∧ ContS Γ ξ r W P0 Dn E, fun σ' H' q => ⟨m, Nat.lt_succ_self m, q⟩, W1, es, S1, P0, ok1, fr.le l, ?_⟩
              simp only at hr
              cases eb : fb es S1 with
              | next es2 S2 =>
                rw [eb] at hr
                exact fun W2 σ2 H2 l2 ok2 fr2 => ⟨W2, es2, S2, r, ok2, fr2, hr, ContS.le h (l.s.trans l2)⟩
              | ct es2 S2 =>
                rw [eb] at hr
                exact fun W2 σ2 H2 l2 ok2 fr2 => ⟨W2, es2, S2, r, ok2, fr2, hr, ContS.le h (l.s.trans l2)⟩
              | brk es2 S2 =>
                rw [eb] at hr
                obtain rfl := Option.some.inj hr
                exact fun W2 σ2 H2 l2 ok2 fr2 => h W2 σ2 H2 (l.s.trans l2) ok2 fr2
              | ret d2 S2 =>
                rw [eb] at hr
                obtain rfl := Option.some.inj hr
                exact fun W2 v2 H2 l2 => h W2 v2 H2 (l.s.trans l2)
              | exc k fs es2 S2 =>
                rw [eb] at hr
                obtain rfl := Option.some.inj hr
                exact fun W2 σ2 d2 H2 l2 => h W2 σ2 d2 H2 (l.s.trans l2)
              | bad =>
                rw [eb] at hr
                obtain rfl := Option.some.inj hr
                exact h.elim
          | _ =>
            obtain rfl := Option.some.inj hr
            exact h.elim
    · unfold sWhile at h
      rw [dif_neg hx] at h
      exact h.elim

/-! ### what is walked -/
/-- what must stand while something is walked: cells and what they hold -/
abbrev Gd := List (Nat × List D)
def Gd.ok (g : Gd) (S : Store) : Prop := ∀ p ∈ g, S[p.1]? = some p.2
theorem Gd.ok_nil (S : Store) : Gd.ok [] S := fun p hp => absurd hp (by simp)
inductive ResI where
  | ok (ds : List D) (g : Gd) (S : Store)
  | exc (k : Nat) (fs : List (Str × D)) (S : Store)
  | bad
abbrev IF := List SD → Store → ResI
def Res.bindI (r : Res) (k : D → Store → ResI) : ResI := match r with
  | .ok d S => k d S
  | .exc c fs S => .exc c fs S
  | .bad => .bad
def ResA.bindI (r : ResA) (k : List D → Store → ResI) : ResI := match r with
  | .ok d S => k d S
  | .exc c fs S => .exc c fs S
  | .bad => .bad
/-- the world has grown, its private part, too -/
structure LeQ (W W' : Wd) : Prop where
  s : LeS W W'
  p : ∀ a o, W.P a = some o → W'.P a = some o
/-- the iterator J yields the data ds, one after the other, whatever else happens -/
def Yld (Γ : Pg) (W : Wd) (J : It) (ds : List D) (g : Gd) : Prop := ∀ W' S H, LeS W W' → Ok Γ W' S H → g.ok S → J.stop ds.length H ∧ ∀ i d, ds[i]? = some d → J.go i H ∧ ∀ x H', J.yld i H x H' → ∃ W'', Le W' W'' ∧ Ok Γ W'' S H' ∧ Rep Γ W'' d x
/-- the same where the private part stands, too -/
def YldQ (Γ : Pg) (W : Wd) (J : It) (ds : List D) (g : Gd) : Prop := ∀ W' S H, LeQ W W' → Ok Γ W' S H → g.ok S → J.stop ds.length H ∧ ∀ i d, ds[i]? = some d → J.go i H ∧ ∀ x H', J.yld i H x H' → ∃ W'', Le W' W'' ∧ Ok Γ W'' S H' ∧ Rep Γ W'' d x
theorem Yld.le {W W' : Wd} {J : It} {ds : List D} {g : Gd} (y : Yld Γ W J ds g) (l : LeS W W') : Yld Γ W' J ds g := fun W2 S H l2 => y W2 S H (l.trans l2)
theorem Yld.q {W : Wd} {J : It} {ds : List D} {g : Gd} (y : Yld Γ W J ds g) : YldQ Γ W J ds g := fun W2 S H l2 => y W2 S H l2.s
def ContI (Γ : Pg) (r : ResI) (W : Wd) (R : It → Hp → Prop) (E : XK) : Prop := match r with
  | .ok ds g S => ∀ W' J H', Le W W' → Ok Γ W' S H' → Yld Γ W' J ds g → R J H'
  | .exc k fs S => ∀ W' d H', Le W W' → Ok Γ W' S H' → RepX (Γ := Γ) W' fs d → E (.ref (Γ.cl k)) d H'
  | .bad => False
def ContIQ (Γ : Pg) (r : ResI) (W : Wd) (R : It → Hp → Prop) (E : XK) : Prop := match r with
  | .ok ds g S => ∀ W' J H', Le W W' → Ok Γ W' S H' → YldQ Γ W' J ds g → R J H'
  | .exc k fs S => ∀ W' d H', Le W W' → Ok Γ W' S H' → RepX (Γ := Γ) W' fs d → E (.ref (Γ.cl k)) d H'
  | .bad => False
def dI (Γ : Pg) (ξ : Xx) (f : IF) (E : WX) : TI := fun σ H R => ∃ W es S P0, Ok Γ W S H ∧ Frame Γ ξ W es σ P0 ∧ ContI Γ (f es S) W R (at_ E σ)
def dIQ (Γ : Pg) (ξ : Xx) (f : IF) (E : WX) : TI := fun σ H R => ∃ W es S P0, Ok Γ W S H ∧ Frame Γ ξ W es σ P0 ∧ ContIQ Γ (f es S) W R (at_ E σ)
theorem _root_.L2.PI.imp {X : Cx} {tg e : Expr} {t t' : TI} (h : PI X tg e t) (q : ∀ σ H R, t' σ H R → t σ H R) : PI X tg e t' := ⟨fun pins s σ H R I z => h.run pins s σ H R I (q σ H R z)⟩
theorem diq {tg e : Expr} {f : IF} (h : PI X tg e (dI Γ ξ f E)) : PI X tg e (dIQ Γ ξ f E) := h.imp fun σ H R ⟨W, es, S, P0, ok, fr, h⟩ => ⟨W, es, S, P0, ok, fr, by
  unfold ContIQ at h
  unfold ContI
  split
  · rename_i e
    rw [e] at h
    exact fun W' J H' l o y => h W' J H' l o y.q
  · rename_i e
    rw [e] at h
    exact h
  · rename_i e
    rw [e] at h
    exact h⟩
open Classical in
noncomputable def forL (g : Gd) (t : TF) (b : SF) : List D → SF
  | [], es, S => if g.ok S then .next es S else .bad
  | d :: ds, es, S => if g.ok S then match t d es S with
    | none => .bad
    | some es1 => match b es1 S with
      | .next es2 S2 => forL g t b ds es2 S2
      | .ct es2 S2 => forL g t b ds es2 S2
      | .brk es2 S2 => .next es2 S2
      | r => r
    else .bad
noncomputable def sFor (it : IF) (t : TF) (b : SF) : SF := fun es S => match it es S with
  | .ok ds g S1 => forL g t b ds es S1
  | .exc k fs S1 => .exc k fs es S1
  | .bad => .bad
theorem ds_for {tg iter : Expr} {body : List Stmt} {fi : IF} {t : TF} {ix : List Nat} {fb : SF} {pos : Pos} (hp : PassesOwn (model X.prog X.w) X.A X.env X.xe) (hc : X.calm = true) (hi : PI X tg iter (dI Γ ξ fi E)) (hg : PG X tg (dG Γ ξ t ix)) (hb : PSs X body (dS Γ ξ fb E))
    (hs : ∀ x, foldedSetIterable iter X.env x = pure x := by intro _; rfl) : PS X (.For tg iter body [] pos) (dS Γ ξ (sFor fi t fb) E) := (ps_for hp hc hi hg hb hs).imp fun Dn σ H ⟨W, es, S, P0, ok, fr, h⟩ => by
  refine ⟨W, es, S, P0, ok, fr, ?_⟩
  unfold sFor at h
  cases e : fi es S with
  | bad => rw [e] at h; exact h.elim
  | exc k fs S1 =>
    rw [e] at h
    exact fun W1 d H1 l o rx => h W1 σ d H1 l.s o (fr.le l) rx
  | ok ds g S1 =>
    rw [e] at h
    intro W1 J H1 l1 ok1 y
    refine ⟨fun i m σ H => m = ds.length - i ∧ i ≤ ds.length ∧ ∃ W es S, LeS W1 W ∧ Ok Γ W S H ∧ Frame Γ ξ W es σ P0 ∧ ContS Γ ξ (forL g t fb (ds.drop i) es S) W P0 Dn E,
      ⟨ds.length, by simp, Nat.zero_le _, W1, es, S1, LeS.refl _, ok1, fr.le l1, by rw [List.drop_zero]; exact ContS.le h l1.s⟩, ?_⟩
    rintro i m σ H ⟨rfl, hi, W2, es2, S2, l2, ok2, fr2, h2⟩
    by_cases hgd : g.ok S2
    case neg =>
      by_cases hlt : i < ds.length
      · rw [List.drop_eq_getElem_cons hlt, forL, if_neg hgd] at h2
        exact h2.elim
      · rw [List.drop_of_length_le (by omega), forL, if_neg hgd] at h2
        exact h2.elim
    obtain ⟨y1, y2⟩ := y W2 S2 H l2 ok2 hgd
    by_cases hlt : i < ds.length
    · right
      obtain ⟨g1, g2⟩ := y2 i ds[i] (List.getElem?_eq_getElem hlt)
      refine ⟨g1, fun σ' H' => i + 1 ≤ ds.length ∧ ∃ W es S, LeS W1 W ∧ Ok Γ W S H' ∧ Frame Γ ξ W es σ' P0 ∧ ContS Γ ξ (forL g t fb (ds.drop (i + 1)) es S) W P0 Dn E, fun σ' H' q => ⟨ds.length - (i + 1), by omega, rfl, q⟩, fun x H' yl => ?_⟩
      obtain ⟨W3, l3, ok3, r3⟩ := g2 x H' yl
      rw [List.drop_eq_getElem_cons hlt, forL, if_pos hgd] at h2
      cases ht : t ds[i] es2 S2 with
      | none => rw [ht] at h2; exact h2.elim
      | some es3 =>
        rw [ht] at h2
        simp only at h2
        refine ⟨W3, es2, S2, P0, ds[i], es3, ok3, fr2.le l3, r3, ht, fun W4 σ4 e4 ok4 fr4 => ?_⟩
        refine ⟨W4, es3, S2, P0, ok4, fr4, ?_⟩
        have l4 : LeS W2 W4 := l3.s.trans e4.eqv.le
        cases eb : fb es3 S2 with
        | next es5 S5 =>
          rw [eb] at h2
          exact fun W5 σ5 H5 l5 ok5 fr5 => ⟨hlt, W5, es5, S5, l2.trans (l4.trans l5), ok5, fr5, ContS.le h2 (l4.trans l5)⟩
        | ct es5 S5 =>
          rw [eb] at h2
          exact fun W5 σ5 H5 l5 ok5 fr5 => ⟨hlt, W5, es5, S5, l2.trans (l4.trans l5), ok5, fr5, ContS.le h2 (l4.trans l5)⟩
        | brk es5 S5 =>
          rw [eb] at h2
          exact fun W5 σ5 H5 l5 => h2 W5 σ5 H5 (l4.trans l5)
        | ret d5 S5 =>
          rw [eb] at h2
          exact fun W5 σ5 H5 l5 => h2 W5 σ5 H5 (l4.trans l5)
        | exc k fs es5 S5 =>
          rw [eb] at h2
          exact fun W5 σ5 d5 H5 l5 => h2 W5 σ5 d5 H5 (l4.trans l5)
        | bad => rw [eb] at h2; exact h2.elim
    · left
      have e2 : i = ds.length := by omega
      subst e2
      rw [List.drop_length, forL, if_pos hgd] at h2
      exact ⟨y1, h2 W2 σ H (LeS.refl _) ok2 fr2⟩
/-- range -/
theorem yld_range {W : Wd} {lo : Int} {n : Nat} : Yld Γ W (Itr lo n) ((List.range n).map fun (i : Nat) => D.int (lo + i)) [] := fun W' S H l ok _ => by
  refine ⟨by simp [Itr], fun i d hd => ?_⟩
  rw [List.getElem?_map] at hd
  by_cases hi : i < n
  · rw [List.getElem?_range hi] at hd
    obtain rfl := Option.some.inj hd
    exact ⟨hi, fun x H' ⟨e1, e2⟩ => ⟨W', Le.refl _, by rw [e1]; exact ok, by simp only [Rep]; exact e2⟩⟩
  · rw [List.getElem?_eq_none (by simp; omega)] at hd
    cases hd
/-- what a list, a tuple is walked by: q says that it stands -/
theorem yld_listG {W : Wd} {a : Addr} {vs : List V} {ds : List D} {g : Gd} (q : ∀ W' S H, LeS W W' → Ok Γ W' S H → g.ok S → ∃ vs, SqL Γ.K H a vs ∧ Reps Γ W' ds vs) : Yld Γ W (Itl Γ.K a) ds g := fun W' S H l ok hg => by
  obtain ⟨vs, q, r⟩ := q W' S H l ok hg
  refine ⟨⟨vs, q, by rw [r.length]; exact Nat.le_refl _⟩, fun i d hd => ?_⟩
  obtain ⟨v, hv, rv⟩ := r.get hd
  exact ⟨⟨vs, v, q, hv⟩, fun x H' ⟨e1, e2⟩ => ⟨W', Le.refl _, by rw [e1]; exact ok, by
    have := e2 vs q
    rw [hv] at this
    obtain rfl := Option.some.inj this
    exact rv⟩⟩
theorem yld_list {W : Wd} {a : Addr} {vs : List V} {ds : List D} (h : SqL Γ.K W.F a vs) (r : Reps Γ W ds vs) : Yld Γ W (Itl Γ.K a) ds [] := yld_listG (vs := vs) fun W' S H l ok _ => ⟨vs, sqL_H ok.f (sqL_le l h), r.mono l⟩
theorem yld_cell {W : Wd} {a : Addr} {c : Nat} {ds : List D} (h : W.m[c]? = some a) : Yld Γ W (Itl Γ.K a) ds [(c, ds)] := yld_listG (vs := []) fun W' S H l ok hg => by
  obtain ⟨ds', vs, h3, h4, h5⟩ := ok.cell (l.m _ _ h)
  have := hg _ (List.mem_singleton.mpr rfl)
  rw [h3] at this
  obtain rfl := Option.some.inj this
  exact ⟨vs, .inl (.inl h4), h5⟩
theorem yld_tup {W : Wd} {a : Addr} {vs : List V} {ds : List D} (h : SqT Γ.K W.F a vs) (r : Reps Γ W ds vs) : Yld Γ W (Itt Γ.K a) ds [] := fun W' S H l ok _ => by
  have q : SqT Γ.K H a vs := sqT_H ok.f (sqT_le l h)
  refine ⟨⟨vs, q, by rw [r.length]; exact Nat.le_refl _⟩, fun i d hd => ?_⟩
  obtain ⟨v, hv, rv⟩ := r.get hd
  exact ⟨⟨vs, v, q, hv⟩, fun x H' ⟨e1, e2⟩ => ⟨W', Le.refl _, by rw [e1]; exact ok, by
    have := e2 vs q
    rw [hv] at this
    obtain rfl := Option.some.inj this
    exact rv.mono l⟩⟩
def itRange1 (a : AF) : IF := fun es S => (a es S).bindI fun ds S1 => match ds with
  | [.int n] => if -(2 ^ 62) ≤ n ∧ n < 2 ^ 62 then .ok ((List.range n.toNat).map fun (i : Nat) => D.int i) [] S1 else .bad
  | _ => .bad
def itRange2 (a : AF) : IF := fun es S => (a es S).bindI fun ds S1 => match ds with
  | [.int m, .int n] => if (-(2 ^ 62) ≤ m ∧ m < 2 ^ 62) ∧ -(2 ^ 62) ≤ n ∧ n < 2 ^ 62 then .ok ((List.range (n - m).toNat).map fun (i : Nat) => D.int (m + i)) [] S1 else .bad
  | _ => .bad
theorem ContI.bindL {r : ResA} {k : List D → Store → ResI} {W : Wd} {R : It → Hp → Prop} {Q : List V → Hp → Prop} {E : XK} (h : ContI Γ (r.bindI k) W R E)
    (q : ∀ ds S1 W1 vs H1, Le W W1 → Ok Γ W1 S1 H1 → Reps Γ W1 ds vs → ContI Γ (k ds S1) W1 R E → Q vs H1) : ContA Γ r W Q E := by
  cases r with
  | ok ds S =>
    intro W1 vs H1 l o rs
    refine q ds S W1 vs H1 l o rs ?_
    have h : ContI Γ (k ds S) W R E := h
    unfold ContI at h ⊢
    split at h
    · exact fun W2 J H2 l2 => h W2 J H2 (l.trans l2)
    · exact fun W2 J H2 l2 => h W2 J H2 (l.trans l2)
    · exact h
  | exc c fs S => exact h
  | bad => exact h
theorem di_range1 {tg a : Expr} {fa : AF} {p pos : Pos} (ha : PA X [a] (dA Γ ξ fa E)) (hm : X.mg "range" = none) (hg : Gl X "range" := by rfl) (hs : starEach [a] X.env = [(false, eval a X.env)] := by rfl) : PI X tg (.Call (.Name "range" p) [a] [] pos) (dI Γ ξ (itRange1 fa) E) :=
  (pi_range1 hg hm ha hs).imp fun σ H R ⟨W, es, S, P0, ok, fr, h⟩ => ⟨W, es, S, P0, ok, fr, ContI.bindL h fun ds S1 W1 vs H1 l ok1 rs h1 => by
    split at h1
    · rename_i n
      simp only [Reps, Rep] at rs
      obtain ⟨_, _, rfl, rfl, rfl⟩ := rs
      split at h1
      · rename_i hn
        refine ⟨n, rfl, hn.1, hn.2, h1 W1 _ H1 (Le.refl _) ok1 ?_⟩
        have y := yld_range (Γ := Γ) (W := W1) (lo := 0) (n := n.toNat)
        simp only [Int.zero_add] at y
        exact y
      · exact h1.elim
    · exact h1.elim⟩
theorem di_range2 {tg a b : Expr} {fa : AF} {p pos : Pos} (ha : PA X [a, b] (dA Γ ξ fa E)) (hm : X.mg "range" = none) (hg : Gl X "range" := by rfl) (hs : starEach [a, b] X.env = [(false, eval a X.env), (false, eval b X.env)] := by rfl) (hs2 : starEach [b] X.env = [(false, eval b X.env)] := by rfl) :
    PI X tg (.Call (.Name "range" p) [a, b] [] pos) (dI Γ ξ (itRange2 fa) E) :=
  (pi_range2 hg hm ha hs hs2).imp fun σ H R ⟨W, es, S, P0, ok, fr, h⟩ => ⟨W, es, S, P0, ok, fr, ContI.bindL h fun ds S1 W1 vs H1 l ok1 rs h1 => by
    split at h1
    · rename_i m n
      simp only [Reps, Rep] at rs
      obtain ⟨_, _, rfl, rfl, _, _, rfl, rfl, rfl⟩ := rs
      split at h1
      · rename_i hn
        exact ⟨m, n, rfl, ⟨hn.1.1, hn.1.2, hn.2.1, hn.2.2⟩, h1 W1 _ H1 (Le.refl _) ok1 yld_range⟩
      · exact h1.elim
    · exact h1.elim⟩
end
end DL
set_option Elab.async false
set_option linter.all false
set_option maxRecDepth 100000
set_option maxHeartbeats 2000000
set_option autoImplicit false
/-! The data layer, 4: comprehensions, items, built-ins. -/
namespace DL
open PySem L2

section
variable {Γ : Pg} {ξ : Xx} {X : Cx} {E : WX}
/-! ### list comprehensions -/
theorem _root_.L2.PTs.imp {X : Cx} {ifs : List Expr} {t t' : TT} (h : PTs X ifs t) (q : ∀ σ H Q, t' σ H Q → t σ H Q) : PTs X ifs t' := ⟨fun pins s σ H Q I z => h.run pins s σ H Q I (q σ H Q z)⟩
def eYes : EF := fun _ S => .ok (.bl true) S
theorem dts_nil : PTs X [] (dT Γ ξ eYes E) := pts_nil.imp fun σ H Q ⟨W, es, S, P0, ok, fr, h⟩ => h W H (Le.refl W) ok
theorem dts_one {c : Expr} {f : EF} (h : PT X c (dT Γ ξ f E)) : PTs X [c] (dT Γ ξ f E) := pts_one h
def wipeD (es : List SD) : List Nat → List SD
  | [] => es
  | v :: vs => (wipeD es vs).set v .no
open Classical in
/-- q: the list may be changed later -/
noncomputable def lcL (q : Bool) (g : Gd) (t : TF) (c e : EF) (es : List SD) : List D → Store → List D → Res
  | [], S, acc => if g.ok S then if q = true then .ok (.cell S.length) (S ++ [acc]) else .ok (.lst acc) S else .bad
  | d :: ds, S, acc => if g.ok S then match t d es S with
    | none => .bad
    | some es1 => (c es1 S).nox.bind fun b S1 => match b with
      | .bl true => (e es1 S1).nox.bind fun y S2 => lcL q g t c e es ds S2 (acc ++ [y])
      | .bl false => lcL q g t c e es ds S1 acc
      | _ => .bad
    else .bad
noncomputable def eLc (q : Bool) (vs : List Nat) (it : IF) (t : TF) (c e : EF) : EF := fun es S => match it es S with
  | .ok ds g S1 => if ds.length < 1000000 ∧ noAcc es vs = true then lcL q g t c e (wipeD es vs) ds S1 [] else .bad
  | .exc k fs S1 => .exc k fs S1
  | .bad => .bad
/-- a list of the frame's own becomes a cell -/
theorem Ok.toCell {W : Wd} {S : Store} {H : Hp} {P1 : Hp} {A : Addr} {vs : List V} {ds : List D} (ok : Ok Γ W S H) (hA : W.P A = some (.lst vs)) (h1 : P1 A = none) (hP : ∀ a u, P1 a = some u → W.P a = some u) (r : Reps Γ W ds vs) : Ok Γ ⟨W.F, P1, W.m ++ [A]⟩ (S ++ [ds]) H ∧ LeS W ⟨W.F, P1, W.m ++ [A]⟩ ∧ Rep Γ ⟨W.F, P1, W.m ++ [A]⟩ (.cell S.length) (.ref A) := by
  have le : LeS W ⟨W.F, P1, W.m ++ [A]⟩ := ⟨fun _ _ h => h, fun i a h => by
    show (W.m ++ [A])[i]? = some a
    rw [List.getElem?_append_left (List.getElem?_eq_some_iff.mp h).1]
    exact h⟩
  have hm : ∀ (i : Nat) (a : Addr), W.m[i]? = some a → a ≠ A := fun i a h z => by
    have := (ok.m i a h).2
    rw [z, hA] at this
    cases this
  have at1 : ∀ (i : Nat) (a : Addr), (W.m ++ [A])[i]? = some a → (W.m[i]? = some a) ∨ (i = W.m.length ∧ a = A) := fun i a h => by
    by_cases hi : i < W.m.length
    · rw [List.getElem?_append_left hi] at h
      exact .inl h
    · rw [List.getElem?_append_right (Nat.le_of_not_lt hi)] at h
      have e : i - W.m.length = 0 := by
        have := (List.getElem?_eq_some_iff.mp h).1
        simp at this
        omega
      rw [e] at h
      simp at h
      exact .inr ⟨by omega, h.symm⟩
  have hHA := ok.p A _ hA
  refine ⟨⟨ok.f, fun a u e => ok.p a u (hP a u e), fun i a h => ?_, ?_, ?_, fun i a es q1 q2 => ?_⟩, le, ?_⟩
  · rcases at1 i a h with h | ⟨_, rfl⟩
    · refine ⟨(ok.m i a h).1, ?_⟩
      show P1 a = none
      cases e : P1 a with
      | none => rfl
      | some u =>
        have := hP a u e
        rw [(ok.m i a h).2] at this
        cases this
    · exact ⟨hHA.2, h1⟩
  · show (W.m ++ [A]).Nodup
    refine List.nodup_append.mpr ⟨ok.nd, by simp, fun a ha b hb => ?_⟩
    have hb : b = A := by simpa using hb
    subst hb
    obtain ⟨i, hi⟩ := List.getElem?_of_mem ha
    exact hm i a hi
  · show (W.m ++ [A]).length = _
    simp [ok.len]
  · rcases at1 i a q1 with h | ⟨hi, rfl⟩
    · have hl : i < S.length := by rw [← ok.len]; exact (List.getElem?_eq_some_iff.mp h).1
      rw [List.getElem?_append_left hl] at q2
      obtain ⟨us, h3, h4⟩ := ok.c i a es h q2
      exact ⟨us, h3, h4.mono le⟩
    · rw [List.getElem?_append_right (by rw [← ok.len, hi]; exact Nat.le_refl _)] at q2
      have e0 : i - S.length = 0 := by rw [← ok.len, hi]; exact Nat.sub_self _
      rw [e0] at q2
      simp at q2
      subst q2
      exact ⟨vs, hHA.1, r.mono le⟩
  · simp only [Rep]
    refine ⟨A, rfl, ?_⟩
    show (W.m ++ [A])[S.length]? = some A
    rw [← ok.len, List.getElem?_append_right (Nat.le_refl _)]
    simp
theorem SlotsR.setNo {W : Wd} : ∀ {es : List SD} {σ : L2.St} {own : List (Addr × HO)} (i : Nat), SlotsR Γ ξ W es σ own → (∀ ds, es[i]? ≠ some (.acc ds)) → SlotsR Γ ξ W (es.set i .no) (σ.set i none) own
  | [], σ, own, i, h, _ => by obtain ⟨rfl, rfl⟩ := h; exact ⟨rfl, rfl⟩
  | .no :: es, σ, own, i, h, hn => by
    obtain ⟨o, σ', rfl, h2⟩ := h
    cases i with
    | zero => exact ⟨none, σ', rfl, h2⟩
    | succ i => exact ⟨o, _, rfl, SlotsR.setNo i h2 (by simpa using hn)⟩
  | .val d0 :: es, σ, own, i, h, hn => by
    obtain ⟨v0, σ', rfl, h2, h3⟩ := h
    cases i with
    | zero => exact ⟨none, σ', rfl, h3⟩
    | succ i => exact ⟨v0, _, rfl, h2, SlotsR.setNo i h3 (by simpa using hn)⟩
  | .acc ds :: es, σ, own, i, h, hn => by
    obtain ⟨a, vs, σ', own0, rfl, rfl, h3, h4⟩ := h
    cases i with
    | zero => exact absurd rfl (hn ds)
    | succ i => exact ⟨a, vs, _, own0, rfl, rfl, h3, SlotsR.setNo i h4 (by simpa using hn)⟩
  | .exn k fs :: es, σ, own, i, h, hn => by
    obtain ⟨σ', rfl, h2, h3, h4⟩ := h
    cases i with
    | zero => exact ⟨none, σ', rfl, h4⟩
    | succ i => exact ⟨_, rfl, h2, h3, SlotsR.setNo i h4 (by simpa using hn)⟩
  | .slf :: es, σ, own, i, h, hn => by
    obtain ⟨σ', rfl, h4⟩ := h
    cases i with
    | zero => exact ⟨none, σ', rfl, h4⟩
    | succ i => exact ⟨_, rfl, SlotsR.setNo i h4 (by simpa using hn)⟩
theorem wipeD_acc {es : List SD} : ∀ {vs : List Nat} {j : Nat} {ds : List D}, (wipeD es vs)[j]? = some (.acc ds) → es[j]? = some (.acc ds)
  | [], j, ds, h => h
  | v :: vs, j, ds, h => by
    unfold wipeD at h
    by_cases e : v = j
    · subst e
      rw [List.getElem?_set] at h
      simp at h
    · rw [List.getElem?_set_ne e] at h
      exact wipeD_acc h
theorem SlotsR.wipe {W : Wd} {es : List SD} {σ : L2.St} {own : List (Addr × HO)} (h : SlotsR Γ ξ W es σ own) : ∀ {vs : List Nat}, (∀ j ∈ vs, ∀ ds, es[j]? ≠ some (.acc ds)) → SlotsR Γ ξ W (wipeD es vs) (L2.wipe σ vs) own
  | [], _ => h
  | v :: vs, hn => by
    unfold wipeD L2.wipe
    exact SlotsR.setNo v (SlotsR.wipe h fun j hj => hn j (List.mem_cons_of_mem _ hj)) fun ds e => hn v List.mem_cons_self ds (wipeD_acc e)
theorem wipe_get {σ : L2.St} {j : Nat} : ∀ {vs : List Nat}, (L2.wipe σ vs)[j]? = if j ∈ vs then (if j < σ.length then some none else none) else σ[j]?
  | [] => by simp [L2.wipe]
  | v :: vs => by
    unfold L2.wipe
    rw [List.getElem?_set, wipe_length]
    by_cases e : v = j
    · subst e
      simp
    · rw [if_neg e, wipe_get]
      have e' : ¬ j = v := fun z => e z.symm
      simp [e']
theorem wipe_eq {σ σ' : L2.St} {vs : List Nat} (hl : σ'.length = σ.length) (h : ∀ j, j ∉ vs → σ'[j]? = σ[j]?) : L2.wipe σ' vs = L2.wipe σ vs := by
  apply List.ext_getElem?
  intro j
  rw [wipe_get, wipe_get, hl]
  by_cases e : j ∈ vs
  · rw [if_pos e, if_pos e]
  · rw [if_neg e, if_neg e, h j e]
theorem wipe_wipe {σ : L2.St} {vs : List Nat} : L2.wipe (L2.wipe σ vs) vs = L2.wipe σ vs := by
  apply List.ext_getElem?
  intro j
  rw [wipe_get]
  by_cases e : j ∈ vs
  · rw [if_pos e, wipe_length, wipe_get, if_pos e]
  · rw [if_neg e]
theorem repsP (W : Wd) {P : Hp} {ds : List D} {vs : List V} (h : Reps Γ W ds vs) : Reps Γ { W with P := P } ds vs := Reps.mono (W := W) (W' := { W with P := P }) ⟨fun _ _ h => h, fun _ _ h => h⟩ h
abbrev E0 : WX := fun _ _ _ _ => False
theorem tLc_of {vs : List Nat} {q : Bool} {fi : IF} {t : TF} {ix : List Nat} {fc fe : EF} {σ : L2.St} {H : Hp} {Q : VK} (hix : ∀ j ∈ ix, j ∈ vs) (h : dE Γ ξ (eLc q vs fi t fc fe) E σ H Q) : tLc (dIQ Γ ξ fi E) (dG Γ ξ t ix) (dT Γ ξ fc E0) (dE Γ ξ fe E0) vs σ H Q := by
  obtain ⟨W, es, S, P0, ok, fr, h⟩ := h
  refine ⟨W, es, S, P0, ok, fr, ?_⟩
  unfold eLc at h
  cases e : fi es S with
  | bad => rw [e] at h; exact h.elim
  | exc k fs S1 => rw [e] at h; exact h
  | ok ds g S1 =>
    rw [e] at h
    simp only at h
    split at h
    case isFalse => exact h.elim
    rename_i hg
    obtain ⟨hsz, hna⟩ := hg
    have hn : ∀ j ∈ vs, ∀ ds, es[j]? ≠ some (.acc ds) := fun j hj => noAcc_at hna hj
    intro W1 J H1 l1 ok1 y A hA
    obtain ⟨hAF, hAP, hAm⟩ := ok1.fresh hA
    have h := Cont.le h l1
    refine ⟨fun i m H => m = ds.length - i ∧ i ≤ ds.length ∧ ∃ W' S' acc vs', LeS W1 W' ∧ W'.P = upd W1.P A (.lst vs') ∧ Ok Γ W' S' H ∧ Reps Γ W' acc vs' ∧ acc.length ≤ i ∧ Cont Γ (lcL q g t fc fe (wipeD es vs) (ds.drop i) S' acc) { W' with P := W1.P } Q (at_ E σ), ?_, ?_⟩
    · refine ⟨ds.length, by simp, Nat.zero_le _, { W1 with P := upd W1.P A (.lst []) }, S1, [], [], ⟨fun _ _ h => h, fun _ _ h => h⟩, rfl, ?_, Reps.nil, Nat.le_refl _, by rw [List.drop_zero]; exact h⟩
      refine ⟨fun a u q => ?_, fun a u q => ?_, fun i a q => ⟨(ok1.m i a q).1, ?_⟩, ok1.nd, ok1.len, fun i a es q1 q2 => ?_⟩
      · rw [upd_ne (ne_of_none (show W1.F a = some u from q) hAF)]
        exact ok1.f a u q
      · by_cases z : a = A
        · subst z
          have q : upd W1.P a (.lst []) a = some u := q
          rw [upd_same] at q ⊢
          exact ⟨q, hAF⟩
        · have q : upd W1.P A (.lst []) a = some u := q
          rw [upd_ne z] at q ⊢
          exact ok1.p a u q
      · show upd W1.P A (.lst []) a = none
        rw [upd_ne (hAm i a q)]
        exact (ok1.m i a q).2
      · obtain ⟨us, q3, q4⟩ := ok1.c i a es q1 q2
        exact ⟨us, by rw [upd_ne (hAm i a q1)]; exact q3, repsP W1 q4⟩
    rintro i m H ⟨rfl, hi, W2, S2, acc, vs', l2, hP2, ok2, ra, hac, h2⟩
    have lQ : LeQ W1 W2 := ⟨l2, fun a u e => by
      rw [hP2, upd_ne (ne_of_none e hAP)]
      exact e⟩
    by_cases hgd : g.ok S2
    case neg =>
      by_cases hlt : i < ds.length
      · rw [List.drop_eq_getElem_cons hlt, lcL, if_neg hgd] at h2
        exact h2.elim
      · rw [List.drop_of_length_le (by omega), lcL, if_neg hgd] at h2
        exact h2.elim
    obtain ⟨y1, y2⟩ := y W2 S2 H lQ ok2 hgd
    have hH : H A = some (.lst vs') := (ok2.p A _ (by rw [hP2]; exact upd_same)).1
    by_cases hlt : i < ds.length
    · right
      obtain ⟨g1, g2⟩ := y2 i ds[i] (List.getElem?_eq_getElem hlt)
      refine ⟨g1, fun H => i + 1 ≤ ds.length ∧ ∃ W' S' acc vs', LeS W1 W' ∧ W'.P = upd W1.P A (.lst vs') ∧ Ok Γ W' S' H ∧ Reps Γ W' acc vs' ∧ acc.length ≤ i + 1 ∧ Cont Γ (lcL q g t fc fe (wipeD es vs) (ds.drop (i + 1)) S' acc) { W' with P := W1.P } Q (at_ E σ),
        fun H' q => ⟨ds.length - (i + 1), by omega, rfl, q⟩, fun x H' yl => ?_⟩
      obtain ⟨W3, l3, ok3, r3⟩ := g2 x H' yl
      rw [List.drop_eq_getElem_cons hlt, lcL, if_pos hgd] at h2
      cases ht : t ds[i] (wipeD es vs) S2 with
      | none => rw [ht] at h2; exact h2.elim
      | some es3 =>
        rw [ht] at h2
        simp only at h2
        obtain ⟨own, fr1, fr2⟩ := fr
        have fr3 : Frame Γ ξ W3 (wipeD es vs) (L2.wipe σ vs) (upd P0 A (.lst vs')) := by
          refine ⟨own, SlotsR.mono ((l1.s.trans l2).trans l3.s) (SlotsR.wipe fr1 hn), fr2.nd, fun p hp => ?_, fun a ha => ?_⟩
          · obtain ⟨q1, q2⟩ := fr2.at_ p hp
            have nA : p.1 ≠ A := fun z => by
              have q3 : W1.P p.1 = some p.2 := by rw [l1.p]; exact q2
              rw [z, hAP] at q3
              cases q3
            refine ⟨by rw [upd_ne nA]; exact q1, ?_⟩
            rw [l3.p, hP2, upd_ne nA, l1.p]
            exact q2
          · rw [l3.p, hP2]
            by_cases z : a = A
            · rw [z, upd_same, upd_same]
            · rw [upd_ne z, upd_ne z, l1.p]
              exact fr2.rest a ha
        refine ⟨W3, wipeD es vs, S2, upd P0 A (.lst vs'), ds[i], es3, ok3, fr3, r3, ht, fun W4 σ4 st ok4 fr4 => ?_⟩
        have hna' : noAcc (wipeD es vs) ix = true := noAcc_of fun j hj ds q => hn j (hix j hj) ds (wipeD_acc q)
        obtain rfl := st.same hna'
        refine ⟨?_, ?_⟩
        · rw [wipe_eq st.len fun j hj => st.out j fun q => hj (hix j q), wipe_wipe]
        refine ⟨W4, es3, S2, _, ok4, fr4, ?_⟩
        have l23 : Le { W2 with P := W1.P } { W4 with P := W1.P } := ⟨l3.f, rfl, l3.m⟩
        cases ec : fc es3 S2 with
        | bad => rw [ec] at h2; exact h2.elim
        | exc k fs S' => rw [ec] at h2; exact h2.elim
        | ok b S5 =>
          rw [ec] at h2
          simp only [Res.nox, Res.bind] at h2
          cases b with
          | bl b =>
            intro W5 H5 l5 ok5
            have l25 : Le { W2 with P := W1.P } { W5 with P := W1.P } := l23.trans ⟨l5.f, rfl, l5.m⟩
            have hP5 : W5.P = upd W1.P A (.lst vs') := by rw [l5.p, l3.p, hP2]
            cases b with
            | false =>
              rw [if_neg Bool.false_ne_true]
              simp only at h2
              exact ⟨hlt, W5, S5, acc, vs', l2.trans (l3.s.trans l5.s), hP5, ok5, ra.mono (l3.s.trans l5.s), Nat.le_succ_of_le hac, Cont.le h2 l25⟩
            | true =>
              rw [if_pos rfl]
              simp only at h2
              refine ⟨W5, es3, S5, _, ok5, fr4.le l5, ?_⟩
              cases ee : fe es3 S5 with
              | bad => rw [ee] at h2; exact h2.elim
              | exc k fs S' => rw [ee] at h2; exact h2.elim
              | ok d6 S6 =>
                rw [ee] at h2
                simp only [Res.nox, Res.bind] at h2
                intro W6 v6 H6 l6 ok6 r6
                have hP6 : W6.P = upd W1.P A (.lst vs') := by rw [l6.p, hP5]
                have hH6 : H6 A = some (.lst vs') ∧ W6.F A = none := ok6.p A _ (by rw [hP6]; exact upd_same)
                refine ⟨vs', hH6.1, ?_, hlt, { W6 with P := upd W1.P A (.lst (vs' ++ [v6])) }, S6, acc ++ [d6], vs' ++ [v6], ⟨fun a u q => ?_, fun i a q => ?_⟩, rfl, ?_, ?_, by simp; omega, ?_⟩
                · rw [ra.length, sizeLine_eq]
                  omega
                · exact l6.f _ _ (l5.f _ _ (l3.f _ _ (l2.f _ _ q)))
                · exact l6.m _ _ (l5.m _ _ (l3.m _ _ (l2.m _ _ q)))
                · refine ⟨fun a u q => ?_, fun a u q => ?_, fun i a q => ⟨(ok6.m i a q).1, ?_⟩, ok6.nd, ok6.len, fun i a es q1 q2 => ?_⟩
                  · rw [upd_ne (ne_of_none (show W6.F a = some u from q) hH6.2)]
                    exact ok6.f a u q
                  · by_cases z : a = A
                    · subst z
                      have q : upd W1.P a (.lst (vs' ++ [v6])) a = some u := q
                      rw [upd_same] at q ⊢
                      exact ⟨q, hH6.2⟩
                    · have q : upd W1.P A (.lst (vs' ++ [v6])) a = some u := q
                      rw [upd_ne z] at q ⊢
                      exact ok6.p a u (by rw [hP6, upd_ne z]; exact q)
                  · have q3 := (ok6.m i a q).2
                    show upd W1.P A (.lst (vs' ++ [v6])) a = none
                    have nA : a ≠ A := fun z => by
                      rw [z, hP6, upd_same] at q3
                      cases q3
                    rw [hP6, upd_ne nA] at q3
                    rw [upd_ne nA]
                    exact q3
                  · have q3 := (ok6.m i a q1).2
                    have nA : a ≠ A := fun z => by
                      rw [z, hP6, upd_same] at q3
                      cases q3
                    obtain ⟨us, q4, q5⟩ := ok6.c i a es q1 q2
                    exact ⟨us, by rw [upd_ne nA]; exact q4, repsP W6 q5⟩
                · exact repsP W6 ((ra.mono (l3.s.trans (l5.s.trans l6.s))).append (Reps.cons r6 Reps.nil))
                · exact Cont.le h2 (l25.trans ⟨l6.f, rfl, l6.m⟩)
          | _ => exact h2.elim
    · left
      have e2 : i = ds.length := by omega
      subst e2
      rw [List.drop_length, lcL, if_pos hgd] at h2
      by_cases hq : q = true
      · rw [if_pos hq] at h2
        obtain ⟨k1, k2, k3⟩ := ok2.toCell (P1 := W1.P) (A := A) (vs := vs') (ds := acc) (by rw [hP2]; exact upd_same) hAP (fun a u e => by rw [hP2, upd_ne (ne_of_none e hAP)]; exact e) ra
        exact ⟨y1, h2 _ _ H ⟨k2.f, rfl, k2.m⟩ k1 k3⟩
      rw [if_neg hq] at h2
      refine ⟨y1, h2 { W2 with F := upd W2.F A (.lst vs'), P := W1.P } _ H ⟨fun a u q => ?_, rfl, fun _ _ q => q⟩ ?_ ?_⟩
      · have n : W2.F A = none := (ok2.p A _ (by rw [hP2]; exact upd_same)).2
        show upd W2.F A (.lst vs') a = some u
        rw [upd_ne (ne_of_none (show W2.F a = some u from q) n)]
        exact q
      · have n : W2.F A = none := (ok2.p A _ (by rw [hP2]; exact upd_same)).2
        have lF : LeS W2 { W2 with F := upd W2.F A (.lst vs'), P := W1.P } := ⟨fun a u q => by
          show upd W2.F A (.lst vs') a = some u
          rw [upd_ne (ne_of_none (show W2.F a = some u from q) n)]
          exact q, fun _ _ q => q⟩
        have hnA : ∀ (i : Nat) (a : Addr), W2.m[i]? = some a → a ≠ A := fun i a q z => by
          have q3 := (ok2.m i a q).2
          rw [z, hP2, upd_same] at q3
          cases q3
        refine ⟨fun a u q => ?_, fun a u q => ?_, fun i a q => ?_, ok2.nd, ok2.len, fun i a es q1 q2 => ?_⟩
        · by_cases z : a = A
          · subst z
            have q : upd W2.F a (.lst vs') a = some u := q
            rw [upd_same] at q
            rw [hH]
            exact q
          · have q : upd W2.F A (.lst vs') a = some u := q
            rw [upd_ne z] at q
            exact ok2.f a u q
        · have q : W1.P a = some u := q
          have z : a ≠ A := ne_of_none q hAP
          have q2 := ok2.p a u (by rw [hP2, upd_ne z]; exact q)
          refine ⟨q2.1, ?_⟩
          show upd W2.F A (.lst vs') a = none
          rw [upd_ne z]
          exact q2.2
        · have z := hnA i a q
          refine ⟨?_, ?_⟩
          · show upd W2.F A (.lst vs') a = none
            rw [upd_ne z]
            exact (ok2.m i a q).1
          · have q3 := (ok2.m i a q).2
            rw [hP2, upd_ne z] at q3
            exact q3
        · obtain ⟨us, q4, q5⟩ := ok2.c i a es q1 q2
          exact ⟨us, q4, q5.mono lF⟩
      · have n : W2.F A = none := (ok2.p A _ (by rw [hP2]; exact upd_same)).2
        simp only [Rep]
        refine ⟨A, vs', rfl, .inl (.inl upd_same), Reps.mono (W := W2) (W' := { W2 with F := upd W2.F A (.lst vs'), P := W1.P }) ⟨fun a u q => ?_, fun _ _ q => q⟩ ra⟩
        show upd W2.F A (.lst vs') a = some u
        rw [upd_ne (ne_of_none (show W2.F a = some u from q) n)]
        exact q
theorem de_lc {elt tg iter : Expr} {ifs : List Expr} {scope : Scope} {own : List (Str × Nat)} {pos : Pos} {q : Bool} {fi : IF} {t : TF} {ix : List Nat} {fc fe : EF} (hc : X.calm = true) (hN : X.N.Nodup) (hi : PI X tg iter (dIQ Γ ξ fi E)) (ok : BlkOk X.N X.env.scope scope own)
    (hg : ∀ (s : Shared) (H : Hp) (C : Addr) (cl : List (Str × Addr)) (fp : List Addr), PG (X.blk s H scope (PySem.compEnvC scope cl C X.env) fp) tg (dG Γ ξ t ix)) (ht : ∀ (s : Shared) (H : Hp) (C : Addr) (cl : List (Str × Addr)) (fp : List Addr), PTs (X.blk s H scope (PySem.compEnvC scope cl C X.env) fp) ifs (dT Γ ξ fc E0))
    (he : ∀ (s : Shared) (H : Hp) (C : Addr) (cl : List (Str × Addr)) (fp : List Addr), PE (X.blk s H scope (PySem.compEnvC scope cl C X.env) fp) elt (dE Γ ξ fe E0)) (hix : ∀ j ∈ ix, j ∈ own.map (·.2) := by decide) (hs : ∀ x, foldedSetIterable iter X.env x = pure x := by intro _; rfl) :
    PE X (.ListComp elt [⟨tg, iter, ifs, 0⟩] scope pos) (dE Γ ξ (eLc q (own.map (·.2)) fi t fc fe) E) := (pe_lc hc hN hi ok hg ht he hs).imp fun σ H Q h => tLc_of hix h
theorem ds_setLc {i : Nat} {y : Str} {py : Pos} {elt tg iter : Expr} {ifs : List Expr} {scope : Scope} {own : List (Str × Nat)} {pos spos : Pos} {q : Bool} {fi : IF} {t : TF} {ix : List Nat} {fc fe : EF} (hc : X.calm = true) (hN : X.N.Nodup) (hi : PI X tg iter (dIQ Γ ξ fi E)) (ok : BlkOk X.N X.env.scope scope own)
    (hg : ∀ (s : Shared) (H : Hp) (C : Addr) (cl : List (Str × Addr)) (fp : List Addr), PG (X.blk s H scope (PySem.compEnvC scope cl C X.env) fp) tg (dG Γ ξ t ix)) (ht : ∀ (s : Shared) (H : Hp) (C : Addr) (cl : List (Str × Addr)) (fp : List Addr), PTs (X.blk s H scope (PySem.compEnvC scope cl C X.env) fp) ifs (dT Γ ξ fc E0))
    (he : ∀ (s : Shared) (H : Hp) (C : Addr) (cl : List (Str × Addr)) (fp : List Addr), PE (X.blk s H scope (PySem.compEnvC scope cl C X.env) fp) elt (dE Γ ξ fe E0))
    (P : PS X (.Assign [.Name y py] (.ListComp elt [⟨tg, iter, ifs, 0⟩] scope pos) spos) (tAsg (tLc (dIQ Γ ξ fi E) (dG Γ ξ t ix) (dT Γ ξ fc E0) (dE Γ ξ fe E0) (own.map (·.2))) (gName i))) (hix : ∀ j ∈ ix, j ∈ own.map (·.2) := by decide) :
    PS X (.Assign [.Name y py] (.ListComp elt [⟨tg, iter, ifs, 0⟩] scope pos) spos) (dS Γ ξ (sAsg (tgN i) (eLc q (own.map (·.2)) fi t fc fe)) E) := P.imp fun Dn σ H ⟨W, es, S, P0, ok, fr, h⟩ =>
  tLc_of hix ⟨W, es, S, P0, ok, fr, ContS.toS fr h fun d S1 W1 v H1 le ok1 rv h1 => by
    obtain ⟨W', e, ok', fr'⟩ := Frame.set ok1 (fr.le le) rv i
    exact h1 W' _ H1 e.le ok' fr'⟩
end
end DL
set_option Elab.async false
set_option linter.all false
set_option maxRecDepth 100000
set_option maxHeartbeats 2000000
set_option autoImplicit false
/-! The data layer, 5: what may be read of the frame's own lists, items, built-ins, the frame's own lists grown, cells stored. -/
namespace DL
open PySem L2

section
variable {Γ : Pg} {ξ : Xx} {X : Cx} {E : WX}
/-! ### a value that is only read -/
def RepT (Γ : Pg) (W : Wd) (d : D) (v : V) : Prop := Rep Γ W d v ∨ ∃ a vs ds, d = .lst ds ∧ v = .ref a ∧ W.P a = some (.lst vs) ∧ Reps Γ W ds vs
theorem RepT.mono {W W' : Wd} {d : D} {v : V} (h : RepT Γ W d v) (l : Le W W') : RepT Γ W' d v := by
  rcases h with h | ⟨a, vs, ds, h1, h2, h3, h4⟩
  · exact .inl (h.mono l.s)
  · exact .inr ⟨a, vs, ds, h1, h2, by rw [l.p]; exact h3, h4.mono l.s⟩
def ContV (Γ : Pg) (r : Res) (W : Wd) (Q : VK) (E : XK) : Prop := match r with
  | .ok d S => ∀ W' v H', Le W W' → Ok Γ W' S H' → RepT Γ W' d v → Q v H'
  | .exc k fs S => ∀ W' d H', Le W W' → Ok Γ W' S H' → RepX (Γ := Γ) W' fs d → E (.ref (Γ.cl k)) d H'
  | .bad => False
def dV (Γ : Pg) (ξ : Xx) (f : EF) (E : WX) : TE := fun σ H Q => ∃ W es S P0, Ok Γ W S H ∧ Frame Γ ξ W es σ P0 ∧ ContV Γ (f es S) W Q (at_ E σ)
theorem dv_of {e : Expr} {f : EF} (h : PE X e (dE Γ ξ f E)) : PE X e (dV Γ ξ f E) := h.imp fun σ H Q ⟨W, es, S, P0, ok, fr, h⟩ => ⟨W, es, S, P0, ok, fr, by
  cases e : f es S with
  | ok d S => rw [e] at h; exact fun W' v H' l o r => h W' v H' l o (.inl r)
  | exc k fs S => rw [e] at h; exact h
  | bad => rw [e] at h; exact h⟩
def eVarT (i : Nat) : EF := fun es S => match es[i]? with
  | some (.val d) => .ok d S
  | some (.acc ds) => .ok (.lst ds) S
  | _ => .bad
theorem dv_var (i : Nat) {x : Str} {pos : Pos} (hN : X.N[i]? = some x := by rfl) (hv : Vis X.env.scope x := by first | exact Or.inl rfl | exact Or.inr (Or.inl rfl) | exact Or.inr (Or.inr rfl)) (hd : (x == ("__debug__" : Str)) = false := by decide)
    (hcd : (x == ("__classdict__" : Str)) = false := by decide) : PE X (.Name x pos) (dV Γ ξ (eVarT i) E) := (pe_var hN hv hd hcd).imp fun σ H Q ⟨W, es, S, P0, ok, ⟨own, fr, o⟩, h⟩ => by
  unfold eVarT at h
  cases hi : es[i]? with
  | none => rw [hi] at h; exact h.elim
  | some sd =>
    rw [hi] at h
    cases sd with
    | no => exact h.elim
    | exn k fs => exact h.elim
    | slf => exact h.elim
    | acc ds =>
      obtain ⟨a, vs, h1, h2, h3⟩ := fr.acc hi
      exact ⟨.ref a, h1, h W _ H (Le.refl W) ok (.inr ⟨a, vs, ds, rfl, rfl, (o.at_ _ h3).2, h2⟩)⟩
    | val d =>
      obtain ⟨v, h1, h2⟩ := fr.val hi
      exact ⟨v, h1, h W v H (Le.refl W) ok (.inl h2)⟩
theorem ContV.bind {r : Res} {k : D → Store → Res} {W : Wd} {Q Q1 : VK} {E : XK} (h : Cont Γ (r.bind k) W Q E)
    (q : ∀ d S1 W1 v H1, Le W W1 → Ok Γ W1 S1 H1 → RepT Γ W1 d v → Cont Γ (k d S1) W1 Q E → Q1 v H1) : ContV Γ r W Q1 E := by
  cases r with
  | ok d S => exact fun W1 v H1 l o r => q d S W1 v H1 l o r (Cont.le h l)
  | exc c fs S => exact h
  | bad => exact h
def rV2 (Γ : Pg) (g : D → D → Store → Res) : R2 := fun x y H Q => ∃ W S a b, Ok Γ W S H ∧ RepT Γ W a x ∧ Rep Γ W b y ∧ Cont Γ (g a b S) W Q (fun _ _ _ => False)
theorem tOpV_of {g : D → D → Store → Res} {fa fb : EF} {σ : L2.St} {H : Hp} {Q : VK} (h : dE Γ ξ (eOp2 g fa fb) E σ H Q) : tOp (rV2 Γ g) (dV Γ ξ fa E) (dE Γ ξ fb E) σ H Q := by
  obtain ⟨W, es, S, P0, ok, fr, h⟩ := h
  refine ⟨W, es, S, P0, ok, fr, ContV.bind h fun d S1 W1 v H1 le ok1 rv h1 => ?_⟩
  refine ⟨W1, es, S1, P0, ok1, fr.le le, h1.bind fun d2 S2 W2 v2 H2 le2 ok2 rv2 h2 => ?_⟩
  exact ⟨W2, S2, d, d2, ok2, rv.mono le2, rv2, h2.nox⟩
/-- read as a list -/
theorem asL {W : Wd} {S : Store} {H : Hp} {d : D} {ds : List D} {v : V} (ok : Ok Γ W S H) (r : RepT Γ W d v) (h : deref S d = .lst ds) : ∃ a vs, v = .ref a ∧ SqL Γ.K H a vs ∧ Reps Γ W ds vs := by
  rcases r with r | ⟨a, vs, ds', rfl, rfl, h3, h4⟩
  · cases d with
    | cell i =>
      simp only [Rep] at r
      obtain ⟨a, rfl, h2⟩ := r
      obtain ⟨ds', vs, h3, h4, h5⟩ := ok.cell h2
      simp only [deref, h3] at h
      cases h
      exact ⟨a, vs, rfl, .inl (.inl h4), h5⟩
    | lst ds' =>
      cases h
      simp only [Rep] at r
      obtain ⟨a, vs, rfl, h1, h2⟩ := r
      exact ⟨a, vs, rfl, sqL_H ok.f h1, h2⟩
    | _ => cases h
  · cases h
    exact ⟨a, vs, rfl, .inl (.inl (ok.p _ _ h3).1), h4⟩
theorem asT {W : Wd} {S : Store} {H : Hp} {d : D} {ds : List D} {v : V} (ok : Ok Γ W S H) (r : RepT Γ W d v) (h : deref S d = .tup ds) : ∃ a vs, v = .ref a ∧ SqT Γ.K H a vs ∧ Reps Γ W ds vs := by
  rcases r with r | ⟨a, vs, ds', rfl, rfl, h3, h4⟩
  · cases d with
    | cell i =>
      simp only [deref] at h
      split at h <;> cases h
    | tup ds' =>
      cases h
      simp only [Rep] at r
      obtain ⟨a, vs, rfl, h1, h2⟩ := r
      exact ⟨a, vs, rfl, sqT_H ok.f h1, h2⟩
    | _ => cases h
  · cases h
theorem asS {W : Wd} {S : Store} {d : D} {z : Str} {v : V} (r : RepT Γ W d v) (h : deref S d = .str z) : v = .str z := by
  rcases r with r | ⟨a, vs, ds', rfl, rfl, h3, h4⟩
  · cases d with
    | cell i =>
      simp only [deref] at h
      split at h <;> cases h
    | str y => cases h; simpa only [Rep] using r
    | _ => cases h
  · cases h

/-! ### items -/
theorem Reps.atI {W : Wd} {ds : List D} {vs : List V} {i : Int} {d : D} (r : Reps Γ W ds vs) (h : L2.atI ds i = some d) : ∃ v, L2.atI vs i = some v ∧ Rep Γ W d v := by
  unfold L2.atI at h ⊢
  rw [r.length]
  rw [Option.bind_eq_some_iff] at h
  obtain ⟨j, h1, h2⟩ := h
  obtain ⟨v, h3, h4⟩ := r.get h2
  exact ⟨v, by rw [h1]; exact h3, h4⟩
def gIx : D → D → Store → Res := fun x y S => match deref S x, y with
  | .lst ds, .int i => match L2.atI ds i with
    | some d => .ok d S
    | none => .bad
  | .tup ds, .int i => match L2.atI ds i with
    | some d => .ok d S
    | none => .bad
  | .str z, .int i => match L2.atI z.cps.toList i with
    | some c => if z.length ≤ 16777216 then .ok (.str ⟨#[c]⟩) S else .bad
    | none => .bad
  | _, _ => .bad
theorem ix_gIx (hK : X.K = Γ.K) : IxR X (rV2 Γ gIx) := by
  intro value slice pins s σ H x y v u Q I rx ry ⟨W, S, a, b, ok, ra, rb, h⟩ hs
  unfold gIx at h
  split at h
  · rename_i ds i hd
    simp only [Rep] at rb
    subst rb
    obtain ⟨p, vs, rfl, h1, h2⟩ := asL ok ra hd
    split at h
    · rename_i d hi
      obtain ⟨w, h3, h4⟩ := h2.atI hi
      exact ix_list value slice pins s σ H _ _ v u Q I rx ry ⟨p, vs, i, w, rfl, rfl, by rw [hK]; exact h1, h3, h W _ H (Le.refl W) ok h4⟩ hs
    · exact h.elim
  · rename_i ds i hd
    simp only [Rep] at rb
    subst rb
    obtain ⟨p, vs, rfl, h1, h2⟩ := asT ok ra hd
    split at h
    · rename_i d hi
      obtain ⟨w, h3, h4⟩ := h2.atI hi
      exact ix_tup value slice pins s σ H _ _ v u Q I rx ry ⟨p, vs, i, w, rfl, rfl, by rw [hK]; exact h1, h3, h W _ H (Le.refl W) ok h4⟩ hs
    · exact h.elim
  · rename_i z i hd
    simp only [Rep] at rb
    subst rb
    obtain rfl := asS ra hd
    split at h
    · rename_i c hi
      split at h
      · rename_i hz
        exact ix_str value slice pins s σ H _ _ v u Q I rx ry ⟨z, i, c, rfl, rfl, by rw [sizeLine_eq]; exact hz, hi, h W _ H (Le.refl W) ok (by simp only [Rep])⟩ hs
      · exact h.elim
    · exact h.elim
  · exact h.elim
theorem de_ix {a b : Expr} {fa fb : EF} {pos : Pos} (hK : X.K = Γ.K) (ha : PE X a (dV Γ ξ fa E)) (hb : PE X b (dE Γ ξ fb E)) (hs : PlainIx b := by exact fun _ _ => rfl) : PE X (.Subscript a b pos) (dE Γ ξ (eOp2 gIx fa fb) E) := (pe_ix (ix_gIx hK) ha hb hs).imp fun σ H Q h => tOpV_of h

/-! ### calls of built-ins -/
def rC1 (Γ : Pg) (g : D → Store → Res) : List V → Hp → VK → Prop := fun vs H Q => ∃ x W S d, vs = [x] ∧ Ok Γ W S H ∧ RepT Γ W d x ∧ Cont Γ (g d S) W Q (fun _ _ _ => False)
theorem tC1_of {g : D → Store → Res} {f : EF} {σ : L2.St} {H : Hp} {Q : VK} (h : dE Γ ξ (eOp1 g f) E σ H Q) : tCB (rC1 Γ g) (tCons (dV Γ ξ f E) tNil) σ H Q := by
  obtain ⟨W, es, S, P0, ok, fr, h⟩ := h
  exact ⟨W, es, S, P0, ok, fr, ContV.bind h fun d S1 W1 v H1 le ok1 rv h1 => ⟨v, W1, S1, d, rfl, ok1, rv, h1.nox⟩⟩
section
variable {x : Str} {p pos : Pos} {a b : Expr} {f fa fb : EF} {id T : String}
theorem de_b1 {g : D → Store → Res} (hc : CallR X (.builtin id) (rC1 Γ g)) (hm : X.mg x = none) (hv : bootBuiltins x = some (.builtin id)) (ha : PE X a (dV Γ ξ f E)) (hg : Gl X x := by rfl) (hn : x ≠ "__name__" := by decide) (hdb : (x == ("__debug__" : Str)) = false := by decide)
    (he : starEach (a :: []) X.env = (false, eval a X.env) :: starEach [] X.env := by rfl) (hpl : (backTo pos (starEach [] X.env)).any (·.1) = false := by rfl) : PE X (.Call (.Name x p) [a] [] pos) (dE Γ ξ (eOp1 g f) E) :=
  (pe_callB hc hg hm hv (pa_cons ha pa_nil he) hn hdb (he := he) (hpl := hpl)).imp fun σ H Q h => tC1_of h
theorem de_t1 {g : D → Store → Res} (hc : CallR X (.type T) (rC1 Γ g)) (hm : X.mg x = none) (hv : bootBuiltins x = some (.type T)) (ha : PE X a (dV Γ ξ f E)) (hg : Gl X x := by rfl) (hn : x ≠ "__name__" := by decide) (hdb : (x == ("__debug__" : Str)) = false := by decide)
    (he : starEach (a :: []) X.env = (false, eval a X.env) :: starEach [] X.env := by rfl) (hpl : (backTo pos (starEach [] X.env)).any (·.1) = false := by rfl) : PE X (.Call (.Name x p) [a] [] pos) (dE Γ ξ (eOp1 g f) E) :=
  (pe_callTy hc hg hm hv (pa_cons ha pa_nil he) hn hdb (he := he) (hpl := hpl)).imp fun σ H Q h => tC1_of h
def rC2 (Γ : Pg) (g : D → D → Store → Res) : List V → Hp → VK → Prop := fun vs H Q => ∃ x y W S a b, vs = [x, y] ∧ Ok Γ W S H ∧ Rep Γ W a x ∧ Rep Γ W b y ∧ Cont Γ (g a b S) W Q (fun _ _ _ => False)
theorem tC2_of {g : D → D → Store → Res} {σ : L2.St} {H : Hp} {Q : VK} (h : dE Γ ξ (eOp2 g fa fb) E σ H Q) : tCB (rC2 Γ g) (tCons (dE Γ ξ fa E) (tCons (dE Γ ξ fb E) tNil)) σ H Q := by
  obtain ⟨W, es, S, P0, ok, fr, h⟩ := h
  refine ⟨W, es, S, P0, ok, fr, h.bind fun d S1 W1 v H1 le ok1 rv h1 => ?_⟩
  exact ⟨W1, es, S1, P0, ok1, fr.le le, h1.bind fun d2 S2 W2 v2 H2 le2 ok2 rv2 h2 => ⟨v, v2, W2, S2, d, d2, rfl, ok2, rv.mono le2.s, rv2, h2.nox⟩⟩
theorem de_b2 {g : D → D → Store → Res} (hc : CallR X (.builtin id) (rC2 Γ g)) (hm : X.mg x = none) (hv : bootBuiltins x = some (.builtin id)) (ha : PE X a (dE Γ ξ fa E)) (hb : PE X b (dE Γ ξ fb E)) (hg : Gl X x := by rfl) (hn : x ≠ "__name__" := by decide) (hdb : (x == ("__debug__" : Str)) = false := by decide)
    (he : starEach (a :: [b]) X.env = (false, eval a X.env) :: starEach [b] X.env := by rfl) (he2 : starEach (b :: []) X.env = (false, eval b X.env) :: starEach [] X.env := by rfl) (hpl : (backTo pos (starEach [b] X.env)).any (·.1) = false := by rfl) : PE X (.Call (.Name x p) [a, b] [] pos) (dE Γ ξ (eOp2 g fa fb) E) :=
  (pe_callB hc hg hm hv (pa_cons ha (pa_cons hb pa_nil he2) he) hn hdb (he := he) (hpl := hpl)).imp fun σ H Q h => tC2_of h
end
def gLen : D → Store → Res := fun x S => match deref S x with
  | .lst ds => .ok (.int ds.length) S
  | .tup ds => .ok (.int ds.length) S
  | .str z => if z.length ≤ 16777216 then .ok (.int z.length) S else .bad
  | _ => .bad
theorem cr_len (hK : X.K = Γ.K) : CallR X (.builtin "len") (rC1 Γ gLen) := by
  intro pins s σ H vs us Q I r ⟨x, W, S, d, e, ok, rd, h⟩
  subst e
  unfold gLen at h
  split at h
  · rename_i ds hd
    obtain ⟨p, vs, rfl, h1, h2⟩ := asL ok rd hd
    exact call_len_seq pins s σ H _ us Q I r ⟨p, vs, rfl, .inl (by rw [hK]; exact h1), by rw [h2.length]; exact h W _ H (Le.refl W) ok (by simp only [Rep])⟩
  · rename_i ds hd
    obtain ⟨p, vs, rfl, h1, h2⟩ := asT ok rd hd
    exact call_len_seq pins s σ H _ us Q I r ⟨p, vs, rfl, .inr (by rw [hK]; exact h1), by rw [h2.length]; exact h W _ H (Le.refl W) ok (by simp only [Rep])⟩
  · rename_i z hd
    obtain rfl := asS rd hd
    split at h
    · rename_i hz
      exact call_len_str pins s σ H _ us Q I r ⟨z, rfl, by rw [sizeLine_eq]; exact hz, h W _ H (Le.refl W) ok (by simp only [Rep])⟩
    · exact h.elim
  · exact h.elim
def gAbs : D → Store → Res := fun x S => match x with
  | .int i => .ok (.int (if i < 0 then -i else i)) S
  | _ => .bad
theorem RepT.int {W : Wd} {i : Int} {v : V} (r : RepT Γ W (.int i) v) : v = .int i := by
  rcases r with r | ⟨a, vs, ds', h, _⟩
  · simpa only [Rep] using r
  · cases h
theorem RepT.str {W : Wd} {i : Str} {v : V} (r : RepT Γ W (.str i) v) : v = .str i := by
  rcases r with r | ⟨a, vs, ds', h, _⟩
  · simpa only [Rep] using r
  · cases h
theorem cr_abs : CallR X (.builtin "abs") (rC1 Γ gAbs) := by
  intro pins s σ H vs us Q I r ⟨x, W, S, d, e, ok, rd, h⟩
  subst e
  unfold gAbs at h
  split at h
  · rename_i i
    obtain rfl := rd.int
    exact call_abs pins s σ H _ us Q I r ⟨i, rfl, h W _ H (Le.refl W) ok (by simp only [Rep])⟩
  · exact h.elim
/-- str of an int, of a text -/
def gStr : D → Store → Res := fun x S => match x with
  | .int i => if i.natAbs.log2 < 1920 then .ok (.str (toString i)) S else .bad
  | _ => .bad
theorem cr_str : CallR X (.type "str") (rC1 Γ gStr) := by
  intro pins s σ H vs us Q I r ⟨x, W, S, d, e, ok, rd, h⟩
  subst e
  unfold gStr at h
  split at h
  · rename_i i
    obtain rfl := rd.int
    split at h
    · rename_i hi
      exact call_str_int pins s σ H _ us Q I r ⟨i, rfl, hi, h W _ H (Le.refl W) ok (by simp only [Rep])⟩
    · exact h.elim
  · exact h.elim
/-- int of a text -/
def gInt : D → Store → Res := fun x S => match x with
  | .str z => match PySem.intText? z with
    | some n => if z.length ≤ 640 then .ok (.int n) S else .bad
    | none => .bad
  | _ => .bad
theorem cr_int : CallR X (.type "int") (rC1 Γ gInt) := by
  intro pins s σ H vs us Q I r ⟨x, W, S, d, e, ok, rd, h⟩
  subst e
  unfold gInt at h
  split at h
  · rename_i z
    obtain rfl := rd.str
    split at h
    · rename_i n hn
      split at h
      · rename_i hz
        exact call_int_str pins s σ H _ us Q I r ⟨z, n, rfl, hn, hz, h W _ H (Le.refl W) ok (by simp only [Rep])⟩
      · exact h.elim
    · exact h.elim
  · exact h.elim
def gMax : D → D → Store → Res := fun x y S => match x, y with
  | .int i, .int j => .ok (.int (if j > i then j else i)) S
  | _, _ => .bad
def gMin : D → D → Store → Res := fun x y S => match x, y with
  | .int i, .int j => .ok (.int (if j < i then j else i)) S
  | _, _ => .bad
theorem cr_max (hc : X.calm = true) : CallR X (.builtin "max") (rC2 Γ gMax) := by
  intro pins s σ H vs us Q I r ⟨x, y, W, S, a, b, e, ok, ra, rb, h⟩
  subst e
  unfold gMax at h
  split at h
  · simp only [Rep] at ra rb
    subst ra rb
    exact call_max2 hc pins s σ H _ us Q I r ⟨_, _, rfl, h W _ H (Le.refl W) ok (by simp only [Rep])⟩
  · exact h.elim
theorem cr_min (hc : X.calm = true) : CallR X (.builtin "min") (rC2 Γ gMin) := by
  intro pins s σ H vs us Q I r ⟨x, y, W, S, a, b, e, ok, ra, rb, h⟩
  subst e
  unfold gMin at h
  split at h
  · simp only [Rep] at ra rb
    subst ra rb
    exact call_min2 hc pins s σ H _ us Q I r ⟨_, _, rfl, h W _ H (Le.refl W) ok (by simp only [Rep])⟩
  · exact h.elim
/-- any, all of a list of truths -/
def asB : List D → Option (List Bool)
  | [] => some []
  | .bl b :: ds => (asB ds).map fun bs => b :: bs
  | _ :: _ => none
theorem asB_reps {W : Wd} : ∀ {ds : List D} {bs : List Bool} {vs : List V}, asB ds = some bs → Reps Γ W ds vs → vs = bs.map V.bl
  | [], bs, vs, h, r => by
    cases h
    simp only [Reps] at r
    subst r
    rfl
  | .bl b :: ds, bs, vs, h, r => by
    simp only [asB, Option.map_eq_some_iff] at h
    obtain ⟨bs', h1, rfl⟩ := h
    simp only [Reps, Rep] at r
    obtain ⟨_, vs', rfl, rfl, r2⟩ := r
    rw [asB_reps h1 r2]
    rfl
  | .non :: ds, bs, vs, h, r => by cases h
  | .int _ :: ds, bs, vs, h, r => by cases h
  | .str _ :: ds, bs, vs, h, r => by cases h
  | .ty _ :: ds, bs, vs, h, r => by cases h
  | .cls _ :: ds, bs, vs, h, r => by cases h
  | .cell _ :: ds, bs, vs, h, r => by cases h
  | .lst _ :: ds, bs, vs, h, r => by cases h
  | .tup _ :: ds, bs, vs, h, r => by cases h
  | .obj _ _ :: ds, bs, vs, h, r => by cases h
  | .dct _ _ :: ds, bs, vs, h, r => by cases h
def gAny : D → Store → Res := fun x S => match deref S x with
  | .lst ds => match asB ds with
    | some bs => .ok (.bl (bs.any fun b => b)) S
    | none => .bad
  | _ => .bad
def gAll : D → Store → Res := fun x S => match deref S x with
  | .lst ds => match asB ds with
    | some bs => .ok (.bl (bs.all fun b => b)) S
    | none => .bad
  | _ => .bad
theorem cr_gAny (hK : X.K = Γ.K) (hc : X.calm = true) : CallR X (.builtin "any") (rC1 Γ gAny) := by
  intro pins s σ H vs us Q I r ⟨x, W, S, d, e, ok, rd, h⟩
  subst e
  unfold gAny at h
  split at h
  · rename_i ds hd
    obtain ⟨p, vs, rfl, h1, h2⟩ := asL ok rd hd
    split at h
    · rename_i bs hb
      obtain rfl := asB_reps hb h2
      exact cr_any hc pins s σ H _ us Q I r ⟨p, bs, rfl, by rw [hK]; exact h1, h W _ H (Le.refl W) ok (by simp only [Rep]; rfl)⟩
    · exact h.elim
  · exact h.elim
theorem cr_gAll (hK : X.K = Γ.K) (hc : X.calm = true) : CallR X (.builtin "all") (rC1 Γ gAll) := by
  intro pins s σ H vs us Q I r ⟨x, W, S, d, e, ok, rd, h⟩
  subst e
  unfold gAll at h
  split at h
  · rename_i ds hd
    obtain ⟨p, vs, rfl, h1, h2⟩ := asL ok rd hd
    split at h
    · rename_i bs hb
      obtain rfl := asB_reps hb h2
      exact cr_all hc pins s σ H _ us Q I r ⟨p, bs, rfl, by rw [hK]; exact h1, h W _ H (Le.refl W) ok (by simp only [Rep]; rfl)⟩
    · exact h.elim
  · exact h.elim
/-- tuple(x), list(x) -/
def gTupOf : D → Store → Res := fun x S => match deref S x with
  | .lst ds => .ok (.tup ds) S
  | .tup ds => .ok (.tup ds) S
  | _ => .bad
def gListOf : D → Store → Res := fun x S => match deref S x with
  | .lst ds => .ok (.lst ds) S
  | .tup ds => .ok (.lst ds) S
  | _ => .bad
theorem cr_tuple (hK : X.K = Γ.K) : CallR X (.type "tuple") (rC1 Γ gTupOf) := by
  intro pins s σ H vs us Q I r ⟨x, W, S, d, e, ok, rd, h⟩
  subst e
  unfold gTupOf at h
  split at h
  · rename_i ds hd
    obtain ⟨p, vs, rfl, h1, h2⟩ := asL ok rd hd
    refine call_tuple_of pins s σ H _ us Q I r ⟨p, vs, rfl, .inl ⟨by rw [hK]; exact h1, fun l hl => ?_⟩⟩
    have le := Le.lay (o := .tup vs) (ok.fresh hl).1
    exact h _ _ _ le (ok.lay hl _) (rep_tup (h2.mono le.s))
  · rename_i ds hd
    obtain ⟨p, vs, rfl, h1, h2⟩ := asT ok rd hd
    refine call_tuple_of pins s σ H _ us Q I r ⟨p, vs, rfl, .inr ⟨by rw [hK]; exact h1, ?_⟩⟩
    rcases rd with rd | ⟨_, _, _, rfl, _⟩
    · refine h W _ H (Le.refl W) ok ?_
      cases d with
      | tup ds' => cases hd; exact rd
      | cell i => simp only [deref] at hd; split at hd <;> cases hd
      | _ => cases hd
    · cases hd
  · exact h.elim
theorem cr_list (hK : X.K = Γ.K) : CallR X (.type "list") (rC1 Γ gListOf) := by
  intro pins s σ H vs us Q I r ⟨x, W, S, d, e, ok, rd, h⟩
  subst e
  have go : ∀ {p : Addr} {vs : List V} {ds : List D}, (SqL Γ.K H p vs ∨ SqT Γ.K H p vs) → Reps Γ W ds vs → x = .ref p → Cont Γ (.ok (.lst ds) S) W Q (fun _ _ _ => False) → wpAny (model X.prog X.w) X.A (call (.type "list") us) (EP X pins σ Q) X.xe s := fun {p vs ds} h1 h2 hx h => by
    subst hx
    refine call_list_of pins s σ H _ us Q I r ⟨p, vs, rfl, by rw [hK]; exact h1, fun l hl => ?_⟩
    have le := Le.lay (o := .lst vs) (ok.fresh hl).1
    exact h _ _ _ le (ok.lay hl _) (rep_lst (h2.mono le.s))
  unfold gListOf at h
  split at h
  · rename_i ds hd
    obtain ⟨p, vs, hx, h1, h2⟩ := asL ok rd hd
    exact go (.inl h1) h2 hx h
  · rename_i ds hd
    obtain ⟨p, vs, hx, h1, h2⟩ := asT ok rd hd
    exact go (.inr h1) h2 hx h
  · exact h.elim

/-! ### a list of the frame's own is made, grown -/
theorem SlotsR.setAcc {W : Wd} {ds : List D} {vs : List V} {a : Addr} (r : Reps Γ W ds vs) : ∀ {es : List SD} {σ : L2.St} {own : List (Addr × HO)} (i : Nat), SlotsR Γ ξ W es σ own → (own.map (·.1)).Nodup → a ∉ own.map (·.1) →
    ∃ own', SlotsR Γ ξ W (es.set i (.acc ds)) (σ.set i (some (.ref a))) own' ∧ (own'.map (·.1)).Nodup ∧ ∀ p ∈ own', p ∈ own ∨ p = (a, .lst vs)
  | [], σ, own, i, h, nd, _ => ⟨own, by obtain ⟨rfl, rfl⟩ := h; exact ⟨rfl, rfl⟩, nd, fun p hp => .inl hp⟩
  | .no :: es, σ, own, i, h, nd, na => by
    obtain ⟨o, σ', rfl, h2⟩ := h
    cases i with
    | zero => exact ⟨(a, .lst vs) :: own, ⟨a, vs, σ', own, rfl, rfl, r, h2⟩, List.nodup_cons.mpr ⟨na, nd⟩, fun p hp => (List.mem_cons.mp hp).elim .inr .inl⟩
    | succ i =>
      obtain ⟨own', h3, h4, h5⟩ := SlotsR.setAcc r i h2 nd na
      exact ⟨own', ⟨o, _, rfl, h3⟩, h4, h5⟩
  | .val d0 :: es, σ, own, i, h, nd, na => by
    obtain ⟨v0, σ', rfl, h2, h3⟩ := h
    cases i with
    | zero => exact ⟨(a, .lst vs) :: own, ⟨a, vs, σ', own, rfl, rfl, r, h3⟩, List.nodup_cons.mpr ⟨na, nd⟩, fun p hp => (List.mem_cons.mp hp).elim .inr .inl⟩
    | succ i =>
      obtain ⟨own', h4, h5, h6⟩ := SlotsR.setAcc r i h3 nd na
      exact ⟨own', ⟨v0, _, rfl, h2, h4⟩, h5, h6⟩
  | .acc ds0 :: es, σ, own, i, h, nd, na => by
    obtain ⟨b, ws, σ', own0, rfl, rfl, h3, h4⟩ := h
    have nd' := List.nodup_cons.mp nd
    have na' : a ∉ own0.map (·.1) := fun q => na (List.mem_cons_of_mem _ q)
    cases i with
    | zero => exact ⟨(a, .lst vs) :: own0, ⟨a, vs, σ', own0, rfl, rfl, r, h4⟩, List.nodup_cons.mpr ⟨na', nd'.2⟩, fun p hp => (List.mem_cons.mp hp).elim .inr fun q => .inl (List.mem_cons_of_mem _ q)⟩
    | succ i =>
      obtain ⟨own', h5, h6, h7⟩ := SlotsR.setAcc r i h4 nd'.2 na'
      refine ⟨(b, .lst ws) :: own', ⟨b, ws, _, own', rfl, rfl, h3, h5⟩, List.nodup_cons.mpr ⟨fun q => ?_, h6⟩, fun p hp => ?_⟩
      · obtain ⟨p, hp, e⟩ := List.mem_map.mp q
        rcases h7 p hp with h | h
        · exact nd'.1 (List.mem_map.mpr ⟨p, h, e⟩)
        · rw [h] at e
          exact na (by rw [show a = b from e]; exact List.mem_cons_self)
      · rcases List.mem_cons.mp hp with h | h
        · exact .inl (by rw [h]; exact List.mem_cons_self)
        · exact (h7 p h).elim (fun q => .inl (List.mem_cons_of_mem _ q)) .inr
  | .exn k fs :: es, σ, own, i, h, nd, na => by
    obtain ⟨σ', rfl, h2, h3, h4⟩ := h
    cases i with
    | zero => exact ⟨(a, .lst vs) :: own, ⟨a, vs, σ', own, rfl, rfl, r, h4⟩, List.nodup_cons.mpr ⟨na, nd⟩, fun p hp => (List.mem_cons.mp hp).elim .inr .inl⟩
    | succ i =>
      obtain ⟨own', h5, h6, h7⟩ := SlotsR.setAcc r i h4 nd na
      exact ⟨own', ⟨_, rfl, h2, h3, h5⟩, h6, h7⟩
  | .slf :: es, σ, own, i, h, nd, na => by
    obtain ⟨σ', rfl, h4⟩ := h
    cases i with
    | zero => exact ⟨(a, .lst vs) :: own, ⟨a, vs, σ', own, rfl, rfl, r, h4⟩, List.nodup_cons.mpr ⟨na, nd⟩, fun p hp => (List.mem_cons.mp hp).elim .inr .inl⟩
    | succ i =>
      obtain ⟨own', h5, h6, h7⟩ := SlotsR.setAcc r i h4 nd na
      exact ⟨own', ⟨_, rfl, h5⟩, h6, h7⟩
/-- what the frame's own lists stand for behind a change at a -/
noncomputable def Wd.own (W : Wd) (own : List (Addr × HO)) (P0 : Hp) (P1 : Hp) : Wd := { W with P := fun b => open Classical in if b ∈ own.map (·.1) then P1 b else P0 b }
theorem Ok.own {W : Wd} {S : Store} {H H1 : Hp} {own own' : List (Addr × HO)} {P0 : Hp} {a : Addr} {vs : List V} (ok : Ok Γ W S H) (o : OwnP W own P0) (hF : W.F a = none) (hM : ∀ (i : Nat) (b : Addr), W.m[i]? = some b → b ≠ a) (h0 : P0 a = none) (hH : H1 = upd H a (.lst vs))
    (nd : (own'.map (·.1)).Nodup) (sub : ∀ p ∈ own', p ∈ own ∧ p.1 ≠ a ∨ p = (a, .lst vs)) : Ok Γ (W.own own' P0 H1) S H1 ∧ OwnP (W.own own' P0 H1) own' P0 := by
  subst hH
  have out : ∀ b, b ∈ own.map (·.1) → P0 b = none := fun b hb => by
    obtain ⟨p, hp, rfl⟩ := List.mem_map.mp hb
    exact (o.at_ p hp).1
  have P0W : ∀ b u, P0 b = some u → W.P b = some u := fun b u e => by
    rw [o.rest b fun hb => ?_]
    · exact e
    · rw [out b hb] at e
      cases e
  have get : ∀ p ∈ own', upd H a (.lst vs) p.1 = some p.2 ∧ W.F p.1 = none ∧ P0 p.1 = none ∧ ∀ (i : Nat) (b : Addr), W.m[i]? = some b → b ≠ p.1 := fun p hp => by
    rcases sub p hp with ⟨h1, h2⟩ | h1
    · obtain ⟨q1, q2⟩ := o.at_ p h1
      obtain ⟨q3, q4⟩ := ok.p _ _ q2
      refine ⟨by rw [upd_ne h2]; exact q3, q4, q1, fun i b q z => ?_⟩
      have := (ok.m i b q).2
      rw [z, q2] at this
      cases this
    · subst h1
      exact ⟨upd_same, hF, h0, hM⟩
  refine ⟨⟨fun b u e => ?_, fun b u e => ?_, fun i b e => ⟨(ok.m i b e).1, ?_⟩, ok.nd, ok.len, fun i b es e1 e2 => ?_⟩, ⟨nd, fun p hp => ⟨(get p hp).2.2.1, ?_⟩, fun b hb => ?_⟩⟩
  · rw [upd_ne (ne_of_none (show W.F b = some u from e) hF)]
    exact ok.f b u e
  · unfold Wd.own at e
    simp only at e
    split at e
    · rename_i hb
      obtain ⟨p, hp, rfl⟩ := List.mem_map.mp hb
      exact ⟨e, (get p hp).2.1⟩
    · have z : b ≠ a := ne_of_none e h0
      rw [upd_ne z]
      exact ok.p b u (P0W b u e)
  · unfold Wd.own
    simp only
    split
    · rename_i hb
      obtain ⟨p, hp, rfl⟩ := List.mem_map.mp hb
      exact absurd rfl ((get p hp).2.2.2 i _ e)
    · cases q : P0 b with
      | none => rfl
      | some u =>
        have := P0W b u q
        rw [(ok.m i b e).2] at this
        cases this
  · obtain ⟨us, q3, q4⟩ := ok.c i b es e1 e2
    exact ⟨us, by rw [upd_ne (hM i b e1)]; exact q3, Reps.mono (W := W) (W' := W.own own' P0 (upd H a (.lst vs))) ⟨fun _ _ h => h, fun _ _ h => h⟩ q4⟩
  · unfold Wd.own
    simp only
    rw [if_pos (List.mem_map.mpr ⟨p, hp, rfl⟩)]
    exact (get p hp).1
  · unfold Wd.own
    simp only
    rw [if_neg hb]
theorem Wd.own_le {W : Wd} {own : List (Addr × HO)} {P0 P1 : Hp} : LeS W (W.own own P0 P1) := ⟨fun _ _ h => h, fun _ _ h => h⟩
def sAcc (i : Nat) (a : AF) : SF := fun es S => match a es S with
  | .ok ds S1 => if ds.length ≤ 1000000 then .next (es.set i (.acc ds)) S1 else .bad
  | .exc k fs S1 => .exc k fs es S1
  | .bad => .bad
theorem ds_acc {i : Nat} {x : Str} {es : List Expr} {a : AF} {pos pos' p2 : Pos} (hN : X.N.Nodup) (ha : PA X es (dA Γ ξ a E)) (hi : X.N[i]? = some x := by rfl) (hx : Loc X.env.scope x := by first | exact Or.inl rfl | exact Or.inr rfl) (hs : swapsWith (.List es p2) (some (.Name x pos')) pos.line X.env = pure false := by rfl)
    (hf : X.fn x = true ∨ X.env.scope.names.lookup x = some .local := by first | exact .inl rfl | exact .inr rfl | assumption) : PS X (.Assign [.Name x pos'] (.List es p2) pos) (dS Γ ξ (sAcc i a) E) :=
  (ps_set hN hi hx (pe_lst ha) hs hf).imp fun Dn σ H ⟨W, es, S, P0, ok, fr, h⟩ => by
    refine ⟨W, es, S, P0, ok, fr, ?_⟩
    unfold sAcc at h
    cases e : a es S with
    | bad => rw [e] at h; exact h.elim
    | exc k fs S1 => rw [e] at h; exact fun W1 d H1 l o rx => h W1 σ d H1 l.s o (fr.le l) rx
    | ok ds S1 =>
      rw [e] at h
      simp only at h
      split at h
      case isFalse => exact h.elim
      rename_i hz
      intro W1 vs H1 l1 ok1 rs
      refine ⟨by rw [rs.length, sizeLine_eq]; omega, fun p hp => ?_⟩
      obtain ⟨hF, hP, hM⟩ := ok1.fresh hp
      obtain ⟨own, fr1, o⟩ := fr.le l1
      have np : p ∉ own.map (·.1) := fun q => by
        obtain ⟨z, hz, rfl⟩ := List.mem_map.mp q
        rw [(o.at_ z hz).2] at hP
        cases hP
      have h0 : P0 p = none := by rw [← o.rest p np]; exact hP
      obtain ⟨own', s1, s2, s3⟩ := SlotsR.setAcc (a := p) rs i fr1 o.nd np
      obtain ⟨k1, k2⟩ := ok1.own (own' := own') (a := p) (vs := vs) o hF hM h0 rfl s2 fun q hq => (s3 q hq).elim (fun z => .inl ⟨z, fun e => np (by rw [← e]; exact List.mem_map.mpr ⟨q, z, rfl⟩)⟩) .inr
      exact h _ _ _ (l1.s.trans Wd.own_le) k1 ⟨own', s1.mono Wd.own_le, k2⟩
theorem SlotsR.grow {W : Wd} {ds : List D} {vs : List V} (r : Reps Γ W ds vs) : ∀ {es : List SD} {σ : L2.St} {own : List (Addr × HO)} {i : Nat} {ds0 : List D}, SlotsR Γ ξ W es σ own → es[i]? = some (.acc ds0) → (own.map (·.1)).Nodup →
    ∃ a vs0 own', σ[i]? = some (some (.ref a)) ∧ Reps Γ W ds0 vs0 ∧ (a, .lst vs0) ∈ own ∧ SlotsR Γ ξ W (es.set i (.acc ds)) σ own' ∧ own'.map (·.1) = own.map (·.1) ∧ ∀ p ∈ own', p ∈ own ∧ p.1 ≠ a ∨ p = (a, .lst vs)
  | [], σ, own, i, _, h, hi, nd => by simp at hi
  | .no :: es, σ, own, i, _, h, hi, nd => by
    obtain ⟨o, σ', rfl, h2⟩ := h
    cases i with
    | zero => simp at hi
    | succ i =>
      obtain ⟨a, vs0, own', q1, q2, q3, q4, q5, q6⟩ := SlotsR.grow r h2 (by simpa using hi) nd
      exact ⟨a, vs0, own', by simpa using q1, q2, q3, ⟨o, _, rfl, q4⟩, q5, q6⟩
  | .val d0 :: es, σ, own, i, _, h, hi, nd => by
    obtain ⟨v0, σ', rfl, h2, h3⟩ := h
    cases i with
    | zero => simp at hi
    | succ i =>
      obtain ⟨a, vs0, own', q1, q2, q3, q4, q5, q6⟩ := SlotsR.grow r h3 (by simpa using hi) nd
      exact ⟨a, vs0, own', by simpa using q1, q2, q3, ⟨v0, _, rfl, h2, q4⟩, q5, q6⟩
  | .acc ds1 :: es, σ, own, i, ds0, h, hi, nd => by
    obtain ⟨b, ws, σ', own0, rfl, rfl, h3, h4⟩ := h
    have nd' := List.nodup_cons.mp nd
    cases i with
    | zero =>
      simp at hi
      subst hi
      exact ⟨b, ws, (b, .lst vs) :: own0, rfl, h3, List.mem_cons_self, ⟨b, vs, σ', own0, rfl, rfl, r, h4⟩, rfl, fun p hp => (List.mem_cons.mp hp).elim .inr fun q => .inl ⟨List.mem_cons_of_mem _ q, fun z => nd'.1 (by rw [← z]; exact List.mem_map.mpr ⟨p, q, rfl⟩)⟩⟩
    | succ i =>
      obtain ⟨a, vs0, own', q1, q2, q3, q4, q5, q6⟩ := SlotsR.grow r h4 (by simpa using hi) nd'.2
      have ne : b ≠ a := fun z => nd'.1 (by rw [z]; exact List.mem_map.mpr ⟨_, q3, rfl⟩)
      refine ⟨a, vs0, (b, .lst ws) :: own', by simpa using q1, q2, List.mem_cons_of_mem _ q3, ⟨b, ws, _, own', rfl, rfl, h3, q4⟩, by simp only [List.map_cons]; rw [q5], fun p hp => ?_⟩
      rcases List.mem_cons.mp hp with z | z
      · rw [z]
        exact .inl ⟨List.mem_cons_self, ne⟩
      · exact (q6 p z).elim (fun q => .inl ⟨List.mem_cons_of_mem _ q.1, q.2⟩) .inr
  | .exn k fs :: es, σ, own, i, _, h, hi, nd => by
    obtain ⟨σ', rfl, h2, h3, h4⟩ := h
    cases i with
    | zero => simp at hi
    | succ i =>
      obtain ⟨a, vs0, own', q1, q2, q3, q4, q5, q6⟩ := SlotsR.grow r h4 (by simpa using hi) nd
      exact ⟨a, vs0, own', by simpa using q1, q2, q3, ⟨_, rfl, h2, h3, q4⟩, q5, q6⟩
  | .slf :: es, σ, own, i, _, h, hi, nd => by
    obtain ⟨σ', rfl, h4⟩ := h
    cases i with
    | zero => simp at hi
    | succ i =>
      obtain ⟨a, vs0, own', q1, q2, q3, q4, q5, q6⟩ := SlotsR.grow r h4 (by simpa using hi) nd
      exact ⟨a, vs0, own', by simpa using q1, q2, q3, ⟨_, rfl, q4⟩, q5, q6⟩
/-- x.append(e), x of the frame's own -/
def sApp (i : Nat) (f : EF) : SF := fun es S => match es[i]? with
  | some (.acc ds) => (f es S).toS es fun d S1 => if ds.length < 1000000 then .next (es.set i (.acc (ds ++ [d]))) S1 else .bad
  | _ => .bad
theorem ds_app {i : Nat} {x : Str} {e : Expr} {f : EF} {p1 apos cpos pos : Pos} (hK : X.K = Γ.K)
    (P : PE X (.Call (.Attribute (.Name x p1) "append" apos) [e] [] cpos) (tBM X.K "list" rAppend (tVar i) (tCons (dE Γ ξ f E) tNil))) (hs : swapsWith (.Call (.Attribute (.Name x p1) "append" apos) [e] [] cpos) none pos.line X.env = pure false := by rfl) :
    PS X (.Expr (.Call (.Attribute (.Name x p1) "append" apos) [e] [] cpos) pos) (dS Γ ξ (sApp i f) E) := (ps_expr P hs).imp fun Dn σ H ⟨W, es, S, P0, ok, fr, h⟩ => by
  unfold sApp at h
  split at h
  case h_2 => exact h.elim
  rename_i ds hi
  obtain ⟨own, fr1, o⟩ := id fr
  obtain ⟨a, vs, h1, h2, h3⟩ := fr1.acc hi
  have hH := ok.p _ _ (o.at_ _ h3).2
  refine ⟨.ref a, h1, .inl ⟨rfl, vs, .inl (.inl hH.1)⟩, W, es, S, P0, ok, fr, ContS.toS fr h fun d S1 W1 v H1 le ok1 rv hc => ?_⟩
  split at hc
  case isFalse => exact hc.elim
  rename_i hz
  have frL := fr.le le
  obtain ⟨own1, fr2, o1⟩ := frL
  obtain ⟨a', vs0, own', q1, q2, q3, q4, q5, q6⟩ := SlotsR.grow (ds := ds ++ [d]) (vs := vs ++ [v]) ((h2.mono le.s).append (Reps.cons rv Reps.nil)) fr2 hi o1.nd
  obtain rfl : a = a' := by
    rw [h1] at q1
    exact V.ref.inj (Option.some.inj (Option.some.inj q1))
  have hP : W1.P a = some (.lst vs) := by rw [le.p]; exact (o.at_ _ h3).2
  have hP1 := (o1.at_ _ q3).2
  obtain ⟨hHa, hFa⟩ := ok1.p _ _ hP
  refine ⟨a, vs, v, rfl, rfl, hHa, by rw [h2.length, sizeLine_eq]; omega, ?_⟩
  have hM : ∀ (i : Nat) (b : Addr), W1.m[i]? = some b → b ≠ a := fun i b q z => by
    have := (ok1.m i b q).2
    rw [z, hP] at this
    cases this
  obtain ⟨k1, k2⟩ := ok1.own (own' := own') (a := a) (vs := vs ++ [v]) o1 hFa hM (o1.at_ _ q3).1 rfl (by rw [q5]; exact o1.nd) q6
  exact hc _ σ _ Wd.own_le k1 ⟨own', q4.mono Wd.own_le, k2⟩
end
end DL
set_option Elab.async false
set_option linter.all false
set_option maxRecDepth 100000
set_option maxHeartbeats 2000000
set_option autoImplicit false
/-! The data layer, 6: classes with slots. -/
namespace DL
open PySem L2 PyProof.Rows

section
variable {Γ : Pg} {ξ : Xx} {X : Cx} {E : WX}
/-! ### a def runs at values -/
theorem runA {CX : CXT} {k : Nat} {g : Addr} {sp : Sp} {A : Around} {pins : List (Addr × Obj)} {σ : L2.St} {H : Hp} {s : Shared} {Q : VK} {E : XK} {us : List Value} {vs : List V} (F : FnR X.prog X.w X.K X.mg X.base CX k g sp) (hr : Room k A)
    (e0 : Env0 X.prog X.w X.K X.mg X.base A X.stack s H) (hx : PassesAt CX X σ E) (I : Inv X pins σ H s) (r : Vals vs us) (h : sp vs H Q E) :
    codeAny (model X.prog X.w) A (.call (.ref g) ⟨us, []⟩) (fun r s' => match r with | .ok (.ret v) => EP X pins σ Q v s' | .ok _ => False | .error e => X.xe e s') s :=
  codeAny_mono (F A X.stack s H us vs Q E hr e0 r h) fun r s' hq => match r, hq with
    | .error e, hq => hx pins H s e s' I hq
    | .ok (.ret _), hq => I.after hq
    | .ok .next, hq => hq.elim
    | .ok .brk, hq => hq.elim
    | .ok .cont, hq => hq.elim
/-- what a caller wants of a method, a getter -/
structure CalR (Γ : Pg) (P : Program) (w : World) (mg : Str → Option Value) (base : Heap) (k : Nat) (g : Addr) (n : Nat) (den : List D → Store → Res) : Prop where
  run : FnR P w Γ.K mg base (L2.CX P w) k g (spD Γ n den)
theorem CalR.mono {P : Program} {w : World} {mg : Str → Option Value} {base : Heap} {j k n : Nat} {g : Addr} {den : List D → Store → Res} (c : CalR Γ P w mg base j g n den) (h : j ≤ k) : CalR Γ P w mg base k g n den := ⟨c.run.mono h⟩

/-! ### instances with slots -/
structure SlF (Γ : Pg) (k : Nat) : Prop where
  no : Γ.at_ k = none
  sc : SlX.SCls Γ.K (Γ.cl k)
  si : SlX.SIsi Γ.K (Γ.cl k)
/-- a class whose instances have a dict -/
structure ClF (Γ : Pg) (k : Nat) (ns : List Str) : Prop where
  at_ : Γ.at_ k = some ns
  cl : Cls Γ.K (Γ.cl k)
  si : SlX.SIsi Γ.K (Γ.cl k)
  nd : ns.Nodup
  na : ∀ f ∈ ns, NoAttr Γ.K (Γ.cl k) f
/-- either -/
inductive ObF (Γ : Pg) (k : Nat) : Prop
  | sl (c : SlF Γ k)
  | cl (ns : List Str) (c : ClF Γ k ns)
def SlotF (Γ : Pg) (k : Nat) (f : Str) (i : Nat) : Prop := ∃ p, SlX.Slot1 Γ.K (Γ.cl k) f p i
theorem slt_H {F H : Hp} (e : ∀ a o, F a = some o → H a = some o) {a C dx : Addr} {vs : List (Option V)} (h : SlX.Slt F a C dx vs) : SlX.Slt H a C dx vs := by
  rcases h with ⟨h, z⟩ | ⟨h, z⟩
  · exact .inl ⟨e _ _ h, z⟩
  · exact .inr ⟨e _ _ h, e _ _ z⟩
theorem asI {W : Wd} {S : Store} {H : Hp} {k : Nat} {ds : List D} {v : V} (ok : Ok Γ W S H) (r : Rep Γ W (.obj k ds) v) : ∃ a dx vs, v = .ref a ∧ ObjAt Γ H k a dx vs ∧ Reps Γ W ds vs := by
  simp only [Rep] at r
  obtain ⟨a, dx, vs, h1, h2, h3⟩ := r
  exact ⟨a, dx, vs, h1, h2.mono ok.f, h3⟩
theorem asO {W : Wd} {S : Store} {H : Hp} {k : Nat} {ds : List D} {v : V} (c : SlF Γ k) (ok : Ok Γ W S H) (r : Rep Γ W (.obj k ds) v) : ∃ a dx vs, v = .ref a ∧ SlX.Slt H a (Γ.cl k) dx (vs.map some) ∧ Reps Γ W ds vs := by
  obtain ⟨a, dx, vs, h1, h2, h3⟩ := asI ok r
  unfold ObjAt at h2
  rw [c.no] at h2
  exact ⟨a, dx, vs, h1, h2, h3⟩
theorem asC {W : Wd} {S : Store} {H : Hp} {k : Nat} {ns : List Str} {ds : List D} {v : V} (c : ClF Γ k ns) (ok : Ok Γ W S H) (r : Rep Γ W (.obj k ds) v) : ∃ a dx vs, v = .ref a ∧ H a = some (.ins (Γ.cl k) dx (ns.zip vs)) ∧ ns.length = vs.length ∧ Reps Γ W ds vs := by
  obtain ⟨a, dx, vs, h1, h2, h3⟩ := asI ok r
  unfold ObjAt at h2
  rw [c.at_] at h2
  exact ⟨a, dx, vs, h1, h2.1, h2.2, h3⟩
theorem lookup_zip_none {f : Str} : ∀ {ns : List Str} {vs : List V}, f ∉ ns → (ns.zip vs).lookup f = none
  | [], _, _ => rfl
  | _ :: _, [], _ => rfl
  | n :: ns, v :: vs, h => by
    have h1 : (f == n) = false := beq_eq_false_iff_ne.mpr fun e => h (e ▸ List.mem_cons_self ..)
    rw [List.zip_cons_cons, List.lookup_cons, h1]
    exact lookup_zip_none fun q => h (List.mem_cons_of_mem _ q)
theorem lookup_zip {f : Str} {v : V} : ∀ {ns : List Str} {vs : List V} {i : Nat}, ns.Nodup → ns[i]? = some f → vs[i]? = some v → (ns.zip vs).lookup f = some v
  | [], _, _, _, h, _ => by simp at h
  | _ :: _, [], _, _, _, h => by simp at h
  | n :: ns, u :: vs, 0, nd, h1, h2 => by
    simp at h1 h2
    subst h1 h2
    rw [List.zip_cons_cons, List.lookup_cons, beq_self_eq_true]
  | n :: ns, u :: vs, i + 1, nd, h1, h2 => by
    have h1 : ns[i]? = some f := by simpa using h1
    have h2 : vs[i]? = some v := by simpa using h2
    have hn : (f == n) = false := beq_eq_false_iff_ne.mpr fun e => (List.nodup_cons.mp nd).1 (e ▸ List.mem_of_getElem? h1)
    rw [List.zip_cons_cons, List.lookup_cons, hn]
    exact lookup_zip (List.nodup_cons.mp nd).2 h1 h2
/-- the instance as the machine holds it -/
theorem objInst {H : Hp} {pins : List (Addr × Obj)} {σ : L2.St} {s : Shared} {k : Nat} {a dx : Addr} {vs : List V} (I : Inv X pins σ H s) (h : ObjAt Γ H k a dx vs) : ∃ o od, PySem.W.InstAt s.heap a o (Γ.cl k) (some od) := by
  unfold ObjAt at h
  split at h
  · obtain ⟨sl, od, _, J, _⟩ := SlX.slt_inst I h
    exact ⟨_, od, J⟩
  · obtain ⟨mA, O, _, _, _, _⟩ := ins_get I.hok h.1
    obtain ⟨od, J, _⟩ := O.look
    exact ⟨_, od, J⟩
def noF (ns : Option (List Str)) (m : Str) : Bool := match ns with
  | none => true
  | some l => !l.contains m
/-- o.m: the method -/
theorem getO {A : Around} {E' : Value → Shared → Prop} {H : Hp} {pins : List (Addr × Obj)} {σ : L2.St} {s : Shared} {k : Nat} {a dx g : Addr} {vs : List V} {m : Str} {pl : Sem Bool} {Q : Value × List Value → Shared → Prop} (hK : X.K = Γ.K) (I : Inv X pins σ H s) (h : ObjAt Γ H k a dx vs) (c : ObF Γ k) (hm : L2.Meth X.K (Γ.cl k) m g) (hn : noF (Γ.at_ k) m = true) (q : Q (.ref g, [.ref a]) s) :
    wpAny (model X.prog X.w) A (getMethod (.ref a) m pl) Q E' s := by
  unfold ObjAt at h
  cases c with
  | sl c =>
    rw [c.no] at h
    exact SlX.getmethsl_ok I h (by rw [hK]; exact c.sc) hm q
  | cl ns c =>
    rw [c.at_] at h hn
    refine getmeth_ok I h.1 (by rw [hK]; exact c.cl) hm (lookup_zip_none fun z => ?_) q
    have hn : (!ns.contains m) = true := hn
    rw [List.contains_iff_mem.mpr z] at hn
    cases hn
def gSlot (k i : Nat) : D → Store → Res := fun d S => match d with
  | .obj k' ds => if k' = k then match ds[i]? with
    | some d => .ok d S
    | none => .bad
    else .bad
  | _ => .bad
theorem de_slot {e : Expr} {f : Str} {fe : EF} {k i : Nat} {pos : Pos} (hK : X.K = Γ.K) (c : SlF Γ k) (t : SlotF Γ k f i) (he : PE X e (dE Γ ξ fe E)) (hb : attributeBase e f X.env (eval e X.env) = eval e X.env := by rfl) :
    PE X (.Attribute e f pos) (dE Γ ξ (eOp1 (gSlot k i) fe) E) := (SlX.pe_sl he hb).imp fun σ H Q ⟨W, es, S, P0, ok, fr, h⟩ => ⟨W, es, S, P0, ok, fr, h.bind fun d S1 W1 v H1 le ok1 rv h1 => by
  replace h1 := Cont.nox (E' := fun _ _ _ => False) h1
  cases d with
  | obj k' ds =>
    simp only [gSlot] at h1
    split at h1
    · rename_i hk
      subst hk
      split at h1
      · rename_i d hd
        obtain ⟨a, dx, vs, rfl, h2, h3⟩ := asO c ok1 rv
        obtain ⟨w, hw, rw'⟩ := h3.get hd
        obtain ⟨p, t⟩ := t
        exact ⟨a, Γ.cl k', dx, p, _, i, w, rfl, h2, by rw [hK]; exact c.sc, by rw [hK]; exact t, by rw [List.getElem?_map, hw]; rfl, h1 W1 _ H1 (Le.refl _) ok1 rw'⟩
      · exact h1.elim
    · exact h1.elim
  | _ => exact h1.elim⟩
/-- a field of an instance with a dict -/
theorem de_fld {e : Expr} {f : Str} {fe : EF} {k i : Nat} {ns : List Str} {pos : Pos} (hK : X.K = Γ.K) (c : ClF Γ k ns) (t : ns[i]? = some f) (he : PE X e (dE Γ ξ fe E)) (hb : attributeBase e f X.env (eval e X.env) = eval e X.env := by rfl) :
    PE X (.Attribute e f pos) (dE Γ ξ (eOp1 (gSlot k i) fe) E) := (pe_fld he hb).imp fun σ H Q ⟨W, es, S, P0, ok, fr, h⟩ => ⟨W, es, S, P0, ok, fr, h.bind fun d S1 W1 v H1 le ok1 rv h1 => by
  replace h1 := Cont.nox (E' := fun _ _ _ => False) h1
  cases d with
  | obj k' ds =>
    simp only [gSlot] at h1
    split at h1
    · rename_i hk
      subst hk
      split at h1
      · rename_i d hd
        obtain ⟨a, dx, vs, rfl, h2, hl, h3⟩ := asC c ok1 rv
        obtain ⟨w, hw, rw'⟩ := h3.get hd
        exact ⟨a, Γ.cl k', dx, _, w, rfl, h2, by rw [hK]; exact c.cl, by rw [hK]; exact c.na f (List.mem_of_getElem? t), lookup_zip c.nd t hw, h1 W1 _ H1 (Le.refl _) ok1 rw'⟩
      · exact h1.elim
    · exact h1.elim
  | _ => exact h1.elim⟩
/-- a property of such an instance -/
structure PropF (Γ : Pg) (k : Nat) (f : Str) (g : Addr) : Prop where
  ex : ∃ p rest, PySem.W.findIn Γ.K (.ref (Γ.cl k)) f = some (some (.ref p)) ∧ PySem.W.specialIn Γ.K (.ref p) "__get__" = some (some (.builtin "property.__get__")) ∧ PySem.W.takesIn Γ.K (.ref p) = some true ∧ PySem.W.recIn Γ.K p "property" = some (.ref g :: rest)
def isObj (k : Nat) : D → Bool
  | .obj k' _ => k' == k
  | _ => false
def gProp (k : Nat) (den : List D → Store → Res) : D → Store → Res := fun d S => if isObj k d then chk 1 den [d] S else .bad
theorem isObj_of {k : Nat} {d : D} (h : isObj k d = true) : ∃ ds, d = .obj k ds := by
  cases d with
  | obj k' ds =>
    have e : k' = k := by simpa [isObj] using h
    subst e
    exact ⟨ds, rfl⟩
  | _ => cases h
theorem de_prop {e : Expr} {f : Str} {fe : EF} {k j n : Nat} {g : Addr} {pos : Pos} {P : Program} {w : World} {mg : Str → Option Value} {base : Heap} {den : List D → Store → Res} (hh : Here Γ P w mg base n X E) (c : SlF Γ k) (t : PropF Γ k f g) (G : CalR Γ P w mg base j g 1 den)
    (he : PE X e (dE Γ ξ fe E)) (hj : j + 1 ≤ n := by decide) (hb : attributeBase e f X.env (eval e X.env) = eval e X.env := by rfl) : PE X (.Attribute e f pos) (dE Γ ξ (eOp1 (gProp k den) fe) E) := by
  obtain ⟨h1, h2, h3, h4, h5, h6, h7⟩ := hh
  subst h1 h2 h4 h5
  obtain ⟨p, rest, t1, t2, t3, t4⟩ := t.ex
  refine (SlX.pe_propSl (CX := L2.CX X.prog X.w) (C := Γ.cl k) (E := fun _ _ _ => False) (sp := spD Γ 1 den) (n := j) (g := g) he (by rw [h3]; exact c.sc) (by rw [h3]; exact t1) (by rw [h3]; exact t2) (by rw [h3]; exact t3) ⟨rest, by rw [h3]; exact t4⟩ (by rw [h3]; exact G.run) (h6.mono hj) (fun H s e s' h => by
    obtain ⟨_, _, _, _, _, _, _, _, _, _, _, _, z⟩ := h
    exact z.elim) hb).imp fun σ H Q ⟨W, es, S, P0, ok, fr, h⟩ => ⟨W, es, S, P0, ok, fr, h.bind fun d S1 W1 v H1 le ok1 rv h1 => ?_⟩
  replace h1 := Cont.nox (E' := fun _ _ _ => False) h1
  unfold gProp at h1
  split at h1
  · rename_i hd
    obtain ⟨ds, rfl⟩ := isObj_of hd
    obtain ⟨a, dx, vs, rfl, q2, q3⟩ := asO c ok1 rv
    exact ⟨a, dx, _, rfl, q2, spD_of ok1 (Reps.cons rv Reps.nil) h1⟩
  · exact h1.elim

/-! ### methods -/
def eMeth (k n : Nat) (den : List D → Store → Res) (f : EF) (a : AF) : EF := fun es S => (f es S).bind fun d S1 => if isObj k d then (a es S1).bind fun ds S2 => chk n den (d :: ds) S2 else .bad
theorem de_meth {o e : Expr} {es : List Expr} {m : Str} {fo : EF} {fa : AF} {k j n l : Nat} {g : Addr} {pos apos : Pos} {P : Program} {w : World} {mg : Str → Option Value} {base : Heap} {den : List D → Store → Res} {pl : Sem Bool} (hh : Here Γ P w mg base l X E) (c : ObF Γ k) (hm : L2.Meth Γ.K (Γ.cl k) m g)
    (G : CalR Γ P w mg base j g n den) (ho : PE X o (dE Γ ξ fo E)) (ha : PA X (e :: es) (dA Γ ξ fa E)) (hj : j ≤ l := by decide) (hno : noF (Γ.at_ k) m = true := by first | rfl | kernel_rfl)
    (hst : starEach (e :: es) X.env = (false, eval e X.env) :: starEach es X.env := by rfl) (hpl : (backTo pos (starEach es X.env)).any (·.1) = false := by rfl)
    (ht : eval (.Call (.Attribute o m apos) (e :: es) [] pos) X.env = (do
      let ov ← eval o X.env
      standAt apos.atName
      let (f, first) ← holding [ov] (getMethod ov m pl)
      callWith pos f first (backTo pos (starEach (e :: es) X.env)) (backToKw pos (keywordEach [] X.env))) := by rfl) :
    PE X (.Call (.Attribute o m apos) (e :: es) [] pos) (dE Γ ξ (eMeth k n den fo fa) E) := by
  obtain ⟨h1, h2, h3, h4, h5, h6, h7⟩ := hh
  subst h1 h2 h4 h5
  refine ⟨fun pins s σ H Q I ⟨W, ds, S, P0, ok, fr, h⟩ => ?_⟩
  refine PySem.W.methodCall_KW (pl := pl) (thn (ho.run pins s σ H (fun x H1 => ∃ W1 S1 d, Ok Γ W1 S1 H1 ∧ Frame Γ ξ W1 ds σ P0 ∧ Rep Γ W1 d x ∧ Cont Γ (if isObj k d then (fa ds S1).bind fun es S2 => chk n den (d :: es) S2 else .bad) W1 Q (at_ E σ)) I
    ⟨W, ds, S, P0, ok, fr, h.bind fun d S1 W1 v H1 le ok1 rv h1 => ⟨W1, S1, d, ok1, fr.le le, rv, h1⟩⟩) fun u s1 ⟨x, H1, I1, rx, W1, S1, d, ok1, fr1, rd, h1⟩ => ?_) ht
  split at h1
  case isFalse => exact h1.elim
  rename_i hd
  obtain ⟨fs, rfl⟩ := isObj_of hd
  obtain ⟨a, dx, vs, rfl, q2, q3⟩ := asI ok1 rd
  obtain rfl : u = Value.ref a := rx
  have hm' : L2.Meth X.K (Γ.cl k) m g := by rw [h3]; exact hm
  refine getO h3 I1 q2 c hm' hno ?_
  refine PySem.W.callWith_K (first := [.ref a]) (h₀ := X.base) I.ok.mod.kin hm'.kp (thn (ha.run pos pins s1 σ H1 (fun vs H2 => ∃ W2 S2 es, Ok Γ W2 S2 H2 ∧ Reps Γ W2 es vs ∧ Rep Γ W2 (.obj k fs) (.ref a) ∧ Cont Γ (chk n den (.obj k fs :: es) S2) W2 Q (at_ E σ)) I1
    ⟨W1, ds, S1, P0, ok1, fr1, ContA.bind h1 fun es S2 W2 vs H2 le ok2 rs h2 => ⟨W2, S2, es, ok2, rs, rd.mono le.s, h2⟩⟩) fun us s2 ⟨ws, H2, I2, r, W2, S2, es2, ok2, rs, rd2, h2⟩ => ⟨I2.kIn, ?_⟩) hst hpl
  exact wpAny_call (runA (us := .ref a :: us) (vs := .ref a :: ws) (by rw [h3]; exact G.run) (h6.mono hj) I2.env0 (pass_of h7 σ) I2 (.cons rfl r) (spD_of ok2 (Reps.cons rd2 rs) h2))
theorem de_meth0 {o : Expr} {m : Str} {fo : EF} {k j l : Nat} {g : Addr} {pos apos : Pos} {P : Program} {w : World} {mg : Str → Option Value} {base : Heap} {den : List D → Store → Res} {pl : Sem Bool} (hh : Here Γ P w mg base l X E) (c : ObF Γ k) (hm : L2.Meth Γ.K (Γ.cl k) m g)
    (G : CalR Γ P w mg base j g 1 den) (ho : PE X o (dE Γ ξ fo E)) (hj : j ≤ l := by decide) (hno : noF (Γ.at_ k) m = true := by first | rfl | kernel_rfl)
    (ht : eval (.Call (.Attribute o m apos) [] [] pos) X.env = (do
      let ov ← eval o X.env
      standAt apos.atName
      let (f, first) ← holding [ov] (getMethod ov m pl)
      callWith pos f first (backTo pos (starEach [] X.env)) (backToKw pos (keywordEach [] X.env))) := by rfl) :
    PE X (.Call (.Attribute o m apos) [] [] pos) (dE Γ ξ (eMeth k 1 den fo aNil) E) := by
  obtain ⟨h1, h2, h3, h4, h5, h6, h7⟩ := hh
  subst h1 h2 h4 h5
  refine ⟨fun pins s σ H Q I ⟨W, ds, S, P0, ok, fr, h⟩ => ?_⟩
  refine PySem.W.methodCall_KW (pl := pl) (thn (ho.run pins s σ H (fun x H1 => ∃ W1 S1 d, Ok Γ W1 S1 H1 ∧ Rep Γ W1 d x ∧ Cont Γ (if isObj k d then (aNil ds S1).bind fun es S2 => chk 1 den (d :: es) S2 else .bad) W1 Q (at_ E σ)) I
    ⟨W, ds, S, P0, ok, fr, h.bind fun d S1 W1 v H1 le ok1 rv h1 => ⟨W1, S1, d, ok1, rv, h1⟩⟩) fun u s1 ⟨x, H1, I1, rx, W1, S1, d, ok1, rd, h1⟩ => ?_) ht
  split at h1
  case isFalse => exact h1.elim
  rename_i hd
  obtain ⟨fs, rfl⟩ := isObj_of hd
  obtain ⟨a, dx, vs, rfl, q2, q3⟩ := asI ok1 rd
  obtain rfl : u = Value.ref a := rx
  have hm' : L2.Meth X.K (Γ.cl k) m g := by rw [h3]; exact hm
  refine getO h3 I1 q2 c hm' hno ?_
  exact PySem.W.callWith_K0 (first := [.ref a]) I1.kIn hm'.kp (wpAny_call (runA (us := [.ref a]) (vs := [.ref a]) (by rw [h3]; exact G.run) (h6.mono hj) I1.env0 (pass_of h7 σ) I1 (.cons rfl .nil) (spD_of ok1 (Reps.cons rd Reps.nil) h1)))

/-! ### operators of one's own -/
def gOwn (k : Nat) (den : List D → Store → Res) : D → D → Store → Res := fun x y S => if isObj k x then match y with
  | .obj k' _ => if k' = k then chk 2 den [x, y] S else .bad
  | .int _ => chk 2 den [x, y] S
  | _ => .bad
  else .bad
/-- what is asked of the class for a binary operator: its own def, and that ints have the reflected way no better -/
structure BinF (Γ : Pg) (k : Nat) (op : Operator) (g : Addr) : Prop where
  hc : PySem.W.selfFirst Γ.K (Γ.cl k) = true
  hs : PySem.W.findIn Γ.K (.ref (Γ.cl k)) (PySem.dunder op.info.2) = some (some (.ref g))
  hf : PySem.W.isFn Γ.K (.ref g) = true
  hr : ∃ rc, PySem.W.findIn Γ.K (.ref (Γ.cl k)) (dunderR op.info.2) = some rc ∧ (rc = none ∨ ∃ g : Addr, rc = some (.ref g))
  hi : ∃ fo ro, PySem.W.findIn Γ.K (.type "int") (PySem.dunder op.info.2) = some fo ∧ PySem.W.findIn Γ.K (.type "int") (dunderR op.info.2) = some ro
  hsub : PySem.W.subIn Γ.K (.type "int") (.ref (Γ.cl k)) = some false
theorem op_own {op : Operator} {k j n : Nat} {g : Addr} {P : Program} {w : World} {mg : Str → Option Value} {base : Heap} {den : List D → Store → Res} (hh : Here Γ P w mg base n X E) (b : BinF Γ k op g) (G : CalR Γ P w mg base j g 2 den) (hj : j ≤ n := by decide) : OpR X (binaryOp op) (rD Γ (gOwn k den)) := by
  obtain ⟨h1, h2, h3, h4, h5, h6, h7⟩ := hh
  subst h1 h2 h4 h5
  intro pins s σ H x y v u Q I rx ry ⟨W, S, a, b', ok, ra, rb, h⟩
  unfold gOwn at h
  split at h
  case isFalse => exact h.elim
  rename_i hx
  obtain ⟨ds, rfl⟩ := isObj_of hx
  obtain ⟨p, dx, vs, rfl, q2, q3⟩ := asI ok ra
  obtain rfl : v = Value.ref p := rx
  obtain ⟨m, hF⟩ := I.fr
  obtain ⟨o, od, J⟩ := objInst I q2
  have run : ∀ (y' : V) (u' : Value), RelV y' u' → Rep Γ W b' y' → Cont Γ (chk 2 den [.obj k ds, b'] S) W Q (fun _ _ _ => False) → wpAny (model X.prog X.w) X.A (call (.ref g) [.ref p, u']) (PySem.W.CmpBack (EP X pins σ Q)) X.xe s := fun y' u' ry' rb' h' =>
    wpAny_mono (wpAny_call (runA (us := [.ref p, u']) (vs := [.ref p, y']) (E := fun _ _ _ => False) (by rw [h3]; exact G.run) (h6.mono hj) I.env0 (fun _ _ _ _ _ _ z => by
      obtain ⟨_, _, _, _, _, _, _, _, _, _, _, _, z⟩ := z
      exact z.elim) I (.cons rfl (.cons ry' .nil)) (spD_of ok (Reps.cons ra (Reps.cons rb' Reps.nil)) h'))) (fun w s' z => by
        obtain ⟨z', H', I', rz, qz⟩ := z
        exact SlX.cmpback rz ⟨z', H', I', rz, qz⟩) fun _ _ x => x
  split at h
  · rename_i k' ds'
    split at h
    case isFalse => exact h.elim
    rename_i hk
    subst hk
    obtain ⟨p', dx', vs', rfl, q2', q3'⟩ := asI ok rb
    obtain rfl : u = Value.ref p' := ry
    obtain ⟨o', od', J'⟩ := objInst I q2'
    exact PySem.W.binop_K hF I.ok.mod.kin J J'.type (by rw [h3]; exact b.hc) (by rw [h3]; exact b.hs) (by rw [h3]; exact b.hf) (run (.ref p') (.ref p') rfl rb h)
  · rename_i i
    have e : y = .int i := by simpa only [Rep] using rb
    subst e
    obtain ⟨t, rfl⟩ := ry
    obtain ⟨rc, r1, r2⟩ := b.hr
    obtain ⟨fo, ro, i1, i2⟩ := b.hi
    exact PySem.W.ksp_binT hF I.ok.mod.kin J rfl (by rw [h3]; exact b.hc) (by rw [h3]; exact b.hs) (by rw [h3]; exact b.hf) (by rw [h3]; exact r1) r2 (by rw [h3]; exact i1) (by rw [h3]; exact i2) (by rw [h3]; exact b.hsub) (run (.int i) (.int i t) ⟨t, rfl⟩ rb h)
  · exact h.elim
/-- -x -/
def gOwn1 (k : Nat) (den : List D → Store → Res) : D → Store → Res := fun x S => if isObj k x then chk 1 den [x] S else .bad
theorem un_own {k j n : Nat} {g : Addr} {P : Program} {w : World} {mg : Str → Option Value} {base : Heap} {den : List D → Store → Res} (hh : Here Γ P w mg base n X E) (hs : PySem.W.findIn Γ.K (.ref (Γ.cl k)) "__neg__" = some (some (.ref g))) (hf : PySem.W.isFn Γ.K (.ref g) = true)
    (G : CalR Γ P w mg base j g 1 den) (hj : j ≤ n := by decide) : UnR X (unaryOp .USub) (rU1 Γ (gOwn1 k den)) := by
  obtain ⟨h1, h2, h3, h4, h5, h6, h7⟩ := hh
  subst h1 h2 h4 h5
  intro pins s σ H x v Q I rx ⟨W, S, a, ok, ra, h⟩
  unfold gOwn1 at h
  split at h
  case isFalse => exact h.elim
  rename_i hx
  obtain ⟨ds, rfl⟩ := isObj_of hx
  obtain ⟨p, dx, vs, rfl, q2, q3⟩ := asI ok ra
  obtain rfl : v = Value.ref p := rx
  obtain ⟨m, hF⟩ := I.fr
  obtain ⟨o, od, J⟩ := objInst I q2
  exact PySem.W.ksp_neg hF I.ok.mod.kin J (by rw [h3]; exact hs) (by rw [h3]; exact hf) (wpAny_call (runA (us := [.ref p]) (vs := [.ref p]) (E := fun _ _ _ => False) (by rw [h3]; exact G.run) (h6.mono hj) I.env0 (fun _ _ _ _ _ _ z => by
      obtain ⟨_, _, _, _, _, _, _, _, _, _, _, _, z⟩ := z
      exact z.elim) I (.cons rfl .nil) (spD_of ok (Reps.cons ra Reps.nil) h)))
end
end DL
set_option Elab.async false
set_option linter.all false
set_option maxRecDepth 100000
set_option maxHeartbeats 2000000
set_option autoImplicit false
/-! The data layer, 7: making an instance with slots. -/
namespace DL
open PySem L2 PyProof.Rows

section
variable {Γ : Pg} {ξ : Xx} {X : Cx} {E : WX}
/-! ### a change beside the world -/
theorem Ok.swap {W : Wd} {S : Store} {H : Hp} (ok : Ok Γ W S H) {x : Addr} (o : HO) (hF : W.F x = none) (hM : ∀ (i : Nat) (a : Addr), W.m[i]? = some a → a ≠ x) : Ok Γ { W with P := upd W.P x o } S (upd H x o) := by
  refine ⟨fun a u e => ?_, fun a u e => ?_, fun i a e => ⟨(ok.m i a e).1, ?_⟩, ok.nd, ok.len, fun i a ds e1 e2 => ?_⟩
  · rw [upd_ne (ne_of_none (show W.F a = some u from e) hF)]
    exact ok.f a u e
  · by_cases z : a = x
    · subst z
      have e : upd W.P a o a = some u := e
      rw [upd_same] at e ⊢
      exact ⟨e, hF⟩
    · have e : upd W.P x o a = some u := e
      rw [upd_ne z] at e ⊢
      exact ok.p a u e
  · show upd W.P x o a = none
    rw [upd_ne (hM i a e)]
    exact (ok.m i a e).2
  · obtain ⟨us, q3, q4⟩ := ok.c i a ds e1 e2
    exact ⟨us, by rw [upd_ne (hM i a e1)]; exact q3, repsP W q4⟩
/-- less is kept apart -/
theorem Ok.less {W : Wd} {S : Store} {H : Hp} (ok : Ok Γ W S H) {P1 : Hp} (h : ∀ a u, P1 a = some u → W.P a = some u) : Ok Γ { W with P := P1 } S H := by
  refine ⟨ok.f, fun a u e => ok.p a u (h a u e), fun i a e => ⟨(ok.m i a e).1, ?_⟩, ok.nd, ok.len, fun i a ds e1 e2 => ?_⟩
  · show P1 a = none
    cases q : P1 a with
    | none => rfl
    | some u =>
      have := h a u q
      rw [(ok.m i a e).2] at this
      cases this
  · obtain ⟨us, q3, q4⟩ := ok.c i a ds e1 e2
    exact ⟨us, q3, repsP W q4⟩
theorem SlotsR.p {W : Wd} {P1 : Hp} {es : List SD} {σ : L2.St} {own : List (Addr × HO)} (h : SlotsR Γ ξ W es σ own) : SlotsR Γ ξ { W with P := P1 } es σ own := SlotsR.mono (W := W) (W' := { W with P := P1 }) ⟨fun _ _ h => h, fun _ _ h => h⟩ h
theorem Frame.swap {W : Wd} {es : List SD} {σ : L2.St} {P0 : Hp} {x : Addr} {u : HO} (fr : Frame Γ ξ W es σ P0) (h0 : P0 x = some u) (o : HO) : Frame Γ ξ { W with P := upd W.P x o } es σ (upd P0 x o) := by
  obtain ⟨own, h1, h2⟩ := fr
  refine ⟨own, h1.p, h2.nd, fun p hp => ?_, fun a ha => ?_⟩
  · obtain ⟨q1, q2⟩ := h2.at_ p hp
    have n : p.1 ≠ x := fun z => by
      rw [z, h0] at q1
      cases q1
    exact ⟨by rw [upd_ne n]; exact q1, by show upd W.P x o p.1 = _; rw [upd_ne n]; exact q2⟩
  · show upd W.P x o a = _
    by_cases z : a = x
    · rw [z, upd_same, upd_same]
    · rw [upd_ne z, upd_ne z]
      exact h2.rest a ha
theorem OwnP.of0 {W : Wd} {own : List (Addr × HO)} {P0 : Hp} (o : OwnP W own P0) {a : Addr} {u : HO} (h : P0 a = some u) : W.P a = some u := by
  rw [o.rest a fun ha => ?_]
  · exact h
  · obtain ⟨p, hp, rfl⟩ := List.mem_map.mp ha
    rw [(o.at_ p hp).1] at h
    cases h
theorem repP {W : Wd} {P1 : Hp} {d : D} {v : V} (h : Rep Γ W d v) : Rep Γ { W with P := P1 } d v := Rep.mono (W := W) (W' := { W with P := P1 }) ⟨fun _ _ h => h, fun _ _ h => h⟩ h

/-! ### __init__ of a class with two slots, which it fills at its end -/
def startI (N : Nat) (ds : List D) : List SD := .slf :: (ds.map .val ++ List.replicate (N - (ds.length + 1)) .no)
def isSlf : List SD → Bool
  | .slf :: _ => true
  | _ => false
theorem isSlf_at {es : List SD} (h : isSlf es = true) : es[0]? = some SD.slf := by
  unfold isSlf at h
  split at h
  · rfl
  · cases h
/-- the two fields' places: in order, or the other way round -/
def ix1 (sw : Bool) : Nat := bif sw then 1 else 0
def ix2 (sw : Bool) : Nat := bif sw then 0 else 1
def ord {α : Type} (sw : Bool) (a b : α) : List α := bif sw then [b, a] else [a, b]
def initD (sw : Bool) (N : Nat) (body : SF) (f1 f2 : EF) : List D → Store → ResA := fun ds S => match body (startI N ds) S with
  | .next es S1 => if isSlf es = true then (f1 es S1).bindA fun d1 S2 => (f2 es S2).bindA fun d2 S3 => .ok (ord sw d1 d2) S3 else .bad
  | .exc k fs _ S1 => .exc k fs S1
  | _ => .bad
/-- an __init__'s promise: n values beside self -/
def spI (Γ : Pg) (k n : Nat) (F : List D → Store → ResA) : Sp := fun vs H Q E => ∃ (x dx : Addr) (ws : List V) (W : Wd) (S : Store) (ds : List D), vs = .ref x :: ws ∧ Ok Γ W S H ∧ Reps Γ W ds ws ∧ ds.length = n ∧
  W.F x = none ∧ W.F dx = none ∧ W.P x = none ∧ W.P dx = none ∧ (∀ (i : Nat) (a : Addr), W.m[i]? = some a → a ≠ x ∧ a ≠ dx) ∧ dx ≠ x ∧ H x = some (.ins (Γ.cl k) dx []) ∧ H dx = some (.own x) ∧
  match F ds S with
  | .ok fs S1 => ∀ W' H' us, Le W W' → Ok Γ W' S1 H' → W'.F x = none → W'.F dx = none → (∀ (i : Nat) (a : Addr), W'.m[i]? = some a → a ≠ x ∧ a ≠ dx) → Reps Γ W' fs us → SlX.Slt H' x (Γ.cl k) dx (us.map some) → Q .non H'
  | .exc c fs S1 => ∀ W' d H', Le W W' → Ok Γ W' S1 H' → RepX (Γ := Γ) W' fs d → E (.ref (Γ.cl c)) d H'
  | .bad => False
theorem spI_len {k n : Nat} {F : List D → Store → ResA} {ps : List Str} (hn : ps.length = n + 1) : ∀ vs H Q E, spI Γ k n F vs H Q E → vs.length = ps.length := fun vs H Q E ⟨x, dx, ws, W, S, ds, e, ok, r, hl, _⟩ => by rw [e, List.length_cons, r.length, hl, hn]
theorem di_cons {st : Stmt} {rest : List Stmt} {f g : SF} {u : TS} (h1 : PS X st (dS Γ ξ f E)) (h2 : PSs X rest (tSeq (dS Γ ξ g E) u)) : PSs X (st :: rest) (tSeq (dS Γ ξ (sSeq f g) E) u) :=
  (pss_cons h1 h2).imp fun Dn σ H h => (tSeq_of (E := E) (f := f) (g := g) (Dn := { Dn with nx := u Dn }) h : _)
theorem di_tail {rest : List Stmt} {u : TS} (h : PSs X rest u) : PSs X rest (tSeq (dS Γ ξ sPass E) u) := h.imp fun Dn σ H ⟨W, es, S, P0, ok, fr, h⟩ => h W σ H (LeS.refl W) ok fr
theorem enterI {sw : Bool} {N k n : Nat} {body : SF} {f1 f2 : EF} {n1 n2 : Str} {vs : List V} {H : Hp} {Q : VK} {Ex : XK} {names : List Str} {K : PySem.W.Frag} (hK : K = Γ.K) (hN : names.length = N) (c : SlF Γ k) (t1 : SlotF Γ k n1 (ix1 sw)) (t2 : SlotF Γ k n2 (ix2 sw)) (h : spI Γ k n (initD sw N body f1 f2) vs H Q Ex) :
    ∃ ξ : Xx, tSeq (dS Γ ξ body (fun c d _ H => Ex c d H)) (tSeq (SlX.sSl K (tVar 0) (dE Γ ξ f1 (fun c d _ H => Ex c d H)) n1) (SlX.sSl K (tVar 0) (dE Γ ξ f2 (fun c d _ H => Ex c d H)) n2)) { nx := fun _ H' => Q .non H', rt := Q } (L2.start names vs) H := by
  subst hK
  obtain ⟨x, dx, ws, W, S, ds, rfl, ok, r, hl, hFx, hFd, hPx, hPd, hM, hne, hHx, hHd, h⟩ := h
  refine ⟨⟨x, .none, none⟩, ?_⟩
  have Mx : ∀ {W' : Wd} {S' : Store} {H' : Hp} {o : HO} {a : Addr}, Ok Γ W' S' H' → W'.P a = some o → ∀ (i : Nat) (b : Addr), W'.m[i]? = some b → b ≠ a := fun {W' S' H' o a} ok' hp i b hb z => by
    have := (ok'.m i b hb).2
    rw [z, hp] at this
    cases this
  have e1 : upd H dx (.own x) = H := by
    funext b
    by_cases z : b = dx
    · rw [z, upd_same, hHd]
    · rw [upd_ne z]
  have e2 : upd H x (.ins (Γ.cl k) dx []) = H := by
    funext b
    by_cases z : b = x
    · rw [z, upd_same, hHx]
    · rw [upd_ne z]
  have okA := ok.swap (x := dx) (.own x) hFd fun i a ha => (hM i a ha).2
  rw [e1] at okA
  have okB := okA.swap (x := x) (.ins (Γ.cl k) dx []) hFx fun i a ha => (hM i a ha).1
  rw [e2] at okB
  -- the world within
  let PB : Hp := upd (upd W.P dx (.own x)) x (.ins (Γ.cl k) dx [])
  have hPBx : PB x = some (.ins (Γ.cl k) dx []) := upd_same
  have hPBd : PB dx = some (.own x) := by
    show upd _ x _ dx = _
    rw [upd_ne hne, upd_same]
  refine ⟨{ W with P := PB }, startI N ds, S, PB, okB, ⟨[], ?_, ⟨List.nodup_nil, fun p hp => absurd hp (by simp), fun a _ => rfl⟩⟩, ?_⟩
  · unfold startI L2.start
    have hlen : (V.ref x :: ws).length = ds.length + 1 := by rw [List.length_cons, r.length]
    rw [hN, hlen]
    exact ⟨_, rfl, (slots_start _ r).p⟩
  unfold initD at h
  cases eb : body (startI N ds) S with
  | bad => rw [eb] at h; exact h.elim
  | brk es S1 => rw [eb] at h; exact h.elim
  | ct es S1 => rw [eb] at h; exact h.elim
  | ret d S1 => rw [eb] at h; exact h.elim
  | exc c fs es S1 =>
    rw [eb] at h
    intro W' σ' d H' l ok' fr' rx
    obtain ⟨own, _, o⟩ := fr'
    have hPW : ∀ a u, W.P a = some u → PB a = some u := fun a u q => by
      have n1 : a ≠ x := ne_of_none q hPx
      have n2 : a ≠ dx := ne_of_none q hPd
      show upd (upd W.P dx _) x _ a = _
      rw [upd_ne n1, upd_ne n2]
      exact q
    exact h { W' with P := W.P } d H' ⟨l.f, rfl, l.m⟩ (ok'.less fun a u q => o.of0 (hPW a u q)) (repX_le rx ⟨fun _ _ h => h, fun _ _ h => h⟩)
  | next es S1 =>
    rw [eb] at h
    simp only at h
    by_cases hs : isSlf es = true
    case neg => rw [if_neg hs] at h; exact h.elim
    rw [if_pos hs] at h
    intro W1 σ1 H1 l1 ok1 fr1
    have hσ : σ1[0]? = some (some (V.ref x)) := by
      obtain ⟨own, q, _⟩ := fr1
      exact q.slf (isSlf_at hs)
    have P1x : W1.P x = some (.ins (Γ.cl k) dx []) := by obtain ⟨own, _, o⟩ := fr1; exact o.of0 hPBx
    have P1d : W1.P dx = some (.own x) := by obtain ⟨own, _, o⟩ := fr1; exact o.of0 hPBd
    have hPW : ∀ a u, W.P a = some u → PB a = some u := fun a u q => by
      have n1 : a ≠ x := ne_of_none q hPx
      have n2 : a ≠ dx := ne_of_none q hPd
      show upd (upd W.P dx _) x _ a = _
      rw [upd_ne n1, upd_ne n2]
      exact q
    have P1W : ∀ a u, W.P a = some u → W1.P a = some u := fun a u q => by obtain ⟨own, _, o⟩ := fr1; exact o.of0 (hPW a u q)
    refine ⟨W1, es, S1, PB, ok1, fr1, ?_⟩
    cases ef : f1 es S1 with
    | bad => rw [ef] at h; exact h.elim
    | exc c fs S2 =>
      rw [ef] at h
      intro W2 d H2 l2 ok2 rx
      exact h { W2 with P := W.P } d H2 ⟨fun a o q => l2.f _ _ (l1.f _ _ q), rfl, fun i a q => l2.m _ _ (l1.m _ _ q)⟩ (ok2.less fun a u q => by rw [l2.p]; exact P1W a u q) (repX_le rx ⟨fun _ _ h => h, fun _ _ h => h⟩)
    | ok d1 S2 =>
      rw [ef] at h
      intro W2 v1 H2 l2 ok2 r1
      have P2x : W2.P x = some (.ins (Γ.cl k) dx []) := by rw [l2.p]; exact P1x
      have P2d : W2.P dx = some (.own x) := by rw [l2.p]; exact P1d
      have fr2 := fr1.le l2
      obtain ⟨p1, t1⟩ := t1
      refine ⟨.ref x, hσ, x, Γ.cl k, dx, p1, [], ix1 sw, rfl, .inl ⟨(ok2.p _ _ P2x).1, rfl⟩, c.sc, t1, ?_⟩
      -- behind the first store
      have okC := (ok2.swap (x := dx) (.xd []) (ok2.p _ _ P2d).2 (Mx ok2 P2d)).swap (x := x) (SlX.SlO x (Γ.cl k) dx (SlX.putS (ix1 sw) v1 [])) (ok2.p _ _ P2x).2 (fun i b hb => Mx ok2 P2x i b hb)
      have frC := (fr2.swap hPBd (.xd [])).swap (x := x) (u := .ins (Γ.cl k) dx []) (by rw [upd_ne hne.symm]; exact hPBx) (SlX.SlO x (Γ.cl k) dx (SlX.putS (ix1 sw) v1 []))
      refine ⟨_, es, S2, _, okC, frC, ?_⟩
      simp only [Res.bindA] at h
      cases eg : f2 es S2 with
      | bad => rw [eg] at h; exact h.elim
      | exc c fs S3 =>
        rw [eg] at h
        intro W3 d H3 l3 ok3 rx
        refine h { W3 with P := W.P } d H3 ⟨fun a o q => l3.f _ _ (l2.f _ _ (l1.f _ _ q)), rfl, fun i a q => l3.m _ _ (l2.m _ _ (l1.m _ _ q))⟩ (ok3.less fun a u q => ?_) (repX_le rx ⟨fun _ _ h => h, fun _ _ h => h⟩)
        have n1 : a ≠ x := ne_of_none q hPx
        have n2 : a ≠ dx := ne_of_none q hPd
        rw [l3.p]
        show upd (upd W2.P dx _) x _ a = _
        rw [upd_ne n1, upd_ne n2, l2.p]
        exact P1W a u q
      | ok d2 S3 =>
        rw [eg] at h
        intro W3 v2 H3 l3 ok3 r2
        have P3x : W3.P x = some (SlX.SlO x (Γ.cl k) dx (SlX.putS (ix1 sw) v1 [])) := by rw [l3.p]; exact upd_same
        have P3d : W3.P dx = some (.xd []) := by
          rw [l3.p]
          show upd (upd W2.P dx _) x _ dx = _
          rw [upd_ne hne, upd_same]
        obtain ⟨p2, t2⟩ := t2
        refine ⟨.ref x, hσ, x, Γ.cl k, dx, p2, SlX.putS (ix1 sw) v1 [], ix2 sw, rfl, .inr ⟨(ok3.p _ _ P3x).1, (ok3.p _ _ P3d).1⟩, c.sc, t2, ?_⟩
        have okD := (ok3.swap (x := dx) (.xd []) (ok3.p _ _ P3d).2 (Mx ok3 P3d)).swap (x := x) (SlX.SlO x (Γ.cl k) dx (SlX.putS (ix2 sw) v2 (SlX.putS (ix1 sw) v1 []))) (ok3.p _ _ P3x).2 (fun i b hb => Mx ok3 P3x i b hb)
        have ePut : SlX.putS (ix2 sw) v2 (SlX.putS (ix1 sw) v1 []) = (ord sw v1 v2).map some := by cases sw <;> rfl
        simp only [Res.bindA] at h
        have lF : ∀ a o, W.F a = some o → W3.F a = some o := fun a o q => l3.f _ _ (l2.f _ _ (l1.f _ _ q))
        refine h { W3 with P := W.P } _ (ord sw v1 v2) ⟨lF, rfl, fun i a q => l3.m _ _ (l2.m _ _ (l1.m _ _ q))⟩ ?_ (ok3.p _ _ P3x).2 (ok3.p _ _ P3d).2 (fun i a q => ⟨Mx ok3 P3x i a q, Mx ok3 P3d i a q⟩) ?_ ?_
        · refine okD.less (P1 := W.P) fun a u q => ?_
          have n1 : a ≠ x := ne_of_none q hPx
          have n2 : a ≠ dx := ne_of_none q hPd
          show upd (upd W3.P dx _) x _ a = _
          rw [upd_ne n1, upd_ne n2, l3.p]
          show upd (upd W2.P dx _) x _ a = _
          rw [upd_ne n1, upd_ne n2, l2.p]
          exact P1W a u q
        · have q1 := repP (P1 := W.P) (Rep.mono (W := W2) (W' := W3) ⟨fun a o q => l3.f _ _ q, fun i a q => l3.m _ _ q⟩ r1)
          have q2 := repP (P1 := W.P) r2
          cases sw
          · exact Reps.cons q1 (Reps.cons q2 Reps.nil)
          · exact Reps.cons q2 (Reps.cons q1 Reps.nil)
        · rw [← ePut]
          exact SlX.slH_slt hne

/-! ### a call of the class -/
theorem runMk {CX : CXT} {k : Nat} {f C : Addr} {fd : FuncData} {ps : List Str} {sp : Sp} {dvs : List V} {ds : List Value} {Ex : XK} {pins : List (Addr × Obj)} {σ : L2.St} {H : Hp} {s : Shared} {Q : VK} {us : List Value} {vs : List V} (M : Mk X.K C f) (F : FnOk X.prog X.w X.K X.mg X.base CX k f fd ps sp)
    (hr : Room (k + 1) X.A) (hb : Binds X.K fd ps ds) (hd : Vals dvs ds) (hx : PassesAt CX X σ Ex) (I : Inv X pins σ H s) (r : Vals vs us)
    (h : ∀ x dx, H x = none → H dx = none → dx ≠ x → sp (.ref x :: (vs ++ dvs)) (upd (upd H dx (.own x)) x (.ins C dx [])) (fun v H2 => v = .non ∧ Q (.ref x) H2) Ex) : wpAny (model X.prog X.w) X.A (call (.ref C) us) (EP X pins σ Q) X.xe s := by
  let x : Addr := s.heap.objs.size + 1
  let dx : Addr := s.heap.objs.size
  have hs := h x dx (I.hok.fresh (Nat.le_succ _)) (I.hok.fresh (Nat.le_refl _)) (Nat.ne_of_lt (Nat.lt_succ_self _))
  have J := Inv.made (C := C) I
  have rr : Vals (V.ref x :: (vs ++ dvs)) (Value.ref x :: (us ++ ds)) := .cons rfl (r.append hd)
  have hl : (Value.ref x :: us ++ ds).length = ps.length := (rr.length.symm.trans (F.len _ _ _ _ hs) : _)
  have run := F.run _ X.stack _ _ ⟨Value.ref x :: us, []⟩ (Value.ref x :: (us ++ ds)) _ _ Ex (hr.make C us []) (J.env0.make C us []) (hb _ (Value.ref x :: us) J.kIn hl) rr hs
  refine wpAny_call (make_map (f := f) I.kIn M.makes M.init (beq_iff_eq.mp M.fn) (codeAny_mono run fun r s' hq => ?_))
  match r, hq with
  | .error e, hq => exact hx pins _ _ e s' J hq
  | .ok (.ret u), hq =>
    obtain ⟨v, H', J2, rv, ev, q3⟩ := J.after hq
    subst ev
    exact ⟨rv, ⟨V.ref x, H', J2, rfl, q3⟩⟩
  | .ok .next, hq => exact hq.elim
  | .ok .brk, hq => exact hq.elim
  | .ok .cont, hq => exact hq.elim
/-- what a caller wants of a class: dfl fill up the values given -/
structure Mak (Γ : Pg) (P : Program) (w : World) (mg : Str → Option Value) (base : Heap) (k : Nat) (x : Str) (c n : Nat) (dfl : List D) (F : List D → Store → ResA) : Prop where
  no : Γ.at_ c = none
  ex : ∃ (fI : Addr) (fd : FuncData) (ps : List Str) (ds : List Value) (dvs : List V), Mk Γ.K (Γ.cl c) fI ∧ FnOk P w Γ.K mg base (L2.CX P w) k fI fd ps (spI Γ c n F) ∧ mg x = some (.ref (Γ.cl c)) ∧ Binds Γ.K fd ps ds ∧ Vals dvs ds ∧ ∀ W, Reps Γ W dfl dvs
def newD (c n : Nat) (F : List D → Store → ResA) : List D → Store → Res := fun ds S => if ds.length = n then match F ds S with
  | .ok fs S1 => if fs.length ≠ 0 then .ok (.obj c fs) S1 else .bad
  | .exc k fs S1 => .exc k fs S1
  | .bad => .bad
  else .bad
def eNew (c n : Nat) (dfl : List D) (F : List D → Store → ResA) (a : AF) : EF := fun es S => (a es S).bind fun ds S1 => newD c n F (ds ++ dfl) S1
theorem spI_of {c n : Nat} {F : List D → Store → ResA} {W : Wd} {S : Store} {H : Hp} {ds : List D} {vs : List V} {Q : VK} {Ex : XK} (hno : Γ.at_ c = none) (ok : Ok Γ W S H) (r : Reps Γ W ds vs) (h : Cont Γ (newD c n F ds S) W Q Ex) {x dx : Addr} (hx : H x = none) (hd : H dx = none) (hne : dx ≠ x) :
    spI Γ c n F (.ref x :: vs) (upd (upd H dx (.own x)) x (.ins (Γ.cl c) dx [])) (fun v H2 => v = .non ∧ Q (.ref x) H2) Ex := by
  unfold newD at h
  split at h
  case isFalse => exact h.elim
  rename_i hl
  obtain ⟨Fx, Px, Mx⟩ := ok.fresh hx
  obtain ⟨Fd, Pd, Md⟩ := ok.fresh hd
  have okA := ((ok.swap (x := dx) (.own x) Fd Md).swap (x := x) (.ins (Γ.cl c) dx []) Fx Mx).less (P1 := W.P) fun a u q => by
    show upd (upd W.P dx _) x _ a = _
    rw [upd_ne (ne_of_none q Px), upd_ne (ne_of_none q Pd)]
    exact q
  refine ⟨x, dx, vs, W, S, ds, rfl, okA, r, hl, Fx, Fd, Px, Pd, fun i a q => ⟨Mx i a q, Md i a q⟩, hne, upd_same, by rw [upd_ne hne, upd_same], ?_⟩
  cases e : F ds S with
  | bad => rw [e] at h; exact h.elim
  | exc k fs S1 => rw [e] at h; exact h
  | ok fs S1 =>
    rw [e] at h
    simp only at h
    split at h
    case isFalse => exact h.elim
    rename_i h0
    intro W' H' us l ok' F'x F'd M' rs hs
    refine ⟨rfl, ?_⟩
    have hus : us ≠ [] := fun z => h0 (by rw [← rs.length, z]; rfl)
    rcases hs with ⟨_, z⟩ | ⟨q1, q2⟩
    · exact absurd (List.map_eq_nil_iff.mp z) hus
    -- the instance becomes data
    let F1 : Hp := upd (upd W'.F dx (.xd [])) x (SlX.SlO x (Γ.cl c) dx (us.map some))
    have le1 : ∀ a u, W'.F a = some u → F1 a = some u := fun a u q => by
      show upd (upd W'.F dx _) x _ a = _
      rw [upd_ne (ne_of_none q F'x), upd_ne (ne_of_none q F'd)]
      exact q
    have lS : LeS W' { W' with F := F1 } := ⟨le1, fun _ _ h => h⟩
    have hP' : ∀ a u, W'.P a = some u → a ≠ x ∧ a ≠ dx := fun a u q => by
      rw [l.p] at q
      exact ⟨ne_of_none q Px, ne_of_none q Pd⟩
    have f1 : ∀ a, a ≠ x → a ≠ dx → F1 a = W'.F a := fun a n1 n2 => by
      show upd (upd W'.F dx _) x _ a = _
      rw [upd_ne n1, upd_ne n2]
    refine h { W' with F := F1 } _ H' ⟨fun a o q => le1 a o (l.f a o q), l.p, l.m⟩ ⟨fun a u q => ?_, fun a u q => ?_, fun i a q => ?_, ok'.nd, ok'.len, fun i a ds q3 q4 => ?_⟩ ?_
    · have q : F1 a = some u := q
      by_cases z : a = x
      · subst z
        have : F1 a = some (SlX.SlO a (Γ.cl c) dx (us.map some)) := upd_same
        rw [q1, ← this]
        exact q
      · by_cases z2 : a = dx
        · subst z2
          have : F1 a = some (.xd []) := by
            show upd (upd W'.F a _) x _ a = _
            rw [upd_ne z, upd_same]
          rw [q2, ← this]
          exact q
        · rw [f1 a z z2] at q
          exact ok'.f a u q
    · obtain ⟨n1, n2⟩ := hP' a u q
      exact ⟨(ok'.p a u q).1, (f1 a n1 n2).trans (ok'.p a u q).2⟩
    · obtain ⟨n1, n2⟩ := M' i a q
      exact ⟨(f1 a n1 n2).trans (ok'.m i a q).1, (ok'.m i a q).2⟩
    · obtain ⟨ws, q5, q6⟩ := ok'.c i a ds q3 q4
      exact ⟨ws, q5, q6.mono lS⟩
    · simp only [Rep]
      refine ⟨x, dx, us, rfl, ?_, rs.mono lS⟩
      unfold ObjAt
      rw [hno]
      refine .inr ⟨upd_same, ?_⟩
      show upd (upd W'.F dx _) x _ dx = _
      rw [upd_ne hne, upd_same]
theorem de_new {e : Expr} {es : List Expr} {x : Str} {fa : AF} {c n j l : Nat} {dfl : List D} {p pos : Pos} {P : Program} {w : World} {mg : Str → Option Value} {base : Heap} {F : List D → Store → ResA} (hh : Here Γ P w mg base l X E) (M : Mak Γ P w mg base j x c n dfl F)
    (ha : PA X (e :: es) (dA Γ ξ fa E)) (hj : j + 1 ≤ l := by decide) (hg : Gl X x := by rfl) (hdb : (x == ("__debug__" : Str)) = false := by decide) (he : starEach (e :: es) X.env = (false, eval e X.env) :: starEach es X.env := by rfl) (hpl : (backTo pos (starEach es X.env)).any (·.1) = false := by rfl) :
    PE X (.Call (.Name x p) (e :: es) [] pos) (dE Γ ξ (eNew c n dfl F fa) E) := by
  obtain ⟨h1, h2, h3, h4, h5, h6, h7⟩ := hh
  subst h1 h2 h4 h5
  obtain ⟨fI, fd, ps, ds, dvs, hM, hF, hm, hb, hv, hrep⟩ := M.ex
  rw [← h3] at hM hF hb
  refine ⟨fun pins s σ H Q I ⟨W, es', S, P0, ok, fr, h⟩ => ?_⟩
  refine wpAny_Call_Name_kw (ld_glob I hg hm ?_ hdb)
  refine PySem.W.callWith_K (h₀ := X.base) I.ok.mod.kin hM.kp (thn (ha.run pos pins s σ H (fun vs H1 => ∃ W1 S1 ds1, Ok Γ W1 S1 H1 ∧ Reps Γ W1 ds1 vs ∧ Cont Γ (newD c n F (ds1 ++ dfl) S1) W1 Q (at_ E σ)) I
    ⟨W, es', S, P0, ok, fr, ContA.bind h fun ds1 S1 W1 vs H1 le ok1 rs h1 => ⟨W1, S1, ds1, ok1, rs, h1⟩⟩) fun us s1 ⟨vs, H1, I1, r, W1, S1, ds1, ok1, rs, h1⟩ => ⟨I1.kIn, ?_⟩) he hpl
  exact runMk (dvs := dvs) hM hF (h6.mono hj) hb hv (pass_of h7 σ) I1 r fun x dx hx hd hne => spI_of M.no ok1 (rs.append (hrep W1)) h1 hx hd hne
end
end DL
set_option Elab.async false
set_option linter.all false
set_option maxRecDepth 100000
set_option maxHeartbeats 2000000
set_option autoImplicit false
/-! The data layer, 8: exceptions. -/
namespace DL
open PySem L2 PyProof.Rows

section
variable {Γ : Pg} {ξ : Xx} {X : Cx} {E : WX}
/-! ### an own exception's __init__: B.__init__(self, text); self.f = value -/
/-- B's __init__ is that of ValueError, reached through the class B -/
structure BaseF (K : PySem.W.Frag) (mg : Str → Option Value) (x : Str) : Prop where
  ex : ∃ (B : Addr) (mc : Value), mg x = some (.ref B) ∧ ClX.CRead K B mc ∧ PySem.W.findCls K (.ref B) mc "__init__" = some (.val (.builtin "ValueError.__init__"))
theorem pe_binit {x : Str} {e : Expr} {es : List Expr} {ta : TA} {p1 p2 pos : Pos} {pl : Sem Bool} (b : BaseF X.K X.mg x) (ha : PA X (e :: es) ta) (hg : Gl X x := by rfl) (hdb : (x == ("__debug__" : Str)) = false := by decide)
    (hc : eval (.Call (.Attribute (.Name x p1) "__init__" p2) (e :: es) [] pos) X.env = (do
      let ov ← eval (.Name x p1) X.env
      standAt p2.atName
      let (f, first) ← holding [ov] (getMethod ov "__init__" pl)
      callWith pos f first (backTo pos (starEach (e :: es) X.env)) (backToKw pos (keywordEach [] X.env))) := by rfl)
    (he : starEach (e :: es) X.env = (false, eval e X.env) :: starEach es X.env := by rfl) (hpl : (backTo pos (starEach es X.env)).any (·.1) = false := by rfl) :
    PE X (.Call (.Attribute (.Name x p1) "__init__" p2) (e :: es) [] pos) (tVeI X.K ta) := by
  obtain ⟨B, mc, hm, rd, hv⟩ := b.ex
  refine ⟨fun pins s σ H Q I h => ?_⟩
  refine PySem.W.methodCall_KW (ld_glob I hg hm ?_ hdb) hc
  refine PySem.W.method_cls I.kIn rd.ga (PySem.W.cls_value I.kIn rd.rd hv rfl ?_)
  refine PyProof.Rows.callWith_method1 (first := []) (thn (ha.run pos pins _ σ H _ (I.tok _) h) fun us s1 ⟨vs, H1, I1, r1, a, C, ws, ev, hl, T, ea, q⟩ => ?_) he hpl
  subst ev
  cases r1 with
  | @cons _ u0 _ ur ra rr =>
    obtain rfl : u0 = Value.ref a := ra
    exact oinit_ok T I1 ea (by rw [← Paired.length rr, sizeLine_eq]; omega) fun s' J => ⟨.non, H1, J, rfl, q⟩
/-- the promises of such an __init__: with a field, without one -/
def spX (C : Addr) (f : Str) : Sp := fun vs H Q _ => ∃ (a : Addr) (v : V), vs = [.ref a, v] ∧ H a = some (exo a C none) ∧ ∀ dx, H dx = none → dx ≠ a → Q .non (upd (upd H dx (exd dx [(f, v)])) a (exo a C (some dx)))
def spX0 (C : Addr) : Sp := fun vs H Q _ => ∃ a : Addr, vs = [.ref a] ∧ H a = some (exo a C none) ∧ Q .non H
abbrev tXInit (K : PySem.W.Frag) (t : Str) (f : Str) : TS := tSeq (tDrop (tVeI K (tCons (tVar 0) (tCons (tC (.str t)) tNil)))) (tOst K f (tVar 0) (tVar 1))
abbrev tXInit0 (K : PySem.W.Frag) (t : Str) : TS := tDrop (tVeI K (tCons (tVar 0) (tCons (tC (.str t)) tNil)))
theorem xinit {K : PySem.W.Frag} {C : Addr} {f t : Str} {names : List Str} {vs : List V} {H : Hp} {Q : VK} (T : OexC K C) (hno : PySem.W.findIn K (.ref C) f = some none) (hn : names.length = 2) (h : spX C f vs H Q (fun _ _ _ => False)) : tXInit K t f { nx := fun _ H' => Q .non H', rt := Q } (L2.start names vs) H := by
  obtain ⟨a, v, rfl, ha, h⟩ := h
  refine ⟨.ref a, rfl, a, C, [.str t], rfl, by show 1 ≤ 1000; decide, T, ha, v, rfl, .ref a, rfl, a, C, rfl, T, hno, .inl ⟨ha, fun dx n ne => h dx n ne⟩⟩
theorem xinit0 {K : PySem.W.Frag} {C : Addr} {t : Str} {names : List Str} {vs : List V} {H : Hp} {Q : VK} (T : OexC K C) (h : spX0 C vs H Q (fun _ _ _ => False)) : tXInit0 K t { nx := fun _ H' => Q .non H', rt := Q } (L2.start names vs) H := by
  obtain ⟨a, rfl, ha, h⟩ := h
  exact ⟨.ref a, rfl, a, C, [.str t], rfl, by show 1 ≤ 1000; decide, T, ha, h⟩
/-- what a raise wants of a class: c its number, f its field -/
structure ExF (Γ : Pg) (P : Program) (w : World) (mg : Str → Option Value) (base : Heap) (k : Nat) (x : Str) (c : Nat) (f : Str) : Prop where
  ex : ∃ (fI : Addr) (fd : FuncData) (ps : List Str), OexC Γ.K (Γ.cl c) ∧ PySem.W.findIn Γ.K (.ref (Γ.cl c)) "__init__" = some (some (.ref fI)) ∧ PySem.W.typeIn Γ.K (.ref fI) = some (.type "function") ∧
    FnOk P w Γ.K mg base (L2.CX P w) k fI fd ps (spX (Γ.cl c) f) ∧ Binds Γ.K fd ps [] ∧ mg x = some (.ref (Γ.cl c))
structure ExF0 (Γ : Pg) (P : Program) (w : World) (mg : Str → Option Value) (base : Heap) (k : Nat) (x : Str) (c : Nat) : Prop where
  ex : ∃ (fI : Addr) (fd : FuncData) (ps : List Str), OexC Γ.K (Γ.cl c) ∧ PySem.W.findIn Γ.K (.ref (Γ.cl c)) "__init__" = some (some (.ref fI)) ∧ PySem.W.typeIn Γ.K (.ref fI) = some (.type "function") ∧
    FnOk P w Γ.K mg base (L2.CX P w) k fI fd ps (spX0 (Γ.cl c)) ∧ Binds Γ.K fd ps [] ∧ mg x = some (.ref (Γ.cl c))
def sRaise (c : Nat) (n : Str) (f : EF) : SF := fun es S => (f es S).toS es fun d S1 => .exc c [(n, d)] es S1
theorem ds_raise {e : Expr} {x n : Str} {fe : EF} {c j l : Nat} {p pos pos' : Pos} {P : Program} {w : World} {mg : Str → Option Value} {base : Heap} (hh : Here Γ P w mg base l X E) (T : ExF Γ P w mg base j x c n) (hc : X.calm = true) (he : PE X e (dE Γ ξ fe E)) (hj : j + 1 ≤ l := by decide)
    (hg : Gl X x := by rfl) (hdb : (x == ("__debug__" : Str)) = false := by decide) (hs : starEach (e :: []) X.env = (false, eval e X.env) :: starEach [] X.env := by rfl) (hpl : (backTo pos (starEach [] X.env)).any (·.1) = false := by rfl) :
    PS X (.Raise (some (.Call (.Name x p) [e] [] pos)) none pos') (dS Γ ξ (sRaise c n fe) E) := by
  obtain ⟨h1, h2, h3, h4, h5, h6, h7⟩ := hh
  subst h1 h2 h4 h5
  obtain ⟨fI, fd, ps, T1, T2, T3, T4, T5, T6⟩ := T.ex
  rw [← h3] at T1 T2 T3 T4 T5
  refine (ps_raise hc h7 (pmk_oex (dvs := []) (ds := []) T1 T2 T3 T4 (h6.mono hj) T5 .nil passL hg T6 (pa_cons he pa_nil hs) hdb hs hpl)).imp fun Dn σ H ⟨W, es, S, P0, ok, fr, h⟩ => ?_
  refine ⟨W, es, S, P0, ok, fr, ContS.toS fr h fun d S1 W1 v H1 le ok1 rv h1 => ⟨by show 1 ≤ 1000; decide, fun a ha => ?_⟩⟩
  refine ⟨a, v, rfl, upd_same, fun dx hdx hne => ⟨rfl, dx, [(n, v)], upd_same, by rw [upd_ne hne, upd_same], ?_, ?_⟩⟩
  · rw [upd_ne hne] at hdx
    exact hdx
  · rw [upd_ne hne] at hdx
    have eH : upd (del (upd (upd (upd H1 a (exo a (Γ.cl c) none)) dx (exd dx [(n, v)])) a (exo a (Γ.cl c) (some dx))) a) dx (.xd [(n, v)]) = upd H1 dx (.xd [(n, v)]) := by
      funext b
      by_cases z : b = dx
      · rw [z, upd_same, upd_same]
      · rw [upd_ne z, upd_ne z]
        by_cases z2 : b = a
        · rw [z2, del_same, ha]
        · rw [del_ne z2, upd_ne z2, upd_ne z, upd_ne z2]
    have l2 := Le.lay (o := .xd [(n, v)]) (ok1.fresh hdx).1
    rw [eH]
    exact h1 _ σ (some dx) _ l2.s (ok1.lay hdx _) ((fr.le le).le l2) (.inr ⟨dx, [(n, v)], rfl, upd_same, rfl, Reps.cons (rv.mono l2.s) Reps.nil⟩)
/-! ### one without a field -/
theorem mkEnd {pins : List (Addr × Obj)} {σ : L2.St} {H1 : Hp} {hp hp2 h2 : Heap} {g1 g2 : Array GenState} {d1 d2 : Drawn} {t1 t2 : Nat} {os : OsState} {a C : Addr} (I1 : Inv X pins σ H1 ⟨hp, g1, d1, t1, os⟩) (ha : hp.objs.size ≤ a)
    (k : ∀ b o, hp.get? b = some o → hp2.get? b = some o) (un : Un (frs X.stack) [] (upd H1 a (exo a C none)) (upd H1 a (exo a C none)) hp2 h2) (hok : HOk X.prog X.w (upd H1 a (exo a C none)) h2) (hb : AllBare g2) :
    ∃ (t0 : Addr) (G : Heap), Inv X pins σ H1 ⟨G, g2, d2, t2, os⟩ ∧ (∀ b o, G.get? b = some o → h2.get? b = some o) ∧ G.get? a = none ∧ h2.get? a = some ({ cls := .ref C, dict := none, data := .fields #[.ref t0, .none, .none, .none, .bool false, .none] } : Obj) ∧ H1 a = none := by
  obtain ⟨t0, hoe⟩ := exo_at hok upd_same
  have hn : H1 a = none := I1.hok.fresh ha
  obtain ⟨G, q1, q2⟩ := restrict h2 fun b => decide (b ≠ a)
  have gk : ∀ b, b ≠ a → G.get? b = h2.get? b := fun b hb => q1 b (decide_eq_true hb)
  have ge : G.get? a = none := q2 a (by simp)
  have nha : ∀ {b : Addr} {o : Obj}, hp.get? b = some o → b ≠ a := fun {b o} z => Nat.ne_of_lt (Nat.lt_of_lt_of_le (Heap.lt_size z) ha)
  have up : ∀ {b : Addr}, b ≠ a → upd H1 a (exo a C none) b = H1 b := fun {b} hb => upd_ne hb
  have nt : ∀ {b : Addr} {u : HO}, H1 b = some u → b ≠ a := fun {b u} z => ne_of_none z hn
  have U : Un (frs X.stack) [] H1 H1 hp G := {
    keep := fun b o z n hf hx => (gk b (nha z)).trans (un.keep b o (k b o z) ((up (nha z)).trans n) hf hx)
    slot := fun b o z n hf hx => by rw [gk b (nha z)]; exact un.slot b o (k b o z) ((up (nha z)).trans n) hf hx
    free := fun b o z n hx => n
    there := fun b o z hx => by rw [gk b (nha z)]; exact un.there b o (k b o z) hx
    tups := fun b xs z => z
    frzs := fun b o v z => z
    tbls := fun b ps z => ⟨#[], by simpa using z⟩ }
  have hok3 : HOk X.prog X.w H1 G := fun b o z => by
    have hba := nt z
    have z2 : upd H1 a (exo a C none) b = some o := (up hba).trans z
    refine (hok b o z2).stay (fun c v hc y => ?_) (fun c hc => ?_) (fun c xs hc => ?_)
    · have hca : c ≠ a := by
        rcases hc with hc | hc
        · rw [hc]
          exact hba
        · exact at_ne upd_same hc exo_own
      rw [gk c hca]
      exact y
    · have hca : c ≠ a := at_ne upd_same hc exo_own
      rw [up hca] at hc
      exact hc
    · have hca : c ≠ a := at_ne upd_same hc exo_tup
      rw [up hca] at hc
      exact hc
  refine ⟨t0, G, I1.call' (ch := []) rfl U hok3 hb (fun b z => absurd z (by simp)), fun b o z => ?_, ge, hoe, hn⟩
  by_cases hba : b = a
  · rw [hba, ge] at z
    cases z
  · exact (gk b hba).symm.trans z
def tMk0 (C : Addr) : L2.St → Hp → XK → Prop := fun σ H Q => Q (.ref C) none H
theorem pmk0 {x : Str} {C fI : Addr} {k : Nat} {fd : FuncData} {ps : List Str} {p pos : Pos} (T : OexC X.K C) (iC : PySem.W.findIn X.K (.ref C) "__init__" = some (some (.ref fI))) (tI : PySem.W.typeIn X.K (.ref fI) = some (.type "function"))
    (F1 : FnOk X.prog X.w X.K X.mg X.base (L2.CX X.prog X.w) k fI fd ps (spX0 C)) (hr : Room (k + 1) X.A) (hb : Binds X.K fd ps []) (hg : Gl X x) (hm : X.mg x = some (.ref C)) (hdb : (x == ("__debug__" : Str)) = false := by decide) :
    PMk X (.Call (.Name x p) [] [] pos) (tMk0 C) := by
  intro pins s σ H1 Q I1 h
  obtain ⟨nm, q, N, bs, bm, sn, sub, ab, col, dd, k0, k1, k2, k3, k5, hC, hbm⟩ := T.cls
  refine wpAny_Call_Name_kw (ld_glob I1 hg hm ?_ hdb)
  refine PySem.W.callWith_K0 I1.kIn T.kC ?_
  show wpAny _ _ (call (.ref C) []) _ _ _
  obtain ⟨hp, g, dr, tk, os⟩ := s
  let a : Addr := hp.objs.size + 1
  have hsz : hp.objs.size ≤ a := Nat.le_succ _
  have hn : H1 a = none := I1.hok.fresh hsz
  let h0 : Heap := (hp.push (PySem.W.kdv_tup [])).push (PySem.HandSPX.excO C hp.objs.size)
  have kk : ∀ b o, hp.get? b = some o → h0.get? b = some o := fun b o e => Heap.get?_push_of_some _ (Heap.get?_push_of_some _ e)
  have hget : h0.get? (hp.objs.size + 1) = some (PySem.HandSPX.excO C hp.objs.size) := by heap_get
  have I2 : Inv X pins σ (upd H1 a (exo a C none)) ⟨h0, g, dr, tk, os⟩ := I1.laid (t' := tk) (a := a) (o := exo a C none) (h' := h0) kk hsz (exo_ok hget)
  have hq : spX0 C [.ref a] (upd H1 a (exo a C none)) (fun v H2 => v = .non ∧ H2 = upd H1 a (exo a C none)) (fun _ _ _ => False) := ⟨a, rfl, upd_same, rfl, rfl⟩
  have hl : ([Value.ref a] ++ []).length = ps.length := (F1.len _ _ _ _ hq : _)
  have run := F1.run _ X.stack _ _ ⟨[Value.ref a], []⟩ ([Value.ref a] ++ []) _ _ (fun _ _ _ => False) (hr.make C [] []) (I2.env0.make C [] []) (hb _ [Value.ref a] I2.kIn hl) (show Vals [V.ref a] [Value.ref a] from .cons rfl .nil) hq
  refine wpAny_call (PySem.HandSPX.call_own F.excBase_ValueError (fun Y => PySem.HandSPX.refsVE_contains Y bm hbm) (I1.kIn _ _ hC) (PySem.W.looks_findIn I1.kIn iC) (fun self => PySem.W.bind_fn I1.kIn self tI) (by rw [sizeLine_eq]; decide) (codeAny_mono run fun r s' hq' => ?_))
  match r, hq' with
  | .error er, hq' => exact (passL pins σ _ _ er s' I2 hq')
  | .ok .next, hq' => exact hq'.elim
  | .ok .brk, hq' => exact hq'.elim
  | .ok .cont, hq' => exact hq'.elim
  | .ok (.ret u), hq' =>
    obtain ⟨v, H2, os2, bare2, un2, hok2, rv, ev, eH⟩ := hq'
    subst ev eH
    obtain ⟨h2, g2, d2, t2, os'⟩ := s'
    obtain rfl : os' = os := os2
    obtain ⟨t0, G, J, kG, ge, hoe, na⟩ := mkEnd (d2 := d2) (t2 := t2) I1 hsz kk un2 hok2 bare2
    exact ⟨rv, a, _, _, ⟨G, g2, d2, t2, os'⟩, H1, .ref C, none, rfl, J, kG, ge, hoe, ⟨rfl, rfl⟩, rfl, rfl, na, rfl, bare2, raises_own T.exC T.tyC, h⟩
def sRaise0 (c : Nat) : SF := fun es S => .exc c [] es S
theorem ds_raise0 {x : Str} {c j l : Nat} {p pos pos' : Pos} {P : Program} {w : World} {mg : Str → Option Value} {base : Heap} (hh : Here Γ P w mg base l X E) (T : ExF0 Γ P w mg base j x c) (hc : X.calm = true) (hj : j + 1 ≤ l := by decide) (hg : Gl X x := by rfl) (hdb : (x == ("__debug__" : Str)) = false := by decide) :
    PS X (.Raise (some (.Call (.Name x p) [] [] pos)) none pos') (dS Γ ξ (sRaise0 c) E) := by
  obtain ⟨h1, h2, h3, h4, h5, h6, h7⟩ := hh
  subst h1 h2 h4 h5
  obtain ⟨fI, fd, ps, T1, T2, T3, T4, T5, T6⟩ := T.ex
  rw [← h3] at T1 T2 T3 T4 T5
  exact (ps_raise hc h7 (pmk0 T1 T2 T3 T4 (h6.mono hj) T5 hg T6 hdb)).imp fun Dn σ H ⟨W, es, S, P0, ok, fr, h⟩ => h W σ none H (LeS.refl W) ok fr (.inl rfl)
end
end DL
set_option Elab.async false
set_option linter.all false
set_option maxRecDepth 100000
set_option maxHeartbeats 2000000
set_option autoImplicit false
/-! The data layer, 9: try with several clauses, with and without a name. -/
namespace DL
open PySem L2 PyProof.Rows

/-- a clause: its class, its name's slot, its suite's reading -/
structure Hd where
  c : Value
  i : Option Nat
  ts : Addr → Value → Option Addr → TS
def clr (i : Nat) (D : Ends) : Ends := { nx := fun σ H => D.nx (σ.set i none) H, rt := D.rt, bk := fun σ H => D.bk (σ.set i none) H, ct := fun σ H => D.ct (σ.set i none) H }
def Hd.go (h : Hd) (D : Ends) (a : Addr) (cls : Value) (d : Option Addr) (σ : L2.St) (H : Hp) : Prop := match h.i with
  | none => h.ts a cls d D σ H
  | some i => h.ts a cls d (clr i D) (σ.set i (some (.ref a))) H
def wAll (K : PySem.W.Frag) (Wout : WX) (D : Ends) : List Hd → WX
  | [] => Wout
  | h :: r => fun cls d σ H => ∃ b, PySem.W.exmOne K cls h.c = some b ∧ (b = true → ∀ a, H a = none → h.go D a cls d σ H) ∧ (b = false → wAll K Wout D r cls d σ H)
inductive HdsA (X : Cx) : List ExceptHandler → List Hd → Prop
  | nil : HdsA X [] []
  | plain {x : Str} {c : Value} {ts : Addr → Value → Option Addr → TS} {b0 : Stmt} {suite : List Stmt} {np pos' : Pos} {hds : List ExceptHandler} {l : List Hd} (hc : Names X x c)
      (hsu : ∀ (a : Addr) (oe : Obj) (cls : Value) (d : Option Addr) (pn : List (Addr × Obj)), Zc cls d oe → (∃ vs, oe.data = .fields vs) → PSs (X.suite a ((a, oe) :: pn)) (b0 :: suite) (ts a cls d)) (r : HdsA X hds l) :
      HdsA X (.ExceptHandler (some (.Name x np)) none (b0 :: suite) pos' :: hds) (⟨c, none, ts⟩ :: l)
  | named {x n : Str} {i : Nat} {c : Value} {ts : Addr → Value → Option Addr → TS} {b0 : Stmt} {suite : List Stmt} {np pos' : Pos} {hds : List ExceptHandler} {l : List Hd} (hc : Names X x c) (hi : X.N[i]? = some n) (hln : X.env.kindOf n = some .local)
      (hsu : ∀ (a : Addr) (oe : Obj) (cls : Value) (d : Option Addr) (pn : List (Addr × Obj)), Zc cls d oe → (∃ vs, oe.data = .fields vs) → PSs (X.suite a ((a, oe) :: pn)) (b0 :: suite) (ts a cls d)) (r : HdsA X hds l) :
      HdsA X (.ExceptHandler (some (.Name x np)) (some n) (b0 :: suite) pos' :: hds) (⟨c, some i, ts⟩ :: l)
section
variable {X : Cx} {body : List Stmt} {h0 : ExceptHandler} {hds : List ExceptHandler} {l : List Hd} {pos : Pos} {tb : WX → TS} {Wout : WX}
theorem ps_tryA (hs : X.stack = X.env :: X.outer) (hf : X.env.frame = some X.env.locals) (hN : X.N.Nodup) (tk : Takes X Wout)
    (hb : ∀ (W : WX) (pn : List (Addr × Obj)) (xe : Value → Shared → Prop), Takes (X.tr pn xe) W → PassesOwn (model X.prog X.w) X.A X.env xe → PSs (X.tr pn xe) body (tb W)) (hh : HdsA X (h0 :: hds) l) :
    PS X (.Try body (h0 :: hds) [] [] pos) (fun D σ H => tb (wAll X.K Wout D l) D σ H) := by
  refine ⟨fun pins s σ H D I hrun => ?_⟩
  have okX := I.ok
  have frs' : X.A.frames = some (X.env :: X.outer) := by rw [okX.frames, hs]
  refine wpAny_Try_except ?_
  let after : Value → Shared → Prop := fun e s1 => wpAny (model X.prog X.w) X.A (noteFrame e X.env) (fun _ s2 => wpAny (model X.prog X.w) X.A (setFlight e none) (fun _ s3 => wpAny (model X.prog X.w) X.A (handleBy e X.env (h0 :: hds)) (SP X pins D) X.xe s3) X.xe s2) X.xe s1
  have caught : Takes (X.tr (X.pn ++ pins) after) (wAll X.K Wout D l) := by
    rintro u s' ⟨a, B, sI, pins', σ', H', cls, d, rfl, J', nb, up, sky, na, os, ag, w⟩
    have J : Inv X pins σ' H' sI := J'.ofTry okX
    have sky2 : Sky B (X.env :: X.outer) a (Zc cls d) X.env.locals s'.heap := by rw [← hs]; exact sky
    show wpAny (model X.prog X.w) X.A (noteFrame (.ref a) X.env) _ _ _
    refine Sky.land Zc.steady frs' hf sky2 fun h3 fl3 up3 => ?_
    have J3 : Inv X pins σ' H' { s' with heap := h3 } := J.landed nb fl3.1 (up.trans up3) os ag
    obtain ⟨oe3, vs3, he3, hz3, hd3⟩ := fl3.there
    have notIn : a ∉ frs (X.env :: X.outer) := fun hm => by
      obtain ⟨_, o', e', hnf⟩ := fl3.2.2.1.mem hm
      rw [he3] at e'
      cases e'
      exact hnf _ hd3
    have nL : a ≠ X.env.locals := fun z => notIn (List.mem_filterMap.mpr ⟨X.env, List.mem_cons_self, by rw [hf, z]⟩)
    have nF : a ∉ X.fs := fun hm => by
      obtain ⟨e, he, q⟩ := List.mem_filterMap.mp hm
      exact notIn (List.mem_filterMap.mpr ⟨e, List.mem_cons_of_mem _ he, q⟩)
    have S3 := J3.suite he3 hd3 na nL nF
    -- one clause's name is looked up
    have test : ∀ {x : Str} {c : Value} {np : Pos}, Names X x c → ∀ {Q : Value → Shared → Prop} {E : Value → Shared → Prop}, Q c { s' with heap := h3 } → wpAny (model X.prog X.w) (X.A.mark (some (.ref a))) (eval (.Name x np) X.env) Q E { s' with heap := h3 } := fun {x c np} hc {Q E} q => by
      obtain ⟨hg, hdbg, hm | ⟨hm, hv, hnn⟩⟩ := hc
      · exact ld_glob (X := X.suite a ((a, oe3) :: (X.pn ++ pins))) S3 hg hm q hdbg
      · exact ld_blt (X := X.suite a ((a, oe3) :: (X.pn ++ pins))) S3 hg hm hv q hnn hdbg
    have LT : PySem.W.Looks (model X.prog X.w) h3 (typeOf (.ref a)) cls := fun A Q E s k q => wpAny_typeOf_ref (k _ _ he3) (by rw [hz3.1]; exact q)
    have all : ∀ {hs' : List ExceptHandler} {l' : List Hd}, HdsA X hs' l' → wAll X.K Wout D l' cls d σ' H' → wpAny (model X.prog X.w) X.A (handleBy (.ref a) X.env hs') (SP X pins D) X.xe { s' with heap := h3 } := by
      intro hs' l' hk
      induction hk with
      | nil =>
        intro w
        refine wpAny_handleBy_nil ?_
        obtain ⟨_, _, _, oe, vs, T, oT, ts', he, hz, hd, hT, hr⟩ := id fl3
        unfold PySem.passOn
        refine wpAny_bind (wpAny_field he hd hT ?_)
        rw [if_neg (show ¬ ((Value.ref T == Value.none) = true) from by simp)]
        have fin : wpAny (model X.prog X.w) X.A (setFlight (.ref a) X.env.frame) (fun _ s4 => wpAny (model X.prog X.w) X.A (throw (.ref a) : Sem Flow) (SP X pins D) X.xe s4) X.xe { s' with heap := h3 } := by
          rw [hf]
          exact HandSPX.setFlight_upZ fl3 fun h4 hh4 up4 => wpAny_throw (tk _ _ ⟨a, B, sI, pins, σ', H', cls, d, rfl, J, nb, (up.trans up3).trans up4, .inr (.inr (by rw [hs]; exact hh4)), na, os, ag, w⟩)
        first
          | exact wpAny_bind (wpAny_pure (wpAny_bind fin))
          | exact wpAny_bind fin
      | @plain x c ts b0 suite np pos' hds2 l2 hc hsu r ih =>
        rintro ⟨b, hb1, hyes, hno⟩
        refine wpAny_handleBy_cons (codeAny_handlers_test ?_) (by intro q; cases q)
        refine test hc ((PySem.W.exm_one (M := model X.prog X.w) J3.kIn LT hb1).here ?_)
        cases b with
        | false =>
          show wpAny _ X.A (handleBy (.ref a) X.env hds2) _ _ _
          exact ih (hno rfl)
        | true =>
          refine codeAny_handlers_suite (HandSPX.lands_againZ fl3 fun h4 fl4 up4 => ?_)
          have J4 : Inv X pins σ' H' { s' with heap := h4 } := J.landed nb fl4.1 ((up.trans up3).trans up4) os ag
          obtain ⟨oe4, vs4, he4, hz4, hd4⟩ := fl4.there
          have S4 := J4.suite he4 hd4 na nL nF
          refine wpAny_mono ((hsu a oe4 cls d (X.pn ++ pins) hz4 ⟨_, hd4⟩).run [] _ _ H' _ S4 (hyes rfl a na)) (fun f s6 hsp => ?_) (fun _ _ z => False.elim z)
          match f, hsp with
          | .next, ⟨_, _, S6, q6⟩ => exact ⟨_, _, S6.unsuite okX, q6⟩
          | .brk, ⟨_, _, S6, q6⟩ => exact ⟨_, _, S6.unsuite okX, q6⟩
          | .cont, ⟨_, _, S6, q6⟩ => exact ⟨_, _, S6.unsuite okX, q6⟩
          | .ret u, ⟨_, _, _, S6, r6, q6⟩ => exact ⟨_, _, _, S6.unsuite okX, r6, q6⟩
      | @named x n i c ts b0 suite np pos' hds2 l2 hc hi hln hsu r ih =>
        rintro ⟨b, hb1, hyes, hno⟩
        refine wpAny_handleBy_cons (codeAny_handlers_test ?_) (by intro q; cases q)
        refine test hc ((PySem.W.exm_one (M := model X.prog X.w) J3.kIn LT hb1).here ?_)
        cases b with
        | false =>
          show wpAny _ X.A (handleBy (.ref a) X.env hds2) _ _ _
          exact ih (hno rfl)
        | true =>
          refine codeAny_handlers_suite_as (HandSPX.lands_againZ fl3 fun h4 fl4 up4 => ?_)
          have J4 : Inv X pins σ' H' { s' with heap := h4 } := J.landed nb fl4.1 ((up.trans up3).trans up4) os ag
          obtain ⟨oe4, vs4, he4, hz4, hd4⟩ := fl4.there
          have S4 := J4.suite he4 hd4 na nL nF
          refine store_ok (X := X.suite a ((a, oe4) :: (X.pn ++ pins))) (v := .ref a) S4 hN hi (.inl hln) rfl (fun s5 S5 => ?_) (.inr hln)
          refine wpAny_mono ((hsu a oe4 cls d (X.pn ++ pins) hz4 ⟨_, hd4⟩).run [] s5 _ H' _ S5 (hyes rfl a na)) (fun f s6 hsp => ?_) (fun _ _ z => False.elim z)
          match f, hsp with
          | .next, ⟨_, _, S6, q6⟩ => exact gone_ok (S6.unsuite okX) hN hi hln fun s7 J7 => ⟨_, _, J7, q6⟩
          | .brk, ⟨_, _, S6, q6⟩ => exact gone_ok (S6.unsuite okX) hN hi hln fun s7 J7 => ⟨_, _, J7, q6⟩
          | .cont, ⟨_, _, S6, q6⟩ => exact gone_ok (S6.unsuite okX) hN hi hln fun s7 J7 => ⟨_, _, J7, q6⟩
          | .ret u, ⟨_, _, _, S6, r6, q6⟩ => exact gone_ok (S6.unsuite okX) hN hi hln fun s7 J7 => ⟨_, _, _, J7, r6, q6⟩
    exact all hh w
  refine wpAny_mono ((hb (wAll X.K Wout D l) (X.pn ++ pins) after caught PassesOwn.looking).run [] s σ H D (I.toTry _) hrun) (fun f s1 hsp => ?_) (fun e s1 he => he)
  match f, hsp with
  | .next, ⟨_, _, J, q⟩ => exact wpAny_execs_nil ⟨_, _, J.ofTry okX, q⟩
  | .brk, ⟨_, _, J, q⟩ => exact ⟨_, _, J.ofTry okX, q⟩
  | .cont, ⟨_, _, J, q⟩ => exact ⟨_, _, J.ofTry okX, q⟩
  | .ret u, ⟨_, _, _, J, r, q⟩ => exact ⟨_, _, _, J.ofTry okX, r, q⟩
end
end DL
set_option Elab.async false
set_option linter.all false
set_option maxRecDepth 100000
set_option maxHeartbeats 2000000
set_option autoImplicit false
/-! The data layer, 10: try, and the fields of what is caught. -/
namespace DL
open PySem L2 PyProof.Rows

section
variable {Γ : Pg} {ξ : Xx} {X : Cx} {E : WX}
/-! ### slots that no caught exception stands in -/
def plain (es : List SD) : Bool := es.all fun s => match s with
  | .exn _ _ => false
  | .slf => false
  | _ => true
theorem SlotsR.other {ξ' : Xx} {W : Wd} : ∀ {es : List SD} {σ : L2.St} {own : List (Addr × HO)}, SlotsR Γ ξ W es σ own → plain es = true → SlotsR Γ ξ' W es σ own
  | [], σ, own, h, _ => h
  | .no :: es, σ, own, h, hp => by
    obtain ⟨o, σ', rfl, h2⟩ := h
    exact ⟨o, σ', rfl, SlotsR.other h2 (by simpa [plain] using hp)⟩
  | .val d :: es, σ, own, h, hp => by
    obtain ⟨v, σ', rfl, h2, h3⟩ := h
    exact ⟨v, σ', rfl, h2, SlotsR.other h3 (by simpa [plain] using hp)⟩
  | .acc ds :: es, σ, own, h, hp => by
    obtain ⟨a, vs, σ', own', rfl, rfl, h3, h4⟩ := h
    exact ⟨a, vs, σ', own', rfl, rfl, h3, SlotsR.other h4 (by simpa [plain] using hp)⟩
  | .exn k fs :: es, σ, own, h, hp => by simp [plain] at hp
  | .slf :: es, σ, own, h, hp => by simp [plain] at hp
theorem SlotsR.setExn {ξ' : Xx} {W : Wd} {k : Nat} {fs : List (Str × D)} (hc : ξ'.c = .ref (Γ.cl k)) (hx : RepX (Γ := Γ) W fs ξ'.d) : ∀ {es : List SD} {σ : L2.St} {own : List (Addr × HO)} (i : Nat), SlotsR Γ ξ' W es σ own → (∀ ds, es[i]? ≠ some (.acc ds)) → SlotsR Γ ξ' W (es.set i (.exn k fs)) (σ.set i (some (.ref ξ'.a))) own
  | [], σ, own, i, h, _ => by obtain ⟨rfl, rfl⟩ := h; exact ⟨rfl, rfl⟩
  | .no :: es, σ, own, i, h, hn => by
    obtain ⟨o, σ', rfl, h2⟩ := h
    cases i with
    | zero => exact ⟨σ', rfl, hc, hx, h2⟩
    | succ i => exact ⟨o, _, rfl, SlotsR.setExn hc hx i h2 (by simpa using hn)⟩
  | .val d0 :: es, σ, own, i, h, hn => by
    obtain ⟨v0, σ', rfl, h2, h3⟩ := h
    cases i with
    | zero => exact ⟨σ', rfl, hc, hx, h3⟩
    | succ i => exact ⟨v0, _, rfl, h2, SlotsR.setExn hc hx i h3 (by simpa using hn)⟩
  | .acc ds :: es, σ, own, i, h, hn => by
    obtain ⟨a, vs, σ', own0, rfl, rfl, h3, h4⟩ := h
    cases i with
    | zero => exact absurd rfl (hn ds)
    | succ i => exact ⟨a, vs, _, own0, rfl, rfl, h3, SlotsR.setExn hc hx i h4 (by simpa using hn)⟩
  | .exn k fs :: es, σ, own, i, h, hn => by
    obtain ⟨σ', rfl, h2, h3, h4⟩ := h
    cases i with
    | zero => exact ⟨σ', rfl, hc, hx, h4⟩
    | succ i => exact ⟨_, rfl, h2, h3, SlotsR.setExn hc hx i h4 (by simpa using hn)⟩
  | .slf :: es, σ, own, i, h, hn => by
    obtain ⟨σ', rfl, h4⟩ := h
    cases i with
    | zero => exact ⟨σ', rfl, hc, hx, h4⟩
    | succ i => exact ⟨_, rfl, SlotsR.setExn hc hx i h4 (by simpa using hn)⟩
theorem Frame.other {ξ' : Xx} {W : Wd} {es : List SD} {σ : L2.St} {P0 : Hp} (h : Frame Γ ξ W es σ P0) (hp : plain es = true) : Frame Γ ξ' W es σ P0 := by
  obtain ⟨own, h1, h2⟩ := h
  exact ⟨own, h1.other hp, h2⟩

/-! ### try -/
/-- which exception a clause takes: (the exception's class, the clause's class, whether) -/
abbrev Mts := List (Nat × Nat × Bool)
def mtD (ps : Mts) (k j : Nat) : Option Bool := (ps.find? fun p => p.1 == k && p.2.1 == j).map (·.2.2)
def MtF (Γ : Pg) (ps : Mts) : Prop := ∀ p ∈ ps, PySem.W.exmOne Γ.K (.ref (Γ.cl p.1)) (.ref (Γ.cl p.2.1)) = some p.2.2
theorem mtD_of {ps : Mts} (h : MtF Γ ps) {k j : Nat} {b : Bool} (e : mtD ps k j = some b) : PySem.W.exmOne Γ.K (.ref (Γ.cl k)) (.ref (Γ.cl j)) = some b := by
  unfold mtD at e
  rw [Option.map_eq_some_iff] at e
  obtain ⟨p, h1, h2⟩ := e
  have h3 := h p (List.mem_of_find?_eq_some h1)
  have h4 := List.find?_some h1
  simp only [Bool.and_eq_true, beq_iff_eq] at h4
  rw [← h4.1, ← h4.2, ← h2]
  exact h3
def clrF (i : Nat) (r : Fl) : Fl := match r with
  | .next es S => if plain (es.set i .no) = true ∧ noAcc es [i] = true then .next (es.set i .no) S else .bad
  | .ret d S => .ret d S
  | _ => .bad
def endF (r : Fl) : Fl := match r with
  | .next es S => if plain es = true then .next es S else .bad
  | .ret d S => .ret d S
  | _ => .bad
abbrev Cl := Nat × Option Nat × SF
def tryL (ps : Mts) (k : Nat) (fs : List (Str × D)) (es : List SD) (S : Store) : List Cl → Fl
  | [] => .exc k fs es S
  | (j, o, f) :: r => match mtD ps k j with
    | some false => tryL ps k fs es S r
    | some true => match o with
      | none => endF (f es S)
      | some i => if noAcc es [i] = true then clrF i (f (es.set i (.exn k fs)) S) else .bad
    | none => .bad
def sTry (ps : Mts) (b : SF) (cs : List Cl) : SF := fun es S => match b es S with
  | .exc k fs es1 S1 => if plain es1 = true then tryL ps k fs es1 S1 cs else .bad
  | r => r
def hdOf (Γ : Pg) (c : Cl) : Hd := ⟨.ref (Γ.cl c.1), c.2.1, fun a cls d => dS Γ ⟨a, cls, d⟩ c.2.2 E0⟩
theorem try_of {ps : Mts} {cs : List Cl} {Dn : Ends} (hK : X.K = Γ.K) (hm : MtF Γ ps) {k : Nat} {fs : List (Str × D)} {es : List SD} {S : Store} {W : Wd} {P0 : Hp} (hp : plain es = true) (h : ContS Γ ξ (tryL ps k fs es S cs) W P0 Dn E) :
    ∀ W' σ' d H', LeS W W' → Ok Γ W' S H' → Frame Γ ξ W' es σ' P0 → RepX (Γ := Γ) W' fs d → wAll X.K E Dn (cs.map (hdOf Γ)) (.ref (Γ.cl k)) d σ' H' := by
  induction cs with
  | nil => exact fun W' σ' d H' l o fr rx => h W' σ' d H' l o fr rx
  | cons c cs ih =>
    obtain ⟨j, o, f⟩ := c
    intro W' σ' d H' l ok fr rx
    unfold tryL at h
    cases em : mtD ps k j with
    | none => rw [em] at h; exact h.elim
    | some b =>
      rw [em] at h
      refine ⟨b, by rw [hK]; exact mtD_of hm em, fun hb a ha => ?_, fun hb => ?_⟩
      · subst hb
        simp only at h
        cases o with
        | none =>
          simp only at h
          show dS Γ ⟨a, _, d⟩ f E0 Dn σ' H'
          refine ⟨W', es, S, P0, ok, fr.other hp, ?_⟩
          cases ef : f es S with
          | next es2 S2 =>
            rw [ef] at h
            simp only [endF] at h
            split at h
            case isFalse => exact h.elim
            rename_i hq
            exact fun W2 σ2 H2 l2 ok2 fr2 => h W2 σ2 H2 (l.trans l2) ok2 (fr2.other hq)
          | ret d2 S2 =>
            rw [ef] at h
            exact fun W2 v2 H2 l2 hP ok2 r2 => h W2 v2 H2 (l.trans l2) hP ok2 r2
          | brk es2 S2 => rw [ef] at h; exact h.elim
          | ct es2 S2 => rw [ef] at h; exact h.elim
          | exc k2 fs2 es2 S2 => rw [ef] at h; exact h.elim
          | bad => rw [ef] at h; exact h.elim
        | some i =>
          simp only at h
          split at h
          case isFalse => exact h.elim
          rename_i hna
          show dS Γ ⟨a, _, d⟩ f E0 (clr i Dn) (σ'.set i (some (.ref a))) H'
          obtain ⟨own, f1, f2⟩ := fr
          refine ⟨W', es.set i (.exn k fs), S, P0, ok, ⟨own, SlotsR.setExn (ξ' := ⟨a, .ref (Γ.cl k), d⟩) rfl rx i (f1.other hp) (noAcc_at hna (by simp)), f2⟩, ?_⟩
          cases ef : f (es.set i (.exn k fs)) S with
          | next es2 S2 =>
            rw [ef] at h
            simp only [clrF] at h
            split at h
            case isFalse => exact h.elim
            rename_i hq
            intro W2 σ2 H2 l2 ok2 ⟨own2, g1, g2⟩
            exact h W2 (σ2.set i none) H2 (l.trans l2) ok2 ⟨own2, SlotsR.other (g1.setNo i (noAcc_at hq.2 (by simp))) hq.1, g2⟩
          | ret d2 S2 =>
            rw [ef] at h
            exact fun W2 v2 H2 l2 hP ok2 r2 => h W2 v2 H2 (l.trans l2) hP ok2 r2
          | brk es2 S2 => rw [ef] at h; exact h.elim
          | ct es2 S2 => rw [ef] at h; exact h.elim
          | exc k2 fs2 es2 S2 => rw [ef] at h; exact h.elim
          | bad => rw [ef] at h; exact h.elim
      · subst hb
        simp only at h
        exact ih h W' σ' d H' l ok fr rx
theorem ds_try {body : List Stmt} {h0 : ExceptHandler} {hds : List ExceptHandler} {pos : Pos} {f : SF} {cs : List Cl} {ps : Mts} (hs : X.stack = X.env :: X.outer) (hf : X.env.frame = some X.env.locals) (hN : X.N.Nodup) (tk : Takes X E) (hK : X.K = Γ.K) (hm : MtF Γ ps)
    (hb : ∀ (W : WX) (pn : List (Addr × Obj)) (xe : Value → Shared → Prop), Takes (X.tr pn xe) W → PassesOwn (model X.prog X.w) X.A X.env xe → PSs (X.tr pn xe) body (dS Γ ξ f W)) (hh : HdsA X (h0 :: hds) (cs.map (hdOf Γ))) :
    PS X (.Try body (h0 :: hds) [] [] pos) (dS Γ ξ (sTry ps f cs) E) := (ps_tryA (tb := fun W => dS Γ ξ f W) hs hf hN tk hb hh).imp fun Dn σ H ⟨W, es, S, P0, ok, fr, h⟩ => by
  refine ⟨W, es, S, P0, ok, fr, ?_⟩
  unfold sTry at h
  cases ef : f es S with
  | exc k fs es1 S1 =>
    rw [ef] at h
    simp only at h
    split at h
    case isFalse => exact h.elim
    rename_i hp
    exact fun W' σ' d H' l ok' fr' rx => try_of hK hm hp h W' σ' d H' l ok' fr' rx
  | next es2 S2 => rw [ef] at h; exact h
  | brk es2 S2 => rw [ef] at h; exact h
  | ct es2 S2 => rw [ef] at h; exact h
  | ret d2 S2 => rw [ef] at h; exact h
  | bad => rw [ef] at h; exact h.elim
/-- e.f of what is caught -/
def XfF (Γ : Pg) (ks : List Nat) (n : Str) : Prop := ∀ k ∈ ks, XfC Γ.K (Γ.cl k) ∧ PySem.W.findIn Γ.K (.ref (Γ.cl k)) n = some none
def eXf (ks : List Nat) (i : Nat) (n : Str) : EF := fun es S => match es[i]? with
  | some (.exn k fs) => if k ∈ ks then match fs with
    | [(m, d)] => if m = n then .ok d S else .bad
    | _ => .bad
    else .bad
  | _ => .bad
theorem de_xf {a : Addr} {oe : Obj} {cls : Value} {d : Option Addr} {pn : List (Addr × Obj)} {x n : Str} {i : Nat} {ks : List Nat} {p pos : Pos} (hK : X.K = Γ.K) (T : XfF Γ ks n) (hz : Zc cls d oe) (hf : ∃ vs, oe.data = .fields vs) (he : PE (X.suite a ((a, oe) :: pn)) (.Name x p) (tVar i))
    (hb : attributeBase (.Name x p) n X.env (eval (.Name x p) X.env) = eval (.Name x p) X.env := by rfl) : PE (X.suite a ((a, oe) :: pn)) (.Attribute (.Name x p) n pos) (dE Γ ⟨a, cls, d⟩ (eXf ks i n) E0) := by
  refine ⟨fun pins s σ H Q I ⟨W, es, S, P0, ok, ⟨own, fr, o⟩, h⟩ => ?_⟩
  unfold eXf at h
  split at h
  case h_2 => exact h.elim
  rename_i k fs hi
  split at h
  case isFalse => exact h.elim
  rename_i hk
  split at h
  case h_2 => exact h.elim
  rename_i m dd
  split at h
  case isFalse => exact h.elim
  rename_i hmn
  subst hmn
  obtain ⟨q1, q2, q3⟩ := fr.exn hi
  obtain ⟨T1, T2⟩ := T k hk
  rcases q3 with q3 | ⟨dx, vfs, q3, q4, q5, q6⟩
  · cases q3
  have q3 : d = some dx := q3
  have q2 : cls = .ref (Γ.cl k) := q2
  obtain ⟨v, hv, rv⟩ : ∃ v, vfs = [(m, v)] ∧ Rep Γ W dd v := by
    match vfs, q5, q6 with
    | [(m', v)], q5, q6 =>
      simp only [List.map_cons, List.map_nil, List.cons.injEq, and_true] at q5
      simp only [List.map_cons, List.map_nil, Reps] at q6
      obtain ⟨_, _, e, r, e2⟩ := q6
      cases e
      subst q5
      exact ⟨v, rfl, r⟩
  refine (pe_xf (C := Γ.cl k) (te := tVar i) (by rw [hK]; exact T1) (by rw [hK]; exact T2) hz hf he hb).run pins s σ H Q I ⟨.ref a, q1, rfl, q2, dx, vfs, v, q3, ok.f _ _ q4, ?_, h W v H (Le.refl W) ok rv⟩
  rw [hv]
  simp [List.lookup]
end
end DL
set_option Elab.async false
set_option linter.all false
set_option maxRecDepth 100000
set_option maxHeartbeats 2000000
set_option autoImplicit false
/-! zip of two and of three, enumerate: over lists and tuples in any mixture. -/
namespace DL
open PySem PySem.Spec PyProof.Rows L2

/-- what is walked: a list, or (t) a tuple, at a -/
structure Src where
  t : Bool
  a : Addr
def SqX (K : PySem.W.Frag) (H : Hp) (s : Src) (xs : List V) : Prop := match s.t with
  | true => SqT K H s.a xs
  | false => SqL K H s.a xs
def IsIt (h : Heap) (s : Src) (it : Addr) (i : Nat) : Prop := match s.t with
  | true => h.IsTupleIter it s.a i
  | false => h.IsListIter it s.a i
def IsSq (h : Heap) (s : Src) (items : Array Value) : Prop := match s.t with
  | true => h.IsTuple s.a items
  | false => h.IsList s.a items
def itObj (s : Src) : Obj := match s.t with
  | true => { cls := .type "tuple_iterator", data := .fields #[.ref s.a, .int 0 0] }
  | false => { cls := .type "list_iterator", data := .fields #[.ref s.a, .int 0 0] }
theorem drawsX {prog : Program} {w : World} {A : Around} (hh : A.handled = none) (it : Addr) (s : Src) (hne : s.a ≠ it) (items : Array Value) :
    Draws prog w A it [it, s.a] items.size (fun i v => items[i]? = some v) (fun i h => IsIt h s it i ∧ IsSq h s items) := by
  obtain ⟨t, a⟩ := s
  cases t with
  | true => exact Draws.tuple hh it a hne items
  | false => exact Draws.list hh it a hne items
theorem beginsX (s : Src) (items : Array Value) : Begins (.ref s.a) (itObj s) fun h => IsSq h s items := by
  obtain ⟨t, a⟩ := s
  cases t with
  | true => exact begins_tuple a items
  | false => exact begins_list a items
theorem isIt_new {h : Heap} {s : Src} {it : Addr} (e : h.get? it = some (itObj s)) : IsIt h s it 0 := by
  obtain ⟨t, a⟩ := s
  cases t with
  | true => exact ⟨_, e, rfl, rfl⟩
  | false => exact ⟨_, e, rfl, rfl⟩
theorem isIt_get {h : Heap} {s : Src} {it : Addr} {i : Nat} (e : IsIt h s it i) : ∃ o, h.get? it = some o ∧ ∀ v, o.data ≠ .cell v := by
  obtain ⟨t, a⟩ := s
  cases t with
  | true => obtain ⟨o, e1, _, d⟩ := e; exact ⟨o, e1, fun v q => by rw [d] at q; cases q⟩
  | false => obtain ⟨o, e1, _, d⟩ := e; exact ⟨o, e1, fun v q => by rw [d] at q; cases q⟩
theorem isIt_at {h h' : Heap} {s : Src} {it : Addr} {i : Nat} (e : IsIt h s it i) (k : ∀ o, h.get? it = some o → h'.get? it = some o) : IsIt h' s it i := by
  obtain ⟨t, a⟩ := s
  cases t with
  | true => exact Heap.IsTupleIter.at e k
  | false => exact Heap.IsListIter.at e k
section
variable {X : Cx} {pins : List (Addr × Obj)} {σ : L2.St} {H : Hp} {s : Shared}
theorem inv_seqX (I : Inv X pins σ H s) {q : Src} {xs : List V} (h : SqX X.K H q xs) : ∃ its, Vals xs its ∧ IsSq s.heap q its.toArray ∧ q.a < s.heap.objs.size := by
  obtain ⟨t, a⟩ := q
  cases t with
  | true =>
    obtain ⟨its, rv, p, _⟩ := I.tuple h
    obtain ⟨o, ho, _⟩ := id p
    exact ⟨its, rv, p, Heap.lt_size ho⟩
  | false =>
    obtain ⟨its, rv, p, _⟩ := I.list h
    exact ⟨its, rv, p.isList, p.lt⟩
theorem inv_seqX_inj (I : Inv X pins σ H s) {q : Src} {xs ys : List V} (h : SqX X.K H q xs) (h' : SqX X.K H q ys) : xs = ys := by
  obtain ⟨t, a⟩ := q
  cases t with
  | true => exact I.tuple_inj h h'
  | false => exact I.list_inj h h'
end

/-! ### two -/
def Itz2 (K : PySem.W.Frag) (a b : Src) : It :=
  ⟨fun i H => ∃ (xs ys : List V) (x y : V), SqX K H a xs ∧ SqX K H b ys ∧ xs[i]? = some x ∧ ys[i]? = some y,
    fun i H v H' => ∃ T x y, v = .ref T ∧ H T = none ∧ H' = upd H T (.tup [x, y]) ∧ (∀ xs, SqX K H a xs → xs[i]? = some x) ∧ ∀ ys, SqX K H b ys → ys[i]? = some y,
    fun i H => ∃ xs ys : List V, SqX K H a xs ∧ SqX K H b ys ∧ (xs.length = i ∨ ys.length = i) ∧ i ≤ xs.length ∧ i ≤ ys.length⟩
theorem turn_zip2X {P : Program} {w : World} {K : PySem.W.Frag} {elts : List Expr} {kk : Nat} {tpos : Pos} {a b : Src} {z TI TO i1 i2 : Addr} (D : ZipSep2 z TI TO i1 i2 [i1, a.a] [i2, b.a]) (n1 : a.a ≠ i1) (n2 : b.a ≠ i2) :
    Turn P w K (.Tuple elts kk tpos) (Itz2 K a b) [z, TI, TO, i1, i2] z (fun i h => IsZip h z TI TO .none ∧ IsTupOf2 h TI (.ref i1) (.ref i2) ∧ (∃ x y, IsTupOf2 h TO x y) ∧ IsIt h a i1 i ∧ IsIt h b i2 i) where
  mem := by simp
  obj := fun i h st c hc => by
    obtain ⟨hz, hTI, ⟨x, y, hTO⟩, h1, h2⟩ := st
    have e' : c = z ∨ c = TI ∨ c = TO ∨ c = i1 ∨ c = i2 := by simpa using hc
    rcases e' with q | q | q | q | q
    · rw [q]; exact ⟨_, hz, fun v q => nomatch q⟩
    · rw [q]; exact ⟨_, hTI, fun v q => nomatch q⟩
    · rw [q]; exact ⟨_, hTO, fun v q => nomatch q⟩
    · rw [q]; exact isIt_get h1
    · rw [q]; exact isIt_get h2
  keep := fun i h h' st k => by
    obtain ⟨hz, hTI, ⟨x, y, hTO⟩, h1, h2⟩ := st
    exact ⟨k z (by simp) _ hz, k TI (by simp) _ hTI, ⟨x, y, k TO (by simp) _ hTO⟩, isIt_at h1 fun o q => k i1 (by simp) o q, isIt_at h2 fun o q => k i2 (by simp) o q⟩
  item := by
    intro X hP hw hK hc i pins s σ H E I hf st hg
    subst hP hw hK
    obtain ⟨hz, hTI, ⟨x0, y0, hTO⟩, h1, h2⟩ := st
    obtain ⟨xs, ys, x, y, hqx, hqy, hx, hy⟩ := hg
    obtain ⟨its, rv, p, _⟩ := inv_seqX I hqx
    obtain ⟨its2, rv2, p2, _⟩ := inv_seqX I hqy
    obtain ⟨u, hu, ru⟩ := rv.get hx
    obtain ⟨u2, hu2, ru2⟩ := rv2.get hy
    have hzl : z < s.heap.objs.size := Heap.lt_size hz
    have g1 : i < its.toArray.size := by simpa using (List.getElem?_eq_some_iff.mp hu).1
    have g2 : i < its2.toArray.size := by simpa using (List.getElem?_eq_some_iff.mp hu2).1
    refine wpAny_pyNext_zipD2_item D (drawsX (A := X.A.in1) (I.ok.hd hc) i1 a n1 its.toArray) (drawsX (A := X.A.in1) (I.ok.hd hc) i2 b n2 its2.toArray) hz hTI hTO ⟨h1, p⟩ ⟨h2, p2⟩ g1 g2 fun v1 v2 h' tk e1 e2 z' TO' d1 d2 hT hsz hk => ?_
    obtain rfl : u = v1 := by
      have : its.toArray[i]? = some u := by simpa using hu
      exact Option.some.inj (this.symm.trans e1)
    obtain rfl : u2 = v2 := by
      have : its2.toArray[i]? = some u2 := by simpa using hu2
      exact Option.some.inj (this.symm.trans e2)
    refine ⟨_, rfl, wpAny_letOwnedTupleGo_zip (s := { s with heap := h', toks := tk }) z' fun h'' z'' sb => ?_⟩
    have hT2 : h''.get? s.heap.objs.size = some { cls := .type "tuple", data := .seq #[u, u2] } := (sb.2 _ (Nat.ne_of_gt hzl)).trans hT
    have new : ObjOk X.prog X.w (upd H s.heap.objs.size (.tup [x, y])) h'' s.heap.objs.size (.tup [x, y]) :=
      ⟨by show 2 ≤ sizeLine; decide, [u, u2], .cons ru (.cons ru2 .nil), ⟨_, hT2, rfl, _, rfl⟩⟩
    have I1 : Inv X pins σ (upd H s.heap.objs.size (.tup [x, y])) { s with heap := h'', toks := tk } :=
      I.turnedNew (t' := tk) (ch := [z, TI, TO, i1, i2]) (fun c o hb q => (sb.2 c (fun q' => hb (by simp [q']))).trans (hk c o (fun q' => hb (by simp [q'])) (fun q' => hb (by simp [q'])) (fun q' => hb (by simp [q'])) (fun q' => hb (by simp [q'])) q)) hf (Nat.le_refl _) new
    refine ⟨.ref s.heap.objs.size, _, I1, rfl, ⟨_, x, y, rfl, I.hok.fresh (Nat.le_refl _), rfl, fun l hl => by rw [inv_seqX_inj I hl hqx]; exact hx, fun l hl => by rw [inv_seqX_inj I hl hqy]; exact hy⟩, ⟨z'', ?_, ⟨u, u2, ?_⟩, ?_, ?_⟩, fun c hcm => ?_⟩
    · exact (sb.2 _ D.TIz).trans (hk _ _ D.TIz D.TITO D.TIi1 D.TIi2 hTI)
    · exact (sb.2 _ D.TOz).trans TO'
    · exact isIt_at d1.1 fun o q => (sb.2 _ D.zi1.symm).trans q
    · exact isIt_at d2.1 fun o q => (sb.2 _ D.zi2.symm).trans q
    · have hlt : c < s.heap.objs.size := by
        have e' : c = z ∨ c = TI ∨ c = TO ∨ c = i1 ∨ c = i2 := by simpa using hcm
        rcases e' with q | q | q | q | q
        · rw [q]; exact hzl
        · rw [q]; exact Heap.lt_size hTI
        · rw [q]; exact Heap.lt_size hTO
        · rw [q]; obtain ⟨_, e1, _⟩ := isIt_get h1; exact Heap.lt_size e1
        · rw [q]; obtain ⟨_, e2, _⟩ := isIt_get h2; exact Heap.lt_size e2
      rw [upd_ne (Nat.ne_of_lt hlt)]
      exact (hf c hcm).1
  done := by
    intro X hP hw hK hc i pins s σ H E I hf st hg
    subst hP hw hK
    obtain ⟨hz, hTI, ⟨x0, y0, hTO⟩, h1, h2⟩ := st
    obtain ⟨xs, ys, hqx, hqy, hend, hl1, hl2⟩ := hg
    obtain ⟨its, rv, p, _⟩ := inv_seqX I hqx
    obtain ⟨its2, rv2, p2, _⟩ := inv_seqX I hqy
    have l1 := rv.length
    have l2 := rv2.length
    refine wpAny_pyNext_zipD2_end D (drawsX (A := X.A.in1) (I.ok.hd hc) i1 a n1 its.toArray) (drawsX (A := X.A.in1) (I.ok.hd hc) i2 b n2 its2.toArray) (i := i) hz hTI hTO ⟨h1, p⟩ ⟨h2, p2⟩ (by simp; omega) (by simp; omega) (by simp; omega) fun h' tk hk => ⟨rfl, I.turnedL (t' := tk) (ch := [z, TI, TO, i1, i2]) (fun c o hb q =>
      hk c o (fun q' => hb (by simp [q'])) (fun q' => hb (by simp [q'])) (fun q' => hb (by simp [q'])) (fun q' => hb (by simp [q'])) q) hf⟩
  self := fun A i s Q E st h => wpAny_pyIter_zip st.1 h
def iZip2 (K : PySem.W.Frag) (ta : TA) : TI := fun σ H R => ta σ H fun vs H1 => ∃ (a b : Src) (xs ys : List V), vs = [.ref a.a, .ref b.a] ∧ SqX K H1 a xs ∧ SqX K H1 b ys ∧ R (Itz2 K a b) H1
theorem pi_zip2X {X : Cx} {e e2 : Expr} {ta : TA} {p pos tpos : Pos} {elts : List Expr} {kk : Nat} (hg : Gl X "zip") (hm : X.mg "zip" = none) (ha : PA X [e, e2] ta)
    (hs : starEach [e, e2] X.env = (false, eval e X.env) :: starEach [e2] X.env := by rfl) (hpl : (backTo pos (starEach [e2] X.env)).any (·.1) = false := by rfl) :
    PI X (.Tuple elts kk tpos) (.Call (.Name "zip" p) [e, e2] [] pos) (iZip2 X.K ta) := by
  refine ⟨fun pins s σ H R I h => ?_⟩
  refine Call_ (ld_blt I hg hm PyProof.Rows.boot_zip (PyProof.Rows.callWith_type1 (thn (ha.run pos pins s σ H _ I h) fun us s1 ⟨vs, H1, I1, r1, q1⟩ => ?_) hs hpl))
  obtain ⟨a, b, xs, ys, ex, hqx, hqy, q⟩ := q1
  subst ex
  cases r1 with
  | cons r rr =>
    cases rr with
    | cons r' rr =>
      cases rr
      cases r
      cases r'
      have fresh5 : ∀ c, c ∈ [s1.heap.objs.size + 4, s1.heap.objs.size + 2, s1.heap.objs.size + 3, s1.heap.objs.size, s1.heap.objs.size + 1] → FpOk X pins H1 c := fun c hcm => by
        have e' : c = s1.heap.objs.size + 4 ∨ c = s1.heap.objs.size + 2 ∨ c = s1.heap.objs.size + 3 ∨ c = s1.heap.objs.size ∨ c = s1.heap.objs.size + 1 := by simpa using hcm
        have hle : s1.heap.objs.size ≤ c := by
          rcases e' with z | z | z | z | z
          · rw [z]; exact Nat.le_add_right _ _
          · rw [z]; exact Nat.le_add_right _ _
          · rw [z]; exact Nat.le_add_right _ _
          · rw [z]; exact Nat.le_refl _
          · rw [z]; exact Nat.le_add_right _ _
        exact I1.fpOk hle (I1.hok.fresh hle)
      obtain ⟨its, rv, p1, la⟩ := inv_seqX I1 hqx
      obtain ⟨its2, rv2, p2, lb⟩ := inv_seqX I1 hqy
      refine zip_begins2 (beginsX a its.toArray) (beginsX b its2.toArray) p1 p2 fun h' hz hTI hTO h1 h2 hsz hk => wpAny_pyIter_zip hz ?_
      have I2 : Inv X pins σ H1 { s1 with heap := h' } := I1.kept (t' := s1.toks) hk
      exact ⟨s1.heap.objs.size + 4, [s1.heap.objs.size + 4, s1.heap.objs.size + 2, s1.heap.objs.size + 3, s1.heap.objs.size, s1.heap.objs.size + 1], _, _, H1, rfl, I2, turn_zip2X (zip_sep2 (fun b hb => by rw [List.mem_singleton.mp hb]; exact la) (fun c hb => by rw [List.mem_singleton.mp hb]; exact lb)) (Nat.ne_of_lt la) (Nat.ne_of_lt (Nat.lt_succ_of_lt lb)), ⟨hz, hTI, ⟨_, _, hTO⟩, isIt_new h1, isIt_new h2⟩, fresh5, q⟩
end DL
set_option Elab.async false
set_option linter.all false
set_option maxRecDepth 100000
set_option maxHeartbeats 2000000
set_option autoImplicit false
/-! The data layer, 11: kinds, isinstance, is, == of one's own, globals, walks, stores to cells. -/
namespace DL
open PySem L2 PyProof.Rows

section
variable {Γ : Pg} {ξ : Xx} {X : Cx} {E : WX}
/-! ### kinds -/
def kind : D → Option String
  | .non => some "NoneType"
  | .bl _ => some "bool"
  | .int _ => some "int"
  | .str _ => some "str"
  | .lst _ => some "list"
  | .cell _ => some "list"
  | .tup _ => some "tuple"
  | .dct _ _ => some "dict"
  | _ => none
theorem tyX {W : Wd} {S : Store} {H : Hp} {d : D} {v : V} {t : String} (ok : Ok Γ W S H) (r : Rep Γ W d v) (h : kind d = some t) : TyX Γ.K H v (.type t) := by
  cases d with
  | non => simp only [Rep] at r; subst r; cases h; exact .base .non
  | bl b => simp only [Rep] at r; subst r; cases h; exact .base (.bl b)
  | int b => simp only [Rep] at r; subst r; cases h; exact .base (.int b)
  | str b => simp only [Rep] at r; subst r; cases h; exact .base (.str b)
  | ty _ => cases h
  | cls _ => cases h
  | obj _ _ => cases h
  | cell i =>
    simp only [Rep] at r
    obtain ⟨a, rfl, h2⟩ := r
    obtain ⟨ds, vs, h3, h4, h5⟩ := ok.cell h2
    cases h
    exact .base (.lst h4)
  | lst ds =>
    simp only [Rep] at r
    obtain ⟨a, vs, rfl, h1, h2⟩ := r
    cases h
    rcases h1 with (e | ⟨o, e⟩) | ⟨o, its, n, hk, hc, _⟩
    · exact .base (.lst (ok.f _ _ e))
    · exact .base (.frz (ok.f _ _ e))
    · exact .kList hk hc
  | tup ds =>
    simp only [Rep] at r
    obtain ⟨a, vs, rfl, h1, h2⟩ := r
    cases h
    rcases h1 with (e | ⟨o, e⟩) | ⟨o, its, n, hk, hc, _⟩
    · exact .base (.tup (ok.f _ _ e))
    · exact .fTuple (ok.f _ _ e)
    · exact .kTuple hk hc
  | dct ks ds =>
    simp only [Rep] at r
    obtain ⟨a, kvs, vs, rfl, h1, h2⟩ := r
    cases h
    exact .base (.dK (ok.f _ _ h1))
/-! ### isinstance -/
def kinds : List String := ["NoneType", "bool", "int", "str", "list", "tuple", "dict"]
def tyIs (t n : String) : Option Bool := if kinds.contains t && kinds.contains n && n != "NoneType" then some (t == n || (t == "bool" && n == "int")) else none
theorem tyIs_kit {K : PySem.W.Frag} {t n : String} {b : Bool} (h : tyIs t n = some b) : PySem.W.kitOne K (.type t) (.type n) = some b := by
  have all : ∀ t ∈ kinds, ∀ n ∈ kinds, n ≠ "NoneType" → kitB t n = some (t == n || (t == "bool" && n == "int")) := by decide +kernel
  unfold tyIs at h
  split at h
  · rename_i c
    simp only [Bool.and_eq_true, List.contains_iff_mem, bne_iff_ne, ne_eq] at c
    rw [← h]
    exact kit_ty (all t c.1.1 n c.1.2 c.2)
  · cases h
/-- what isinstance asks of own classes: none of them is below another one or a built-in kind -/
structure IsF (Γ : Pg) (cs : List Nat) : Prop where
  b : ∀ j ∈ cs, ∀ t ∈ kinds, PySem.W.kitOne Γ.K (.type t) (.ref (Γ.cl j)) = some false
  t : ∀ k ∈ cs, ∀ n ∈ kinds, PySem.W.kitOne Γ.K (.ref (Γ.cl k)) (.type n) = some false
  c : ∀ k ∈ cs, ∀ j ∈ cs, PySem.W.kitOne Γ.K (.ref (Γ.cl k)) (.ref (Γ.cl j)) = some (k == j)
  o : ∀ k ∈ cs, ObF Γ k
def isi1 (cs : List Nat) : D → D → Option Bool := fun x c => match kind x, x, c with
  | some t, _, .ty n => tyIs t n
  | some _, _, .cls j => if j ∈ cs then some false else none
  | none, .obj k _, .ty n => if k ∈ cs ∧ n ∈ kinds then some false else none
  | none, .obj k _, .cls j => if k ∈ cs ∧ j ∈ cs then some (k == j) else none
  | _, _, _ => none
theorem kind_mem {x : D} {t : String} (h : kind x = some t) : t ∈ kinds := by
  cases x <;> cases h <;> decide
def gIsi (cs : List Nat) : D → D → Store → Res := fun x c S => match isi1 cs x c with
  | some b => .ok (.bl b) S
  | none => .bad
theorem cr_isi {cs : List Nat} (hK : X.K = Γ.K) (T : IsF Γ cs) : CallR X (.builtin "isinstance") (rC2 Γ (gIsi cs)) := by
  intro pins s σ H vs us Q I r ⟨x, y, W, S, a, b, e, ok, ra, rb, h⟩
  subst e
  unfold gIsi at h
  split at h
  case h_2 => exact h.elim
  rename_i v hv
  have fin : Q (.bl v) H := h W _ H (Le.refl W) ok (by simp only [Rep])
  unfold isi1 at hv
  split at hv
  · rename_i t n hk
    simp only [Rep] at rb
    subst rb
    exact call_isi pins s σ H _ us Q I r ⟨x, .ty n, .type t, .type n, v, rfl, .ty n, by rw [hK]; exact tyX ok ra hk, tyIs_kit hv, fin⟩
  · rename_i t j hk
    simp only [Rep] at rb
    subst rb
    split at hv
    case isFalse => cases hv
    rename_i hj
    cases hv
    exact call_isi pins s σ H _ us Q I r ⟨x, _, .type t, _, false, rfl, .own _, by rw [hK]; exact tyX ok ra hk, by rw [hK]; exact T.b j hj t (kind_mem hk), fin⟩
  · rename_i k ds n hk
    simp only [Rep] at rb
    subst rb
    split at hv
    case isFalse => cases hv
    rename_i hj
    cases hv
    rcases T.o k hj.1 with c | ⟨ns, c⟩
    · obtain ⟨p, dx, ws, rfl, q2, q3⟩ := asO c ok ra
      exact SlX.call_isiSl (.type n) pins s σ H _ us Q I r ⟨p, _, dx, _, .ty n, false, rfl, rfl, fun w hw => hw, q2, by rw [hK]; exact c.sc, by rw [hK]; exact c.si, by rw [hK]; exact T.t k hj.1 n hj.2, fin⟩
    · obtain ⟨p, dx, ws, rfl, q2, hl, q3⟩ := asC c ok ra
      exact call_isi pins s σ H _ us Q I r ⟨_, .ty n, .ref (Γ.cl k), .type n, false, rfl, .ty n, .base (.ins q2 (by rw [hK]; exact c.cl) (by rw [hK]; exact c.si.ca) (by rw [hK]; exact c.si.cn) (by rw [hK]; exact c.si.ct) (by rw [hK]; exact c.si.cm)), by rw [hK]; exact T.t k hj.1 n hj.2, fin⟩
  · rename_i k ds j hk
    simp only [Rep] at rb
    subst rb
    split at hv
    case isFalse => cases hv
    rename_i hj
    cases hv
    rcases T.o k hj.1 with c | ⟨ns, c⟩
    · obtain ⟨p, dx, ws, rfl, q2, q3⟩ := asO c ok ra
      exact SlX.call_isiSl (.ref (Γ.cl j)) pins s σ H _ us Q I r ⟨p, _, dx, _, .ref (Γ.cl j), _, rfl, rfl, fun w hw => hw, q2, by rw [hK]; exact c.sc, by rw [hK]; exact c.si, by rw [hK]; exact T.c k hj.1 j hj.2, fin⟩
    · obtain ⟨p, dx, ws, rfl, q2, hl, q3⟩ := asC c ok ra
      exact call_isi pins s σ H _ us Q I r ⟨_, _, .ref (Γ.cl k), _, _, rfl, .own _, .base (.ins q2 (by rw [hK]; exact c.cl) (by rw [hK]; exact c.si.ca) (by rw [hK]; exact c.si.cn) (by rw [hK]; exact c.si.ct) (by rw [hK]; exact c.si.cm)), by rw [hK]; exact T.c k hj.1 j hj.2, fin⟩
  · cases hv

/-! ### is, is not: beside None and truths -/
def isNon : D → Bool
  | .non => true
  | _ => false
theorem isNon_rep {W : Wd} {d : D} {v : V} (r : Rep Γ W d v) : decide (v = .non) = isNon d := by
  cases d with
  | non => simp only [Rep] at r; subst r; rfl
  | bl b => simp only [Rep] at r; subst r; rfl
  | int b => simp only [Rep] at r; subst r; rfl
  | str b => simp only [Rep] at r; subst r; rfl
  | ty b => simp only [Rep] at r; subst r; rfl
  | cls b => simp only [Rep] at r; subst r; rfl
  | cell i => simp only [Rep] at r; obtain ⟨a, rfl, _⟩ := r; rfl
  | lst ds => simp only [Rep] at r; obtain ⟨a, vs, rfl, _⟩ := r; rfl
  | tup ds => simp only [Rep] at r; obtain ⟨a, vs, rfl, _⟩ := r; rfl
  | obj k ds => simp only [Rep] at r; obtain ⟨a, dx, vs, rfl, _⟩ := r; rfl
  | dct k ds => simp only [Rep] at r; obtain ⟨a, dx, vs, rfl, _⟩ := r; rfl
def gIs (neg : Bool) : D → D → Store → Res := fun x y S => match x, y with
  | x, .non => .ok (.bl (xor neg (isNon x))) S
  | .bl a, .bl b => .ok (.bl (xor neg (decide (a = b)))) S
  | _, _ => .bad
theorem op_gIs : OpR X (compareOp .Is) (rD Γ (gIs false)) := by
  intro pins s σ H x y v u Q I rx ry ⟨W, S, a, b, ok, ra, rb, h⟩
  unfold gIs at h
  split at h
  · simp only [Rep] at rb
    subst rb
    refine op_isN pins s σ H _ _ v u Q I rx ry ⟨rfl, ?_⟩
    rw [isNon_rep ra]
    exact h W _ H (Le.refl W) ok (by simp only [Rep, Bool.false_xor])
  · simp only [Rep] at ra rb
    subst ra rb
    exact op_is_bl pins s σ H _ _ v u Q I rx ry ⟨_, _, rfl, rfl, h W _ H (Le.refl W) ok (by simp only [Rep, Bool.false_xor])⟩
  · exact h.elim
theorem op_gIsNot : OpR X (compareOp .IsNot) (rD Γ (gIs true)) := by
  intro pins s σ H x y v u Q I rx ry ⟨W, S, a, b, ok, ra, rb, h⟩
  unfold gIs at h
  split at h
  · simp only [Rep] at rb
    subst rb
    refine op_notN pins s σ H _ _ v u Q I rx ry ⟨rfl, ?_⟩
    rw [isNon_rep ra]
    exact h W _ H (Le.refl W) ok (by simp only [Rep, Bool.true_xor])
  · simp only [Rep] at ra rb
    subst ra rb
    exact op_isnot_bl pins s σ H _ _ v u Q I rx ry ⟨_, _, rfl, rfl, h W _ H (Le.refl W) ok (by simp only [Rep, Bool.true_xor])⟩
  · exact h.elim

/-! ### x == y, x an instance of an own class -/
def gOwnEq (cs : List Nat) (k : Nat) (den : List D → Store → Res) : D → D → Store → Res := fun x y S => if isObj k x then match kind y, y with
  | some _, _ => chk 2 den [x, y] S
  | none, .obj j _ => if j ∈ cs then chk 2 den [x, y] S else .bad
  | _, _ => .bad
  else .bad
structure EqF (Γ : Pg) (cs : List Nat) (k : Nat) (g : Addr) : Prop where
  hs : PySem.W.findIn Γ.K (.ref (Γ.cl k)) "__eq__" = some (some (.ref g))
  hf : PySem.W.isFn Γ.K (.ref g) = true
  hb : ∀ t ∈ kinds, PySem.W.notFirst Γ.K (Γ.cl k) (.type t) = true
  hc : ∀ j ∈ cs, PySem.W.notFirst Γ.K (Γ.cl k) (.ref (Γ.cl j)) = true
theorem op_ownEq {cs : List Nat} {k j n : Nat} {g : Addr} {P : Program} {w : World} {mg : Str → Option Value} {base : Heap} {den : List D → Store → Res} (hh : Here Γ P w mg base n X E) (b : EqF Γ cs k g) (G : CalR Γ P w mg base j g 2 den) (hj : j ≤ n := by decide) : OpR X (compareOp .Eq) (rD Γ (gOwnEq cs k den)) := by
  obtain ⟨h1, h2, h3, h4, h5, h6, h7⟩ := hh
  subst h1 h2 h4 h5
  intro pins s σ H x y v u Q I rx ry ⟨W, S, a, b', ok, ra, rb, h⟩
  unfold gOwnEq at h
  split at h
  case isFalse => exact h.elim
  rename_i hx
  obtain ⟨ds, rfl⟩ := isObj_of hx
  obtain ⟨p, dx, vs, rfl, q2, q3⟩ := asI ok ra
  obtain rfl : v = Value.ref p := rx
  obtain ⟨m, hF⟩ := I.fr
  obtain ⟨o, od, J⟩ := objInst I q2
  have run : Cont Γ (chk 2 den [.obj k ds, b'] S) W Q (fun _ _ _ => False) → wpAny (model X.prog X.w) X.A (call (.ref g) [.ref p, u]) (PySem.W.CmpBack (EP X pins σ Q)) X.xe s := fun h' =>
    wpAny_mono (wpAny_call (runA (us := [.ref p, u]) (vs := [.ref p, y]) (E := fun _ _ _ => False) (by rw [h3]; exact G.run) (h6.mono hj) I.env0 (fun _ _ _ _ _ _ z => by
      obtain ⟨_, _, _, _, _, _, _, _, _, _, _, _, z⟩ := z
      exact z.elim) I (.cons rfl (.cons ry .nil)) (spD_of ok (Reps.cons ra (Reps.cons rb Reps.nil)) h'))) (fun w s' z => by
        obtain ⟨z', H', I', rz, qz⟩ := z
        exact SlX.cmpback rz ⟨z', H', I', rz, qz⟩) fun _ _ x => x
  refine PySem.W.cmp_ofEq ?_
  split at h
  · rename_i t hk
    obtain ⟨P, Z, pz, _⟩ := kit_of I ry (show TyX X.K H y (.type t) by rw [h3]; exact tyX ok rb hk)
    exact PySem.W.cmp_K (op := .Eq) h6.units0 hF I.ok.mod.kin J (Z.ty _ _ I.kIn pz) (by rw [h3]; exact b.hb t (kind_mem hk)) (by rw [h3]; exact b.hs) (by rw [h3]; exact b.hf) (run h)
  · rename_i j ds' hk
    split at h
    case isFalse => exact h.elim
    rename_i hj'
    obtain ⟨p', dx', vs', rfl, q2', q3'⟩ := asI ok rb
    obtain rfl : u = Value.ref p' := ry
    obtain ⟨o', od', J'⟩ := objInst I q2'
    exact PySem.W.cmp_K (op := .Eq) h6.units0 hF I.ok.mod.kin J J'.type (by rw [h3]; exact b.hc j hj') (by rw [h3]; exact b.hs) (by rw [h3]; exact b.hf) (run h)
  · exact h.elim

/-! ### names of the module, of the built-ins -/
structure GlobF (Γ : Pg) (mg : Str → Option Value) (x : Str) (d : D) : Prop where
  ex : ∃ u v, mg x = some u ∧ RelV v u ∧ ∀ W, Rep Γ W d v
theorem de_glob {x : Str} {d : D} {p : Pos} {mg : Str → Option Value} (hm : X.mg = mg) (g : GlobF Γ mg x d) (hg : Gl X x := by rfl) (hd : (x == ("__debug__" : Str)) = false := by decide) : PE X (.Name x p) (dE Γ ξ (eC d) E) := by
  obtain ⟨u, v, h1, h2, h3⟩ := g.ex
  exact de_c (pe_glob hg (by rw [hm]; exact h1) h2 hd) h3
theorem de_ty {x : Str} {n : String} {p : Pos} (hm : X.mg x = none) (hv : bootBuiltins x = some (.type n)) (hg : Gl X x := by rfl) (hn : x ≠ "__name__" := by decide) (hd : (x == ("__debug__" : Str)) = false := by decide) : PE X (.Name x p) (dE Γ ξ (eC (.ty n)) E) :=
  de_c (pe_bltn hg hm hv (v := .ty n) rfl hn hd) fun W => by simp only [Rep]

/-! ### what is walked -/
theorem _root_.L2.PI.or {X : Cx} {tg e : Expr} {t t' : TI} (h : PI X tg e t) (h' : PI X tg e t') : PI X tg e (fun σ H R => t σ H R ∨ t' σ H R) := ⟨fun pins s σ H R I z => z.elim (h.run pins s σ H R I) (h'.run pins s σ H R I)⟩
/-- what a thing is walked by: a tuple?, its items, what must stand -/
def seqV (S : Store) : D → Option (Bool × List D × Gd)
  | .lst ds => some (false, ds, [])
  | .tup ds => some (true, ds, [])
  | .cell c => match S[c]? with
    | some ds => some (false, ds, [(c, ds)])
    | none => none
  | _ => none
theorem src_of {W : Wd} {S : Store} {H : Hp} {d : D} {v : V} {t : Bool} {ds : List D} {g : Gd} (ok : Ok Γ W S H) (r : Rep Γ W d v) (h : seqV S d = some (t, ds, g)) :
    ∃ a, v = .ref a ∧ (∃ vs, SqX Γ.K H ⟨t, a⟩ vs ∧ Reps Γ W ds vs) ∧ ∀ W' S' H', LeS W W' → Ok Γ W' S' H' → g.ok S' → ∃ vs, SqX Γ.K H' ⟨t, a⟩ vs ∧ Reps Γ W' ds vs := by
  cases d with
  | lst fs =>
    cases h
    simp only [Rep] at r
    obtain ⟨a, vs, rfl, q1, q2⟩ := r
    exact ⟨a, rfl, ⟨vs, sqL_H ok.f q1, q2⟩, fun W' S' H' l o _ => ⟨vs, sqL_H o.f (sqL_le l q1), q2.mono l⟩⟩
  | tup fs =>
    cases h
    simp only [Rep] at r
    obtain ⟨a, vs, rfl, q1, q2⟩ := r
    exact ⟨a, rfl, ⟨vs, sqT_H ok.f q1, q2⟩, fun W' S' H' l o _ => ⟨vs, sqT_H o.f (sqT_le l q1), q2.mono l⟩⟩
  | cell c =>
    simp only [Rep] at r
    obtain ⟨a, rfl, hm⟩ := r
    obtain ⟨fs, vs, h3, h4, h5⟩ := ok.cell hm
    simp only [seqV, h3] at h
    cases h
    refine ⟨a, rfl, ⟨vs, .inl (.inl h4), h5⟩, fun W' S' H' l o hg => ?_⟩
    obtain ⟨fs', vs', k3, k4, k5⟩ := o.cell (l.m _ _ hm)
    have := hg _ (List.mem_singleton.mpr rfl)
    rw [k3] at this
    obtain rfl := Option.some.inj this
    exact ⟨vs', .inl (.inl k4), k5⟩
  | _ => cases h
def itSeq (f : EF) : IF := fun es S => (f es S).bindI fun d S1 => match d with
  | .lst ds => .ok ds [] S1
  | .tup ds => .ok ds [] S1
  | .cell c => match S1[c]? with
    | some ds => .ok ds [(c, ds)] S1
    | none => .bad
  | .str z => .ok (z.cps.toList.map fun c => .str ⟨#[c]⟩) [] S1
  | _ => .bad
theorem yld_str {W : Wd} {z : Str} : Yld Γ W (Its z) (z.cps.toList.map fun c => .str ⟨#[c]⟩) [] := fun W' S H l ok _ => by
  refine ⟨by simp [Its], fun i d hd => ?_⟩
  rw [List.getElem?_map] at hd
  by_cases hi : i < z.cps.size
  · refine ⟨hi, fun x H' ⟨e1, c, e2, e3⟩ => ⟨W', Le.refl _, by rw [e1]; exact ok, ?_⟩⟩
    have e4 : z.cps.toList[i]? = some c := by rw [Array.getElem?_toList]; exact e2
    rw [e4] at hd
    obtain rfl := Option.some.inj hd
    simp only [Rep]
    exact e3
  · rw [List.getElem?_eq_none (by simp; omega)] at hd
    cases hd
theorem di_seq {tg e : Expr} {f : EF} (hK : X.K = Γ.K) (he : PE X e (dE Γ ξ f E)) : PI X tg e (dI Γ ξ (itSeq f) E) :=
  (((pi_list he).or (pi_tup he)).or (pi_str he)).imp fun σ H R ⟨W, es, S, P0, ok, fr, h⟩ => by
    unfold itSeq at h
    cases e : f es S with
    | bad => rw [e] at h; exact h.elim
    | exc k fs S1 => rw [e] at h; exact .inl (.inl ⟨W, es, S, P0, ok, fr, by rw [e]; exact h⟩)
    | ok d S1 =>
      rw [e] at h
      cases d with
      | lst ds =>
        refine .inl (.inl ⟨W, es, S, P0, ok, fr, ?_⟩)
        rw [e]
        intro W1 v H1 l ok1 rv
        simp only [Rep] at rv
        obtain ⟨a, vs, rfl, q1, q2⟩ := rv
        rw [hK]
        exact ⟨a, rfl, ⟨vs, sqL_H ok1.f q1⟩, h W1 _ H1 l ok1 (yld_list q1 q2)⟩
      | tup ds =>
        refine .inl (.inr ⟨W, es, S, P0, ok, fr, ?_⟩)
        rw [e]
        intro W1 v H1 l ok1 rv
        simp only [Rep] at rv
        obtain ⟨a, vs, rfl, q1, q2⟩ := rv
        rw [hK]
        exact ⟨a, rfl, ⟨vs, sqT_H ok1.f q1⟩, h W1 _ H1 l ok1 (yld_tup q1 q2)⟩
      | cell c =>
        refine .inl (.inl ⟨W, es, S, P0, ok, fr, ?_⟩)
        rw [e]
        intro W1 v H1 l ok1 rv
        simp only [Rep] at rv
        obtain ⟨a, rfl, hm⟩ := rv
        obtain ⟨ds, vs, h3, h4, h5⟩ := ok1.cell hm
        simp only [Res.bindI, h3] at h
        rw [hK]
        exact ⟨a, rfl, ⟨vs, .inl (.inl h4)⟩, h W1 _ H1 l ok1 (yld_cell hm)⟩
      | str z =>
        refine .inr ⟨W, es, S, P0, ok, fr, ?_⟩
        rw [e]
        intro W1 v H1 l ok1 rv
        simp only [Rep] at rv
        exact ⟨z, rv, h W1 _ H1 l ok1 yld_str⟩
      | _ => exact h.elim
/-- what is walked in a comprehension may be a list of the frame's own -/
theorem diq_seqT {tg e : Expr} {f : EF} (hK : X.K = Γ.K) (he : PE X e (dV Γ ξ f E)) : PI X tg e (dIQ Γ ξ (itSeq f) E) :=
  (((pi_list he).or (pi_tup he)).or (pi_str he)).imp fun σ H R ⟨W, es, S, P0, ok, fr, h⟩ => by
    unfold itSeq at h
    cases e : f es S with
    | bad => rw [e] at h; exact h.elim
    | exc k fs S1 => rw [e] at h; exact .inl (.inl ⟨W, es, S, P0, ok, fr, by rw [e]; exact h⟩)
    | ok d S1 =>
      rw [e] at h
      cases d with
      | lst ds =>
        refine .inl (.inl ⟨W, es, S, P0, ok, fr, ?_⟩)
        rw [e]
        intro W1 v H1 l ok1 rv
        rw [hK]
        rcases rv with rv | ⟨a, vs, ds', e1, rfl, q1, q2⟩
        · simp only [Rep] at rv
          obtain ⟨a, vs, rfl, q1, q2⟩ := rv
          exact ⟨a, rfl, ⟨vs, sqL_H ok1.f q1⟩, h W1 _ H1 l ok1 (yld_list q1 q2).q⟩
        · cases e1
          refine ⟨a, rfl, ⟨vs, .inl (.inl (ok1.p _ _ q1).1)⟩, h W1 _ H1 l ok1 fun W' S H lq o _ => ?_⟩
          have q : SqL Γ.K H a vs := .inl (.inl (o.p _ _ (lq.p _ _ q1)).1)
          refine ⟨⟨vs, q, by rw [q2.length]; exact Nat.le_refl _⟩, fun i d hd => ?_⟩
          obtain ⟨v, hv, rv⟩ := q2.get hd
          exact ⟨⟨vs, v, q, hv⟩, fun x H' ⟨e1, e2⟩ => ⟨W', Le.refl _, by rw [e1]; exact o, by
            have := e2 vs q
            rw [hv] at this
            obtain rfl := Option.some.inj this
            exact rv.mono lq.s⟩⟩
      | tup ds =>
        refine .inl (.inr ⟨W, es, S, P0, ok, fr, ?_⟩)
        rw [e]
        intro W1 v H1 l ok1 rv
        rcases rv with rv | ⟨a, vs, ds', e1, _⟩
        · simp only [Rep] at rv
          obtain ⟨a, vs, rfl, q1, q2⟩ := rv
          rw [hK]
          exact ⟨a, rfl, ⟨vs, sqT_H ok1.f q1⟩, h W1 _ H1 l ok1 (yld_tup q1 q2).q⟩
        · cases e1
      | cell c =>
        refine .inl (.inl ⟨W, es, S, P0, ok, fr, ?_⟩)
        rw [e]
        intro W1 v H1 l ok1 rv
        rcases rv with rv | ⟨a, vs, ds', e1, _⟩
        · simp only [Rep] at rv
          obtain ⟨a, rfl, hm⟩ := rv
          obtain ⟨ds, vs, h3, h4, h5⟩ := ok1.cell hm
          simp only [Res.bindI, h3] at h
          rw [hK]
          exact ⟨a, rfl, ⟨vs, .inl (.inl h4)⟩, h W1 _ H1 l ok1 (yld_cell hm).q⟩
        · cases e1
      | str z =>
        refine .inr ⟨W, es, S, P0, ok, fr, ?_⟩
        rw [e]
        intro W1 v H1 l ok1 rv
        rcases rv with rv | ⟨a, vs, ds', e1, _⟩
        · simp only [Rep] at rv
          exact ⟨z, rv, h W1 _ H1 l ok1 yld_str.q⟩
        · cases e1
      | _ => exact h.elim
/-- zip of two -/
theorem yld_zip2 {W : Wd} {a b : Src} {ds fs : List D} {g g' : Gd} (q1 : ∀ W' S' H', LeS W W' → Ok Γ W' S' H' → g.ok S' → ∃ vs, SqX Γ.K H' a vs ∧ Reps Γ W' ds vs) (q2 : ∀ W' S' H', LeS W W' → Ok Γ W' S' H' → g'.ok S' → ∃ vs, SqX Γ.K H' b vs ∧ Reps Γ W' fs vs) : Yld Γ W (Itz2 Γ.K a b) ((ds.zip fs).map fun p => .tup [p.1, p.2]) (g ++ g') := fun W' S H l ok hg => by
  obtain ⟨vs, q, r⟩ := q1 W' S H l ok fun p hp => hg p (List.mem_append_left _ hp)
  obtain ⟨us, q', r'⟩ := q2 W' S H l ok fun p hp => hg p (List.mem_append_right _ hp)
  refine ⟨⟨vs, us, q, q', ?_⟩, fun i d hd => ?_⟩
  · rw [r.length, r'.length, List.length_map, List.length_zip]
    omega
  · rw [List.getElem?_map, Option.map_eq_some_iff] at hd
    obtain ⟨⟨x, y⟩, h1, rfl⟩ := hd
    rw [List.getElem?_zip_eq_some] at h1
    obtain ⟨v, hv, rv⟩ := r.get h1.1
    obtain ⟨u, hu, ru⟩ := r'.get h1.2
    refine ⟨⟨vs, us, v, u, q, q', hv, hu⟩, fun z H' ⟨T, x', y', e1, hT, e2, e3, e4⟩ => ?_⟩
    have e3 := e3 vs q
    have e4 := e4 us q'
    rw [hv] at e3
    rw [hu] at e4
    obtain rfl := Option.some.inj e3
    obtain rfl := Option.some.inj e4
    subst e1 e2
    have l2 := Le.lay (o := .tup [v, u]) (ok.fresh hT).1
    exact ⟨_, l2, ok.lay hT _, rep_tup (Reps.cons (rv.mono l2.s) (Reps.cons (ru.mono l2.s) Reps.nil))⟩
def itZip (a : AF) : IF := fun es S => (a es S).bindI fun ds S1 => match ds with
  | [x, y] => match seqV S1 x, seqV S1 y with
    | some (_, xs, g), some (_, ys, g') => .ok ((xs.zip ys).map fun p => .tup [p.1, p.2]) (g ++ g') S1
    | _, _ => .bad
  | _ => .bad

/-! ### a cell's item is stored -/
def sStore (fo fi fe : EF) : SF := fun es S => (fe es S).toS es fun d S1 => (fo es S1).toS es fun o S2 => (fi es S2).toS es fun i S3 => match o, i with
  | .cell c, .int k => match S3[c]? with
    | some ds => match ixN ds.length k with
      | some j => .next es (S3.set c (ds.set j d))
      | none => .bad
    | none => .bad
  | _, _ => .bad
theorem Reps.set {W : Wd} {d : D} {v : V} (r : Rep Γ W d v) : ∀ {ds : List D} {vs : List V} (j : Nat), Reps Γ W ds vs → Reps Γ W (ds.set j d) (vs.set j v)
  | [], vs, j, h => by simp only [Reps] at h; subst h; exact Reps.nil
  | d0 :: ds, vs, j, h => by
    simp only [Reps] at h
    obtain ⟨v0, vs', rfl, h1, h2⟩ := h
    cases j with
    | zero => exact Reps.cons r h2
    | succ j => exact Reps.cons h1 (Reps.set r j h2)
theorem Ok.cellSet {W : Wd} {S : Store} {H : Hp} (ok : Ok Γ W S H) {c : Nat} {a : Addr} (hm : W.m[c]? = some a) {ds : List D} {vs : List V} (r : Reps Γ W ds vs) : Ok Γ W (S.set c ds) (upd H a (.lst vs)) := by
  obtain ⟨hF, hP⟩ := ok.m c a hm
  refine ⟨fun b u e => ?_, fun b u e => ?_, ok.m, ok.nd, by rw [List.length_set]; exact ok.len, fun i b fs e1 e2 => ?_⟩
  · rw [upd_ne (ne_of_none e hF)]
    exact ok.f b u e
  · rw [upd_ne (ne_of_none e hP)]
    exact ok.p b u e
  · by_cases z : c = i
    · subst z
      rw [hm] at e1
      obtain rfl := Option.some.inj e1
      have hl : c < S.length := by rw [← ok.len]; exact (List.getElem?_eq_some_iff.mp hm).1
      rw [List.getElem?_set_self hl] at e2
      obtain rfl := Option.some.inj e2
      exact ⟨vs, upd_same, r⟩
    · rw [List.getElem?_set_ne z] at e2
      have n : b ≠ a := fun q => z (by
        subst q
        have h1 := List.getElem?_eq_some_iff.mp hm
        have h2 := List.getElem?_eq_some_iff.mp e1
        exact (List.getElem_inj ok.nd).mp (h1.2.trans h2.2.symm))
      obtain ⟨us, q3, q4⟩ := ok.c i b fs e1 e2
      exact ⟨us, by rw [upd_ne n]; exact q3, q4⟩
theorem ds_store {o i e : Expr} {fo fi fe : EF} {tpos pos : Pos} (ho : PE X o (dE Γ ξ fo E)) (hi : PE X i (dE Γ ξ fi E)) (he : PE X e (dE Γ ξ fe E)) (hs : swapsWithSole [.Subscript o i tpos] e pos.line X.env = pure false := by rfl) (hw : swappedStores [.Subscript o i tpos] e X.env = pure none := by rfl)
    (h1 : (assignEach [.Subscript o i tpos] X.env).map (·.2) = [assign (.Subscript o i tpos) X.env] := by rfl)
    (ha : ∀ v, assign (.Subscript o i tpos) X.env v = (do
      let ov ← holding [v] (eval o X.env)
      let iv ← holding [v, ov] (eval i X.env)
      standAt tpos
      holding [v, ov, iv] (setItem ov iv v)
      release [v, ov, iv] []) := by intro _; rfl) : PS X (.Assign [.Subscript o i tpos] e pos) (dS Γ ξ (sStore fo fi fe) E) :=
  (ps_asg he (pg_sub ho hi set_list ha) hs hw h1).imp fun Dn σ H ⟨W, es, S, P0, ok, fr, h⟩ => by
    refine ⟨W, es, S, P0, ok, fr, ContS.toS fr h fun d S1 W1 v H1 l1 ok1 r1 h1 => ?_⟩
    refine ⟨W1, es, S1, P0, ok1, fr.le l1, ContS.toS (fr.le l1) h1 fun o S2 W2 ov H2 l2 ok2 r2 h2 => ?_⟩
    refine ⟨W2, es, S2, P0, ok2, (fr.le l1).le l2, ContS.toS ((fr.le l1).le l2) h2 fun i S3 W3 iv H3 l3 ok3 r3 h3 => ?_⟩
    split at h3
    case h_2 => exact h3.elim
    rename_i c k
    split at h3
    case h_2 => exact h3.elim
    rename_i ds hc
    split at h3
    case h_2 => exact h3.elim
    rename_i j hj
    have r2' := r2.mono l3.s
    simp only [Rep] at r2' r3
    obtain ⟨a, rfl, hm⟩ := r2'
    subst r3
    obtain ⟨ds', vs, q1, q2, q3⟩ := ok3.cell hm
    rw [hc] at q1
    obtain rfl := Option.some.inj q1
    refine ⟨a, vs, k, j, rfl, rfl, q2, by rw [q3.length]; exact hj, ?_⟩
    exact h3 W3 σ _ (LeS.refl _) (ok3.cellSet hm (q3.set (r1.mono (l2.trans l3).s) j)) (((fr.le l1).le l2).le l3)
end
end DL
set_option Elab.async false
set_option linter.all false
set_option maxRecDepth 100000
namespace DL
open PySem PySem.Spec PyProof.Rows L2
section
variable {Γ : Pg} {ξ : Xx} {X : Cx} {E : WX}
/-! ### zip of two -/
theorem di_zip {e e2 : Expr} {ta : AF} {p pos tpos : Pos} {elts : List Expr} {kk : Nat} (hK : X.K = Γ.K) (hm : X.mg "zip" = none) (ha : PA X [e, e2] (dA Γ ξ ta E)) (hg : Gl X "zip" := by rfl)
    (hs : starEach [e, e2] X.env = (false, eval e X.env) :: starEach [e2] X.env := by rfl) (hpl : (backTo pos (starEach [e2] X.env)).any (·.1) = false := by rfl) :
    PI X (.Tuple elts kk tpos) (.Call (.Name "zip" p) [e, e2] [] pos) (dI Γ ξ (itZip ta) E) :=
  (pi_zip2X hg hm ha hs hpl).imp fun σ H R ⟨W, es, S, P0, ok, fr, h⟩ => by
    refine ⟨W, es, S, P0, ok, fr, ?_⟩
    unfold itZip at h
    cases e : ta es S with
    | bad => rw [e] at h; exact h.elim
    | exc k fs S1 => rw [e] at h; exact h
    | ok ds S1 =>
      rw [e] at h
      intro W1 vs H1 l1 ok1 rs
      simp only [ResA.bindI] at h
      split at h
      case h_2 => exact h.elim
      rename_i x y
      split at h
      case h_2 => exact h.elim
      rename_i t1 xs g1 t2 ys g2 hx hy
      simp only [Reps] at rs
      obtain ⟨v, vs', rfl, r1, u, us', rfl, r2, rfl⟩ := rs
      obtain ⟨a, rfl, ⟨va, q1, q2⟩, q3⟩ := src_of ok1 r1 hx
      obtain ⟨b, rfl, ⟨vb, q4, q5⟩, q6⟩ := src_of ok1 r2 hy
      rw [hK]
      exact ⟨⟨t1, a⟩, ⟨t2, b⟩, va, vb, rfl, q1, q4, h W1 _ H1 l1 ok1 (yld_zip2 q3 q6)⟩

/-! ### {} -/
def eDict0 : EF := fun _ S => .ok (.dct [] []) S
theorem de_dict0 {pos : Pos} : PE X (.Dict [] [] pos) (dE Γ ξ eDict0 E) := pe_dnewK.imp fun σ H Q ⟨W, es, S, P0, ok, fr, h⟩ p hp => by
  have l : Le W { W with F := upd W.F p (.dK []) } := Le.lay (ok.fresh hp).1
  refine h _ _ _ l (ok.lay hp _) ?_
  simp only [Rep]
  exact ⟨p, [], [], rfl, upd_same, rfl, rfl, Reps.nil⟩

/-! ### == of lists of plain data and empty dicts -/
def eqI : D → D → Option Bool
  | .dct [] [], .dct [] [] => some true
  | a, b => match toP a, toP b with
    | some p, some q => if SeqAt.shaped p && SeqAt.shaped q then some (PyData.eqv p q) else none
    | _, _ => none
def eqIs : List D → List D → Option Bool
  | [], [] => some true
  | a :: as, b :: bs => (eqI a b).bind fun x => (eqIs as bs).map fun y => x && y
  | _, _ => none
def eqLB (S : Store) (a b : D) : Option Bool := match deref S a, deref S b with
  | .lst xs, .lst ys => eqIs xs ys
  | _, _ => none
def gEqL : D → D → Store → Res := fun x y S => match eqLB S x y with
  | some b => .ok (.bl b) S
  | none => .bad
def gNeL : D → D → Store → Res := fun x y S => match eqLB S x y with
  | some b => .ok (.bl (!b)) S
  | none => .bad
theorem eqAt_dict0 {A : Around} {P : Program} {w : World} {s : Shared} {a b : Addr} (hu : A.units < cLine) (ha : (a == sysModules) = false) (hb : (b == sysModules) = false) (da : s.heap.DictOf (mixKind P w) a []) (db : s.heap.DictOf (mixKind P w) b []) : SeqAt.EqAt A s (.ref a) (.ref b) true := fun prog w' => by
  have z : ∀ c, s.heap.DictOf (mixKind P w) c [] → s.heap.DictOf (mixKind prog w') c [] := fun c ⟨o, es, ep, h1, h2, h3, h4, h5, h6⟩ => by
    have e : es = #[] := by
      have := h5.length
      simpa using this
    subst e
    exact ⟨o, #[], ep, h1, h2, h3, fun _ he => by simp at he, .nil, List.nodup_nil⟩
  by_cases hab : a = b
  · subst hab
    exact SeqAt.EqAt.same _ prog w'
  · exact SeqAt.eqP_refs hab fun E Q h => PySem.W.rcP_dicts ha hb (z _ da) (z _ db) hu (fun _ => .nil) E Q h
theorem eqAt_I {A : Around} {W : Wd} {S : Store} {H : Hp} {pins : List (Addr × Obj)} {σ : L2.St} {s : Shared} (hK : X.K = Γ.K) (hu : A.units + 64 < cLine) (ok : Ok Γ W S H) (I : Inv X pins σ H s) {d e : D} {x y : V} {v u : Value} {b : Bool} (h : eqI d e = some b) (r : Rep Γ W d x) (r' : Rep Γ W e y) (rx : RelV x v) (ry : RelV y u) : SeqAt.EqAt A s v u b := by
  unfold eqI at h
  split at h
  · cases h
    simp only [Rep] at r r'
    obtain ⟨a, kvs, vs, rfl, q1, q2, q3, _⟩ := r
    obtain ⟨a', kvs', vs', rfl, q1', q2', q3', _⟩ := r'
    have e1 : kvs = [] := List.map_eq_nil_iff.mp q2
    have e2 : kvs' = [] := List.map_eq_nil_iff.mp q2'
    subst e1 e2
    obtain ⟨_, hS, xs, z1, z2⟩ := dk_of I.hok (ok.f _ _ q1)
    obtain ⟨_, hS', xs', z1', z2'⟩ := dk_of I.hok (ok.f _ _ q1')
    cases z1
    cases z1'
    obtain rfl : v = Value.ref a := rx
    obtain rfl : u = Value.ref a' := ry
    exact eqAt_dict0 (by omega) hS hS' z2 z2'
  · split at h
    · rename_i p q hp hq
      split at h
      · rename_i hs
        cases h
        have hs := Bool.and_eq_true_iff.mp hs
        obtain ⟨as, r1⟩ := Dp.reads I p x v (by rw [hK]; exact dp_of ok.f r hp) rx
        obtain ⟨bs, r2⟩ := Dp.reads I q y u (by rw [hK]; exact dp_of ok.f r' hq) ry
        exact SeqAt.eqAt_reads p q A s v u as bs r1 r2 (SeqAt.canLay_of_shaped hs.1) (SeqAt.canLay_of_shaped hs.2) (SeqAt.room_of_shaped hs.1 hu)
      · cases h
    · cases h
theorem eqAt_Is {A : Around} {W : Wd} {S : Store} {H : Hp} {pins : List (Addr × Obj)} {σ : L2.St} {s : Shared} (hK : X.K = Γ.K) (hu : A.units + 64 < cLine) (ok : Ok Γ W S H) (I : Inv X pins σ H s) : ∀ {ds es : List D} {xs ys : List V} {vs us : List Value} {b : Bool}, eqIs ds es = some b → Reps Γ W ds xs → Reps Γ W es ys → Vals xs vs → Vals ys us →
    ∃ e : Nat → Bool, vs.length = us.length ∧ b = (List.range vs.length).all e ∧ ∀ j (h1 : j < vs.length) (h2 : j < us.length), SeqAt.EqAt A s vs[j] us[j] (e j)
  | [], [], xs, ys, vs, us, b, h, r, r', rv, ru => by
    simp only [Reps] at r r'
    subst r r'
    cases rv
    cases ru
    simp only [eqIs, Option.some.injEq] at h
    subst h
    exact ⟨fun _ => true, rfl, rfl, fun j h1 => absurd h1 (Nat.not_lt_zero _)⟩
  | d :: ds, e :: es, xs, ys, vs, us, b, h, r, r', rv, ru => by
    simp only [Reps] at r r'
    obtain ⟨x, xs', rfl, r1, r2⟩ := r
    obtain ⟨y, ys', rfl, r1', r2'⟩ := r'
    cases rv with
    | cons w1 w2 =>
      cases ru with
      | cons t1 t2 =>
        simp only [eqIs, Option.bind_eq_some_iff, Option.map_eq_some_iff] at h
        obtain ⟨b1, h1, b2, h2, rfl⟩ := h
        obtain ⟨f, l, rfl, q⟩ := eqAt_Is hK hu ok I h2 r2 r2' w2 t2
        have q0 := eqAt_I (A := A) hK hu ok I h1 r1 r1' w1 t1
        refine ⟨fun j => match j with | 0 => b1 | j + 1 => f j, congrArg Nat.succ l, ?_, fun j h1 h2 => ?_⟩
        · rw [List.length_cons, List.range_succ_eq_map, List.all_cons, List.all_map]
          rfl
        · cases j with
          | zero => exact q0
          | succ j => exact q j (Nat.lt_of_succ_lt_succ h1) (Nat.lt_of_succ_lt_succ h2)
  | [], e :: es, _, _, _, _, _, h, _, _, _, _ => by cases h
  | d :: ds, [], _, _, _, _, _, h, _, _, _, _ => by cases h
theorem lst_of {W : Wd} {S : Store} {H : Hp} (ok : Ok Γ W S H) {d : D} {ds : List D} {v : V} (r : Rep Γ W d v) (h : deref S d = .lst ds) : ∃ a vs, v = .ref a ∧ SqL Γ.K H a vs ∧ Reps Γ W ds vs := by
  cases d with
  | cell i =>
    simp only [Rep] at r
    obtain ⟨a, rfl, h2⟩ := r
    obtain ⟨fs, vs, h3, h4, h5⟩ := ok.cell h2
    simp only [deref, h3, D.lst.injEq] at h
    subst h
    exact ⟨a, vs, rfl, .inl (.inl h4), h5⟩
  | lst fs =>
    simp only [deref, D.lst.injEq] at h
    subst h
    simp only [Rep] at r
    obtain ⟨a, vs, rfl, h2, h3⟩ := r
    exact ⟨a, vs, rfl, sqL_H ok.f h2, h3⟩
  | _ => cases h
theorem op_gEqL (hK : X.K = Γ.K) (hu : X.A.units + 66 < cLine) : OpR X (compareOp .Eq) (rD Γ gEqL) := by
  intro pins s σ H x y v u Q I rx ry ⟨W, S, a, b, ok, ra, rb, h⟩
  unfold gEqL eqLB at h
  split at h
  case h_2 => exact h.elim
  rename_i r hr
  split at hr
  case h_2 => cases hr
  rename_i xs ys hx hy
  obtain ⟨p, vs, rfl, q1, q2⟩ := lst_of ok ra hx
  obtain ⟨p', vs', rfl, q1', q2'⟩ := lst_of ok rb hy
  obtain rfl : v = Value.ref p := rx
  obtain rfl : u = Value.ref p' := ry
  obtain ⟨its, rv, pl, _⟩ := I.list (by rw [hK]; exact q1)
  obtain ⟨its', rv', pl', _⟩ := I.list (by rw [hK]; exact q1')
  obtain ⟨e, l, rfl, q⟩ := eqAt_Is (A := X.A.in1) hK (by show X.A.units + 1 + 64 < cLine; omega) ok I hr q2 q2' rv rv'
  exact (SeqAt.RcAt.lists pl.isList pl'.isList (by simpa using l) (by omega) (e := e) fun j h1 h2 => by simpa using q j (by simpa using h1) (by simpa using h2)) _ _ _ _ ⟨.bl _, H, I, rfl, by simpa using h W _ H (Le.refl W) ok (by simp only [Rep])⟩
theorem op_gNeL (hK : X.K = Γ.K) (hu : X.A.units + 66 < cLine) : OpR X (compareOp .NotEq) (rD Γ gNeL) := by
  intro pins s σ H x y v u Q I rx ry ⟨W, S, a, b, ok, ra, rb, h⟩
  unfold gNeL eqLB at h
  split at h
  case h_2 => exact h.elim
  rename_i r hr
  split at hr
  case h_2 => cases hr
  rename_i xs ys hx hy
  obtain ⟨p, vs, rfl, q1, q2⟩ := lst_of ok ra hx
  obtain ⟨p', vs', rfl, q1', q2'⟩ := lst_of ok rb hy
  obtain rfl : v = Value.ref p := rx
  obtain rfl : u = Value.ref p' := ry
  obtain ⟨its, rv, pl, _⟩ := I.list (by rw [hK]; exact q1)
  obtain ⟨its', rv', pl', _⟩ := I.list (by rw [hK]; exact q1')
  obtain ⟨e, l, rfl, q⟩ := eqAt_Is (A := X.A.in1) hK (by show X.A.units + 1 + 64 < cLine; omega) ok I hr q2 q2' rv rv'
  exact (SeqAt.RcNeAt.lists pl.isList pl'.isList (by simpa using l) (by omega) (e := e) fun j h1 h2 => by simpa using q j (by simpa using h1) (by simpa using h2)) _ _ _ _ ⟨.bl _, H, I, rfl, by simpa using h W _ H (Le.refl W) ok (by simp only [Rep])⟩

/-! ### keywords -/
theorem _root_.L2.PK.imp {X : Cx} {ks : List Keyword} {t t' : TA} (h : PK X ks t) (q : ∀ σ H Q, t' σ H Q → t σ H Q) : PK X ks t' := ⟨fun p pins s σ H Q I z => h.run p pins s σ H Q I (q σ H Q z)⟩
theorem dk_nil : PK X [] (dA Γ ξ aNil E) := pk_nil.imp fun σ H Q ⟨W, es, S, P0, ok, fr, h⟩ => h W _ H (Le.refl W) ok Reps.nil
theorem dk_cons {nm : Option Str} {kpos : Pos} {e : Expr} {ks : List Keyword} {f : EF} {g : AF} (he : PE X e (dE Γ ξ f E)) (hr : PK X ks (dA Γ ξ g E)) : PK X (⟨nm, e, kpos⟩ :: ks) (dA Γ ξ (aCons f g) E) :=
  (pk_cons he hr).imp fun σ H Q ⟨W, es, S, P0, ok, fr, h⟩ => ⟨W, es, S, P0, ok, fr, Cont.bindA h fun d S1 W1 v H1 le ok1 rv h1 => ⟨W1, es, S1, P0, ok1, fr.le le, by
    cases e : g es S1 with
    | bad => rw [e] at h1; exact h1.elim
    | exc k fs S' => rw [e] at h1; exact h1
    | ok ds S' =>
      rw [e] at h1
      intro W2 vs H2 l2 ok2 rs
      exact h1 W2 _ H2 l2 ok2 (Reps.cons (rv.mono l2.s) rs)⟩⟩

/-- a def that is called with keywords: m values are written, then the keywords ks; gD puts them in the parameters' order -/
structure KFn (Γ : Pg) (P : Program) (w : World) (mg : Str → Option Value) (base : Heap) (k : Nat) (g : Addr) (m : Nat) (ks : List Str) (sp : Sp) (gV : List V → List V → List V) : Prop where
  ex : ∃ (fd : FuncData) (ps : List Str) (gv : List Value → List Value → List Value), FnOk P w Γ.K mg base (L2.CX P w) k g fd ps sp ∧ KBn Γ.K fd ps m ks gv gV
theorem runK {CX : CXT} {k n : Nat} {f : Addr} {fd : FuncData} {ps ks : List Str} {sp : Sp} {Ex : XK} {g : List Value → List Value → List Value} {gV : List V → List V → List V} {A : Around} {pins : List (Addr × Obj)} {σ : L2.St} {H : Hp} {s : Shared} {Q : VK} {us ws : List Value} {vs zs : List V} (F : FnOk X.prog X.w X.K X.mg X.base CX k f fd ps sp) (hr : Room k A) (hb : KBn X.K fd ps n ks g gV) (hx : PassesAt CX X σ Ex)
    (e0 : Env0 X.prog X.w X.K X.mg X.base A X.stack s H) (I : Inv X pins σ H s) (r : Vals vs us) (rz : Vals zs ws) (l1 : vs.length = n) (l2 : zs.length = ks.length) (h : sp (gV vs zs) H Q Ex) :
    codeAny (model X.prog X.w) A (.call (.ref f) ⟨us, ks.zip ws⟩) (fun r s' => match r with | .ok (.ret v) => EP X pins σ Q v s' | .ok _ => False | .error e => X.xe e s') s :=
  codeAny_mono (F.run A X.stack s H ⟨us, ks.zip ws⟩ (g us ws) (gV vs zs) Q Ex hr e0 (hb.to s us ws I.kIn (r.length.symm.trans l1) (rz.length.symm.trans l2)) (hb.rel r rz) h) fun r s' hq => match r, hq with
    | .error e, hq => hx pins H s e s' I hq
    | .ok (.ret _), hq => I.after hq
    | .ok .next, hq => hq.elim
    | .ok .brk, hq => hq.elim
    | .ok .cont, hq => hq.elim
/-- o.m(k = v, ..) -/
def eMethK (k n m : Nat) (gD : List D → List D → List D) (den : List D → Store → Res) (f : EF) (a : AF) : EF := fun es S => (f es S).bind fun d S1 => if isObj k d then (a es S1).bind fun ds S2 => if ds.length = m then chk n den (gD [d] ds) S2 else .bad else .bad
theorem de_methK {o : Expr} {kws : List Keyword} {ks : List Str} {m : Str} {fo : EF} {fa : AF} {k j n l : Nat} {g : Addr} {pos apos : Pos} {P : Program} {w : World} {mg : Str → Option Value} {base : Heap} {den : List D → Store → Res} {gD : List D → List D → List D} {gV : List V → List V → List V} {pl : Sem Bool} (hh : Here Γ P w mg base l X E) (c : ObF Γ k) (hm : L2.Meth Γ.K (Γ.cl k) m g)
    (G : KFn Γ P w mg base j g 1 ks (spD Γ n den) gV) (hg : ∀ W ds es vs zs, Reps Γ W ds vs → Reps Γ W es zs → Reps Γ W (gD ds es) (gV vs zs)) (ho : PE X o (dE Γ ξ fo E)) (ha : PK X kws (dA Γ ξ fa E)) (hj : j ≤ l := by decide) (hno : noF (Γ.at_ k) m = true := by first | rfl | kernel_rfl)
    (hall : (backToKw pos (keywordEach kws X.env)).all (·.1.isSome) = true := by rfl) (hks : (backToKw pos (keywordEach kws X.env)).filterMap (·.1) = ks := by rfl)
    (hpl : ((backTo pos (starEach [] X.env)).any (·.1) || (backToKw pos (keywordEach kws X.env)).any (·.1.isNone)) = false := by rfl)
    (ht : eval (.Call (.Attribute o m apos) [] kws pos) X.env = (do
      let ov ← eval o X.env
      standAt apos.atName
      let (f, first) ← holding [ov] (getMethod ov m pl)
      callWith pos f first (backTo pos (starEach [] X.env)) (backToKw pos (keywordEach kws X.env))) := by rfl) :
    PE X (.Call (.Attribute o m apos) [] kws pos) (dE Γ ξ (eMethK k n ks.length gD den fo fa) E) := by
  obtain ⟨h1, h2, h3, h4, h5, h6, h7⟩ := hh
  subst h1 h2 h4 h5
  obtain ⟨fd, ps, gv, hF, hb⟩ := G.ex
  refine ⟨fun pins s σ H Q I ⟨W, ds, S, P0, ok, fr, h⟩ => ?_⟩
  refine PySem.W.methodCall_KW (pl := pl) (thn (ho.run pins s σ H (fun x H1 => ∃ W1 S1 d, Ok Γ W1 S1 H1 ∧ Frame Γ ξ W1 ds σ P0 ∧ Rep Γ W1 d x ∧ Cont Γ (if isObj k d then (fa ds S1).bind fun es S2 => if es.length = ks.length then chk n den (gD [d] es) S2 else .bad else .bad) W1 Q (at_ E σ)) I
    ⟨W, ds, S, P0, ok, fr, h.bind fun d S1 W1 v H1 le ok1 rv h1 => ⟨W1, S1, d, ok1, fr.le le, rv, h1⟩⟩) fun u s1 ⟨x, H1, I1, rx, W1, S1, d, ok1, fr1, rd, h1⟩ => ?_) ht
  split at h1
  case isFalse => exact h1.elim
  rename_i hd
  obtain ⟨fs, rfl⟩ := isObj_of hd
  obtain ⟨a, dx, vs, rfl, q2, q3⟩ := asI ok1 rd
  obtain rfl : u = Value.ref a := rx
  have hm' : L2.Meth X.K (Γ.cl k) m g := by rw [h3]; exact hm
  refine getO h3 I1 q2 c hm' hno ?_
  refine PySem.W.callWith_KW0 (first := [.ref a]) (h₀ := X.base) I.ok.mod.kin hm'.kp hall (thn (ha.run pos pins s1 σ H1 (fun vs H2 => ∃ W2 S2 es, Ok Γ W2 S2 H2 ∧ Reps Γ W2 es vs ∧ Rep Γ W2 (.obj k fs) (.ref a) ∧ Cont Γ (if es.length = ks.length then chk n den (gD [.obj k fs] es) S2 else .bad) W2 Q (at_ E σ)) I1
    ⟨W1, ds, S1, P0, ok1, fr1, ContA.bind h1 fun es S2 W2 vs H2 le ok2 rs h2 => ⟨W2, S2, es, ok2, rs, rd.mono le.s, h2⟩⟩) fun us s2 ⟨ws, H2, I2, r, W2, S2, es2, ok2, rs, rd2, h2⟩ => ⟨I2.kIn, ?_⟩) hpl
  split at h2
  case isFalse => exact h2.elim
  rename_i hl
  rw [hks]
  exact wpAny_call (runK (us := [.ref a]) (vs := [.ref a]) (by rw [h3]; exact hF) (h6.mono hj) (by rw [h3]; exact hb) (pass_of h7 σ) I2.env0 I2 (.cons rfl .nil) r rfl (rs.length.trans hl) (spD_of ok2 (hg W2 _ _ _ _ (Reps.cons rd2 Reps.nil) rs) h2))
/-- C(k = v, ..) -/
def eNewK (c n m : Nat) (gD : List D → List D) (F : List D → Store → ResA) (a : AF) : EF := fun es S => (a es S).bind fun ds S1 => if ds.length = m then newD c n F (gD ds) S1 else .bad
structure MakK (Γ : Pg) (P : Program) (w : World) (mg : Str → Option Value) (base : Heap) (k : Nat) (x : Str) (c n : Nat) (ks : List Str) (gV : List V → List V) (F : List D → Store → ResA) : Prop where
  no : Γ.at_ c = none
  ex : ∃ (fI : Addr) (fd : FuncData) (ps : List Str) (gv : List Value → List Value → List Value) (g : List V → List V → List V), Mk Γ.K (Γ.cl c) fI ∧ FnOk P w Γ.K mg base (L2.CX P w) k fI fd ps (spI Γ c n F) ∧ mg x = some (.ref (Γ.cl c)) ∧ KBn Γ.K fd ps 1 ks gv g ∧ ∀ x zs, zs.length = ks.length → g [x] zs = x :: gV zs
theorem runMkK {CX : CXT} {k : Nat} {f C : Addr} {fd : FuncData} {ps ks : List Str} {sp : Sp} {Ex : XK} {g : List Value → List Value → List Value} {gV : List V → List V → List V} {pins : List (Addr × Obj)} {σ : L2.St} {H : Hp} {s : Shared} {Q : VK} {ws : List Value} {zs : List V} (M : Mk X.K C f) (F : FnOk X.prog X.w X.K X.mg X.base CX k f fd ps sp)
    (hr : Room (k + 1) X.A) (hb : KBn X.K fd ps 1 ks g gV) (hx : PassesAt CX X σ Ex) (I : Inv X pins σ H s) (rz : Vals zs ws) (l2 : zs.length = ks.length)
    (h : ∀ x dx, H x = none → H dx = none → dx ≠ x → sp (gV [.ref x] zs) (upd (upd H dx (.own x)) x (.ins C dx [])) (fun v H2 => v = .non ∧ Q (.ref x) H2) Ex) : wpAny (model X.prog X.w) X.A (call (.ref C) [] (ks.zip ws)) (EP X pins σ Q) X.xe s := by
  let x : Addr := s.heap.objs.size + 1
  let dx : Addr := s.heap.objs.size
  have hs := h x dx (I.hok.fresh (Nat.le_succ _)) (I.hok.fresh (Nat.le_refl _)) (Nat.ne_of_lt (Nat.lt_succ_self _))
  have J := Inv.made (C := C) I
  have rr : Vals [V.ref x] [Value.ref x] := .cons rfl .nil
  have run := F.run _ X.stack _ _ ⟨[Value.ref x], ks.zip ws⟩ (g [Value.ref x] ws) _ _ Ex (hr.make C [] (ks.zip ws)) (J.env0.make C [] (ks.zip ws)) (hb.to _ [Value.ref x] ws J.kIn rfl (rz.length.symm.trans l2)) (hb.rel rr rz) hs
  refine wpAny_call (make_map (f := f) I.kIn M.makes M.init (beq_iff_eq.mp M.fn) (codeAny_mono run fun r s' hq => ?_))
  match r, hq with
  | .error e, hq => exact hx pins _ _ e s' J hq
  | .ok (.ret u), hq =>
    obtain ⟨v, H', J2, rv, ev, q3⟩ := J.after hq
    subst ev
    exact ⟨rv, ⟨V.ref x, H', J2, rfl, q3⟩⟩
  | .ok .next, hq => exact hq.elim
  | .ok .brk, hq => exact hq.elim
  | .ok .cont, hq => exact hq.elim
theorem de_newK {kws : List Keyword} {ks : List Str} {x : Str} {fa : AF} {c n j l : Nat} {p pos : Pos} {P : Program} {w : World} {mg : Str → Option Value} {base : Heap} {F : List D → Store → ResA} {gD : List D → List D} {gV : List V → List V} (hh : Here Γ P w mg base l X E) (M : MakK Γ P w mg base j x c n ks gV F) (hgd : ∀ W ds vs, Reps Γ W ds vs → Reps Γ W (gD ds) (gV vs))
    (ha : PK X kws (dA Γ ξ fa E)) (hj : j + 1 ≤ l := by decide) (hg : Gl X x := by rfl) (hdb : (x == ("__debug__" : Str)) = false := by decide)
    (hall : (backToKw pos (keywordEach kws X.env)).all (·.1.isSome) = true := by rfl) (hks : (backToKw pos (keywordEach kws X.env)).filterMap (·.1) = ks := by rfl)
    (hpl : ((backTo pos (starEach [] X.env)).any (·.1) || (backToKw pos (keywordEach kws X.env)).any (·.1.isNone)) = false := by rfl) :
    PE X (.Call (.Name x p) [] kws pos) (dE Γ ξ (eNewK c n ks.length gD F fa) E) := by
  obtain ⟨h1, h2, h3, h4, h5, h6, h7⟩ := hh
  subst h1 h2 h4 h5
  obtain ⟨fI, fd, ps, gv, g, hM, hF, hm, hb, hgv⟩ := M.ex
  rw [← h3] at hM hF hb
  refine ⟨fun pins s σ H Q I ⟨W, es', S, P0, ok, fr, h⟩ => ?_⟩
  refine wpAny_Call_Name_kw (ld_glob I hg hm ?_ hdb)
  refine PySem.W.callWith_KW0 (h₀ := X.base) I.ok.mod.kin hM.kp hall (thn (ha.run pos pins s σ H (fun vs H1 => ∃ W1 S1 ds1, Ok Γ W1 S1 H1 ∧ Reps Γ W1 ds1 vs ∧ Cont Γ (if ds1.length = ks.length then newD c n F (gD ds1) S1 else .bad) W1 Q (at_ E σ)) I
    ⟨W, es', S, P0, ok, fr, ContA.bind h fun ds1 S1 W1 vs H1 le ok1 rs h1 => ⟨W1, S1, ds1, ok1, rs, h1⟩⟩) fun us s1 ⟨vs, H1, I1, r, W1, S1, ds1, ok1, rs, h1⟩ => ⟨I1.kIn, ?_⟩) hpl
  split at h1
  case isFalse => exact h1.elim
  rename_i hl
  rw [hks]
  refine runMkK (gV := g) hM hF (h6.mono hj) hb (pass_of h7 σ) I1 r (rs.length.trans hl) fun x dx hx hd hne => ?_
  rw [hgv _ _ (rs.length.trans hl)]
  exact spI_of M.no ok1 (hgd W1 _ _ rs) h1 hx hd hne
end
end DL
set_option Elab.async false
set_option linter.all false
set_option maxRecDepth 100000
set_option maxHeartbeats 2000000
set_option autoImplicit false
/-! The data layer, 13: the head's facts. -/
namespace DL
open PySem PySem.Spec PyProof.Rows L2 He

/-! ### addresses by paths -/
def pa (K : PySem.W.Frag) (C : Addr) (f : Str) : Addr := match PySem.W.recIn K (ma K C f) "property" with
  | some (.ref g :: _) => g
  | _ => 0
/-! ### defs at addresses -/
structure DefA where
  at_ : PySem.W.Frag → Addr
  name : Str
  qual : Str
  params : Arguments
  body : List Stmt
  scope : Scope
  dfl : List Dv := []
def fnA (K : PySem.W.Frag) (a : Addr) : FnW := match K.lookup a with
  | some ⟨_, _, .func fd, _⟩ => some (fd.name, fd.qualname, fd.params, fd.body, fd.scope, fd.globals, fd.closure, fd.builtins)
  | _ => none
def DefA.val (d : DefA) : FnW := some (d.name, d.qual, d.params, .stmts d.body, d.scope, mainGlobals, [], builtinsNs)
def DefA.dvs (K : PySem.W.Frag) (d : DefA) : List V := d.dfl.map (Dv.v K)
def DefA.ok (K : PySem.W.Frag) (d : DefA) : Bool := PySem.W.keepIn K (.ref (d.at_ K)) && (match K.lookup (d.at_ K) with
  | some ⟨_, _, .func fd, _⟩ => PySem.W.codeIn K fd.code d.qual && dflB K fd.defaults (d.dvs K)
  | _ => false)
theorem DefA.funD {K : PySem.W.Frag} {d : DefA} (e : fnA K (d.at_ K) = d.val) (c : d.ok K = true) : ∃ fd, FunD K d.name d.qual d.params d.body d.scope (d.dvs K) [] (d.at_ K) fd := by
  obtain ⟨kp, c2⟩ := ba c
  unfold fnA at e
  cases q : K.lookup (d.at_ K) with
  | none =>
    rw [q] at c2
    cases c2
  | some o =>
    obtain ⟨oc, od, dt, osl⟩ := o
    rw [q] at c2 e
    cases dt with
    | func fd =>
      obtain ⟨n1, n2, n3, n4, n5, n6, n7, n8, n9, n10, n11, n12, n13, n14, n15⟩ := fd
      have e2 : (some (n1, n2, n3, n4, n5, n6, n7, n15) : FnW) = some (d.name, d.qual, d.params, .stmts d.body, d.scope, mainGlobals, [], builtinsNs) := e
      simp only [Option.some.injEq, Prod.mk.injEq] at e2
      obtain ⟨h1, h2, h3, h4, h5, h6, h7, h8⟩ := e2
      subst h1 h2 h3 h4 h5 h6 h7 h8
      obtain ⟨k1, k2⟩ := ba (show (PySem.W.codeIn K n13 d.qual && dflB K n8 (d.dvs K)) = true from c2)
      exact ⟨_, ⟨oc, od, n8, n9, n10, n11, n12, n13, n14, osl, rfl, q, k1, dflB_ok k2, .inl rfl⟩, kp⟩
    | _ => cases c2

/-! ### the Hook -/
abbrev AlA : Type := Bool × List FnW
def obsA (fn : List DefA) (ex : PySem.W.Frag → Bool) (K : PySem.W.Frag) : AlA := (ex K && fn.all fun d => d.ok K, fn.map fun d => fnA K (d.at_ K))
def valA (fn : List DefA) : AlA := (true, fn.map DefA.val)
structure SaysA (fn : List DefA) (ex : PySem.W.Frag → Bool) (K : PySem.W.Frag) : Prop where
  more : ex K = true
  def_ : ∀ d ∈ fn, ∃ fd, FunD K d.name d.qual d.params d.body d.scope (d.dvs K) [] (d.at_ K) fd
theorem saysA_of {fn : List DefA} {ex : PySem.W.Frag → Bool} {K : PySem.W.Frag} (e : obsA fn ex K = valA fn) : SaysA fn ex K := by
  obtain ⟨c1, c2⟩ := ba (show (ex K && fn.all fun d => d.ok K) = true from congrArg (fun z : AlA => z.1) e)
  have e2 : fn.map (fun d => fnA K (d.at_ K)) = fn.map DefA.val := congrArg (fun z : AlA => z.2) e
  refine ⟨c1, fun d hd => ?_⟩
  obtain ⟨i, hi, ei⟩ := List.mem_iff_getElem.mp hd
  have e3 : (fn.map fun d => fnA K (d.at_ K))[i]? = (fn.map DefA.val)[i]? := by rw [e2]
  rw [List.getElem?_map, List.getElem?_map, List.getElem?_eq_getElem hi, ei] at e3
  exact DefA.funD (Option.some.inj e3) (List.all_eq_true.mp c2 d hd)
def obsAG (n : Nat) (fn : List DefA) (ex : PySem.W.Frag → Bool) (g : Addr → Option Obj) : AlA := obsA fn ex (frG g (cStatics :: asD g n))
def hookA (n : Nat) (fn : List DefA) (ex : PySem.W.Frag → Bool) : PySem.W.Hook where
  α := AlA
  obs := fun s => obsAG n fn ex s.heap.get?
  val := fun _ => valA fn
  says := fun _ h => ∃ K : PySem.W.Frag, K.In h ∧ SaysA fn ex K
  of := fun _ _ e => ⟨_, frG_in, saysA_of e⟩
  keeps := fun _ _ _ ⟨K, hK, c⟩ k => ⟨K, PySem.W.Frag.In.keeps hK k, c⟩
theorem obsAG_eq {n : Nat} {fn : List DefA} {ex : PySem.W.Frag → Bool} {g : Addr → Option Obj} {s : Shared} (h : ∀ a, g a = s.heap.get? a) : obsAG n fn ex g = (hookA n fn ex).obs s := by
  have e : g = s.heap.get? := funext h
  rw [e] <;> rfl
/-! ### facts by Bools -/
section
variable {K : PySem.W.Frag}
def bOB (a b : Option Bool) : Bool := decide (a = b)
theorem bOB_ok {a b : Option Bool} (h : bOB a b = true) : a = b := of_decide_eq_true h
def bOV (a b : Option Value) : Bool := decide (a = b)
theorem bOV_ok {a b : Option Value} (h : bOV a b = true) : a = b := of_decide_eq_true h
/-- a class with slots -/
def slB (K : PySem.W.Frag) (C : Addr) : Bool := PySem.W.plainGet K C Str.empty && (PySem.W.isClsIn K C && (PySem.W.plainOver K C && eqO (PySem.W.findIn K (.ref C) "__setattr__") (some (some (.builtin "object.__setattr__")))))
theorem slB_ok {C : Addr} (h : slB K C = true) : SlX.SCls K C := by
  obtain ⟨h1, h⟩ := ba h
  obtain ⟨h2, h⟩ := ba h
  obtain ⟨h3, h4⟩ := ba h
  exact ⟨h1, h2, h3, eqO_ok h4⟩
def clB (K : PySem.W.Frag) (C : Addr) (ns : List Str) : Bool := PySem.W.plainGet K C Str.empty && (PySem.W.hasDictIn K C && (PySem.W.plainOver K C && (eqO (PySem.W.findIn K (.ref C) "__setattr__") (some (some (.builtin "object.__setattr__"))) && ns.all fun f => eqO (PySem.W.findIn K (.ref C) f) (some none))))
theorem clB_ok {C : Addr} {ns : List Str} (h : clB K C ns = true) : Cls K C ∧ ∀ f ∈ ns, NoAttr K C f := by
  obtain ⟨h1, h⟩ := ba h
  obtain ⟨h2, h⟩ := ba h
  obtain ⟨h3, h⟩ := ba h
  obtain ⟨h4, h5⟩ := ba h
  exact ⟨⟨h1, h2, h3, eqO_ok h4⟩, fun f hf => eqO_ok (List.all_eq_true.mp h5 f hf)⟩
def siB (K : PySem.W.Frag) (C : Addr) : Bool := eqO (PySem.W.findIn K (.ref C) "__class__") (some (some (.builtin "object.__class__"))) && (eqO (PySem.W.specialIn K (.builtin "object.__class__") "__get__") (some (some (.builtin "getset_descriptor.__get__"))) && (bOB (PySem.W.takesIn K (.builtin "object.__class__")) (some true) && bOB (PySem.W.mroIn K C (.type "object")) (some true)))
theorem siB_ok {C : Addr} (h : siB K C = true) : SlX.SIsi K C := by
  obtain ⟨h1, h⟩ := ba h
  obtain ⟨h2, h⟩ := ba h
  obtain ⟨h3, h4⟩ := ba h
  exact ⟨eqO_ok h1, eqO_ok h2, bOB_ok h3, bOB_ok h4⟩
def stB (K : PySem.W.Frag) (C : Addr) (f : Str) (i : Nat) : Bool := eqO (PySem.W.findIn K (.ref C) f) (some (some (.ref (ma K C f)))) && (eqO (PySem.W.specialIn K (.ref (ma K C f)) "__get__") (some (some (.builtin "member_descriptor.__get__"))) && (bOB (PySem.W.takesIn K (.ref (ma K C f))) (some true) &&
  (bOV (PySem.W.typeIn K (.ref (ma K C f))) (some (.type "member_descriptor")) && (decide (PySem.W.slotIn K (ma K C f) C = some i) && decide (i < 1000)))))
theorem stB_ok {C : Addr} {f : Str} {i : Nat} (h : stB K C f i = true) : SlX.Slot1 K C f (ma K C f) i := by
  obtain ⟨h1, h⟩ := ba h
  obtain ⟨h2, h⟩ := ba h
  obtain ⟨h3, h⟩ := ba h
  obtain ⟨h4, h⟩ := ba h
  obtain ⟨h5, h6⟩ := ba h
  exact ⟨eqO_ok h1, eqO_ok h2, bOB_ok h3, bOV_ok h4, of_decide_eq_true h5, of_decide_eq_true h6⟩
def mtB (K : PySem.W.Frag) (C : Addr) (m : Str) : Bool := eqO (PySem.W.findIn K (.ref C) m) (some (some (.ref (ma K C m)))) && (PySem.W.isFn K (.ref (ma K C m)) && PySem.W.keepIn K (.ref (ma K C m)))
theorem mtB_ok {C : Addr} {m : Str} (h : mtB K C m = true) : Meth K C m (ma K C m) := by
  obtain ⟨h1, h⟩ := ba h
  obtain ⟨h2, h3⟩ := ba h
  exact ⟨eqO_ok h1, h2, h3⟩
def prB (K : PySem.W.Frag) (C : Addr) (f : Str) : Bool := eqO (PySem.W.findIn K (.ref C) f) (some (some (.ref (ma K C f)))) && (eqO (PySem.W.specialIn K (.ref (ma K C f)) "__get__") (some (some (.builtin "property.__get__"))) && (bOB (PySem.W.takesIn K (.ref (ma K C f))) (some true) &&
  (match PySem.W.recIn K (ma K C f) "property" with
    | some (.ref _ :: _) => true
    | _ => false)))
theorem prB_ok {Γ : Pg} {k : Nat} {f : Str} (h : prB Γ.K (Γ.cl k) f = true) : PropF Γ k f (pa Γ.K (Γ.cl k) f) := by
  obtain ⟨h1, h⟩ := ba h
  obtain ⟨h2, h⟩ := ba h
  obtain ⟨h3, h4⟩ := ba h
  split at h4
  case h_2 => cases h4
  rename_i g rest q
  have e : pa Γ.K (Γ.cl k) f = g := by
    unfold pa
    rw [q]
  rw [e]
  exact ⟨_, rest, eqO_ok h1, eqO_ok h2, bOB_ok h3, q⟩
def mkB (K : PySem.W.Frag) (C : Addr) : Bool := PySem.W.makesIn K C && (eqO (PySem.W.findIn K (.ref C) "__init__") (some (some (.ref (ma K C "__init__")))) && (PySem.W.isFn K (.ref (ma K C "__init__")) && PySem.W.keepIn K (.ref C)))
theorem mkB_ok {C : Addr} (h : mkB K C = true) : Mk K C (ma K C "__init__") := by
  obtain ⟨h1, h⟩ := ba h
  obtain ⟨h2, h⟩ := ba h
  obtain ⟨h3, h4⟩ := ba h
  exact ⟨h1, eqO_ok h2, h3, h4⟩
def isO (a : Option (Option Value)) : Bool := match a with
  | some none => true
  | some (some (.ref _)) => true
  | _ => false
def bnB (K : PySem.W.Frag) (C : Addr) (op : Operator) : Bool := PySem.W.selfFirst K C && (eqO (PySem.W.findIn K (.ref C) (PySem.dunder op.info.2)) (some (some (.ref (ma K C (PySem.dunder op.info.2))))) && (PySem.W.isFn K (.ref (ma K C (PySem.dunder op.info.2))) &&
  (isO (PySem.W.findIn K (.ref C) (dunderR op.info.2)) && ((PySem.W.findIn K (.type "int") (PySem.dunder op.info.2)).isSome && ((PySem.W.findIn K (.type "int") (dunderR op.info.2)).isSome && bOB (PySem.W.subIn K (.type "int") (.ref C)) (some false))))))
theorem bnB_ok {Γ : Pg} {k : Nat} {op : Operator} (h : bnB Γ.K (Γ.cl k) op = true) : BinF Γ k op (ma Γ.K (Γ.cl k) (PySem.dunder op.info.2)) := by
  obtain ⟨h1, h⟩ := ba h
  obtain ⟨h2, h⟩ := ba h
  obtain ⟨h3, h⟩ := ba h
  obtain ⟨h4, h⟩ := ba h
  obtain ⟨h5, h⟩ := ba h
  obtain ⟨h6, h7⟩ := ba h
  obtain ⟨a, ea⟩ := Option.isSome_iff_exists.mp h5
  obtain ⟨b, eb⟩ := Option.isSome_iff_exists.mp h6
  refine ⟨h1, eqO_ok h2, h3, ?_, ⟨a, b, ea, eb⟩, bOB_ok h7⟩
  unfold isO at h4
  split at h4
  · rename_i q
    exact ⟨_, q, .inl rfl⟩
  · rename_i g q
    exact ⟨_, q, .inr ⟨g, rfl⟩⟩
  · cases h4
/-- an own special of one operand, == -/
def spB (K : PySem.W.Frag) (C : Addr) (m : Str) : Bool := eqO (PySem.W.findIn K (.ref C) m) (some (some (.ref (ma K C m)))) && PySem.W.isFn K (.ref (ma K C m))
theorem spB_ok {C : Addr} {m : Str} (h : spB K C m = true) : PySem.W.findIn K (.ref C) m = some (some (.ref (ma K C m))) ∧ PySem.W.isFn K (.ref (ma K C m)) = true := by
  obtain ⟨h1, h2⟩ := ba h
  exact ⟨eqO_ok h1, h2⟩
def eqFB (K : PySem.W.Frag) (C : Addr) (cs : List Addr) : Bool := spB K C "__eq__" && ((kinds.all fun t => PySem.W.notFirst K C (.type t)) && cs.all fun c => PySem.W.notFirst K C (.ref c))
theorem eqFB_ok {Γ : Pg} {cs : List Nat} {k : Nat} (h : eqFB Γ.K (Γ.cl k) (cs.map Γ.cl) = true) : EqF Γ cs k (ma Γ.K (Γ.cl k) "__eq__") := by
  obtain ⟨h1, h⟩ := ba h
  obtain ⟨h2, h3⟩ := ba h
  obtain ⟨h4, h5⟩ := spB_ok h1
  exact ⟨h4, h5, List.all_eq_true.mp h2, fun j hj => List.all_eq_true.mp h3 _ (List.mem_map_of_mem hj)⟩
def isB (K : PySem.W.Frag) (cl : Nat → Addr) (cs : List Nat) : Bool := (cs.all fun j => kinds.all fun t => bOB (PySem.W.kitOne K (.type t) (.ref (cl j))) (some false)) && ((cs.all fun k => kinds.all fun n => bOB (PySem.W.kitOne K (.ref (cl k)) (.type n)) (some false)) && (cs.all fun k => cs.all fun j => bOB (PySem.W.kitOne K (.ref (cl k)) (.ref (cl j))) (some (k == j))))
theorem isB_ok {Γ : Pg} {cs : List Nat} (h : isB Γ.K Γ.cl cs = true) (o : ∀ k ∈ cs, ObF Γ k) : IsF Γ cs := by
  obtain ⟨h1, h⟩ := ba h
  obtain ⟨h2, h3⟩ := ba h
  exact ⟨fun j hj t ht => bOB_ok (List.all_eq_true.mp (List.all_eq_true.mp h1 j hj) t ht), fun j hj t ht => bOB_ok (List.all_eq_true.mp (List.all_eq_true.mp h2 j hj) t ht), fun j hj t ht => bOB_ok (List.all_eq_true.mp (List.all_eq_true.mp h3 j hj) t ht), o⟩
/-- an own exception, its base a ValueError -/
def oexB (K : PySem.W.Frag) (C : Addr) : Bool := (match K.lookup C with
  | some ⟨.type "type", _, .cls cd, sl⟩ => (match cd.mro, sl.toList with
    | .ref C' :: bm, [_, _, _, _, some (.builtin n), _] => C' == C && n == "ValueError.__new__" && !cd.hasDel && cd.hasDict && PySem.HandSPX.refsVE bm
    | _, _ => false)
  | _ => false) && (eqO (PySem.W.findIn K (.ref C) "__setattr__") (some (some (.builtin "object.__setattr__"))) && (bOB (PySem.W.subIn K (.ref C) (.type "BaseException")) (some true) && (bOV (PySem.W.typeIn K (.ref C)) (some (.type "type")) && PySem.W.keepIn K (.ref C))))
theorem oexB_ok {C : Addr} (h : oexB K C = true) : OexC K C := by
  obtain ⟨h1, h⟩ := ba h
  obtain ⟨h2, h⟩ := ba h
  obtain ⟨h3, h⟩ := ba h
  obtain ⟨h4, h5⟩ := ba h
  refine ⟨?_, eqO_ok h2, bOB_ok h3, bOV_ok h4, h5⟩
  split at h1
  · rename_i dd cd sl ho
    split at h1
    · rename_i C' bm k0 k1 k2 k3 n k5 hm hs
      simp only [Bool.and_eq_true, beq_iff_eq, Bool.not_eq_true'] at h1
      obtain ⟨⟨⟨⟨rfl, rfl⟩, hdel⟩, hdict⟩, hr⟩ := h1
      obtain ⟨nm, bs, mro, ns, qn, hd, sn, sub, ab, col, del⟩ := cd
      dsimp only at hm hdel hdict
      subst hm hdel hdict
      have hsl : sl = #[k0, k1, k2, k3, some (.builtin "ValueError.__new__"), k5] := by
        obtain ⟨l⟩ := sl
        simp only at hs
        rw [hs]
      subst hsl
      exact ⟨nm, qn, ns, bs, bm, sn, sub, ab, col, dd, k0, k1, k2, k3, k5, ho, hr⟩
    · cases h1
  · cases h1
/-- its __init__ -/
def oinB (K : PySem.W.Frag) (C : Addr) : Bool := oexB K C && (eqO (PySem.W.findIn K (.ref C) "__init__") (some (some (.ref (ma K C "__init__")))) && bOV (PySem.W.typeIn K (.ref (ma K C "__init__"))) (some (.type "function")))
theorem oinB_ok {C : Addr} (h : oinB K C = true) : OexC K C ∧ PySem.W.findIn K (.ref C) "__init__" = some (some (.ref (ma K C "__init__"))) ∧ PySem.W.typeIn K (.ref (ma K C "__init__")) = some (.type "function") := by
  obtain ⟨h1, h⟩ := ba h
  obtain ⟨h2, h3⟩ := ba h
  exact ⟨oexB_ok h1, eqO_ok h2, bOV_ok h3⟩
/-- B.__init__ is ValueError's -/
def bsB (K : PySem.W.Frag) (B : Addr) : Bool := PySem.W.readsIn K B (.type "type") && (eqO (PySem.W.specialIn K (.ref B) "__getattribute__") (some (some (.builtin "type.__getattribute__"))) && (match PySem.W.findCls K (.ref B) (.type "type") "__init__" with
  | some (.val (.builtin n)) => n == "ValueError.__init__"
  | _ => false))
theorem bsB_ok {mg : Str → Option Value} {x : Str} {B : Addr} (hm : mg x = some (.ref B)) (h : bsB K B = true) : BaseF K mg x := by
  obtain ⟨h1, h⟩ := ba h
  obtain ⟨h2, h3⟩ := ba h
  split at h3
  case h_2 => cases h3
  rename_i n q
  have e : n = "ValueError.__init__" := by simpa using h3
  subst e
  exact ⟨B, .type "type", hm, ⟨h1, eqO_ok h2⟩, q⟩
def mtsB (K : PySem.W.Frag) (cl : Nat → Addr) (ps : Mts) : Bool := ps.all fun p => bOB (PySem.W.exmOne K (.ref (cl p.1)) (.ref (cl p.2.1))) (some p.2.2)
theorem mtsB_ok {Γ : Pg} {ps : Mts} (h : mtsB Γ.K Γ.cl ps = true) : MtF Γ ps := fun p hp => bOB_ok (List.all_eq_true.mp h p hp)
def xffB (K : PySem.W.Frag) (cl : Nat → Addr) (ks : List Nat) (n : Str) : Bool := ks.all fun k => xfB K (cl k) && eqO (PySem.W.findIn K (.ref (cl k)) n) (some none)
theorem xffB_ok {Γ : Pg} {ks : List Nat} {n : Str} (h : xffB Γ.K Γ.cl ks n = true) : XfF Γ ks n := fun k hk => by
  obtain ⟨h1, h2⟩ := ba (List.all_eq_true.mp h k hk)
  exact ⟨xfB_ok h1, eqO_ok h2⟩
end
end DL
set_option Elab.async false
set_option linter.all false
set_option maxRecDepth 100000
set_option maxHeartbeats 2000000
set_option autoImplicit false
/-! The data layer, 14: the joints between the head's facts and the defs. -/
namespace DL
open PySem PySem.Spec PyProof.Rows L2 He

section
variable {Γ : Pg} {ξ : Xx} {X : Cx} {E : WX} {P : Program} {w : World} {mg : Str → Option Value} {base : Heap} {k : Nat}
/-! ### // and % by what is not 0 -/
def iDivN : D → D → Store → Res := gI (fun i j => .int (i.fdiv j)) fun _ j => decide (j ≠ 0) && decide (bits j < 9000)
def iModN : D → D → Store → Res := gI (fun i j => .int (i.fmod j)) fun _ j => decide (j ≠ 0)
theorem op_fdivA : OpR X (binaryOp .FloorDiv) (rI (fun _ j => j ≠ 0 ∧ j.natAbs.log2 < 9000) fun i j => .int (i.fdiv j)) := opI fun _ _ _ _ _ _ _ hc q => floordiv_int hc.1 q (.inl (PyProof.noPylong_of_log2 hc.2))
theorem op_iDivN : OpR X (binaryOp .FloorDiv) (rD Γ iDivN) := op_gI op_fdivA (fun i j H Q c q => ⟨i, j, rfl, rfl, ⟨of_decide_eq_true (Bool.and_eq_true_iff.mp c).1, of_decide_eq_true (Bool.and_eq_true_iff.mp c).2⟩, q⟩) fun W i j => by simp only [Rep]
theorem op_iModN : OpR X (binaryOp .Mod) (rD Γ iModN) := op_gI op_modN (fun i j H Q c q => ⟨i, j, rfl, rfl, of_decide_eq_true c, q⟩) fun W i j => by simp only [Rep]

/-! ### contexts -/
theorem Here.blk (hh : Here Γ P w mg base k X E) {s : Shared} {H : Hp} {scope : Scope} {cenv : Env} {fp : List Addr} : Here Γ P w mg base k (X.blk s H scope cenv fp) E0 := ⟨hh.p, hh.w, hh.K, hh.mg, hh.base, hh.room, takes0⟩
theorem Here.tr (hh : Here Γ P w mg base k X E) {pn : List (Addr × Obj)} {xe : Value → Shared → Prop} {E' : WX} (tk : Takes (X.tr pn xe) E') : Here Γ P w mg base k (X.tr pn xe) E' := ⟨hh.p, hh.w, hh.K, hh.mg, hh.base, hh.room, tk⟩
theorem here_of {N : List Str} {qual : Str} {scope : Scope} {f : Addr} {cdv : Value} {A : Around} {outer : List Env} {s : Shared} {H : Hp} {Ex : XK} (hr : Room k (A.deeper (envOfC qual scope s.heap.objs.size f cdv))) :
    Here Γ P w mg base k (cxOf (L2.CX P w) P w Γ.K mg base N qual scope f cdv A outer s H Ex) (fun c d _ H => Ex c d H) := ⟨rfl, rfl, rfl, rfl, rfl, hr, takes_of rfl rfl rfl rfl⟩
theorem Here.u64 (hh : Here Γ P w mg base k X E) : X.A.units + 64 < cLine := by have := hh.room.un; omega
theorem Here.u66 (hh : Here Γ P w mg base k X E) : X.A.units + 66 < cLine := by have := hh.room.un; omega

/-! ### what the head tells -/
structure Bs (fn : List DefA) (ck : PySem.W.Frag → List Bool) (K : PySem.W.Frag) (mg : Str → Option Value) : Prop where
  more : ∀ b ∈ ck K, b = true
  def_ : ∀ d ∈ fn, ∃ fd, FunD K d.name d.qual d.params d.body d.scope (d.dvs K) [] (d.at_ K) fd
  mg : ∃ h : Heap, K.In h ∧ h.Ns mainGlobals mg
variable {fn : List DefA} {cks : PySem.W.Frag → List Bool} {K : PySem.W.Frag}
theorem Bs.ck (B : Bs fn cks K mg) (i : Nat) {b : Bool} (h : (cks K)[i]? = some b := by rfl) : b = true := B.more b (List.mem_of_getElem? h)
theorem Bs.glo (B : Bs fn cks K mg) {x : Str} (c : (Fa.glo x).ok K = true) : mg x = some (.ref (ga K x)) := by
  obtain ⟨h, X, G⟩ := B.mg
  exact glo_ok X G c
theorem Bs.free (B : Bs fn cks K mg) {x : Str} (c : (Fa.free x).ok K = true) : mg x = none := by
  obtain ⟨h, X, G⟩ := B.mg
  exact free_ok X G c
theorem Bs.int (B : Bs fn cks K mg) {x : Str} {i : Int} (c : (Fa.int x i).ok K = true) : GlobF Γ mg x (.int i) := by
  obtain ⟨h, X, G⟩ := B.mg
  obtain ⟨t, e⟩ := int_ok X G c
  exact ⟨_, .int i, e, ⟨t, rfl⟩, fun W => by simp only [Rep]⟩
theorem Bs.str (B : Bs fn cks K mg) {x z : Str} (c : (Fa.str x z).ok K = true) : GlobF Γ mg x (.str z) := by
  obtain ⟨h, X, G⟩ := B.mg
  obtain ⟨t, e⟩ := str_ok X G c
  exact ⟨_, .str z, e, ⟨t, rfl⟩, fun W => by simp only [Rep]⟩
theorem Bs.cls (B : Bs fn cks K mg) {x : Str} {j : Nat} (c : (Fa.glo x).ok K = true) (hj : Γ.cl j = ga K x) : GlobF Γ mg x (.cls j) := ⟨_, .ref (ga K x), B.glo c, rfl, fun W => by simp only [Rep, hj]⟩

/-! ### a def, by its body's reading -/
theorem fnk_of {d : DefA} {fd : FuncData} {N ps : List Str} {n m : Nat} {body : SF} (F : FunD Γ.K d.name d.qual d.params d.body d.scope (d.dvs Γ.K) [] (d.at_ Γ.K) fd) (sc : FnScope N ps d.scope) (hn : ps.length = n) (hN : N.length = m)
    (hb : ∀ (cdv : Value) (A : Around) (outer : List Env) (s : Shared) (H : Hp) (Ex : XK), Room k (A.deeper (envOfC d.qual d.scope s.heap.objs.size (d.at_ Γ.K) cdv)) →
      PSs (cxOf (L2.CX P w) P w Γ.K mg base N d.qual d.scope (d.at_ Γ.K) cdv A outer s H Ex) d.body (dS Γ ξ body (fun c d' _ H => Ex c d' H))) :
    FnOk P w Γ.K mg base (L2.CX P w) (k + 1) (d.at_ Γ.K) fd ps (spD Γ n (fnD m body)) :=
  F.ok sc (spD_len hn) fun cdv A outer s H vs Q Ex hr hsp => ⟨_, hb cdv A outer s H Ex hr, enter hN hsp⟩
theorem cal_of {x : Str} {d : DefA} {N ps : List Str} {n m : Nat} {body : SF} (B : Bs fn cks Γ.K mg) (i : Nat) (sc : FnScope N ps d.scope) (hg : (Fa.glo x).ok Γ.K = true)
    (hb : ∀ (cdv : Value) (A : Around) (outer : List Env) (s : Shared) (H : Hp) (Ex : XK), Room k (A.deeper (envOfC d.qual d.scope s.heap.objs.size (d.at_ Γ.K) cdv)) →
      PSs (cxOf (L2.CX P w) P w Γ.K mg base N d.qual d.scope (d.at_ Γ.K) cdv A outer s H Ex) d.body (dS Γ ξ body (fun c d' _ H => Ex c d' H)))
    (hbd : ∀ (kV doc pm : Value) (an : Option Addr) (cdv ct : Value) (us : List Value), us.length = ps.length → bindArgs (PySem.W.fnOf d.name d.qual d.params d.body d.scope .none kV doc pm an cdv ct) ⟨us, []⟩ = pure (ps.zip us))
    (hd : fn[i]? = some d := by rfl) (ha : d.at_ Γ.K = ga Γ.K x := by rfl) (hdf : d.dfl = [] := by rfl) (hn : ps.length = n := by rfl) (hN : N.length = m := by rfl) : Cal Γ P w mg base (k + 1) x n (fnD m body) := by
  obtain ⟨fd, F⟩ := B.def_ d (List.mem_of_getElem? hd)
  have F' : FunD Γ.K d.name d.qual d.params d.body d.scope [] [] (d.at_ Γ.K) fd := by
    have e : d.dvs Γ.K = [] := by
      unfold DefA.dvs
      rw [hdf]
      rfl
    rw [← e]
    exact F
  exact ⟨_, fd, ps, fnk_of F sc hn hN hb, by rw [ha]; exact B.glo hg, F.kp, F'.bindsN hbd⟩
/-- a method, a getter -/
theorem calR_of {d : DefA} {N ps : List Str} {n m : Nat} {body : SF} {g : Addr} (B : Bs fn cks Γ.K mg) (i : Nat) (sc : FnScope N ps d.scope)
    (hb : ∀ (cdv : Value) (A : Around) (outer : List Env) (s : Shared) (H : Hp) (Ex : XK), Room k (A.deeper (envOfC d.qual d.scope s.heap.objs.size (d.at_ Γ.K) cdv)) →
      PSs (cxOf (L2.CX P w) P w Γ.K mg base N d.qual d.scope (d.at_ Γ.K) cdv A outer s H Ex) d.body (dS Γ ξ body (fun c d' _ H => Ex c d' H)))
    (hbd : ∀ (kV doc pm : Value) (an : Option Addr) (cdv ct : Value) (us : List Value), us.length = ps.length → bindArgs (PySem.W.fnOf d.name d.qual d.params d.body d.scope .none kV doc pm an cdv ct) ⟨us, []⟩ = pure (ps.zip us))
    (hd : fn[i]? = some d := by rfl) (ha : d.at_ Γ.K = g := by rfl) (hdf : d.dfl = [] := by rfl) (hn : ps.length = n := by rfl) (hN : N.length = m := by rfl) : CalR Γ P w mg base (k + 1) g n (fnD m body) := by
  obtain ⟨fd, F⟩ := B.def_ d (List.mem_of_getElem? hd)
  have F' : FunD Γ.K d.name d.qual d.params d.body d.scope [] [] (d.at_ Γ.K) fd := by
    have e : d.dvs Γ.K = [] := by
      unfold DefA.dvs
      rw [hdf]
      rfl
    rw [← e]
    exact F
  rw [← ha]
  exact ⟨((fnk_of F sc hn hN hb).raw (F'.bindsN hbd) .nil).imp fun vs H Q E h => by rw [List.append_nil]; exact h⟩
/-- the same def, called with keywords -/
theorem kfn_of {d : DefA} {N ps ks : List Str} {n m j : Nat} {body : SF} {g : Addr} {gv : List Value → List Value → List Value} {gV : List V → List V → List V} (B : Bs fn cks Γ.K mg) (i : Nat) (sc : FnScope N ps d.scope)
    (hb : ∀ (cdv : Value) (A : Around) (outer : List Env) (s : Shared) (H : Hp) (Ex : XK), Room k (A.deeper (envOfC d.qual d.scope s.heap.objs.size (d.at_ Γ.K) cdv)) →
      PSs (cxOf (L2.CX P w) P w Γ.K mg base N d.qual d.scope (d.at_ Γ.K) cdv A outer s H Ex) d.body (dS Γ ξ body (fun c d' _ H => Ex c d' H)))
    (hbd : ∀ (kV doc pm : Value) (an : Option Addr) (cdv ct : Value) (us ws : List Value), us.length = j → ws.length = ks.length → bindArgs (PySem.W.fnOf d.name d.qual d.params d.body d.scope .none kV doc pm an cdv ct) ⟨us, ks.zip ws⟩ = pure (ps.zip (gv us ws)))
    (hrel : ∀ {vs : List V} {us : List Value} {zs : List V} {ws : List Value}, Vals vs us → Vals zs ws → Vals (gV vs zs) (gv us ws))
    (hd : fn[i]? = some d := by rfl) (ha : d.at_ Γ.K = g := by rfl) (hdf : d.dfl = [] := by rfl) (hn : ps.length = n := by rfl) (hN : N.length = m := by rfl) : KFn Γ P w mg base (k + 1) g j ks (spD Γ n (fnD m body)) gV := by
  obtain ⟨fd, F⟩ := B.def_ d (List.mem_of_getElem? hd)
  obtain ⟨oc, od, dV, kV, doc, pm, an, cdv, ct, osl, e, lk, hcd, hD, hK⟩ := F.ex
  have ed : d.dvs Γ.K = [] := by
    unfold DefA.dvs
    rw [hdf]
    rfl
  have eV : dV = .none := by
    rcases hD with ⟨_, z⟩ | ⟨z, _⟩
    · exact z
    · exact absurd ed z
  subst eV
  rw [← ha]
  exact ⟨fd, ps, gv, fnk_of F sc hn hN hb, ⟨fun s us ws _ l1 l2 => by rw [e]; exact .of_eq (hbd kV doc pm an cdv ct us ws l1 l2), hrel⟩⟩
/-- __init__ of a class with two slots -/
theorem init_of {sw : Bool} {d : DefA} {fd : FuncData} {N ps : List Str} {n m c : Nat} {body : SF} {f1 f2 : EF} {n1 n2 : Str} (F : FunD Γ.K d.name d.qual d.params d.body d.scope (d.dvs Γ.K) [] (d.at_ Γ.K) fd) (sc : FnScope N ps d.scope) (hn : ps.length = n + 1) (hN : N.length = m)
    (cs : SlF Γ c) (t1 : SlotF Γ c n1 (ix1 sw)) (t2 : SlotF Γ c n2 (ix2 sw))
    (hb : ∀ (ξ : Xx) (cdv : Value) (A : Around) (outer : List Env) (s : Shared) (H : Hp) (Ex : XK), Room k (A.deeper (envOfC d.qual d.scope s.heap.objs.size (d.at_ Γ.K) cdv)) →
      PSs (cxOf (L2.CX P w) P w Γ.K mg base N d.qual d.scope (d.at_ Γ.K) cdv A outer s H Ex) d.body (tSeq (dS Γ ξ body (fun c' d' _ H => Ex c' d' H)) (tSeq (SlX.sSl Γ.K (tVar 0) (dE Γ ξ f1 (fun c' d' _ H => Ex c' d' H)) n1) (SlX.sSl Γ.K (tVar 0) (dE Γ ξ f2 (fun c' d' _ H => Ex c' d' H)) n2)))) :
    FnOk P w Γ.K mg base (L2.CX P w) (k + 1) (d.at_ Γ.K) fd ps (spI Γ c n (initD sw m body f1 f2)) :=
  F.ok sc (spI_len hn) fun cdv A outer s H vs Q Ex hr hsp => by
    obtain ⟨ξ, z⟩ := enterI rfl hN cs t1 t2 hsp
    exact ⟨_, hb ξ cdv A outer s H Ex hr, z⟩
theorem mak_of {d : DefA} {ps : List Str} {n c : Nat} {x : Str} {dfl : List D} {FF : List D → Store → ResA} (B : Bs fn cks Γ.K mg) (i : Nat) (hg : (Fa.glo x).ok Γ.K = true) (hmk : mkB Γ.K (ga Γ.K x) = true)
    (hI : ∀ fd, FunD Γ.K d.name d.qual d.params d.body d.scope (d.dvs Γ.K) [] (d.at_ Γ.K) fd → FnOk P w Γ.K mg base (L2.CX P w) k (d.at_ Γ.K) fd ps (spI Γ c n FF))
    (hbd : ∀ fd, FunD Γ.K d.name d.qual d.params d.body d.scope (d.dvs Γ.K) [] (d.at_ Γ.K) fd → ∃ (dvs : List V) (ds : List Value), Binds Γ.K fd ps ds ∧ Vals dvs ds ∧ ∀ W, Reps Γ W dfl dvs)
    (hd : fn[i]? = some d := by rfl) (ha : d.at_ Γ.K = ma Γ.K (ga Γ.K x) "__init__" := by rfl) (hc : Γ.cl c = ga Γ.K x := by rfl) (hno : Γ.at_ c = none := by rfl) : Mak Γ P w mg base k x c n dfl FF := by
  obtain ⟨fd, F⟩ := B.def_ d (List.mem_of_getElem? hd)
  obtain ⟨dvs, ds, b1, b2, b3⟩ := hbd fd F
  have z := hI fd F
  rw [ha] at z
  exact ⟨hno, _, fd, ps, ds, dvs, by rw [hc]; exact mkB_ok hmk, z, by rw [hc]; exact B.glo hg, b1, b2, b3⟩
theorem makK_of {d : DefA} {ps ks : List Str} {n c : Nat} {x : Str} {gV : List V → List V} {FF : List D → Store → ResA} (B : Bs fn cks Γ.K mg) (i : Nat) (hg : (Fa.glo x).ok Γ.K = true) (hmk : mkB Γ.K (ga Γ.K x) = true)
    (hI : ∀ fd, FunD Γ.K d.name d.qual d.params d.body d.scope (d.dvs Γ.K) [] (d.at_ Γ.K) fd → FnOk P w Γ.K mg base (L2.CX P w) k (d.at_ Γ.K) fd ps (spI Γ c n FF))
    (hbd : ∀ fd, FunD Γ.K d.name d.qual d.params d.body d.scope (d.dvs Γ.K) [] (d.at_ Γ.K) fd → ∃ (gv : List Value → List Value → List Value) (g : List V → List V → List V), KBn Γ.K fd ps 1 ks gv g ∧ ∀ x zs, zs.length = ks.length → g [x] zs = x :: gV zs)
    (hd : fn[i]? = some d := by rfl) (ha : d.at_ Γ.K = ma Γ.K (ga Γ.K x) "__init__" := by rfl) (hc : Γ.cl c = ga Γ.K x := by rfl) (hno : Γ.at_ c = none := by rfl) : MakK Γ P w mg base k x c n ks gV FF := by
  obtain ⟨fd, F⟩ := B.def_ d (List.mem_of_getElem? hd)
  obtain ⟨gv, g, b1, b2⟩ := hbd fd F
  have z := hI fd F
  rw [ha] at z
  exact ⟨hno, _, fd, ps, gv, g, by rw [hc]; exact mkB_ok hmk, z, by rw [hc]; exact B.glo hg, b1, b2⟩
/-- with one default, or without: how such a def binds -/
theorem binds_dfl {d : DefA} {fd : FuncData} {ps : List Str} {dfl : List D} (F : FunD Γ.K d.name d.qual d.params d.body d.scope (d.dvs Γ.K) [] (d.at_ Γ.K) fd) (n j : Nat) (hne : d.dvs Γ.K ≠ []) (hn : n + ((d.dvs Γ.K).length - j) = ps.length) (hr : ∀ W, Reps Γ W dfl ((d.dvs Γ.K).drop j))
    (h : ∀ (T : Addr) (kV doc pm : Value) (an : Option Addr) (cdv ct : Value) (us its : List Value), us.length = n → its.length = (d.dvs Γ.K).length →
      ∃ k, bindArgs (PySem.W.fnOf d.name d.qual d.params d.body d.scope (.ref T) kV doc pm an cdv ct) ⟨us, []⟩ = seqItems? (.ref T) >>= k ∧ k (some its.toArray) = pure (ps.zip (us ++ its.drop j))) :
    ∃ (dvs : List V) (ds : List Value), Binds Γ.K fd ps ds ∧ Vals dvs ds ∧ ∀ W, Reps Γ W dfl dvs := by
  obtain ⟨ds, r, b⟩ := F.binds1 (ps := ps) n j hne hn h
  exact ⟨_, ds, b, r, hr⟩
theorem kbind_dfl {d : DefA} {fd : FuncData} {ps ks : List Str} {n : Nat} {gv : List Value → List Value → List Value} {gV : List V → List V → List V} (F : FunD Γ.K d.name d.qual d.params d.body d.scope (d.dvs Γ.K) [] (d.at_ Γ.K) fd) (hne : d.dvs Γ.K ≠ [])
    (hrel : ∀ {vs : List V} {us : List Value} {zs : List V} {ws : List Value}, Vals vs us → Vals zs ws → Vals (gV vs zs) (gv us ws))
    (h : ∀ (T : Addr) (kV doc pm : Value) (an : Option Addr) (cdv ct : Value) (us its ws : List Value), us.length = n → ws.length = ks.length → its.length = (d.dvs Γ.K).length →
      ∃ k, bindArgs (PySem.W.fnOf d.name d.qual d.params d.body d.scope (.ref T) kV doc pm an cdv ct) ⟨us, ks.zip ws⟩ = seqItems? (.ref T) >>= k ∧ k (some its.toArray) = pure (ps.zip (gv us ws))) :
    KBn Γ.K fd ps n ks gv gV := by
  obtain ⟨oc, od, dV, kV, doc, pm, an, cdv, ct, osl, e, lk, hcd, hD, hK⟩ := F.ex
  rcases hD with ⟨z, _⟩ | ⟨_, T, o, its, m, rfl, lT, oT, rT⟩
  · exact absurd z hne
  · refine ⟨fun s us ws X l1 l2 => ?_, hrel⟩
    obtain ⟨k, e1, e2⟩ := h T kV doc pm an cdv ct us its ws l1 l2 rT.length.symm
    rw [e]
    refine BindsTo.of_looks fun M => ?_
    rw [e1]
    exact looks_items X lT oT (.of_pure e2)
/-- an own exception with a field -/
theorem exf_of {d : DefA} {N ps : List Str} {c : Nat} {x f t : Str} (B : Bs fn cks Γ.K mg) (i : Nat) (sc : FnScope N ps d.scope) (hg : (Fa.glo x).ok Γ.K = true) (ho : oinB Γ.K (ga Γ.K x) = true) (hno : eqO (PySem.W.findIn Γ.K (.ref (ga Γ.K x)) f) (some none) = true)
    (hb : ∀ (cdv : Value) (A : Around) (outer : List Env) (s : Shared) (H : Hp) (Ex : XK), PSs (cxOf (L2.CX P w) P w Γ.K mg base N d.qual d.scope (d.at_ Γ.K) cdv A outer s H Ex) d.body (tXInit Γ.K t f))
    (hbd : ∀ (kV doc pm : Value) (an : Option Addr) (cdv ct : Value) (us : List Value), us.length = ps.length → bindArgs (PySem.W.fnOf d.name d.qual d.params d.body d.scope .none kV doc pm an cdv ct) ⟨us, []⟩ = pure (ps.zip us))
    (hN : N.length = 2 := by rfl) (hn : ps.length = 2 := by rfl) (hd : fn[i]? = some d := by rfl) (hdf : d.dfl = [] := by rfl) (ha : d.at_ Γ.K = ma Γ.K (ga Γ.K x) "__init__" := by rfl) (hc : Γ.cl c = ga Γ.K x := by rfl) : ExF Γ P w mg base (k + 1) x c f := by
  obtain ⟨fd, F⟩ := B.def_ d (List.mem_of_getElem? hd)
  have F' : FunD Γ.K d.name d.qual d.params d.body d.scope [] [] (d.at_ Γ.K) fd := by
    have e : d.dvs Γ.K = [] := by
      unfold DefA.dvs
      rw [hdf]
      rfl
    rw [← e]
    exact F
  obtain ⟨h1, h2, h3⟩ := oinB_ok ho
  have z : FnOk P w Γ.K mg base (L2.CX P w) (k + 1) (d.at_ Γ.K) fd ps (spX (ga Γ.K x) f) := F.ok sc (fun vs H Q E h => by
    obtain ⟨a, v, rfl, _⟩ := h
    rw [hn]
    rfl) fun cdv A outer s H vs Q Ex hr hsp => ⟨_, hb cdv A outer s H Ex, xinit h1 (eqO_ok hno) hN hsp⟩
  rw [ha] at z
  exact ⟨_, fd, ps, by rw [hc]; exact h1, by rw [hc]; exact h2, h3, by rw [hc]; exact z, F'.bindsN hbd, by rw [hc]; exact B.glo hg⟩
theorem exf0_of {d : DefA} {N ps : List Str} {c : Nat} {x t : Str} (B : Bs fn cks Γ.K mg) (i : Nat) (sc : FnScope N ps d.scope) (hg : (Fa.glo x).ok Γ.K = true) (ho : oinB Γ.K (ga Γ.K x) = true)
    (hb : ∀ (cdv : Value) (A : Around) (outer : List Env) (s : Shared) (H : Hp) (Ex : XK), PSs (cxOf (L2.CX P w) P w Γ.K mg base N d.qual d.scope (d.at_ Γ.K) cdv A outer s H Ex) d.body (tXInit0 Γ.K t))
    (hbd : ∀ (kV doc pm : Value) (an : Option Addr) (cdv ct : Value) (us : List Value), us.length = ps.length → bindArgs (PySem.W.fnOf d.name d.qual d.params d.body d.scope .none kV doc pm an cdv ct) ⟨us, []⟩ = pure (ps.zip us))
    (hn : ps.length = 1 := by rfl) (hd : fn[i]? = some d := by rfl) (hdf : d.dfl = [] := by rfl) (ha : d.at_ Γ.K = ma Γ.K (ga Γ.K x) "__init__" := by rfl) (hc : Γ.cl c = ga Γ.K x := by rfl) : ExF0 Γ P w mg base (k + 1) x c := by
  obtain ⟨fd, F⟩ := B.def_ d (List.mem_of_getElem? hd)
  have F' : FunD Γ.K d.name d.qual d.params d.body d.scope [] [] (d.at_ Γ.K) fd := by
    have e : d.dvs Γ.K = [] := by
      unfold DefA.dvs
      rw [hdf]
      rfl
    rw [← e]
    exact F
  obtain ⟨h1, h2, h3⟩ := oinB_ok ho
  have z : FnOk P w Γ.K mg base (L2.CX P w) (k + 1) (d.at_ Γ.K) fd ps (spX0 (ga Γ.K x)) := F.ok sc (fun vs H Q E h => by
    obtain ⟨a, rfl, _⟩ := h
    rw [hn]
    rfl) fun cdv A outer s H vs Q Ex hr hsp => ⟨_, hb cdv A outer s H Ex, xinit0 h1 hsp⟩
  rw [ha] at z
  exact ⟨_, fd, ps, by rw [hc]; exact h1, by rw [hc]; exact h2, h3, by rw [hc]; exact z, F'.bindsN hbd, by rw [hc]; exact B.glo hg⟩
end
end DL
set_option Elab.async false
set_option linter.all false
set_option maxRecDepth 100000
set_option maxHeartbeats 2000000
set_option autoImplicit false
/-! The data layer, 15: words for printed terms. -/
namespace DL
open PySem PySem.Spec PyProof.Rows L2 He
section
variable {Γ : Pg} {ξ : Xx} {X : Cx} {E : WX}
theorem ds_lcs {i : Nat} {y : Str} {py : Pos} {elt tg iter : Expr} {ifs : List Expr} {scope : Scope} {own : List (Str × Nat)} {pos spos : Pos} {q : Bool} {fi : IF} {t : TF} {ix : List Nat} {fc fe : EF} (hc : X.calm = true) (hN : X.N.Nodup) (ok : BlkOk X.N X.env.scope scope own) (hi : PI X tg iter (dIQ Γ ξ fi E))
    (hg : ∀ (s : Shared) (H : Hp) (C : Addr) (cl : List (Str × Addr)) (fp : List Addr), PG (X.blk s H scope (PySem.compEnvC scope cl C X.env) fp) tg (dG Γ ξ t ix)) (ht : ∀ (s : Shared) (H : Hp) (C : Addr) (cl : List (Str × Addr)) (fp : List Addr), PTs (X.blk s H scope (PySem.compEnvC scope cl C X.env) fp) ifs (dT Γ ξ fc E0))
    (he : ∀ (s : Shared) (H : Hp) (C : Addr) (cl : List (Str × Addr)) (fp : List Addr), PE (X.blk s H scope (PySem.compEnvC scope cl C X.env) fp) elt (dE Γ ξ fe E0))
    (hy : X.N[i]? = some y := by rfl) (hyl : X.env.scope.names.lookup y = some .local := by rfl) (hsw : swapsWith (.ListComp elt [⟨tg, iter, ifs, 0⟩] scope pos) (some (.Name y py)) spos.line X.env = pure true := by rfl)
    (hix : ∀ j ∈ ix, j ∈ own.map (·.2) := by decide) (hs : ∀ x, foldedSetIterable iter X.env x = pure x := by intro _; rfl) :
    PS X (.Assign [.Name y py] (.ListComp elt [⟨tg, iter, ifs, 0⟩] scope pos) spos) (dS Γ ξ (sAsg (tgN i) (eLc q (own.map (·.2)) fi t fc fe)) E) := ds_setLc hc hN hi ok hg ht he (ps_setLc hc hN hy hyl hsw hi ok hg ht he hs) hix
theorem Reps.rev {W : Wd} : ∀ {ds : List D} {vs : List V}, Reps Γ W ds vs → Reps Γ W ds.reverse vs.reverse
  | [], vs, h => by simp only [Reps] at h; subst h; exact Reps.nil
  | d :: ds, vs, h => by
    simp only [Reps] at h
    obtain ⟨v, vs', rfl, h1, h2⟩ := h
    rw [List.reverse_cons, List.reverse_cons]
    exact (Reps.rev h2).append (Reps.cons h1 Reps.nil)
theorem valsRev : ∀ {vs : List V} {us : List Value}, Vals vs us → Vals vs.reverse us.reverse
  | _, _, .nil => .nil
  | _, _, .cons h r => by
    rw [List.reverse_cons, List.reverse_cons]
    exact (valsRev r).append (.cons h .nil)
end
end DL
set_option Elab.async false
set_option linter.all false
set_option maxRecDepth 100000
set_option maxHeartbeats 2000000
set_option autoImplicit false
/-! The data layer, 16: a law's end. -/
namespace DL
open PySem PySem.Spec PyProof.Rows L2 He
theorem sp_law {K : PySem.W.Frag} {cl : Nat → Addr} {at_ : Nat → Option (List Str)} {den : List D → Store → Res} {H : Hp} {a : Addr} {ns : List Int} {S : Store} (hS : SqL K H a (ns.map V.int)) (h : den [.lst (ns.map D.int)] [] = .ok (.bl true) S) :
    spD ⟨K, cl, at_⟩ 1 den [.ref a] H (fun v _ => v = .bl true) fun _ _ _ => False := by
  have reps : ∀ (W : Wd) (ns : List Int), Reps ⟨K, cl, at_⟩ W (ns.map D.int) (ns.map V.int) := fun W ns => by
    induction ns with
    | nil => exact Reps.nil
    | cons n r ih => exact Reps.cons (by simp only [Rep]) ih
  refine ⟨⟨H, fun _ => none, []⟩, [], [.lst (ns.map D.int)], ⟨fun a o h => h, fun a o h => ?_, fun i a h => ?_, List.nodup_nil, rfl, fun i a ds h => ?_⟩, Reps.cons ?_ Reps.nil, rfl, ?_⟩
  · cases h
  · cases h
  · cases h
  · simp only [Rep]
    exact ⟨a, _, rfl, hS, reps _ ns⟩
  · rw [h]
    intro W' v H' l ok r
    simpa only [Rep] using r
theorem walk_dl {l : PySem.W.OpenLaw} {n k : Nat} {q : Program} {loose : List Str} {XP : (Str → Option Value) → Heap → Prop} {YP : World → Heap → Prop} {d : DefRec} {x : Str}
    (hn : l.most = some n) (hn2 : n ≤ sizeLine) (hdf : d.params.defaults = []) (hr : Room k callerA)
    (F : ∀ (w : World) (mg : Str → Option Value) (fa : Addr) (h : Heap), YP w h → h.Ns mainGlobals mg → mg d.name = some (.ref fa) →
      ∃ (K : PySem.W.Frag) (fd : FuncData) (cl : Nat → Addr) (at_ : Nat → Option (List Str)) (den : List D → Store → Res), K.In h ∧ (∀ (s : Shared) (u : Value), BindsTo s fd ⟨[u], []⟩ [(x, u)]) ∧
        (∀ ns : List Int, ns.length ≤ n → (∀ z ∈ ns, Builtin.Int.intBits z ≤ 1048576) → ∃ S, den [.lst (ns.map D.int)] [] = .ok (.bl true) S) ∧
        ∀ base : Heap, K.In base → base.Ns mainGlobals mg → FnOk l.prog w K mg base (L2.CX l.prog w) k fa fd [x] (spD ⟨K, cl, at_⟩ 1 den)) :
    PySem.W.WalkO q loose XP YP l.row.toRowW d [] (fun f vs => PySem.call f vs) := by
  refine Att.attach_callB hn hdf fun w s₀ s₁ mg mb fa o pm cd doc a vs ns G Y ho hd hcd hmg hobj hints hlen hbits hg => ?_
  obtain ⟨K, fd, cl, at_, den, KX, hb, hsp, hF⟩ := F w mg fa _ Y G.T.g hmg
  obtain ⟨S, e⟩ := hsp ns hlen hbits
  refine law_call KX G.T.g G.T.b G.T.builtins G.T.nolimit hg hobj hints (Nat.le_trans hlen hn2) hr hF hb (fun H hO hS => sp_law hS e) fun H e s' z => ?_
  obtain ⟨_, _, _, _, _, _, _, _, _, _, _, _, z⟩ := z
  exact z.elim
/-- a global def is at the address its name tells -/
theorem cal_fn {Γ : Pg} {P : Program} {w : World} {mg : Str → Option Value} {base : Heap} {k n : Nat} {x : Str} {den : List D → Store → Res} {fa : Addr} (c : Cal Γ P w mg base k x n den) (h : mg x = some (.ref fa)) : ∃ (fd : FuncData) (ps : List Str), FnOk P w Γ.K mg base (L2.CX P w) k fa fd ps (spD Γ n den) := by
  obtain ⟨f, fd, ps, F, h1, _, _⟩ := c.ex
  rw [h] at h1
  cases h1
  exact ⟨fd, ps, F⟩
end DL
set_option Elab.async false
set_option linter.all false
set_option maxRecDepth 100000
set_option maxHeartbeats 2000000
set_option autoImplicit false
/-! The data layer, 17: evaluation. -/
namespace DL
open PySem L2

section
variable {es : List SD} {S S' : Store} {d x y : D} {ds : List D} {k : Nat} {fs : List (Str × D)}
@[simp] theorem Res.bind_ok {f : D → Store → Res} : (Res.ok d S).bind f = f d S := rfl
@[simp] theorem Res.bind_exc {f : D → Store → Res} : (Res.exc k fs S).bind f = .exc k fs S := rfl
@[simp] theorem Res.bindA_ok {f : D → Store → ResA} : (Res.ok d S).bindA f = f d S := rfl
@[simp] theorem Res.bindA_exc {f : D → Store → ResA} : (Res.exc k fs S).bindA f = .exc k fs S := rfl
@[simp] theorem ResA.bind_ok {f : List D → Store → Res} : (ResA.ok ds S).bind f = f ds S := rfl
@[simp] theorem ResA.bind_exc {f : List D → Store → Res} : (ResA.exc k fs S).bind f = .exc k fs S := rfl
@[simp] theorem ResA.bindL_ok {f : List D → Store → ResA} : (ResA.ok ds S).bindL f = f ds S := rfl
@[simp] theorem ResA.bindL_exc {f : List D → Store → ResA} : (ResA.exc k fs S).bindL f = .exc k fs S := rfl
@[simp] theorem Res.nox_ok : (Res.ok d S).nox = .ok d S := rfl
@[simp] theorem Fl.bind_next {f : SF} : (Fl.next es S).bind f = f es S := rfl
@[simp] theorem Fl.bind_ret {f : SF} : (Fl.ret d S).bind f = .ret d S := rfl
@[simp] theorem Fl.bind_brk {f : SF} : (Fl.brk es S).bind f = .brk es S := rfl
@[simp] theorem Fl.bind_ct {f : SF} : (Fl.ct es S).bind f = .ct es S := rfl
@[simp] theorem Fl.bind_exc {f : SF} : (Fl.exc k fs es S).bind f = .exc k fs es S := rfl
@[simp] theorem Res.toS_ok {f : D → Store → Fl} : (Res.ok d S).toS es f = f d S := rfl
@[simp] theorem Res.toS_exc {f : D → Store → Fl} : (Res.exc k fs S).toS es f = .exc k fs es S := rfl
@[simp] theorem eVar_eq {i : Nat} : eVar i es S = match es[i]? with | some (.val d) => .ok d S | _ => .bad := rfl
@[simp] theorem eVarT_acc {i : Nat} : eVarT i es S = match es[i]? with | some (.val d) => .ok d S | some (.acc ds) => .ok (.lst ds) S | _ => .bad := by
  unfold eVarT
  rfl
@[simp] theorem eC_eq : eC d es S = .ok d S := rfl
@[simp] theorem eOp2_eq {g : D → D → Store → Res} {a b : EF} : eOp2 g a b es S = (a es S).bind fun x S1 => (b es S1).bind fun y S2 => (g x y S2).nox := rfl
@[simp] theorem eOp1_eq {g : D → Store → Res} {a : EF} : eOp1 g a es S = (a es S).bind fun x S1 => (g x S1).nox := rfl
@[simp] theorem aNil_eq : aNil es S = .ok [] S := rfl
@[simp] theorem aCons_eq {f : EF} {g : AF} : aCons f g es S = (f es S).bindA fun d S1 => (g es S1).bindL fun ds S2 => .ok (d :: ds) S2 := rfl
@[simp] theorem eCall_eq {n : Nat} {den : List D → Store → Res} {a : AF} : eCall n den a es S = (a es S).bind (chk n den) := rfl
@[simp] theorem chk_eq {n : Nat} {f : List D → Store → Res} : chk n f ds S = if ds.length = n then f ds S else .bad := rfl
@[simp] theorem eTup_eq {a : AF} : eTup a es S = (a es S).bind fun ds S1 => if ds.length ≤ 16777216 then .ok (.tup ds) S1 else .bad := rfl
@[simp] theorem eLst_eq {a : AF} : eLst a es S = (a es S).bind fun ds S1 => if ds.length ≤ 16777216 then .ok (.lst ds) S1 else .bad := rfl
@[simp] theorem eCell_eq {a : AF} : eCell a es S = (a es S).bind fun ds S1 => if ds.length ≤ 16777216 then .ok (.cell S1.length) (S1 ++ [ds]) else .bad := rfl
@[simp] theorem eNot_eq {f : EF} : eNot f es S = (f es S).bind nB := rfl
@[simp] theorem nB_eq {b : Bool} : nB (.bl b) S = .ok (.bl (!b)) S := rfl
@[simp] theorem eAnd_eq {a b : EF} : eAnd a b es S = (a es S).bind fun d S1 => match d with | .bl true => b es S1 | .bl false => .ok (.bl false) S1 | _ => .bad := rfl
@[simp] theorem eOr_eq {a b : EF} : eOr a b es S = (a es S).bind fun d S1 => match d with | .bl false => b es S1 | .bl true => .ok (.bl true) S1 | _ => .bad := rfl
@[simp] theorem eIf_eq {c a b : EF} : eIf c a b es S = (c es S).bind fun d S1 => match d with | .bl true => a es S1 | .bl false => b es S1 | _ => .bad := rfl
@[simp] theorem sSeq_eq {f g : SF} : sSeq f g es S = (f es S).bind g := rfl
@[simp] theorem sPass_eq : sPass es S = .next es S := rfl
@[simp] theorem sBrk_eq : sBrk es S = .brk es S := rfl
@[simp] theorem sExpr_eq {f : EF} : sExpr f es S = (f es S).toS es fun _ S' => .next es S' := rfl
@[simp] theorem sIf_eq {c : EF} {a b : SF} : sIf c a b es S = (c es S).toS es fun d S1 => match d with | .bl true => a es S1 | .bl false => b es S1 | _ => .bad := by
  unfold sIf
  rfl
@[simp] theorem sAsg_eq {t : TF} {f : EF} : sAsg t f es S = (f es S).toS es fun d S1 => match t d es S1 with | some es1 => .next es1 S1 | none => .bad := by
  unfold sAsg
  rfl
@[simp] theorem tgN_eq {i : Nat} : tgN i d es S = some (es.set i (.val d)) := rfl
@[simp] theorem tsNil_eq : tsNil [] es S = some es := rfl
@[simp] theorem tsCons_eq {t : TF} {u : TFs} : tsCons t u (d :: ds) es S = (t d es S).bind fun es1 => u ds es1 S := by
  unfold tsCons
  rfl
@[simp] theorem tgT_tup {n : Nat} {t : TFs} : tgT n t (.tup ds) es S = if ds.length = n then t ds es S else none := by
  unfold tgT
  rfl
@[simp] theorem tgT_lst {n : Nat} {t : TFs} : tgT n t (.lst ds) es S = if ds.length = n then t ds es S else none := by
  unfold tgT
  rfl
@[simp] theorem sPar_eq {i j : Nat} {a : AF} : sPar i j a es S = match a es S with | .ok [d1, d2] S1 => .next ((es.set i (.val d1)).set j (.val d2)) S1 | .exc k fs S1 => .exc k fs es S1 | _ => .bad := rfl
@[simp] theorem frz1_val : frz1 (.val d) = .val d := rfl
@[simp] theorem frz1_no : frz1 .no = .no := rfl
@[simp] theorem frz1_acc : frz1 (.acc ds) = .val (.lst ds) := rfl
@[simp] theorem frz1_exn : frz1 (.exn k fs) = .exn k fs := rfl
@[simp] theorem frz1_slf : frz1 .slf = .slf := rfl
@[simp] theorem sRet_eq {f : EF} : sRet f es S = match f (es.map frz1) S with | .ok d S1 => .ret d S1 | .exc k fs S1 => .exc k fs (es.map frz1) S1 | .bad => .bad := rfl
@[simp] theorem sRetN_eq : sRetN es S = .ret .non S := rfl
@[simp] theorem gd_nil : Gd.ok [] S ↔ True := ⟨fun _ => trivial, fun _ => Gd.ok_nil S⟩
theorem gd_one {c : Nat} (h : S[c]? = some ds) : Gd.ok [(c, ds)] S := fun p hp => by
  rw [List.mem_singleton.mp hp]
  exact h
@[simp] theorem forL_nil {t : TF} {b : SF} : forL [] t b [] es S = .next es S := by simp [forL]
theorem forL_cons {t : TF} {b : SF} : forL [] t b (d :: ds) es S = match t d es S with
    | none => .bad
    | some es1 => match b es1 S with
      | .next es2 S2 => forL [] t b ds es2 S2
      | .ct es2 S2 => forL [] t b ds es2 S2
      | .brk es2 S2 => .next es2 S2
      | r => r := by
  rw [forL, if_pos (Gd.ok_nil S)]
  all_goals
    cases t d es S with
    | none => rfl
    | some es1 =>
      simp only
      cases b es1 S <;> rfl
@[simp] theorem lcL_nil {t : TF} {c e : EF} {acc : List D} : lcL false [] t c e es [] S acc = .ok (.lst acc) S := by simp [lcL]
@[simp] theorem lcL_nilC {t : TF} {c e : EF} {acc : List D} : lcL true [] t c e es [] S acc = .ok (.cell S.length) (S ++ [acc]) := by simp [lcL]
theorem lcL_cons {q : Bool} {t : TF} {c e : EF} {acc : List D} : lcL q [] t c e es (d :: ds) S acc = match t d es S with
    | none => .bad
    | some es1 => (c es1 S).nox.bind fun b S1 => match b with
      | .bl true => (e es1 S1).nox.bind fun y S2 => lcL q [] t c e es ds S2 (acc ++ [y])
      | .bl false => lcL q [] t c e es ds S1 acc
      | _ => .bad := by
  rw [lcL, if_pos (Gd.ok_nil S)]
  all_goals
    cases t d es S with
    | none => rfl
    | some es1 =>
      simp only
      congr
@[simp] theorem eYes_eq : eYes es S = .ok (.bl true) S := rfl
@[simp] theorem eLc_eq {q : Bool} {vs : List Nat} {it : IF} {t : TF} {c e : EF} : eLc q vs it t c e es S = match it es S with
  | .ok ds g S1 => if ds.length < 1000000 ∧ noAcc es vs = true then lcL q g t c e (wipeD es vs) ds S1 [] else .bad
  | .exc k fs S1 => .exc k fs S1
  | .bad => .bad := rfl
@[simp] theorem Res.bindI_ok {f : D → Store → ResI} : (Res.ok d S).bindI f = f d S := rfl
@[simp] theorem ResA.bindI_ok {f : List D → Store → ResI} : (ResA.ok ds S).bindI f = f ds S := rfl
@[simp] theorem Res.bindI_exc {f : D → Store → ResI} : (Res.exc k fs S).bindI f = .exc k fs S := rfl
@[simp] theorem ResA.bindI_exc {f : List D → Store → ResI} : (ResA.exc k fs S).bindI f = .exc k fs S := rfl
@[simp] theorem seqV_lst : seqV S (.lst ds) = some (false, ds, []) := rfl
@[simp] theorem seqV_tup : seqV S (.tup ds) = some (true, ds, []) := rfl
@[simp] theorem sFor_eq {it : IF} {t : TF} {b : SF} : sFor it t b es S = match it es S with | .ok ds g S1 => forL g t b ds es S1 | .exc k fs S1 => .exc k fs es S1 | .bad => .bad := rfl
@[simp] theorem itSeq_eq {f : EF} : itSeq f es S = (f es S).bindI fun d S1 => match d with
  | .lst ds => .ok ds [] S1
  | .tup ds => .ok ds [] S1
  | .cell c => match S1[c]? with
    | some ds => .ok ds [(c, ds)] S1
    | none => .bad
  | .str z => .ok (z.cps.toList.map fun c => .str ⟨#[c]⟩) [] S1
  | _ => .bad := by
  unfold itSeq
  rfl
@[simp] theorem itZip_eq {a : AF} : itZip a es S = (a es S).bindI fun ds S1 => match ds with
  | [x, y] => match seqV S1 x, seqV S1 y with
    | some (_, xs, g), some (_, ys, g') => .ok ((xs.zip ys).map fun p => .tup [p.1, p.2]) (g ++ g') S1
    | _, _ => .bad
  | _ => .bad := by
  unfold itZip
  rfl
@[simp] theorem itRange1_eq {a : AF} : itRange1 a es S = (a es S).bindI fun ds S1 => match ds with
  | [.int n] => if -(2 ^ 62) ≤ n ∧ n < 2 ^ 62 then .ok ((List.range n.toNat).map fun (i : Nat) => D.int i) [] S1 else .bad
  | _ => .bad := rfl
@[simp] theorem itRange2_eq {a : AF} : itRange2 a es S = (a es S).bindI fun ds S1 => match ds with
  | [.int m, .int n] => if (-(2 ^ 62) ≤ m ∧ m < 2 ^ 62) ∧ -(2 ^ 62) ≤ n ∧ n < 2 ^ 62 then .ok ((List.range (n - m).toNat).map fun (i : Nat) => D.int (m + i)) [] S1 else .bad
  | _ => .bad := rfl
@[simp] theorem iAdd_eq {i j : Int} : iAdd (.int i) (.int j) S = .ok (.int (i + j)) S := rfl
@[simp] theorem iSub_eq {i j : Int} : iSub (.int i) (.int j) S = .ok (.int (i - j)) S := rfl
@[simp] theorem iLt_eq {i j : Int} : iLt (.int i) (.int j) S = .ok (.bl (decide (i < j))) S := rfl
@[simp] theorem iLe_eq {i j : Int} : iLe (.int i) (.int j) S = .ok (.bl (decide (i ≤ j))) S := rfl
@[simp] theorem iGt_eq {i j : Int} : iGt (.int i) (.int j) S = .ok (.bl (decide (j < i))) S := rfl
@[simp] theorem iGe_eq {i j : Int} : iGe (.int i) (.int j) S = .ok (.bl (decide (j ≤ i))) S := rfl
@[simp] theorem iNeg_eq {i : Int} : iNeg (.int i) S = .ok (.int (-i)) S := rfl
theorem iMul_ok {i j : Int} (h : bits i + bits j < 1000000) : iMul (.int i) (.int j) S = .ok (.int (i * j)) S := by
  show (if decide (bits i + bits j < 1000000) = true then _ else _) = _
  rw [if_pos (decide_eq_true h)]
theorem iDiv_ok {i j : Int} (h : 0 < j) (h2 : bits j < 9000) : iDiv (.int i) (.int j) S = .ok (.int (i / j)) S := by
  show (if (decide (0 < j) && decide (bits j < 9000)) = true then _ else _) = _
  rw [if_pos (by simp [h, h2])]
theorem iMod_ok {i j : Int} (h : 0 < j) : iMod (.int i) (.int j) S = .ok (.int (i % j)) S := by
  show (if decide (0 < j) = true then _ else _) = _
  rw [if_pos (by simp [h])]
theorem iDivN_ok {i j : Int} (h : j ≠ 0) (h2 : bits j < 9000) : iDivN (.int i) (.int j) S = .ok (.int (i.fdiv j)) S := by
  show (if (decide (j ≠ 0) && decide (bits j < 9000)) = true then _ else _) = _
  rw [if_pos (by simp [h, h2])]
theorem iModN_ok {i j : Int} (h : j ≠ 0) : iModN (.int i) (.int j) S = .ok (.int (i.fmod j)) S := by
  show (if decide (j ≠ 0) = true then _ else _) = _
  rw [if_pos (by simp [h])]
theorem iPow_ok {i j : Int} (h : 0 ≤ j) (h2 : j ≤ 1000000) (h3 : i.natAbs < 2 ^ 64) : iPow (.int i) (.int j) S = .ok (.int (i ^ j.toNat)) S := by
  show (if (decide (0 ≤ j) && decide (j ≤ 1000000) && decide (i.natAbs < 2 ^ 64)) = true then _ else _) = _
  rw [if_pos (by simp [h, h2, h3])]
@[simp] theorem gAbs_eq {i : Int} : gAbs (.int i) S = .ok (.int (if i < 0 then -i else i)) S := rfl
@[simp] theorem gMax_eq {i j : Int} : gMax (.int i) (.int j) S = .ok (.int (if j > i then j else i)) S := rfl
@[simp] theorem gMin_eq {i j : Int} : gMin (.int i) (.int j) S = .ok (.int (if j < i then j else i)) S := rfl
@[simp] theorem gLen_lst : gLen (.lst ds) S = .ok (.int ds.length) S := rfl
@[simp] theorem gLen_tup : gLen (.tup ds) S = .ok (.int ds.length) S := rfl
@[simp] theorem gTupOf_lst : gTupOf (.lst ds) S = .ok (.tup ds) S := rfl
@[simp] theorem gListOf_lst : gListOf (.lst ds) S = .ok (.lst ds) S := rfl
@[simp] theorem gSlot_0 {j : Nat} : gSlot j 0 (.obj j (d :: ds)) S = .ok d S := by simp [gSlot]
@[simp] theorem gSlot_1 {j : Nat} : gSlot j 1 (.obj j (x :: d :: ds)) S = .ok d S := by simp [gSlot]
@[simp] theorem gIx_tup0 : gIx (.tup (d :: ds)) (.int 0) S = .ok d S := by
  have e : L2.atI (d :: ds) 0 = some d := by
    unfold L2.atI ixN
    simp
  show (match L2.atI (d :: ds) 0 with | some d => Res.ok d S | none => .bad) = _
  rw [e]
@[simp] theorem gIx_tup1 : gIx (.tup (x :: d :: ds)) (.int 1) S = .ok d S := by
  have e : L2.atI (x :: d :: ds) 1 = some d := by
    unfold L2.atI ixN
    simp
    rw [if_pos (by omega)]
    rfl
  show (match L2.atI (x :: d :: ds) 1 with | some d => Res.ok d S | none => .bad) = _
  rw [e]
theorem atI_nat {α : Type} {l : List α} {i : Nat} {a : α} (h : l[i]? = some a) : L2.atI l (i : Int) = some a := by
  have hl : i < l.length := (List.getElem?_eq_some_iff.mp h).1
  unfold L2.atI ixN
  rw [if_pos (by omega), if_pos (by omega)]
  simpa using h
theorem gIx_lst {i : Nat} (h : ds[i]? = some d) : gIx (.lst ds) (.int i) S = .ok d S := by
  show (match L2.atI ds (i : Int) with | some d => Res.ok d S | none => .bad) = _
  rw [atI_nat h]
theorem gIx_cell {c i : Nat} (hc : S[c]? = some ds) (h : ds[i]? = some d) : gIx (.cell c) (.int i) S = .ok d S := by
  have e : deref S (.cell c) = .lst ds := by
    unfold deref
    simp only [hc]
  unfold gIx
  rw [e]
  show (match L2.atI ds (i : Int) with | some d => Res.ok d S | none => .bad) = _
  rw [atI_nat h]
@[simp] theorem gProp_eq {j : Nat} {den : List D → Store → Res} : gProp j den (.obj j ds) S = den [.obj j ds] S := by
  unfold gProp isObj chk
  simp
@[simp] theorem gOwn1_eq {j : Nat} {den : List D → Store → Res} : gOwn1 j den (.obj j ds) S = den [.obj j ds] S := by
  unfold gOwn1 isObj chk
  simp
@[simp] theorem gOwn_obj {j : Nat} {den : List D → Store → Res} {fs : List D} : gOwn j den (.obj j ds) (.obj j fs) S = den [.obj j ds, .obj j fs] S := by
  unfold gOwn isObj chk
  simp
@[simp] theorem gOwn_int {j : Nat} {den : List D → Store → Res} {i : Int} : gOwn j den (.obj j ds) (.int i) S = den [.obj j ds, .int i] S := by
  unfold gOwn isObj chk
  simp
@[simp] theorem eMeth_eq {j n : Nat} {den : List D → Store → Res} {f : EF} {a : AF} : eMeth j n den f a es S = (f es S).bind fun d S1 => if isObj j d then (a es S1).bind fun ds S2 => chk n den (d :: ds) S2 else .bad := rfl
@[simp] theorem eMethK_eq {j n m : Nat} {gD : List D → List D → List D} {den : List D → Store → Res} {f : EF} {a : AF} : eMethK j n m gD den f a es S = (f es S).bind fun d S1 => if isObj j d then (a es S1).bind fun ds S2 => if ds.length = m then chk n den (gD [d] ds) S2 else .bad else .bad := rfl
@[simp] theorem isObj_eq {j : Nat} : isObj j (.obj j ds) = true := by
  unfold isObj
  simp
@[simp] theorem eNew_eq {c n : Nat} {dfl : List D} {F : List D → Store → ResA} {a : AF} : eNew c n dfl F a es S = (a es S).bind fun ds S1 => newD c n F (ds ++ dfl) S1 := rfl
@[simp] theorem eNewK_eq {c n m : Nat} {gD : List D → List D} {F : List D → Store → ResA} {a : AF} : eNewK c n m gD F a es S = (a es S).bind fun ds S1 => if ds.length = m then newD c n F (gD ds) S1 else .bad := rfl
@[simp] theorem gEq_int {i j : Int} : gEq (.int i) (.int j) S = .ok (.bl (decide (i = j))) S := by
  show Res.ok (.bl (i == j)) S = _
  congr
@[simp] theorem gNe_int {i j : Int} : gNe (.int i) (.int j) S = .ok (.bl (!decide (i = j))) S := by
  show Res.ok (.bl (!(i == j))) S = _
  congr
@[simp] theorem gEq_fr {a b c e : Int} : gEq (.tup [.int a, .int b]) (.tup [.int c, .int e]) S = .ok (.bl (decide (a = c) && decide (b = e))) S := by
  show Res.ok (.bl (a == c && (b == e && true))) S = _
  rw [Bool.and_true]
  congr
@[simp] theorem gNe_bls3 {a b c a' b' c' : Bool} : gNe (.lst [.bl a, .bl b, .bl c]) (.lst [.bl a', .bl b', .bl c']) S = .ok (.bl (!(a == a' && (b == b' && c == c')))) S := by
  show Res.ok (.bl (!(a == a' && (b == b' && (c == c' && true))))) S = _
  rw [Bool.and_true]
@[simp] theorem gOr_left {g1 g2 : D → D → Store → Res} (h : g1 x y S = .ok d S') : gOr g1 g2 x y S = .ok d S' := by
  unfold gOr
  rw [h]
theorem fnD_eq {N : Nat} {body : SF} : fnD N body ds S = match body (startD N ds) S with | .next _ S' => .ok .non S' | .ret d S' => .ok d S' | .exc k fs _ S' => .exc k fs S' | _ => .bad := rfl
theorem initD_eq {sw : Bool} {N : Nat} {body : SF} {f1 f2 : EF} : initD sw N body f1 f2 ds S = match body (startI N ds) S with
  | .next es S1 => if isSlf es = true then (f1 es S1).bindA fun d1 S2 => (f2 es S2).bindA fun d2 S3 => .ok (ord sw d1 d2) S3 else .bad
  | .exc k fs _ S1 => .exc k fs S1
  | _ => .bad := rfl
@[simp] theorem isi_int_int {cs : List Nat} {i : Int} : gIsi cs (.int i) (.ty "int") S = .ok (.bl true) S := by
  have e : tyIs "int" "int" = some true := by decide +kernel
  show (match tyIs "int" "int" with | some b => Res.ok (.bl b) S | none => .bad) = _
  rw [e]
@[simp] theorem isi_int_bool {cs : List Nat} {i : Int} : gIsi cs (.int i) (.ty "bool") S = .ok (.bl false) S := by
  have e : tyIs "int" "bool" = some false := by decide +kernel
  show (match tyIs "int" "bool" with | some b => Res.ok (.bl b) S | none => .bad) = _
  rw [e]
@[simp] theorem isi_int_cls {cs : List Nat} {i : Int} {j : Nat} (h : j ∈ cs) : gIsi cs (.int i) (.cls j) S = .ok (.bl false) S := by
  unfold gIsi isi1 kind
  simp only [if_pos h]
@[simp] theorem isi_obj_ty {cs : List Nat} {j : Nat} {n : String} (h : j ∈ cs) (hn : n ∈ kinds) : gIsi cs (.obj j ds) (.ty n) S = .ok (.bl false) S := by
  unfold gIsi isi1 kind
  simp only [if_pos (And.intro h hn)]
@[simp] theorem isi_obj_cls {cs : List Nat} {i j : Nat} (h : i ∈ cs) (hj : j ∈ cs) : gIsi cs (.obj i ds) (.cls j) S = .ok (.bl (i == j)) S := by
  unfold gIsi isi1 kind
  simp only [if_pos (And.intro h hj)]
/-! ### sizes -/
theorem bits_lt {i : Int} {n : Nat} (h : i.natAbs < 2 ^ n) (hn : 0 < n) : bits i < n := PySem.Flt.log2_lt_of hn h
theorem bits_small {i : Int} (h : i.natAbs < 2 ^ 8000) : bits i < 9000 := Nat.lt_trans (bits_lt h (by decide)) (by decide)
end
end DL
set_option Elab.async false
set_option linter.all false
set_option maxRecDepth 100000
set_option maxHeartbeats 2000000
set_option autoImplicit false
/-! The data layer, 18: __init__ of a class whose instances have a dict; properties of such. -/
namespace DL
open PySem PySem.Spec PyProof.Rows L2 He
section
variable {Γ : Pg} {ξ : Xx} {X : Cx} {E : WX}
/-- the fields at the end, in order; the frame's own lists are data by then -/
def evF (es : List SD) : List EF → Store → ResA
  | [], S => .ok [] S
  | f :: fs, S => (f es S).bindA fun d S1 => (evF es fs S1).bindL fun ds S2 => .ok (d :: ds) S2
def initC (N : Nat) (body : SF) (fs : List EF) : List D → Store → ResA := fun ds S => match body (startI N ds) S with
  | .next es S1 => if isSlf es = true then evF (es.map frz1) fs S1 else .bad
  | .exc k fs _ S1 => .exc k fs S1
  | _ => .bad
/-- its promise: n values beside self -/
def spC (Γ : Pg) (k n : Nat) (ns : List Str) (F : List D → Store → ResA) : Sp := fun vs H Q E => ∃ (x dx : Addr) (ws : List V) (W : Wd) (S : Store) (ds : List D), vs = .ref x :: ws ∧ Ok Γ W S H ∧ Reps Γ W ds ws ∧ ds.length = n ∧
  W.F x = none ∧ W.P x = none ∧ (∀ (i : Nat) (a : Addr), W.m[i]? = some a → a ≠ x) ∧ H x = some (.ins (Γ.cl k) dx []) ∧
  match F ds S with
  | .ok fs S1 => ∀ W' H' us, Le W W' → Ok Γ W' S1 H' → W'.F x = none → (∀ (i : Nat) (a : Addr), W'.m[i]? = some a → a ≠ x) → Reps Γ W' fs us → ns.length = us.length → H' x = some (.ins (Γ.cl k) dx (ns.zip us)) → Q .non H'
  | .exc c fs S1 => ∀ W' d H', Le W W' → Ok Γ W' S1 H' → RepX (Γ := Γ) W' fs d → E (.ref (Γ.cl c)) d H'
  | .bad => False
theorem spC_len {k n : Nat} {ns : List Str} {F : List D → Store → ResA} {ps : List Str} (hn : ps.length = n + 1) : ∀ vs H Q E, spC Γ k n ns F vs H Q E → vs.length = ps.length := fun vs H Q E ⟨x, dx, ws, W, S, ds, e, ok, r, hl, _⟩ => by rw [e, List.length_cons, r.length, hl, hn]
/-- the stores, one behind another -/
def tFs (K : PySem.W.Frag) (Γ : Pg) (ξ : Xx) (E : WX) : List Str → List EF → TS
  | n :: ns, f :: fs => tSeq (sFld K (tVar 0) (dE Γ ξ f E) n) (tFs K Γ ξ E ns fs)
  | _, _ => tNext
/-- a property of an instance with a dict -/
theorem de_propC {e : Expr} {f : Str} {fe : EF} {k j n : Nat} {g : Addr} {ns : List Str} {pos : Pos} {P : Program} {w : World} {mg : Str → Option Value} {base : Heap} {den : List D → Store → Res} (hh : Here Γ P w mg base n X E) (c : ClF Γ k ns) (t : PropF Γ k f g) (G : CalR Γ P w mg base j g 1 den)
    (he : PE X e (dE Γ ξ fe E)) (hj : j + 1 ≤ n := by decide) (hb : attributeBase e f X.env (eval e X.env) = eval e X.env := by rfl) : PE X (.Attribute e f pos) (dE Γ ξ (eOp1 (gProp k den) fe) E) := by
  obtain ⟨h1, h2, h3, h4, h5, h6, h7⟩ := hh
  subst h1 h2 h4 h5
  obtain ⟨p, rest, t1, t2, t3, t4⟩ := t.ex
  refine ⟨fun pins s σ H Q I ⟨W, es, S, P0, ok, fr, h⟩ => ?_⟩
  refine attr_of hb (thn (he.run pins s σ H (fun x H1 => ∃ W1 S1 d, Ok Γ W1 S1 H1 ∧ Rep Γ W1 d x ∧ Cont Γ (gProp k den d S1) W1 Q (fun _ _ _ => False)) I
    ⟨W, es, S, P0, ok, fr, h.bind fun d S1 W1 v H1 le ok1 rv h1 => ⟨W1, S1, d, ok1, rv, Cont.nox h1⟩⟩) fun u s1 ⟨x, H1, I1, rx, W1, S1, d, ok1, rd, h1⟩ => ?_)
  unfold gProp at h1
  split at h1
  case isFalse => exact h1.elim
  rename_i hd
  obtain ⟨ds, rfl⟩ := isObj_of hd
  obtain ⟨a, dx, vs, rfl, q2, hl, q3⟩ := asC c ok1 rd
  obtain rfl : u = Value.ref a := rx
  obtain ⟨mA, O, _, _, _, _⟩ := ins_get I1.hok q2
  obtain ⟨od, J, _⟩ := O.look
  have I2 := I1.tok (s1.toks + 1)
  have cc : Cls X.K (Γ.cl k) := by rw [h3]; exact c.cl
  have hc : (PySem.W.clsIn X.K (Γ.cl k)).isSome = true := by
    obtain ⟨cd, hc, _⟩ := PySem.W.any_some cc.hd
    rw [hc]
    rfl
  refine PySem.W.get_bind I1.kIn J (PySem.W.plainGet_of (cc.get f)).1 (PySem.W.findObj_data hc (by rw [h3]; exact t1) (by rw [h3]; exact t2) (by rw [h3]; exact t3)) (PySem.W.plainGet_of (cc.get f)).2 (wpAny_call (PySem.W.prop_get (s := { s1 with toks := s1.toks + 1 }) I1.kIn (by rw [h3]; exact t4) ?_))
  have G' : FnR X.prog X.w X.K X.mg X.base (L2.CX X.prog X.w) j g (spD Γ 1 den) := by rw [h3]; exact G.run
  refine codeAny_mono (G' X.A.in1 X.stack { s1 with toks := s1.toks + 1 } H1 [.ref a] [.ref a] Q (fun _ _ _ => False) (h6.mono hj).in1 I2.env0.in1 (.cons rfl .nil) (spD_of ok1 (Reps.cons rd Reps.nil) h1)) fun r s' hq => ?_
  cases r with
  | error er =>
    obtain ⟨_, _, _, _, _, _, _, _, _, _, _, _, z⟩ := hq
    exact z.elim
  | ok fl =>
    cases fl with
    | ret u =>
      obtain ⟨v, H', I3, rv, q3⟩ := I2.after hq
      show wpAny _ _ (handedOut u) _ _ _
      rw [PySem.W.handedOut_of (handed_of rv)]
      exact wpAny_pure ⟨v, H', I3, rv, q3⟩
    | next => exact False.elim hq
    | brk => exact False.elim hq
    | cont => exact False.elim hq
theorem putF_zip {f : Str} {y : V} : ∀ {done : List Str} {vs : List V}, f ∉ done → done.length = vs.length → putF f y (done.zip vs) = (done ++ [f]).zip (vs ++ [y])
  | [], [], _, _ => rfl
  | [], v :: vs, _, h => by simp at h
  | n :: done, [], _, h => by simp at h
  | n :: done, v :: vs, hn, h => by
    have h1 : ¬ n = f := fun e => hn (e ▸ List.mem_cons_self ..)
    rw [List.zip_cons_cons]
    show (if n = f then _ else _) = _
    rw [if_neg h1, putF_zip (fun q => hn (List.mem_cons_of_mem _ q)) (by simpa using h)]
    rfl
theorem tailC {k : Nat} {ns : List Str} {x dx : Addr} {PC : Hp} {Qe : Hp → Prop} {Dn : Ends} (c : ClF Γ k ns) (hz : ns.length < 900) (hD : ∀ σ H', Qe H' → Dn.nx σ H') (hPx : PC x = none) (ha : ξ.a = x) : ∀ (n2 : List Str) (f2 : List EF) (done : List Str) (vd : List V) (dd : List D) (W : Wd) (es : List SD) (S : Store) (P0 : Hp) (σ : L2.St) (H : Hp),
    done ++ n2 = ns → f2.length = n2.length → done.length = vd.length → Ok Γ W S H → Frame Γ ξ W es σ P0 → P0 x = some (.ins (Γ.cl k) dx (done.zip vd)) → isSlf es = true → Reps Γ W dd vd → (∀ a u, PC a = some u → P0 a = some u) →
    (match evF es f2 S with
      | .ok fs S1 => ∀ W' H' us, (∀ a o, W.F a = some o → W'.F a = some o) → (∀ (i : Nat) (a : Addr), W.m[i]? = some a → W'.m[i]? = some a) → W'.P = PC → Ok Γ W' S1 H' → Reps Γ W' (dd ++ fs) us → ns.length = us.length → H' x = some (.ins (Γ.cl k) dx (ns.zip us)) → W'.F x = none → (∀ (i : Nat) (a : Addr), W'.m[i]? = some a → a ≠ x) → Qe H'
      | .exc q fs S1 => ∀ W' d H', (∀ a o, W.F a = some o → W'.F a = some o) → (∀ (i : Nat) (a : Addr), W.m[i]? = some a → W'.m[i]? = some a) → W'.P = PC → Ok Γ W' S1 H' → RepX (Γ := Γ) W' fs d → ∀ σ, E (.ref (Γ.cl q)) d σ H'
      | .bad => False) →
    tFs Γ.K Γ ξ E n2 f2 Dn σ H
  | [], [], done, vd, dd, W, es, S, P0, σ, H, hd, _, hv, ok, fr, h0, hs, rs, hP, h => by
    rw [List.append_nil] at hd
    subst hd
    obtain ⟨own, _, o⟩ := id fr
    have hWx := o.of0 h0
    refine hD σ H (h { W with P := PC } H vd (fun _ _ q => q) (fun _ _ q => q) rfl (ok.less fun a u q => o.of0 (hP a u q)) (by rw [List.append_nil]; exact repsP W rs) hv (ok.p _ _ hWx).1 (ok.p _ _ hWx).2 fun i a q z => ?_)
    have := (ok.m i a q).2
    rw [z, hWx] at this
    cases this
  | [], f :: f2, _, _, _, _, _, _, _, _, _, _, h, _, _, _, _, _, _, _, _ => by simp at h
  | n :: n2, [], _, _, _, _, _, _, _, _, _, _, h, _, _, _, _, _, _, _, _ => by simp at h
  | n :: n2, f :: f2, done, vd, dd, W, es, S, P0, σ, H, hd, hl, hv, ok, fr, h0, hs, rs, hP, h => by
    have hn : n ∈ ns := by rw [← hd]; exact List.mem_append_right _ (List.mem_cons_self ..)
    have hnd : n ∉ done := fun q => by
      have nd := c.nd
      rw [← hd] at nd
      exact (List.nodup_append.mp nd).2.2 n q n (List.mem_cons_self ..) rfl
    have hσ : σ[0]? = some (some (V.ref x)) := by
      obtain ⟨own, q, _⟩ := id fr
      rw [← ha]
      exact q.slf (isSlf_at hs)
    show sFld Γ.K (tVar 0) (dE Γ ξ f E) n _ σ H
    refine ⟨W, es, S, P0, ok, fr, ?_⟩
    unfold evF at h
    cases ef : f es S with
    | bad => rw [ef] at h; exact h.elim
    | exc q fs S1 =>
      rw [ef] at h
      intro W1 d H1 l ok1 rx
      obtain ⟨own, _, o⟩ := (fr.le l)
      exact h { W1 with P := PC } d H1 l.f l.m rfl (ok1.less fun a u z => o.of0 (hP a u z)) (repX_le rx ⟨fun _ _ h => h, fun _ _ h => h⟩) _
    | ok d1 S1 =>
      rw [ef] at h
      intro W1 y H1 l ok1 r1
      have fr1 := fr.le l
      obtain ⟨own, _, o⟩ := id fr1
      have hWx := o.of0 h0
      have hlen : (done.zip vd).length < 1000 := by
        rw [List.length_zip, ← hv, Nat.min_self]
        have : (done ++ n :: n2).length < 900 := by rw [hd]; exact hz
        rw [List.length_append] at this
        omega
      refine ⟨.ref x, hσ, x, Γ.cl k, dx, _, rfl, (ok1.p _ _ hWx).1, c.cl, c.na n hn, hlen, ?_⟩
      rw [putF_zip hnd hv]
      have Mx : ∀ (i : Nat) (b : Addr), W1.m[i]? = some b → b ≠ x := fun i b q z => by
        have := (ok1.m i b q).2
        rw [z, hWx] at this
        cases this
      have ok2 := ok1.swap (x := x) (.ins (Γ.cl k) dx ((done ++ [n]).zip (vd ++ [y]))) (ok1.p _ _ hWx).2 Mx
      have fr2 := fr1.swap (x := x) h0 (.ins (Γ.cl k) dx ((done ++ [n]).zip (vd ++ [y])))
      have rs2 := (rs.mono l.s).append (Reps.cons r1 Reps.nil)
      refine tailC c hz hD hPx ha n2 f2 (done ++ [n]) (vd ++ [y]) (dd ++ [d1]) _ es S1 _ σ _ (by rw [List.append_assoc]; exact hd) (by simpa using hl) (by simp [hv]) ok2 fr2 upd_same hs (repsP W1 rs2) (fun a u q => ?_) ?_
      · rw [upd_ne (ne_of_none q hPx)]
        exact hP a u q
      · simp only [Res.bindA] at h
        cases eg : evF es f2 S1 with
        | bad => rw [eg] at h; exact h.elim
        | exc q fs S2 =>
          rw [eg] at h
          exact fun W' d H' e1 e2 e3 o2 rx => h W' d H' (fun a o q => e1 a o (l.f a o q)) (fun i a q => e2 i a (l.m i a q)) e3 o2 rx
        | ok fs S2 =>
          rw [eg] at h
          intro W' H' us e1 e2 e3 o2 r2 hl2 hx2 hf2 hm2
          refine h W' H' us (fun a o q => e1 a o (l.f a o q)) (fun i a q => e2 i a (l.m i a q)) e3 o2 ?_ hl2 hx2 hf2 hm2
          rw [List.append_assoc] at r2
          exact r2
theorem enterC {N k n : Nat} {body : SF} {fs : List EF} {ns : List Str} {vs : List V} {H : Hp} {Q : VK} {Ex : XK} {names : List Str} (hN : names.length = N) (c : ClF Γ k ns) (hz : ns.length < 900) (hlen : fs.length = ns.length) (h : spC Γ k n ns (initC N body fs) vs H Q Ex) :
    ∃ ξ : Xx, tSeq (dS Γ ξ body (fun c d _ H => Ex c d H)) (tFs Γ.K Γ ξ (fun c d _ H => Ex c d H) ns fs) { nx := fun _ H' => Q .non H', rt := Q } (L2.start names vs) H := by
  obtain ⟨x, dx, ws, W, S, ds, rfl, ok, r, hl, hFx, hPx, hM, hHx, h⟩ := h
  refine ⟨⟨x, .none, none⟩, ?_⟩
  have e2 : upd H x (.ins (Γ.cl k) dx []) = H := by
    funext b
    by_cases z : b = x
    · rw [z, upd_same, hHx]
    · rw [upd_ne z]
  have okB := ok.swap (x := x) (.ins (Γ.cl k) dx []) hFx hM
  rw [e2] at okB
  let PB : Hp := upd W.P x (.ins (Γ.cl k) dx [])
  have hPBx : PB x = some (.ins (Γ.cl k) dx []) := upd_same
  have hPW : ∀ a u, W.P a = some u → PB a = some u := fun a u q => by
    show upd W.P x _ a = _
    rw [upd_ne (ne_of_none q hPx)]
    exact q
  refine ⟨{ W with P := PB }, startI N ds, S, PB, okB, ⟨[], ?_, ⟨List.nodup_nil, fun p hp => absurd hp (by simp), fun a _ => rfl⟩⟩, ?_⟩
  · unfold startI L2.start
    have hlen : (V.ref x :: ws).length = ds.length + 1 := by rw [List.length_cons, r.length]
    rw [hN, hlen]
    exact ⟨_, rfl, (slots_start _ r).p⟩
  unfold initC at h
  cases eb : body (startI N ds) S with
  | bad => rw [eb] at h; exact h.elim
  | brk es S1 => rw [eb] at h; exact h.elim
  | ct es S1 => rw [eb] at h; exact h.elim
  | ret d S1 => rw [eb] at h; exact h.elim
  | exc q fs' es S1 =>
    rw [eb] at h
    intro W' σ' d H' l ok' fr' rx
    obtain ⟨own, _, o⟩ := fr'
    exact h { W' with P := W.P } d H' ⟨l.f, rfl, l.m⟩ (ok'.less fun a u q => o.of0 (hPW a u q)) (repX_le rx ⟨fun _ _ h => h, fun _ _ h => h⟩)
  | next es S1 =>
    rw [eb] at h
    simp only at h
    by_cases hs : isSlf es = true
    case neg => rw [if_neg hs] at h; exact h.elim
    rw [if_pos hs] at h
    intro W1 σ1 H1 l1 ok1 fr1
    obtain ⟨W2, l2, p2, ok2, fr2⟩ := fr1.frz ok1
    have hs2 : isSlf (es.map frz1) = true := by
      cases es with
      | nil => cases hs
      | cons e r =>
        cases e <;> first | (cases hs; done) | rfl
    refine tailC (PC := W.P) (Qe := fun H' => Q .non H') (x := x) (dx := dx) c hz (fun _ _ q => q) hPx rfl ns fs [] [] [] W2 (es.map frz1) S1 PB σ1 H1 rfl hlen rfl ok2 fr2 hPBx hs2 Reps.nil hPW ?_
    have lF : ∀ a o, W.F a = some o → W2.F a = some o := fun a o q => l2.f _ _ (l1.f _ _ q)
    have lM : ∀ (i : Nat) (a : Addr), W.m[i]? = some a → W2.m[i]? = some a := fun i a q => l2.m _ _ (l1.m _ _ q)
    cases eg : evF (es.map frz1) fs S1 with
    | bad => rw [eg] at h; exact h.elim
    | exc q fs' S2 =>
      rw [eg] at h
      exact fun W' d H' q1 q2 q3 o rx σ => h W' d H' ⟨fun a o z => q1 a o (lF a o z), q3, fun i a z => q2 i a (lM i a z)⟩ o rx
    | ok ds' S2 =>
      rw [eg] at h
      exact fun W' H' us q1 q2 q3 o rs hl hx hf hm => h W' H' us ⟨fun a o z => q1 a o (lF a o z), q3, fun i a z => q2 i a (lM i a z)⟩ o hf hm rs hl hx
/-- what a caller wants of such a class -/
structure MakC (Γ : Pg) (P : Program) (w : World) (mg : Str → Option Value) (base : Heap) (k : Nat) (x : Str) (c n : Nat) (ns : List Str) (dfl : List D) (F : List D → Store → ResA) : Prop where
  at_ : Γ.at_ c = some ns
  ex : ∃ (fI : Addr) (fd : FuncData) (ps : List Str) (ds : List Value) (dvs : List V), Mk Γ.K (Γ.cl c) fI ∧ FnOk P w Γ.K mg base (L2.CX P w) k fI fd ps (spC Γ c n ns F) ∧ mg x = some (.ref (Γ.cl c)) ∧ Binds Γ.K fd ps ds ∧ Vals dvs ds ∧ ∀ W, Reps Γ W dfl dvs
def newC (c n l : Nat) (F : List D → Store → ResA) : List D → Store → Res := fun ds S => if ds.length = n then match F ds S with
  | .ok fs S1 => if fs.length = l then .ok (.obj c fs) S1 else .bad
  | .exc k fs S1 => .exc k fs S1
  | .bad => .bad
  else .bad
def eNewC (c n l : Nat) (dfl : List D) (F : List D → Store → ResA) (a : AF) : EF := fun es S => (a es S).bind fun ds S1 => newC c n l F (ds ++ dfl) S1
theorem spC_of {c n : Nat} {ns : List Str} {F : List D → Store → ResA} {W : Wd} {S : Store} {H : Hp} {ds : List D} {vs : List V} {Q : VK} {Ex : XK} (hat : Γ.at_ c = some ns) (ok : Ok Γ W S H) (r : Reps Γ W ds vs) (h : Cont Γ (newC c n ns.length F ds S) W Q Ex) {x dx : Addr} (hx : H x = none) (hd : H dx = none) (hne : dx ≠ x) :
    spC Γ c n ns F (.ref x :: vs) (upd (upd H dx (.own x)) x (.ins (Γ.cl c) dx [])) (fun v H2 => v = .non ∧ Q (.ref x) H2) Ex := by
  unfold newC at h
  split at h
  case isFalse => exact h.elim
  rename_i hl
  obtain ⟨Fx, Px, Mx⟩ := ok.fresh hx
  obtain ⟨Fd, Pd, Md⟩ := ok.fresh hd
  have okA := ((ok.swap (x := dx) (.own x) Fd Md).swap (x := x) (.ins (Γ.cl c) dx []) Fx Mx).less (P1 := W.P) fun a u q => by
    show upd (upd W.P dx _) x _ a = _
    rw [upd_ne (ne_of_none q Px), upd_ne (ne_of_none q Pd)]
    exact q
  refine ⟨x, dx, vs, W, S, ds, rfl, okA, r, hl, Fx, Px, Mx, upd_same, ?_⟩
  cases e : F ds S with
  | bad => rw [e] at h; exact h.elim
  | exc k fs S1 => rw [e] at h; exact h
  | ok fs S1 =>
    rw [e] at h
    simp only at h
    split at h
    case isFalse => exact h.elim
    rename_i h0
    intro W' H' us l ok' F'x M' rs hlu hHx
    refine ⟨rfl, ?_⟩
    let F1 : Hp := upd W'.F x (.ins (Γ.cl c) dx (ns.zip us))
    have le1 : ∀ a u, W'.F a = some u → F1 a = some u := fun a u q => by
      show upd W'.F x _ a = _
      rw [upd_ne (ne_of_none q F'x)]
      exact q
    have lS : LeS W' { W' with F := F1 } := ⟨le1, fun _ _ h => h⟩
    have hP' : ∀ a u, W'.P a = some u → a ≠ x := fun a u q => by
      rw [l.p] at q
      exact ne_of_none q Px
    refine h { W' with F := F1 } _ H' ⟨fun a o q => le1 a o (l.f a o q), l.p, l.m⟩ ⟨fun a u q => ?_, fun a u q => ?_, fun i a q => ?_, ok'.nd, ok'.len, fun i a ds q3 q4 => ?_⟩ ?_
    · have q : F1 a = some u := q
      by_cases z : a = x
      · subst z
        have : F1 a = some (.ins (Γ.cl c) dx (ns.zip us)) := upd_same
        rw [hHx, ← this]
        exact q
      · have e1 : F1 a = W'.F a := by
          show upd W'.F x _ a = _
          rw [upd_ne z]
        rw [e1] at q
        exact ok'.f a u q
    · have e1 : F1 a = W'.F a := by
        show upd W'.F x _ a = _
        rw [upd_ne (hP' a u q)]
      exact ⟨(ok'.p a u q).1, e1.trans (ok'.p a u q).2⟩
    · have e1 : F1 a = W'.F a := by
        show upd W'.F x _ a = _
        rw [upd_ne (M' i a q)]
      exact ⟨e1.trans (ok'.m i a q).1, (ok'.m i a q).2⟩
    · obtain ⟨ws, q5, q6⟩ := ok'.c i a ds q3 q4
      exact ⟨ws, q5, q6.mono lS⟩
    · simp only [Rep]
      refine ⟨x, dx, us, rfl, ?_, rs.mono lS⟩
      unfold ObjAt
      rw [hat]
      exact ⟨upd_same, hlu⟩
theorem de_newC {e : Expr} {es : List Expr} {x : Str} {fa : AF} {c n j l : Nat} {ns : List Str} {dfl : List D} {p pos : Pos} {P : Program} {w : World} {mg : Str → Option Value} {base : Heap} {F : List D → Store → ResA} (hh : Here Γ P w mg base l X E) (M : MakC Γ P w mg base j x c n ns dfl F)
    (ha : PA X (e :: es) (dA Γ ξ fa E)) (hj : j + 1 ≤ l := by decide) (hg : Gl X x := by rfl) (hdb : (x == ("__debug__" : Str)) = false := by decide) (he : starEach (e :: es) X.env = (false, eval e X.env) :: starEach es X.env := by rfl) (hpl : (backTo pos (starEach es X.env)).any (·.1) = false := by rfl) :
    PE X (.Call (.Name x p) (e :: es) [] pos) (dE Γ ξ (eNewC c n ns.length dfl F fa) E) := by
  obtain ⟨h1, h2, h3, h4, h5, h6, h7⟩ := hh
  subst h1 h2 h4 h5
  obtain ⟨fI, fd, ps, ds, dvs, hM, hF, hm, hb, hv, hrep⟩ := M.ex
  rw [← h3] at hM hF hb
  refine ⟨fun pins s σ H Q I ⟨W, es', S, P0, ok, fr, h⟩ => ?_⟩
  refine wpAny_Call_Name_kw (ld_glob I hg hm ?_ hdb)
  refine PySem.W.callWith_K (h₀ := X.base) I.ok.mod.kin hM.kp (thn (ha.run pos pins s σ H (fun vs H1 => ∃ W1 S1 ds1, Ok Γ W1 S1 H1 ∧ Reps Γ W1 ds1 vs ∧ Cont Γ (newC c n ns.length F (ds1 ++ dfl) S1) W1 Q (at_ E σ)) I
    ⟨W, es', S, P0, ok, fr, ContA.bind h fun ds1 S1 W1 vs H1 le ok1 rs h1 => ⟨W1, S1, ds1, ok1, rs, h1⟩⟩) fun us s1 ⟨vs, H1, I1, r, W1, S1, ds1, ok1, rs, h1⟩ => ⟨I1.kIn, ?_⟩) he hpl
  exact runMk (dvs := dvs) hM hF (h6.mono hj) hb hv (pass_of h7 σ) I1 r fun x dx hx hd hne => spC_of M.at_ ok1 (rs.append (hrep W1)) h1 hx hd hne
end
end DL
set_option Elab.async false
set_option linter.all false
set_option maxRecDepth 100000
set_option maxHeartbeats 2000000
set_option autoImplicit false
/-! The data layer, 19: enumerate. -/
namespace DL
open PySem PySem.Spec PyProof.Rows L2 He
section
variable {Γ : Pg} {ξ : Xx} {X : Cx} {E : WX}
def enumD (ds : List D) : List D := (List.range ds.length).zip ds |>.map fun p => .tup [.int (p.1 : Nat), p.2]
theorem enumD_get {ds : List D} {i : Nat} {d : D} (h : (enumD ds)[i]? = some d) : ∃ e, ds[i]? = some e ∧ d = .tup [.int (i : Nat), e] := by
  unfold enumD at h
  rw [List.getElem?_map, Option.map_eq_some_iff] at h
  obtain ⟨⟨j, e⟩, h1, rfl⟩ := h
  rw [List.getElem?_zip_eq_some] at h1
  obtain ⟨h2, h3⟩ := h1
  have hi : i < ds.length := (List.getElem?_eq_some_iff.mp h3).1
  rw [List.getElem?_range hi] at h2
  cases h2
  exact ⟨e, h3, rfl⟩
theorem enumD_len {ds : List D} : (enumD ds).length = ds.length := by
  unfold enumD
  rw [List.length_map, List.length_zip, List.length_range, Nat.min_self]
theorem yld_enum {W : Wd} {a : Addr} {ds : List D} {g : Gd} (q1 : ∀ W' S' H', LeS W W' → Ok Γ W' S' H' → g.ok S' → ∃ vs, SqX Γ.K H' ⟨false, a⟩ vs ∧ Reps Γ W' ds vs) : Yld Γ W (Ite Γ.K a) (enumD ds) g := fun W' S H l ok hg => by
  obtain ⟨vs, q, r⟩ := q1 W' S H l ok hg
  have q : SqL Γ.K H a vs := q
  refine ⟨⟨vs, q, by rw [r.length, enumD_len]; exact Nat.le_refl _⟩, fun i d hd => ?_⟩
  obtain ⟨e, he, rfl⟩ := enumD_get hd
  obtain ⟨v, hv, rv⟩ := r.get he
  refine ⟨⟨vs, v, q, hv⟩, fun z H' ⟨T, x', e1, hT, e2, e3⟩ => ?_⟩
  have e3 := e3 vs q
  rw [hv] at e3
  obtain rfl := Option.some.inj e3
  subst e1 e2
  have l2 := Le.lay (o := .tup [.int (i : Nat), v]) (ok.fresh hT).1
  exact ⟨_, l2, ok.lay hT _, rep_tup (Reps.cons (by simp only [Rep]) (Reps.cons (rv.mono l2.s) Reps.nil))⟩
def itEnum (a : AF) : IF := fun es S => (a es S).bindI fun ds S1 => match ds with
  | [x] => match seqV S1 x with
    | some (false, xs, g) => .ok (enumD xs) g S1
    | _ => .bad
  | _ => .bad
theorem di_enum {e : Expr} {ta : AF} {p pos tpos : Pos} {elts : List Expr} {kk : Nat} (hK : X.K = Γ.K) (hm : X.mg "enumerate" = none) (ha : PA X [e] (dA Γ ξ ta E)) (hg : Gl X "enumerate" := by rfl) (hs : starEach [e] X.env = [(false, eval e X.env)] := by rfl) :
    PI X (.Tuple elts kk tpos) (.Call (.Name "enumerate" p) [e] [] pos) (dI Γ ξ (itEnum ta) E) :=
  (pi_enum hg hm ha hs).imp fun σ H R ⟨W, es, S, P0, ok, fr, h⟩ => by
    refine ⟨W, es, S, P0, ok, fr, ?_⟩
    unfold itEnum at h
    cases e : ta es S with
    | bad => rw [e] at h; exact h.elim
    | exc k fs S1 => rw [e] at h; exact h
    | ok ds S1 =>
      rw [e] at h
      intro W1 vs H1 l1 ok1 rs
      simp only [ResA.bindI] at h
      split at h
      case h_2 => exact h.elim
      rename_i x
      split at h
      case h_2 => exact h.elim
      rename_i xs g hx
      simp only [Reps] at rs
      obtain ⟨v, vs', rfl, r1, rfl⟩ := rs
      obtain ⟨a, rfl, ⟨va, q1, q2⟩, q3⟩ := src_of ok1 r1 hx
      rw [hK]
      exact ⟨a, va, rfl, q1, h W1 _ H1 l1 ok1 (yld_enum q3)⟩
end
end DL
set_option Elab.async false
set_option linter.all false
set_option maxRecDepth 100000
set_option maxHeartbeats 2000000
set_option autoImplicit false
/-! The data layer, 20: slices. -/
namespace DL
open PySem PySem.Spec PyProof.Rows L2 He
section
variable {Γ : Pg} {ξ : Xx} {X : Cx} {E : WX}
def pOf (f : Option EF) (es : List SD) (S : Store) (k : Option Int → Store → Res) : Res := match f with
  | none => k none S
  | some f => (f es S).bind fun d S1 => match d with
    | .int i => k (some i) S1
    | _ => .bad
def dO (Γ : Pg) (ξ : Xx) (f : Option EF) (E : WX) : TO := fun σ H Q => ∃ W es S P0 k Qv, Ok Γ W S H ∧ Frame Γ ξ W es σ P0 ∧ Cont Γ (pOf f es S k) W Qv (at_ E σ) ∧ ∀ a S1 W1 H1, Le W W1 → Ok Γ W1 S1 H1 → Cont Γ (k a S1) W1 Qv (at_ E σ) → Q a H1
theorem do_none : PO X none (dO Γ ξ none E) := ⟨fun pins s σ H Q I ⟨W, es, S, P0, k, Qv, ok, fr, h, q⟩ => po_none.run pins s σ H Q I (q none S W H (Le.refl W) ok h)⟩
theorem do_some {e : Expr} {f : EF} (he : PE X e (dE Γ ξ f E)) : PO X (some e) (dO Γ ξ (some f) E) := ⟨fun pins s σ H Q I ⟨W, es, S, P0, k, Qv, ok, fr, h, q⟩ => (po_some he).run pins s σ H Q I ⟨W, es, S, P0, ok, fr, by
  unfold pOf at h
  exact h.bind fun d S1 W1 v H1 le ok1 rv h1 => by
    cases d with
    | int i =>
      simp only [Rep] at rv
      exact ⟨i, rv, q (some i) S1 W1 H1 le ok1 h1⟩
    | _ => exact h1.elim⟩⟩
def rSD (Γ : Pg) (g : D → Option Int → Option Int → Store → Res) : V → Option Int → Option Int → Hp → VK → Prop := fun x lo hi H Q => ∃ W S a, Ok Γ W S H ∧ RepT Γ W a x ∧ Cont Γ (g a lo hi S) W Q (fun _ _ _ => False)
def eSl (g : D → Option Int → Option Int → Store → Res) (fe : EF) (fl fh : Option EF) : EF := fun es S => (fe es S).bind fun x S1 => pOf fl es S1 fun a S2 => pOf fh es S2 fun b S3 => (g x a b S3).nox
theorem de_sl {g : D → Option Int → Option Int → Store → Res} {e : Expr} {lo hi : Option Expr} {fe : EF} {fl fh : Option EF} {pos p2 : Pos} (hr : SlR X (rSD Γ g)) (he : PE X e (dV Γ ξ fe E)) (hl : PO X lo (dO Γ ξ fl E)) (hu : PO X hi (dO Γ ξ fh E)) :
    PE X (.Subscript e (.Slice lo hi none p2) pos) (dE Γ ξ (eSl g fe fl fh) E) := (pe_slice hr he hl hu).imp fun σ H Q ⟨W, es, S, P0, ok, fr, h⟩ => by
  refine ⟨W, es, S, P0, ok, fr, ContV.bind h fun d S1 W1 v H1 le ok1 rv h1 => ?_⟩
  refine ⟨W1, es, S1, P0, _, Q, ok1, fr.le le, h1, fun a S2 W2 H2 le2 ok2 h2 => ?_⟩
  refine ⟨W2, es, S2, P0, _, Q, ok2, (fr.le le).le le2, h2, fun b S3 W3 H3 le3 ok3 h3 => ?_⟩
  exact ⟨W3, S3, d, ok3, (rv.mono le2).mono le3, h3.nox⟩
def cutD (ds : List D) (lo hi : Option Int) : List D := (ds.drop (HT.sIx ds.length 0 lo)).take (HT.sIx ds.length ds.length hi - HT.sIx ds.length 0 lo)
theorem Reps.drop {W : Wd} : ∀ {ds : List D} {vs : List V} (n : Nat), Reps Γ W ds vs → Reps Γ W (ds.drop n) (vs.drop n)
  | ds, vs, 0, h => h
  | [], vs, n + 1, h => by simp only [Reps] at h; subst h; exact Reps.nil
  | d :: ds, vs, n + 1, h => by
    simp only [Reps] at h
    obtain ⟨v, vs', rfl, h1, h2⟩ := h
    exact Reps.drop n h2
theorem Reps.take {W : Wd} : ∀ {ds : List D} {vs : List V} (n : Nat), Reps Γ W ds vs → Reps Γ W (ds.take n) (vs.take n)
  | ds, vs, 0, h => Reps.nil
  | [], vs, n + 1, h => by simp only [Reps] at h; subst h; exact Reps.nil
  | d :: ds, vs, n + 1, h => by
    simp only [Reps] at h
    obtain ⟨v, vs', rfl, h1, h2⟩ := h
    exact Reps.cons h1 (Reps.take n h2)
theorem Reps.cut {W : Wd} {ds : List D} {vs : List V} (lo hi : Option Int) (h : Reps Γ W ds vs) : Reps Γ W (cutD ds lo hi) (cutV vs lo hi) := by
  unfold cutD cutV
  rw [h.length]
  exact Reps.take _ (Reps.drop _ h)
def gSlL : D → Option Int → Option Int → Store → Res := fun x lo hi S => match deref S x with
  | .lst ds => .ok (.lst (cutD ds lo hi)) S
  | _ => .bad
theorem sl_gL (hK : X.K = Γ.K) : SlR X (rSD Γ gSlL) := by
  intro pins s σ H x v vl vu lo hi sl Q I rx hs pl pu ⟨W, S, d, ok, rd, h⟩
  unfold gSlL at h
  split at h
  case h_2 => exact h.elim
  rename_i ds hd
  obtain ⟨a, vs, rfl, q1, q2⟩ := asL ok rd hd
  refine sl_list pins s σ H _ v vl vu lo hi sl Q I rx hs pl pu ⟨a, vs, rfl, by rw [hK]; exact q1, fun p hp => ?_⟩
  have l : Le W (W.lay p (.lst (cutV vs lo hi))) := Le.lay (ok.fresh hp).1
  exact h _ _ _ l (ok.lay hp _) (rep_lst ((Reps.cut lo hi q2).mono l.s))
def gSlS : D → Option Int → Option Int → Store → Res := fun x lo hi S => match x with
  | .str z => if z.length ≤ 16777216 then .ok (.str (cutS z lo hi)) S else .bad
  | _ => .bad
theorem sl_gS : SlR X (rSD Γ gSlS) := by
  intro pins s σ H x v vl vu lo hi sl Q I rx hs pl pu ⟨W, S, d, ok, rd, h⟩
  unfold gSlS at h
  split at h
  case h_2 => exact h.elim
  rename_i z
  split at h
  case isFalse => exact h.elim
  rename_i hz
  obtain rfl := rd.str
  exact sl_str pins s σ H _ v vl vu lo hi sl Q I rx hs pl pu ⟨z, rfl, by rw [sizeLine_eq]; exact hz, h W _ H (Le.refl W) ok (by simp only [Rep])⟩
end
end DL
set_option Elab.async false
set_option linter.all false
set_option maxRecDepth 100000
set_option maxHeartbeats 2000000
set_option autoImplicit false
/-! The data layer, 21: stars in displays and arguments. -/
namespace DL
open PySem PySem.Spec PyProof.Rows L2 He
section
variable {Γ : Pg} {ξ : Xx} {X : Cx} {E : WX}
def seqD : D → Option (List D)
  | .lst xs => some xs
  | .tup xs => some xs
  | _ => none
theorem seqD_rep {W : Wd} {d : D} {xs : List D} {v : V} {S : Store} {H : Hp} (ok : Ok Γ W S H) (h : seqD d = some xs) (r : Rep Γ W d v) : ∃ a vs, v = .ref a ∧ (SqT Γ.K H a vs ∨ SqL Γ.K H a vs) ∧ Reps Γ W xs vs := by
  cases d with
  | lst ds =>
    cases h
    simp only [Rep] at r
    obtain ⟨a, vs, rfl, q1, q2⟩ := r
    exact ⟨a, vs, rfl, .inr (sqL_H ok.f q1), q2⟩
  | tup ds =>
    cases h
    simp only [Rep] at r
    obtain ⟨a, vs, rfl, q1, q2⟩ := r
    exact ⟨a, vs, rfl, .inl (sqT_H ok.f q1), q2⟩
  | _ => cases h
def aStar (f : EF) (g : AF) : AF := fun es S => (f es S).bindA fun d S1 => match seqD d with
  | some xs => (g es S1).bindL fun ds S2 => .ok (xs ++ ds) S2
  | none => .bad
theorem da_star {e : Expr} {es : List Expr} {p : Pos} {f : EF} {g : AF} (hK : X.K = Γ.K) (he : PE X e (dE Γ ξ f E)) (hr : PA X es (dA Γ ξ g E)) (hs : starEach (.Starred e p :: es) X.env = (true, eval e X.env) :: starEach es X.env := by rfl) : PA X (.Starred e p :: es) (dA Γ ξ (aStar f g) E) :=
  (StX.pa_star he hr hs).imp fun σ H Q ⟨W, es, S, P0, ok, fr, h⟩ => ⟨W, es, S, P0, ok, fr, Cont.bindA h fun d S1 W1 v H1 le ok1 rv h1 => by
    split at h1
    case h_2 => exact h1.elim
    rename_i xs hx
    obtain ⟨a, vs, rfl, q1, q2⟩ := seqD_rep ok1 hx rv
    refine ⟨a, vs, rfl, by rw [hK]; exact q1, W1, es, S1, P0, ok1, fr.le le, ?_⟩
    cases e : g es S1 with
    | bad => rw [e] at h1; exact h1.elim
    | exc k fs S' => rw [e] at h1; exact h1
    | ok ds S' =>
      rw [e] at h1
      intro W2 ws H2 l2 ok2 rs
      exact h1 W2 _ H2 l2 ok2 ((q2.mono l2.s).append rs)⟩
end
end DL
set_option Elab.async false
set_option linter.all false
set_option maxRecDepth 100000
set_option maxHeartbeats 2000000
set_option autoImplicit false
/-! The data layer, 22: texts and tuples joined. -/
namespace DL
open PySem PySem.Spec PyProof.Rows L2 He
section
variable {Γ : Pg} {ξ : Xx} {X : Cx} {E : WX}
def sCat : D → D → Store → Res := fun x y S => match x, y with
  | .str a, .str b => if a.length + b.length ≤ 16777216 then .ok (.str (a ++ b)) S else .bad
  | _, _ => .bad
theorem op_sCat : OpR X (binaryOp .Add) (rD Γ sCat) := by
  intro pins s σ H x y v u Q I rx ry ⟨W, S, a, b, ok, ra, rb, h⟩
  unfold sCat at h
  split at h
  case h_2 => exact h.elim
  rename_i i j
  split at h
  case isFalse => exact h.elim
  rename_i hz
  simp only [Rep] at ra rb
  subst ra rb
  exact op_add_str pins s σ H _ _ v u Q I rx ry ⟨i, j, rfl, rfl, by rw [sizeLine_eq]; exact hz, h W _ H (Le.refl W) ok (by simp only [Rep])⟩
end
end DL
set_option Elab.async false
set_option linter.all false
set_option maxRecDepth 100000
set_option maxHeartbeats 2000000
set_option autoImplicit false
/-! The data layer, 23: chains, isinstance of several, in, joining, len of one's own, defs in locals, lists of others changed. -/
namespace DL
open PySem PySem.Spec PyProof.Rows L2 He
section
variable {Γ : Pg} {ξ : Xx} {X : Cx} {E : WX}
/-! ### a op b op c -/
def eChain (g g' : D → D → Store → Res) (a b c : EF) : EF := fun es S => (a es S).bind fun x S1 => (b es S1).bind fun y S2 => (g x y S2).nox.bind fun r S3 => match r with
  | .bl true => (c es S3).bind fun z S4 => (g' y z S4).nox
  | .bl false => .ok (.bl false) S3
  | _ => .bad
theorem tChain_of {g g' : D → D → Store → Res} {fa fb fc : EF} {σ : L2.St} {H : Hp} {Q : VK} (h : dE Γ ξ (eChain g g' fa fb fc) E σ H Q) : tChain (rD Γ g) (rD Γ g') (dE Γ ξ fa E) (dE Γ ξ fb E) (dE Γ ξ fc E) σ H Q := by
  obtain ⟨W, es, S, P0, ok, fr, h⟩ := h
  refine ⟨W, es, S, P0, ok, fr, h.bind fun x S1 W1 v1 H1 le1 ok1 r1 h1 => ⟨W1, es, S1, P0, ok1, fr.le le1, h1.bind fun y S2 W2 v2 H2 le2 ok2 r2 h2 => ⟨W2, S2, x, y, ok2, r1.mono le2.s, r2, ?_⟩⟩⟩
  cases e : g x y S2 with
  | bad => rw [e] at h2; exact h2.elim
  | exc k fs S3 => rw [e] at h2; exact h2.elim
  | ok d S3 =>
    rw [e] at h2
    simp only [Res.nox, Res.bind] at h2
    cases d with
    | bl k =>
      intro W3 v H3 le3 ok3 rv
      simp only [Rep] at rv
      refine ⟨k, rv, ?_⟩
      cases k with
      | false =>
        rw [if_neg Bool.false_ne_true]
        exact h2 W3 _ H3 le3 ok3 (by simp only [Rep])
      | true =>
        rw [if_pos rfl]
        exact ⟨W3, es, S3, P0, ok3, ((fr.le le1).le le2).le le3, (h2.le le3).bind fun z S4 W4 v4 H4 le4 ok4 r4 h4 => ⟨W4, S4, y, z, ok4, (r2.mono le3.s).mono le4.s, r4, h4.nox⟩⟩
    | _ => exact h2.elim
section
variable {op op' : CmpOp} {a b c : Expr} {g g' : D → D → Store → Res} {fa fb fc : EF} {pos : Pos}
theorem de_chain (ho : OpR X (compareOp op) (rD Γ g)) (ho' : OpR X (compareOp op') (rD Γ g')) (ha : PE X a (dE Γ ξ fa E)) (hb : PE X b (dE Γ ξ fb E)) (hc : PE X c (dE Γ ξ fc E)) (hm : lastMarks [op, op'] [b, c] = false := by with_unfolding_all rfl) :
    PE X (.Compare a [op, op'] [b, c] pos) (dE Γ ξ (eChain g g' fa fb fc) E) := (pe_chain ho ho' ha hb hc hm).imp fun σ H Q h => tChain_of h
theorem dt_chain (ho : OpR X (compareOp op) (rD Γ g)) (ho' : OpR X (compareOp op') (rD Γ g')) (ha : PE X a (dE Γ ξ fa E)) (hb : PE X b (dE Γ ξ fb E)) (hc : PE X c (dE Γ ξ fc E)) (hm : lastMarks [op, op'] [b, c] = false := by with_unfolding_all rfl) :
    PT X (.Compare a [op, op'] [b, c] pos) (dT Γ ξ (eChain g g' fa fb fc) E) := (pt_chain ho ho' ha hb hc hm).imp fun σ H Q ⟨W, es, S, P0, ok, fr, h⟩ => tChain_of ⟨W, es, S, P0, ok, fr, h.val⟩
end
/-! ### isinstance(x, (A, B)) -/
def isiT (cs : List Nat) (x : D) : List D → Option Bool
  | [] => some false
  | c :: r => match isi1 cs x c, isiT cs x r with
    | some a, some b => some (a || b)
    | _, _ => none
theorem isi1_ty {cs : List Nat} (T : IsF Γ cs) {W : Wd} {x c : D} {b : Bool} {v : V} (h : isi1 cs x c = some b) (r : Rep Γ W c v) : ∃ u, ClsV v u ∧ (∀ t, kind x = some t → PySem.W.kitOne Γ.K (.type t) u = some b) ∧ ∀ k ds, x = .obj k ds → k ∈ cs ∧ PySem.W.kitOne Γ.K (.ref (Γ.cl k)) u = some b := by
  unfold isi1 at h
  split at h
  · rename_i t n hk
    simp only [Rep] at r
    subst r
    refine ⟨_, .ty n, ?_, ?_⟩
    · intro t' ht'
      rw [hk] at ht'
      cases ht'
      exact tyIs_kit h
    · intro k ds e
      subst e
      cases hk
  · rename_i t j hk
    simp only [Rep] at r
    subst r
    split at h
    case isFalse => cases h
    rename_i hj
    cases h
    refine ⟨_, .own _, ?_, ?_⟩
    · intro t' ht'
      exact T.b j hj t' (kind_mem ht')
    · intro k ds e
      subst e
      cases hk
  · rename_i k ds n hk
    simp only [Rep] at r
    subst r
    split at h
    case isFalse => cases h
    rename_i hj
    cases h
    refine ⟨_, .ty n, ?_, ?_⟩
    · intro t' ht'
      cases ht'
    · intro k' ds' e
      cases e
      exact ⟨hj.1, T.t k hj.1 n hj.2⟩
  · rename_i k ds j hk
    simp only [Rep] at r
    subst r
    split at h
    case isFalse => cases h
    rename_i hj
    cases h
    refine ⟨_, .own _, ?_, ?_⟩
    · intro t' ht'
      cases ht'
    · intro k' ds' e
      cases e
      exact ⟨hj.1, T.c k hj.1 j hj.2⟩
  · cases h
theorem isiT_ty {cs : List Nat} (T : IsF Γ cs) {W : Wd} {x : D} : ∀ {ds : List D} {vs : List V} {b : Bool}, isiT cs x ds = some b → Reps Γ W ds vs → ∃ us, Paired ClsV vs us ∧ (∀ t, kind x = some t → PySem.W.kitAny Γ.K (.type t) us = some b) ∧ ∀ k fs, x = .obj k fs → PySem.W.kitAny Γ.K (.ref (Γ.cl k)) us = some b
  | [], vs, b, h, r => by
    simp only [Reps] at r
    subst r
    cases h
    exact ⟨[], .nil, fun t _ => rfl, fun k fs _ => rfl⟩
  | c :: ds, vs, b, h, r => by
    simp only [Reps] at r
    obtain ⟨v, vs', rfl, r1, r2⟩ := r
    unfold isiT at h
    split at h
    case h_2 => cases h
    rename_i a b' ha hb
    cases h
    obtain ⟨u, k1, k2, k3⟩ := isi1_ty T ha r1
    obtain ⟨us, q1, q2, q3⟩ := isiT_ty T hb r2
    refine ⟨u :: us, .cons k1 q1, fun t ht => ?_, fun k fs e => ?_⟩
    · cases a with
      | true => simp only [PySem.W.kitAny, k2 t ht, Bool.true_or]
      | false => simp only [PySem.W.kitAny, k2 t ht, Bool.false_or]; exact q2 t ht
    · cases a with
      | true => simp only [PySem.W.kitAny, (k3 k fs e).2, Bool.true_or]
      | false => simp only [PySem.W.kitAny, (k3 k fs e).2, Bool.false_or]; exact q3 k fs e
theorem clsV_all {X : Cx} {s : Shared} : ∀ {cs : List V} {us ws : List Value}, Paired ClsV cs us → Vals cs ws → ws = us
  | _, _, _, .nil, .nil => rfl
  | _, _, _, .cons k ks, .cons r rs => by rw [k.eq r, clsV_all (X := X) (s := s) ks rs]
def eIsiT (cs : List Nat) (f : EF) (g : AF) : EF := fun es S => (f es S).bind fun x S1 => (g es S1).bind fun ds S2 => if ds.length ≤ 1000 then match isiT cs x ds with
  | some b => .ok (.bl b) S2
  | none => .bad
  else .bad
theorem kind_obj {x : D} (h : kind x = none) {cs : List Nat} {ds : List D} {b : Bool} (hb : isiT cs x ds = some b) (hd : ds ≠ []) : ∃ k fs, x = .obj k fs ∧ k ∈ cs := by
  cases ds with
  | nil => exact absurd rfl hd
  | cons c ds =>
    unfold isiT at hb
    split at hb
    case h_2 => cases hb
    rename_i a b' ha hb'
    unfold isi1 at ha
    split at ha
    · rename_i hk; rw [hk] at h; cases h
    · rename_i hk; rw [hk] at h; cases h
    · split at ha
      · rename_i hk; exact ⟨_, _, rfl, hk.1⟩
      · cases ha
    · split at ha
      · rename_i hk; exact ⟨_, _, rfl, hk.1⟩
      · cases ha
    · cases ha
def rIsD (Γ : Pg) (cs : List Nat) : List V → Hp → VK → Prop := fun vs H Q => ∃ x tp ts W S d ds b, vs = [x, .ref tp] ∧ H tp = some (.tup ts) ∧ ds ≠ [] ∧ Ok Γ W S H ∧ Rep Γ W d x ∧ Reps Γ W ds ts ∧ isiT cs d ds = some b ∧ Q (.bl b) H
theorem cr_isiT {cs : List Nat} (hK : X.K = Γ.K) (T : IsF Γ cs) : CallR X (.builtin "isinstance") (rIsD Γ cs) := by
  intro pins s σ H vs us Q I r ⟨x, tp, ts, W, S, d, ds, b, e, hT, hne, ok, rd, rs, hb, q⟩
  subst e
  obtain ⟨ws, k1, k2, k3⟩ := isiT_ty T hb rs
  cases hk : kind d with
  | some t =>
    exact call_isiT pins s σ H _ us Q I r ⟨x, tp, ts, .type t, ws, b, rfl, hT, k1, by rw [hK]; exact tyX ok rd hk, by rw [hK]; exact k2 t hk, q⟩
  | none =>
    obtain ⟨k, fs, rfl, hcs⟩ := kind_obj hk hb hne
    rcases T.o k hcs with c | ⟨ns, c⟩
    · obtain ⟨p, dx, zs, rfl, q2, q3⟩ := asO c ok rd
      obtain ⟨u1, u2, rfl, r1, r2⟩ := r.two
      cases (show u1 = Value.ref p from r1)
      cases (show u2 = Value.ref tp from r2)
      obtain ⟨sl, od, _, J, _⟩ := SlX.slt_inst I q2
      obtain ⟨_, its, rv, o, h1, h2, n, h3⟩ := (show ObjOk X.prog X.w H s.heap tp (.tup ts) from I.hok tp _ hT)
      have e3 := clsV_all (X := X) (s := s) k1 rv
      subst e3
      obtain ⟨oc, od', dt, sl'⟩ := o
      simp only at h2 h3
      subst h2 h3
      have hc := c.sc
      have hi := c.si
      rw [← hK] at hc hi
      exact PySem.W.kia_tup (OwX.kitx_slt hc.ic (hc.get _) hi.ca hi.cn hi.ct hi.cm) I.kIn J h1 (by rw [hK]; exact k3 k fs rfl) (fun z => nomatch z) fun tk => ⟨.bl b, H, I.tok tk, rfl, q⟩
    · obtain ⟨p, dx, zs, rfl, q2, hl, q3⟩ := asC c ok rd
      exact call_isiT pins s σ H _ us Q I r ⟨_, tp, ts, .ref (Γ.cl k), ws, b, rfl, hT, k1, .base (.ins q2 (by rw [hK]; exact c.cl) (by rw [hK]; exact c.si.ca) (by rw [hK]; exact c.si.cn) (by rw [hK]; exact c.si.ct) (by rw [hK]; exact c.si.cm)), by rw [hK]; exact k3 k fs rfl, q⟩
theorem de_isiT {cs : List Nat} {x : Str} {a : Expr} {ts : List Expr} {f : EF} {g : AF} {x1} {p pos p2 : Pos} (hK : X.K = Γ.K) (T : IsF Γ cs) (hne : ∀ es S ds S', g es S = .ok ds S' → ds ≠ []) (hm : X.mg x = none) (hv : bootBuiltins x = some (.builtin "isinstance")) (ha : PE X a (dE Γ ξ f E)) (hb : PA X ts (dA Γ ξ g E)) (hg : Gl X x := by rfl) (hn : x ≠ "__name__" := by decide) (hdb : (x == ("__debug__" : Str)) = false := by decide)
    (he : starEach (a :: [.Tuple ts x1 p2]) X.env = (false, eval a X.env) :: starEach [.Tuple ts x1 p2] X.env := by rfl) (he2 : starEach ((.Tuple ts x1 p2) :: []) X.env = (false, eval (.Tuple ts x1 p2) X.env) :: starEach [] X.env := by rfl) (hpl : (backTo pos (starEach [.Tuple ts x1 p2] X.env)).any (·.1) = false := by rfl) :
    PE X (.Call (.Name x p) [a, .Tuple ts x1 p2] [] pos) (dE Γ ξ (eIsiT cs f g) E) :=
  (pe_callB (cr_isiT hK T) hg hm hv (pa_cons ha (pa_cons (pe_tup hb) pa_nil he2) he) hn hdb (he := he) (hpl := hpl)).imp fun σ H Q ⟨W, es, S, P0, ok, fr, h⟩ => by
    refine ⟨W, es, S, P0, ok, fr, h.bind fun d S1 W1 v H1 le ok1 rv h1 => ⟨W1, es, S1, P0, ok1, fr.le le, ?_⟩⟩
    cases e : g es S1 with
    | bad => rw [e] at h1; exact h1.elim
    | exc k fs S' => rw [e] at h1; exact h1
    | ok ds S2 =>
      rw [e] at h1
      simp only [ResA.bind] at h1
      intro W2 vs H2 le2 ok2 rs
      split at h1
      case isFalse => exact h1.elim
      rename_i hz
      split at h1
      case h_2 => exact h1.elim
      rename_i b hb
      refine ⟨by rw [rs.length, sizeLine_eq]; omega, fun p hp => ?_⟩
      have l := Le.lay (o := .tup vs) (ok2.fresh hp).1
      exact ⟨v, p, vs, _, S2, d, ds, b, rfl, upd_same, hne _ _ _ _ e, ok2.lay hp _, (rv.mono le2.s).mono l.s, rs.mono l.s, hb, h1 _ _ _ (le2.trans l) (ok2.lay hp _) (by simp only [Rep])⟩
theorem aCons_ne {f : EF} {g : AF} : ∀ es S ds S', aCons f g es S = .ok ds S' → ds ≠ [] := fun es S ds S' h => by
  unfold aCons at h
  cases e : f es S with
  | bad => rw [e] at h; cases h
  | exc k fs S1 => rw [e] at h; cases h
  | ok d S1 =>
    rw [e] at h
    simp only [Res.bindA] at h
    cases e2 : g es S1 with
    | bad => rw [e2] at h; cases h
    | exc k fs S2 => rw [e2] at h; cases h
    | ok ds2 S2 =>
      rw [e2] at h
      cases h
      exact List.cons_ne_nil _ _

/-! ### in -/
def fv : D → Option V
  | .non => some .non
  | .bl b => some (.bl b)
  | .int i => some (.int i)
  | .str x => some (.str x)
  | _ => none
def fvL : List D → Option (List V)
  | [] => some []
  | d :: ds => match fv d, fvL ds with
    | some v, some vs => some (v :: vs)
    | _, _ => none
theorem fv_rep {W : Wd} {d : D} {v u : V} (h : fv d = some u) (r : Rep Γ W d v) : v = u ∧ flatV u = true := by
  cases d with
  | non => cases h; simp only [Rep] at r; exact ⟨r, rfl⟩
  | bl b => cases h; simp only [Rep] at r; exact ⟨r, rfl⟩
  | int b => cases h; simp only [Rep] at r; exact ⟨r, rfl⟩
  | str b => cases h; simp only [Rep] at r; exact ⟨r, rfl⟩
  | _ => cases h
theorem fvL_rep {W : Wd} : ∀ {ds : List D} {vs us : List V}, fvL ds = some us → Reps Γ W ds vs → vs = us ∧ us.all flatV = true
  | [], vs, us, h, r => by
    simp only [Reps] at r
    subst r
    cases h
    exact ⟨rfl, rfl⟩
  | d :: ds, vs, us, h, r => by
    simp only [Reps] at r
    obtain ⟨v, vs', rfl, r1, r2⟩ := r
    unfold fvL at h
    split at h
    case h_2 => cases h
    rename_i v' us' h1 h2
    cases h
    obtain ⟨rfl, f1⟩ := fv_rep h1 r1
    obtain ⟨rfl, f2⟩ := fvL_rep h2 r2
    exact ⟨rfl, by rw [List.all_cons, f1, f2]; rfl⟩
def gIn (neg : Bool) : D → D → Store → Res := fun x y S => match y with
  | .str z => match x with
    | .str a => match a.cps.toList with
      | [c] => .ok (.bl (xor neg (decide (c ∈ z.cps.toList)))) S
      | _ => .bad
    | _ => .bad
  | y => match seqV S y with
    | some (_, ds, _) => match fv x, fvL ds with
      | some v, some vs => .ok (.bl (xor neg (inV v vs))) S
      | _, _ => .bad
    | none => .bad
theorem sign_of {a : Str} {c : Nat} (h : a.cps.toList = [c]) : a = ⟨#[c]⟩ := by
  obtain ⟨⟨l⟩⟩ := a
  simp only at h
  subst h
  rfl
theorem op_gIn (hK : X.K = Γ.K) : OpR X (compareOp .In) (rD Γ (gIn false)) := by
  intro pins s σ H x y v u Q I rx ry ⟨W, S, a, b, ok, ra, rb, h⟩
  unfold gIn at h
  split at h
  · rename_i z
    split at h
    case h_2 => exact h.elim
    rename_i t
    split at h
    case h_2 => exact h.elim
    rename_i c hc
    obtain rfl := sign_of hc
    simp only [Rep] at ra rb
    subst ra rb
    exact op_in_sign pins s σ H _ _ v u Q I rx ry ⟨c, z, rfl, rfl, h W _ H (Le.refl W) ok (by simp only [Rep, Bool.false_xor])⟩
  · split at h
    case h_2 => exact h.elim
    rename_i t ds g hs
    split at h
    case h_2 => exact h.elim
    rename_i w ws h1 h2
    obtain ⟨p, rfl, ⟨vs, q1, q2⟩, _⟩ := src_of ok rb hs
    obtain ⟨rfl, f1⟩ := fv_rep h1 ra
    obtain ⟨rfl, f2⟩ := fvL_rep h2 q2
    refine op_in_seq pins s σ H _ _ v u Q I rx ry ⟨p, _, rfl, ?_, f1, f2, h W _ H (Le.refl W) ok (by simp only [Rep, Bool.false_xor, Bool.false_eq_true, if_false])⟩
    rw [hK]
    cases t with
    | true => exact .inr q1
    | false => exact .inl q1
theorem op_gNotIn (hK : X.K = Γ.K) : OpR X (compareOp .NotIn) (rD Γ (gIn true)) := by
  intro pins s σ H x y v u Q I rx ry ⟨W, S, a, b, ok, ra, rb, h⟩
  unfold gIn at h
  split at h
  · rename_i z
    split at h
    case h_2 => exact h.elim
    rename_i t
    split at h
    case h_2 => exact h.elim
    rename_i c hc
    obtain rfl := sign_of hc
    simp only [Rep] at ra rb
    subst ra rb
    exact op_notIn_sign pins s σ H _ _ v u Q I rx ry ⟨c, z, rfl, rfl, h W _ H (Le.refl W) ok (by simp only [Rep, Bool.true_xor])⟩
  · split at h
    case h_2 => exact h.elim
    rename_i t ds g hs
    split at h
    case h_2 => exact h.elim
    rename_i w ws h1 h2
    obtain ⟨p, rfl, ⟨vs, q1, q2⟩, _⟩ := src_of ok rb hs
    obtain ⟨rfl, f1⟩ := fv_rep h1 ra
    obtain ⟨rfl, f2⟩ := fvL_rep h2 q2
    refine op_notIn_seq pins s σ H _ _ v u Q I rx ry ⟨p, _, rfl, ?_, f1, f2, h W _ H (Le.refl W) ok (by simp only [Rep, Bool.true_xor, if_true])⟩
    rw [hK]
    cases t with
    | true => exact .inr q1
    | false => exact .inl q1
end
end DL
set_option Elab.async false
set_option linter.all false
set_option maxRecDepth 100000
set_option maxHeartbeats 2000000
set_option autoImplicit false
/-! The data layer, 24: joining, len of one's own, defs in locals, lists of others changed, tuples of texts. -/
namespace DL
open PySem PySem.Spec PyProof.Rows L2 He
/-! ### len(x), x an instance with its own __len__ -/
section
variable {prog : Program} {w : World} {A : Around} {E : Value → Shared → Prop} {s : Shared} {K : PySem.W.Frag} {x C f : Addr} {ox : Obj} {odd : Option Obj}
theorem len_own {Q : Value → Shared → Prop} (X : K.In s.heap) (I : PySem.W.InstAt s.heap x ox C odd) (hs : PySem.W.findIn K (.ref C) "__len__" = some (some (.ref f))) (hf : PySem.W.isFn K (.ref f) = true)
    (h : wpAny (model prog w) A.in1 (call (.ref f) [.ref x]) (fun r s₁ => ∃ n u, r = Value.int n u ∧ 0 ≤ n ∧ n < 2 ^ 63 ∧ ∀ tk tk', Q (.int n tk') { s₁ with toks := tk }) E s) : wpAny (model prog w) A (call (.builtin "len") [.ref x]) Q E s := by
  refine Calls.call_function_entry kind_len plain_len entry_len (args_len1 _) ?_
  unfold Builtin.«len»
  refine wpAny_bind (m := oneArg "len" _) (wpAny_pure ?_)
  refine wpAny_bind (m := callSpecial? (.ref x) (PySem.Str.ofString "__len__")) (PySem.W.special_fn X I hs (beq_iff_eq.mp hf) (wpAny_mono h (fun r s' hr => ?_) fun _ _ y => y))
  obtain ⟨n, u, rfl, h0, h1, hq⟩ := hr
  refine wpAny_bind (wpAny_holding (wpAny_pure ?_))
  refine wpAny_bind (wpAny_letGo ?_)
  show wpAny _ _ (if n < 0 then _ else _) _ _ _
  rw [if_neg (by omega)]
  show wpAny _ _ (if n ≥ 2 ^ 63 then _ else _) _ _ _
  rw [if_neg (by omega)]
  exact wpAny_bind (wpAny_mkInt (wpAny_pure ⟨_, rfl, hq _ _⟩))
end
section
variable {Γ : Pg} {ξ : Xx} {X : Cx} {E : WX}
def gLenO (k : Nat) (den : List D → Store → Res) : D → Store → Res := fun x S => if isObj k x then match chk 1 den [x] S with
  | .ok (.int n) S' => if 0 ≤ n ∧ n < 2 ^ 63 then .ok (.int n) S' else .bad
  | _ => .bad
  else .bad
theorem cr_lenO {k j n : Nat} {g : Addr} {P : Program} {w : World} {mg : Str → Option Value} {base : Heap} {den : List D → Store → Res} (hh : Here Γ P w mg base n X E) (hs : PySem.W.findIn Γ.K (.ref (Γ.cl k)) "__len__" = some (some (.ref g))) (hf : PySem.W.isFn Γ.K (.ref g) = true) (G : CalR Γ P w mg base j g 1 den) (hj : j + 1 ≤ n := by decide) : CallR X (.builtin "len") (rC1 Γ (gLenO k den)) := by
  obtain ⟨h1, h2, h3, h4, h5, h6, h7⟩ := hh
  subst h1 h2 h4 h5
  intro pins s σ H vs us Q I r ⟨x, W, S, d, e, ok, rd, h⟩
  subst e
  unfold gLenO at h
  split at h
  case isFalse => exact h.elim
  rename_i hx
  obtain ⟨ds, rfl⟩ := isObj_of hx
  have rd' : Rep Γ W (.obj k ds) x := by
    rcases rd with rd | ⟨_, _, _, e, _⟩
    · exact rd
    · cases e
  obtain ⟨p, dx, ws, rfl, q2, q3⟩ := asI ok rd'
  obtain ⟨u, rfl, ru⟩ := r.one
  obtain rfl : u = Value.ref p := ru
  obtain ⟨o, od, J⟩ := objInst I q2
  split at h
  case h_2 => exact h.elim
  rename_i n' S' hn'
  split at h
  case isFalse => exact h.elim
  rename_i hr
  have run : wpAny (model X.prog X.w) X.A.in1 (call (.ref g) [.ref p]) (EP X pins σ (fun v H' => v = .int n' ∧ Q (.int n') H')) X.xe s := by
    refine wpAny_call (runA (us := [.ref p]) (vs := [.ref p]) (E := fun _ _ _ => False) (by rw [h3]; exact G.run) (Room.in1 (h6.mono hj)) I.env0.in1 (fun _ _ _ _ _ _ z => by
      obtain ⟨_, _, _, _, _, _, _, _, _, _, _, _, z⟩ := z
      exact z.elim) I (.cons rfl .nil) (spD_of ok (Reps.cons rd' Reps.nil) ?_))
    rw [hn']
    intro W' v H' l o rv
    simp only [Rep] at rv
    exact ⟨rv, h W' _ H' l o (by simp only [Rep])⟩
  refine len_own I.kIn J (by rw [h3]; exact hs) (by rw [h3]; exact hf) (wpAny_mono run (fun w s' z => ?_) fun _ _ x => x)
  obtain ⟨z', H', I', rz, ez, qz⟩ := z
  subst ez
  obtain ⟨t, e⟩ := (show ∃ t, w = Value.int n' t from rz)
  subst e
  exact ⟨n', t, rfl, hr.1, hr.2, fun tk tk' => ⟨.int n', H', I'.tok _, ⟨_, rfl⟩, qz⟩⟩

/-! ### list + list, tuple + tuple -/
theorem op_catL : OpR X (binaryOp .Add) (fun x y H Q => ∃ l b xs zs, x = .ref l ∧ y = .ref b ∧ SqL X.K H l xs ∧ SqL X.K H b zs ∧ xs.length + zs.length ≤ sizeLine ∧ ∀ p, H p = none → Q (.ref p) (upd H p (.lst (xs ++ zs)))) := by
  intro pins s σ H x y v u Q I rx ry h
  obtain ⟨l, b, xs, zs, rfl, rfl, hH, hB, hz, q⟩ := h
  cases rx
  cases ry
  obtain ⟨its, r, pl, _⟩ := I.list hH
  obtain ⟨its2, r2, pl2, _⟩ := I.list hB
  obtain ⟨⟨cls, dd, data, sl⟩, ho, hc, n, hd⟩ := pl.isList
  obtain ⟨⟨cls2, dd2, data2, sl2⟩, ho2, hc2, n2, hd2⟩ := pl2.isList
  simp only at hc hd hc2 hd2
  subst hc hd hc2 hd2
  have e : its.toArray ++ its2.toArray = (its ++ its2).toArray := by simp
  have z1 := r.length
  have z2 := r2.length
  refine concat_meets ⟨_, ho, rfl⟩ ⟨_, ho2, rfl⟩ noFill_list_add seq_list_add PySem.F.slot_list_add PySem.F.entry_list_add (PySem.F.args_list_add_2 _ _) (list_addW l b its.toArray its2.toArray n n2 dd dd2 sl sl2 (by rw [List.size_toArray, List.size_toArray]; omega)) ⟨ho, ho2, ?_⟩
  rw [e]
  exact ⟨.ref _, _, I.lnew (t' := s.toks) (r.append r2) (by rw [List.length_append]; omega), rfl, q _ I.fresh⟩
def gCat : D → D → Store → Res := fun x y S => match seqV S x, seqV S y with
  | some (false, xs, _), some (false, ys, _) => if xs.length + ys.length ≤ 16777216 then .ok (.lst (xs ++ ys)) S else .bad
  | some (true, xs, _), some (true, ys, _) => if xs.length + ys.length ≤ 16777216 then .ok (.tup (xs ++ ys)) S else .bad
  | _, _ => .bad
theorem op_gCat (hK : X.K = Γ.K) : OpR X (binaryOp .Add) (rD Γ gCat) := by
  intro pins s σ H x y v u Q I rx ry ⟨W, S, a, b, ok, ra, rb, h⟩
  unfold gCat at h
  split at h
  · rename_i xs g1 ys g2 hx hy
    split at h
    case isFalse => exact h.elim
    rename_i hz
    obtain ⟨p, rfl, ⟨vs, q1, q2⟩, _⟩ := src_of ok ra hx
    obtain ⟨p', rfl, ⟨vs', q1', q2'⟩, _⟩ := src_of ok rb hy
    refine op_catL pins s σ H _ _ v u Q I rx ry ⟨p, p', vs, vs', rfl, rfl, by rw [hK]; exact q1, by rw [hK]; exact q1', by rw [q2.length, q2'.length, sizeLine_eq]; exact hz, fun l hl => ?_⟩
    have le := Le.lay (o := .lst (vs ++ vs')) (ok.fresh hl).1
    exact h _ _ _ le (ok.lay hl _) (rep_lst ((q2.append q2').mono le.s))
  · rename_i xs g1 ys g2 hx hy
    split at h
    case isFalse => exact h.elim
    rename_i hz
    obtain ⟨p, rfl, ⟨vs, q1, q2⟩, _⟩ := src_of ok ra hx
    obtain ⟨p', rfl, ⟨vs', q1', q2'⟩, _⟩ := src_of ok rb hy
    have two : ∀ {d : D} {ds : List D} {g : Gd}, seqV S d = some (true, ds, g) → d = .tup ds := fun {d ds g} e => by
      cases d with
      | tup fs => cases e; rfl
      | cell c =>
        simp only [seqV] at e
        split at e <;> cases e
      | _ => cases e
    refine op_catA pins s σ H _ _ v u Q I rx ry ⟨p, p', vs, vs', rfl, rfl, by rw [hK]; exact q1, by rw [hK]; exact q1', by rw [q2.length, q2'.length, sizeLine_eq]; exact hz, fun e => ?_, fun _ e => ?_, fun _ _ l hl => ?_⟩
    · have : xs = [] := by
        subst e
        exact List.length_eq_zero_iff.mp (q2.length.symm)
      subst this
      have := two hy
      subst this
      exact h W _ H (Le.refl W) ok rb
    · have : ys = [] := by
        subst e
        exact List.length_eq_zero_iff.mp (q2'.length.symm)
      subst this
      have := two hx
      subst this
      rw [List.append_nil] at h
      exact h W _ H (Le.refl W) ok ra
    · have le := Le.lay (o := .tup (vs ++ vs')) (ok.fresh hl).1
      exact h _ _ _ le (ok.lay hl _) (rep_tup ((q2.append q2').mono le.s))
  · exact h.elim

/-! ### a local that holds a def -/
/-- which defs: the class-like number, the arguments, the function -/
abbrev Fns := List (Nat × Nat × (List D → Store → Res))
def fnAt (fs : Fns) (k : Nat) : Option (Nat × (List D → Store → Res)) := match fs with
  | [] => none
  | (j, n, f) :: r => if j = k then some (n, f) else fnAt r k
def eCallV (fs : Fns) (i : Nat) (a : AF) : EF := fun es S => match es[i]? with
  | some (.val (.cls k)) => match fnAt fs k with
    | some (n, f) => (a es S).bind fun ds S1 => (chk n f ds S1).nox
    | none => .bad
  | _ => .bad
structure Hld (Γ : Pg) (P : Program) (w : World) (mg : Str → Option Value) (base : Heap) (k : Nat) (c n : Nat) (den : List D → Store → Res) : Prop where
  ex : ∃ (fd : FuncData) (ps : List Str), FnOk P w Γ.K mg base (L2.CX P w) k (Γ.cl c) fd ps (spD Γ n den) ∧ PySem.W.keepIn Γ.K (.ref (Γ.cl c)) = true ∧ Binds Γ.K fd ps []
theorem hld_of {P : Program} {w : World} {mg : Str → Option Value} {base : Heap} {j k c n : Nat} {x : Str} {den : List D → Store → Res} (C : Cal Γ P w mg base j x n den) (h : mg x = some (.ref (Γ.cl c))) (hj : j ≤ k) : Hld Γ P w mg base k c n den := by
  obtain ⟨fa, fd, ps, F, h1, h2, h3⟩ := (C.mono hj).ex
  rw [h] at h1
  cases h1
  exact ⟨fd, ps, F, h2, h3⟩
theorem de_callV {i l : Nat} {x : Str} {e : Expr} {es : List Expr} {fa : AF} {p pos : Pos} {P : Program} {w : World} {mg : Str → Option Value} {base : Heap} {fs : Fns} (hh : Here Γ P w mg base l X E) (A : ∀ k n f, fnAt fs k = some (n, f) → Hld Γ P w mg base l k n f) (ha : PA X (e :: es) (dA Γ ξ fa E)) (hN : X.N[i]? = some x := by rfl) (hv : Vis X.env.scope x := by first | exact Or.inl rfl | exact Or.inr (Or.inl rfl) | exact Or.inr (Or.inr rfl))
    (hdb : (x == ("__debug__" : Str)) = false := by decide) (hcd : (x == ("__classdict__" : Str)) = false := by decide)
    (he : starEach (e :: es) X.env = (false, eval e X.env) :: starEach es X.env := by rfl) (hpl : (backTo pos (starEach es X.env)).any (·.1) = false := by rfl) : PE X (.Call (.Name x p) (e :: es) [] pos) (dE Γ ξ (eCallV fs i fa) E) := by
  obtain ⟨h1, h2, h3, h4, h5, h6, h7⟩ := hh
  subst h1 h2 h4 h5
  refine ⟨fun pins s σ H Q I ⟨W, es', S, P0, ok, fr, h⟩ => ?_⟩
  unfold eCallV at h
  split at h
  case h_2 => exact h.elim
  rename_i k hi
  split at h
  case h_2 => exact h.elim
  rename_i n f hf
  obtain ⟨fd, ps, F, hk, hb⟩ := (A k n f hf).ex
  obtain ⟨own, fr1, ow⟩ := id fr
  obtain ⟨v, q1, q2⟩ := fr1.val hi
  simp only [Rep] at q2
  subst q2
  refine wpAny_Call_Name_kw (thn ((pe_var (pos := p) hN hv hdb hcd).run pins s σ H (fun v H1 => v = .ref (Γ.cl k) ∧ H1 = H) I ⟨.ref (Γ.cl k), q1, rfl, rfl⟩) fun u s1 ⟨v, H1, I1, r1, e1, e2⟩ => ?_)
  subst e1 e2
  cases r1
  refine PySem.W.callWith_K (h₀ := X.base) I.ok.mod.kin (by rw [h3]; exact hk) (thn (ha.run pos pins s1 σ _ (fun vs H2 => ∃ W2 S2 ds2, Ok Γ W2 S2 H2 ∧ Reps Γ W2 ds2 vs ∧ Cont Γ (chk n f ds2 S2).nox W2 Q (at_ E σ)) I1 ⟨W, es', S, P0, ok, fr, ContA.bind h fun ds1 S1 W1 vs H1 le ok1 rs h1 => ⟨W1, S1, ds1, ok1, rs, h1⟩⟩) fun us s2 ⟨vs, H2, I2, r, W2, S2, ds2, ok2, rs, h2⟩ => ⟨I2.kIn, ?_⟩) he hpl
  have q := spD_of (E := at_ E σ) ok2 rs h2.nox
  rw [← List.append_nil vs] at q
  exact run_fnSD (E := fun σ => at_ E σ) (dvs := []) (ds := []) (by rw [h3]; exact F) h6 (by rw [h3]; exact hb) .nil (pass_of h7 σ) I2 r q

/-! ### o.append(e), o a list of others; o.clear() -/
def sAppC (fo fe : EF) : SF := fun es S => (fo es S).toS es fun o S1 => match o with
  | .cell c => (fe es S1).toS es fun d S2 => match S2[c]? with
    | some ds => if ds.length < 1000000 then .next es (S2.set c (ds ++ [d])) else .bad
    | none => .bad
  | _ => .bad
theorem ds_appC {o e : Expr} {fo fe : EF} {apos cpos pos : Pos} (hK : X.K = Γ.K)
    (P : PE X (.Call (.Attribute o "append" apos) [e] [] cpos) (tBM X.K "list" rAppend (dE Γ ξ fo E) (tCons (dE Γ ξ fe E) tNil))) (hs : swapsWith (.Call (.Attribute o "append" apos) [e] [] cpos) none pos.line X.env = pure false := by rfl) :
    PS X (.Expr (.Call (.Attribute o "append" apos) [e] [] cpos) pos) (dS Γ ξ (sAppC fo fe) E) := (ps_expr P hs).imp fun Dn σ H ⟨W, es, S, P0, ok, fr, h⟩ => by
  refine ⟨W, es, S, P0, ok, fr, ContS.toS fr h fun o S1 W1 ov H1 l1 ok1 r1 h1 => ?_⟩
  cases o with
  | cell c =>
    simp only [Rep] at r1
    obtain ⟨a, rfl, hm⟩ := r1
    obtain ⟨ds0, vs0, q1, q2, q3⟩ := ok1.cell hm
    refine ⟨.inl ⟨rfl, vs0, .inl (.inl q2)⟩, W1, es, S1, P0, ok1, fr.le l1, ContS.toS (fr.le l1) h1 fun d S2 W2 v H2 l2 ok2 rv h2 => ?_⟩
    split at h2
    case h_2 => exact h2.elim
    rename_i ds hc
    split at h2
    case isFalse => exact h2.elim
    rename_i hz
    have hm2 := l2.m _ _ hm
    obtain ⟨ds', vs, k1, k2, k3⟩ := ok2.cell hm2
    rw [hc] at k1
    obtain rfl := Option.some.inj k1
    exact ⟨a, vs, v, rfl, rfl, k2, by rw [k3.length, sizeLine_eq]; omega, h2 W2 σ _ (LeS.refl _) (ok2.cellSet hm2 (k3.append (Reps.cons rv Reps.nil))) ((fr.le l1).le l2)⟩
  | _ => exact h1.elim
def sClearC (fo : EF) : SF := fun es S => (fo es S).toS es fun o S1 => match o with
  | .cell c => match S1[c]? with
    | some _ => .next es (S1.set c [])
    | none => .bad
  | _ => .bad
theorem ds_clearC {o : Expr} {fo : EF} {apos cpos pos : Pos} (hK : X.K = Γ.K)
    (P : PE X (.Call (.Attribute o "clear" apos) [] [] cpos) (tBM0 X.K "list" rClear (dE Γ ξ fo E))) (hs : swapsWith (.Call (.Attribute o "clear" apos) [] [] cpos) none pos.line X.env = pure false := by rfl) :
    PS X (.Expr (.Call (.Attribute o "clear" apos) [] [] cpos) pos) (dS Γ ξ (sClearC fo) E) := (ps_expr P hs).imp fun Dn σ H ⟨W, es, S, P0, ok, fr, h⟩ => by
  refine ⟨W, es, S, P0, ok, fr, ContS.toS fr h fun o S1 W1 ov H1 l1 ok1 r1 h1 => ?_⟩
  cases o with
  | cell c =>
    simp only [Rep] at r1
    obtain ⟨a, rfl, hm⟩ := r1
    obtain ⟨ds0, vs0, q1, q2, q3⟩ := ok1.cell hm
    simp only [q1] at h1
    exact ⟨.inl ⟨rfl, vs0, .inl (.inl q2)⟩, a, vs0, rfl, rfl, q2, h1 W1 σ _ (LeS.refl _) (ok1.cellSet hm Reps.nil) (fr.le l1)⟩
  | _ => exact h1.elim

/-! ### list(x), to be changed later -/
def gListC : D → Store → Res := fun x S => match deref S x with
  | .lst ds => .ok (.cell S.length) (S ++ [ds])
  | .tup ds => .ok (.cell S.length) (S ++ [ds])
  | _ => .bad
theorem Ok.repCell {W : Wd} {S : Store} {H : Hp} (ok : Ok Γ W S H) {p : Addr} : Rep Γ (W.cell p) (.cell S.length) (.ref p) := by
  simp only [Rep]
  refine ⟨p, rfl, ?_⟩
  show (W.m ++ [p])[S.length]? = some p
  rw [← ok.len, List.getElem?_append_right (Nat.le_refl _)]
  simp
theorem cr_listC (hK : X.K = Γ.K) : CallR X (.type "list") (rC1 Γ gListC) := by
  intro pins s σ H vs us Q I r ⟨x, W, S, d, e, ok, rd, h⟩
  subst e
  have go : ∀ {p : Addr} {vs : List V} {ds : List D}, (SqL Γ.K H p vs ∨ SqT Γ.K H p vs) → Reps Γ W ds vs → x = .ref p → Cont Γ (.ok (.cell S.length) (S ++ [ds])) W Q (fun _ _ _ => False) → wpAny (model X.prog X.w) X.A (call (.type "list") us) (EP X pins σ Q) X.xe s := fun {p vs ds} h1 h2 hx h => by
    subst hx
    refine call_list_of pins s σ H _ us Q I r ⟨p, vs, rfl, by rw [hK]; exact h1, fun l hl => ?_⟩
    exact h _ _ _ Le.cell (ok.cellNew hl h2) ok.repCell
  unfold gListC at h
  split at h
  · rename_i ds hd
    obtain ⟨p, vs, hx, h1, h2⟩ := asL ok rd hd
    exact go (.inl h1) h2 hx h
  · rename_i ds hd
    obtain ⟨p, vs, hx, h1, h2⟩ := asT ok rd hd
    exact go (.inr h1) h2 hx h
  · exact h.elim

/-! ### xs[::-1] -/
def gRev : D → Store → Res := fun x S => match deref S x with
  | .lst ds => .ok (.lst ds.reverse) S
  | _ => .bad
theorem de_revL {e : Expr} {f : EF} {k : Nat} {p1 p2 p3 pos : Pos} (hK : X.K = Γ.K) (he : PE X e (dV Γ ξ f E)) : PE X (.Subscript e (.Slice none none (some (.UnaryOp .USub (.Constant (.int 1) k p1) p2)) p3) pos) (dE Γ ξ (eOp1 gRev f) E) := (pe_revL he).imp fun σ H Q ⟨W, es, S, P0, ok, fr, h⟩ => by
  refine ⟨W, es, S, P0, ok, fr, ContV.bind h fun d S1 W1 v H1 le ok1 rv h1 => ?_⟩
  have h1 := Cont.nox (E' := fun _ _ _ => False) h1
  unfold gRev at h1
  split at h1
  case h_2 => exact h1.elim
  rename_i ds hd
  obtain ⟨a, vs, rfl, q1, q2⟩ := asL ok1 rv hd
  refine ⟨a, vs, rfl, by rw [hK]; exact q1, fun p hp => ?_⟩
  have l : Le W1 (W1.lay p (.lst vs.reverse)) := Le.lay (ok1.fresh hp).1
  exact h1 _ _ _ l (ok1.lay hp _) (rep_lst ((Reps.rev q2).mono l.s))

/-! ### a tuple of texts of the module -/
def strsOf : List Value → Option (List Str)
  | [] => some []
  | .str x _ :: r => (strsOf r).map fun ys => x :: ys
  | _ :: _ => none
def tupB (K : PySem.W.Frag) (x : Str) (zs : List Str) : Bool := match PySem.W.nsIn K mainGlobals x with
  | some (some (.ref a)) => match K.lookup a with
    | some ⟨.type "tuple", _, .seq its _, _⟩ => decide (its.size ≤ 1000) && decide (strsOf its.toList = some zs)
    | _ => false
  | _ => false
theorem strsOf_vals : ∀ {us : List Value} {zs : List Str}, strsOf us = some zs → Vals (zs.map V.str) us
  | [], zs, h => by cases h; exact .nil
  | .str x t :: r, zs, h => by
    simp only [strsOf, Option.map_eq_some_iff] at h
    obtain ⟨ys, h1, rfl⟩ := h
    exact .cons ⟨t, rfl⟩ (strsOf_vals h1)
theorem Bs.tup {fn : List DefA} {cks : PySem.W.Frag → List Bool} {mg : Str → Option Value} (B : Bs fn cks Γ.K mg) {x : Str} {zs : List Str} (c : tupB Γ.K x zs = true) : GlobF Γ mg x (.tup (zs.map D.str)) := by
  obtain ⟨h, X, G⟩ := B.mg
  unfold tupB at c
  split at c
  case h_2 => cases c
  rename_i a ha
  split at c
  case h_2 => cases c
  rename_i dd its n sl hl
  obtain ⟨c1, c2⟩ := Bool.and_eq_true_iff.mp c
  have reps : ∀ (W : Wd) (zs : List Str), Reps Γ W (zs.map D.str) (zs.map V.str) := fun W zs => by
    induction zs with
    | nil => exact Reps.nil
    | cons n r ih => exact Reps.cons (by simp only [Rep]) ih
  refine ⟨.ref a, .ref a, PySem.W.mg_of X G ha, rfl, fun W => ?_⟩
  simp only [Rep]
  exact ⟨a, zs.map V.str, rfl, .inr ⟨_, its, n, hl, rfl, rfl, by rw [sizeLine_eq]; have := of_decide_eq_true c1; omega, strsOf_vals (of_decide_eq_true c2)⟩, reps W zs⟩
end
end DL
set_option Elab.async false
set_option linter.all false
set_option maxRecDepth 100000
set_option maxHeartbeats 2000000
set_option autoImplicit false
/-! The data layer, 25: joints for classes whose instances have a dict; defs in locals. -/
namespace DL
open PySem PySem.Spec PyProof.Rows L2 He
section
variable {Γ : Pg} {ξ : Xx} {X : Cx} {E : WX}
/-- if .. else .. as a test -/
theorem pt_ifExp {c a b : Expr} {tc ta tb : TT} {pos : Pos} (hc : PT X c tc) (ha : PT X a ta) (hb : PT X b tb) : PT X (.IfExp c a b pos) (fun σ H Q => tc σ H fun k H1 => if k = true then ta σ H1 Q else tb σ H1 Q) := by
  refine ⟨fun pins s σ H Q I h => ?_⟩
  refine isTrue_IfExp (thn (hc.run pins s σ H _ I h) fun d s1 ⟨H1, I1, q1⟩ => ?_)
  cases d with
  | true => exact ha.run pins s1 σ H1 Q I1 q1
  | false => exact hb.run pins s1 σ H1 Q I1 q1
theorem dt_if {c a b : Expr} {fc fa fb : EF} {pos : Pos} (hc : PT X c (dT Γ ξ fc E)) (ha : PT X a (dT Γ ξ fa E)) (hb : PT X b (dT Γ ξ fb E)) : PT X (.IfExp c a b pos) (dT Γ ξ (eIf fc fa fb) E) := by
  refine ⟨fun pins s σ H Q I ⟨W, es, S, P0, ok, fr, h⟩ => (pt_ifExp hc ha hb).run pins s σ H Q I ?_⟩
  refine ⟨W, es, S, P0, ok, fr, ?_⟩
  unfold eIf at h
  cases e : fc es S with
  | bad => rw [e] at h; exact h.elim
  | exc k fs S' => rw [e] at h; exact h
  | ok d S' =>
    rw [e] at h
    cases d with
    | bl b =>
      intro W1 H1 l o
      cases b with
      | true => rw [if_pos rfl]; exact ⟨W1, es, S', P0, o, fr.le l, ContB.le h l⟩
      | false => rw [if_neg Bool.false_ne_true]; exact ⟨W1, es, S', P0, o, fr.le l, ContB.le h l⟩
    | _ => exact h.elim
end
section
variable {Γ : Pg} {P : Program} {w : World} {mg : Str → Option Value} {base : Heap} {fn : List DefA} {cks : PySem.W.Frag → List Bool} {k : Nat}
theorem initC_of {d : DefA} {fd : FuncData} {N ps : List Str} {n m c : Nat} {body : SF} {fs : List EF} {ns : List Str} (F : FunD Γ.K d.name d.qual d.params d.body d.scope (d.dvs Γ.K) [] (d.at_ Γ.K) fd) (sc : FnScope N ps d.scope) (hn : ps.length = n + 1) (hN : N.length = m)
    (cC : ClF Γ c ns) (hz : ns.length < 900) (hl : fs.length = ns.length)
    (hb : ∀ (ξ : Xx) (cdv : Value) (A : Around) (outer : List Env) (s : Shared) (H : Hp) (Ex : XK), Room k (A.deeper (envOfC d.qual d.scope s.heap.objs.size (d.at_ Γ.K) cdv)) →
      PSs (cxOf (L2.CX P w) P w Γ.K mg base N d.qual d.scope (d.at_ Γ.K) cdv A outer s H Ex) d.body (tSeq (dS Γ ξ body (fun c' d' _ H => Ex c' d' H)) (tFs Γ.K Γ ξ (fun c' d' _ H => Ex c' d' H) ns fs))) :
    FnOk P w Γ.K mg base (L2.CX P w) (k + 1) (d.at_ Γ.K) fd ps (spC Γ c n ns (initC m body fs)) :=
  F.ok sc (spC_len hn) fun cdv A outer s H vs Q Ex hr hsp => by
    obtain ⟨ξ, z⟩ := enterC hN cC hz hl hsp
    exact ⟨_, hb ξ cdv A outer s H Ex hr, z⟩
theorem makC_of {d : DefA} {ps : List Str} {n c : Nat} {x : Str} {dfl : List D} {ns : List Str} {FF : List D → Store → ResA} (B : Bs fn cks Γ.K mg) (i : Nat) (hg : (Fa.glo x).ok Γ.K = true) (hmk : mkB Γ.K (ga Γ.K x) = true)
    (hI : ∀ fd, FunD Γ.K d.name d.qual d.params d.body d.scope (d.dvs Γ.K) [] (d.at_ Γ.K) fd → FnOk P w Γ.K mg base (L2.CX P w) k (d.at_ Γ.K) fd ps (spC Γ c n ns FF))
    (hbd : ∀ fd, FunD Γ.K d.name d.qual d.params d.body d.scope (d.dvs Γ.K) [] (d.at_ Γ.K) fd → ∃ (dvs : List V) (ds : List Value), Binds Γ.K fd ps ds ∧ Vals dvs ds ∧ ∀ W, Reps Γ W dfl dvs)
    (hd : fn[i]? = some d := by rfl) (ha : d.at_ Γ.K = ma Γ.K (ga Γ.K x) "__init__" := by rfl) (hc : Γ.cl c = ga Γ.K x := by rfl) (hat : Γ.at_ c = some ns := by rfl) : MakC Γ P w mg base k x c n ns dfl FF := by
  obtain ⟨fd, F⟩ := B.def_ d (List.mem_of_getElem? hd)
  obtain ⟨dvs, ds, b1, b2, b3⟩ := hbd fd F
  have z := hI fd F
  rw [ha] at z
  exact ⟨hat, _, fd, ps, ds, dvs, by rw [hc]; exact mkB_ok hmk, z, by rw [hc]; exact B.glo hg, b1, b2, b3⟩
abbrev Hlds (Γ : Pg) (P : Program) (w : World) (mg : Str → Option Value) (base : Heap) (l : Nat) (fs : Fns) : Prop := ∀ k n f, fnAt fs k = some (n, f) → Hld Γ P w mg base l k n f
theorem hlds_nil {l : Nat} : Hlds Γ P w mg base l [] := fun _ _ _ h => by cases h
theorem hlds_cons {l j n : Nat} {f : List D → Store → Res} {fs : Fns} (h : Hld Γ P w mg base l j n f) (r : Hlds Γ P w mg base l fs) : Hlds Γ P w mg base l ((j, n, f) :: fs) := fun k n' f' e => by
  unfold fnAt at e
  split at e
  · rename_i hj
    cases e
    rw [← hj]
    exact h
  · exact r k n' f' e
end
end DL
set_option Elab.async false
set_option linter.all false
set_option maxRecDepth 100000
set_option maxHeartbeats 2000000
set_option autoImplicit false
/-! The data layer, 26: a head's hook over a smaller fragment. -/
namespace DL
open PySem PySem.Spec PyProof.Rows L2 He
/-- what a def, a property of a class reaches -/
def sub2E (g : Addr → Option Obj) (b : Addr) : List Addr := match g b with
  | some o => (match o.dict with
    | some d => [d]
    | none => []) ++ match o.data with
    | .func fd => refV fd.code ++ refV fd.defaults
    | .fields vs => vs.toList.flatMap fun v => (refV v).flatMap fun c => c :: match g c with
      | some ⟨_, _, .func fd, _⟩ => refV fd.code
      | _ => []
    | _ => []
  | none => []
def subE (g : Addr → Option Obj) (a : Addr) : List Addr := match g a with
  | some o => (match o.dict with
    | some d => [d]
    | none => []) ++ match o.data with
    | .func fd => refV fd.code ++ refV fd.defaults
    | .cls cd => cd.ns :: match g cd.ns with
      | some ⟨_, _, .dict es _, _⟩ => es.toList.flatMap fun e => (refV e.val).flatMap fun b => b :: sub2E g b
      | _ => []
    | .seq its _ => its.toList.flatMap refV
    | _ => []
  | none => []
def asE (g : Addr → Option Obj) : List Addr := mainGlobals :: ((match g mainGlobals with
  | some ⟨_, _, .dict es _, _⟩ => es.toList.flatMap fun e => (refV e.val).flatMap fun a => a :: subE g a
  | _ => []) ++ [cStatics])
def obsEG (fn : List DefA) (ex : PySem.W.Frag → Bool) (g : Addr → Option Obj) : AlA := obsA fn ex (frG g (asE g))
def hookE (fn : List DefA) (ex : PySem.W.Frag → Bool) : PySem.W.Hook where
  α := AlA
  obs := fun s => obsEG fn ex s.heap.get?
  val := fun _ => valA fn
  says := fun _ h => ∃ K : PySem.W.Frag, K.In h ∧ SaysA fn ex K
  of := fun _ _ e => ⟨_, frG_in, saysA_of e⟩
  keeps := fun _ _ _ ⟨K, hK, c⟩ k => ⟨K, PySem.W.Frag.In.keeps hK k, c⟩
theorem obsEG_eq {fn : List DefA} {ex : PySem.W.Frag → Bool} {g : Addr → Option Obj} {s : Shared} (h : ∀ a, g a = s.heap.get? a) : obsEG fn ex g = (hookE fn ex).obs s := by
  have e : g = s.heap.get? := funext h
  rw [e] <;> rfl
end DL
set_option Elab.async false
set_option linter.all false
set_option maxRecDepth 100000
set_option maxHeartbeats 2000000
set_option autoImplicit false
/-! The data layer, 27: `in` and `.index` on lists of plain data of any depth. -/
namespace DL
open PySem PySem.Spec PyProof.Rows L2
section
variable {Γ : Pg} {ξ : Xx} {X : Cx} {E : WX}
theorem dp_T {W : Wd} {S : Store} {H : Hp} (ok : Ok Γ W S H) {d : D} {v : V} {p : PyData} (r : RepT Γ W d v) (t : toP (thw S d) = some p) : Dp Γ.K H v p := by
  rcases r with r | ⟨a, vs, ds, rfl, rfl, h3, h4⟩
  · exact dp_deref ok r t
  · simp only [thw, thc, toP, Option.map_eq_some_iff] at t
    obtain ⟨ps, t1, rfl⟩ := t
    exact .lst (.inl (.inl (ok.p _ _ h3).1)) (dps_thc ok.f (dp_cell ok 6) h4 t1)
/-- x in xs, x not in xs: the second one may be the frame's own list -/
def gInP (neg : Bool) : D → D → Store → Res := fun x y S => match toP (thw S x), toP (thw S y) with
  | some p, some (.list ps) => if SeqAt.shaped p && SeqAt.shaped (.list ps) then .ok (.bl (xor neg (ps.any fun z => PyData.eqv z p))) S else .bad
  | _, _ => .bad
def rW2 (Γ : Pg) (g : D → D → Store → Res) : R2 := fun x y H Q => ∃ W S a b, Ok Γ W S H ∧ Rep Γ W a x ∧ RepT Γ W b y ∧ Cont Γ (g a b S) W Q (fun _ _ _ => False)
theorem tOpW_of {g : D → D → Store → Res} {fa fb : EF} {σ : L2.St} {H : Hp} {Q : VK} (h : dE Γ ξ (eOp2 g fa fb) E σ H Q) : tOp (rW2 Γ g) (dE Γ ξ fa E) (dV Γ ξ fb E) σ H Q := by
  obtain ⟨W, es, S, P0, ok, fr, h⟩ := h
  refine ⟨W, es, S, P0, ok, fr, h.bind fun d S1 W1 v H1 le ok1 rv h1 => ?_⟩
  refine ⟨W1, es, S1, P0, ok1, fr.le le, ContV.bind h1 fun d2 S2 W2 v2 H2 le2 ok2 rv2 h2 => ?_⟩
  exact ⟨W2, S2, d, d2, ok2, rv.mono le2.s, rv2, h2.nox⟩
theorem op_gInP (hK : X.K = Γ.K) (hu : X.A.units + 65 < cLine) : OpR X (compareOp .In) (rW2 Γ (gInP false)) := by
  intro pins s σ H x y v u Q I rx ry ⟨W, S, a, b, ok, ra, rb, h⟩
  unfold gInP at h
  split at h
  · rename_i p ps hp hq
    split at h
    · rename_i hs
      have hs := Bool.and_eq_true_iff.mp hs
      exact op_inD hu pins s σ H x y v u Q I rx ry ⟨p, ps, by rw [hK]; exact dp_deref ok ra hp, by rw [hK]; exact dp_T ok rb hq, hs.1, hs.2, h W _ H (Le.refl W) ok (by simp only [Rep, Bool.false_xor])⟩
    · exact h.elim
  · exact h.elim
theorem op_gInPn (hK : X.K = Γ.K) (hu : X.A.units + 65 < cLine) : OpR X (compareOp .NotIn) (rW2 Γ (gInP true)) := by
  intro pins s σ H x y v u Q I rx ry ⟨W, S, a, b, ok, ra, rb, h⟩
  unfold gInP at h
  split at h
  · rename_i p ps hp hq
    split at h
    · rename_i hs
      have hs := Bool.and_eq_true_iff.mp hs
      exact op_notInD hu pins s σ H x y v u Q I rx ry ⟨p, ps, by rw [hK]; exact dp_deref ok ra hp, by rw [hK]; exact dp_T ok rb hq, hs.1, hs.2, h W _ H (Le.refl W) ok (by simp only [Rep, Bool.true_xor])⟩
    · exact h.elim
  · exact h.elim
theorem de_cmpW {op : CmpOp} {a b : Expr} {fa fb : EF} {g : D → D → Store → Res} {pos : Pos} (ho : OpR X (compareOp op) (rW2 Γ g)) (ha : PE X a (dE Γ ξ fa E)) (hb : PE X b (dV Γ ξ fb E)) (hm : behindInMarks op b = false := by rfl) : PE X (.Compare a [op] [b] pos) (dE Γ ξ (eOp2 g fa fb) E) :=
  (pe_cmpR ho ha hb hm).imp fun σ H Q h => tOpW_of h
theorem dt_cmpW {op : CmpOp} {a b : Expr} {fa fb : EF} {g : D → D → Store → Res} {pos : Pos} (ho : OpR X (compareOp op) (rW2 Γ g)) (ha : PE X a (dE Γ ξ fa E)) (hb : PE X b (dV Γ ξ fb E)) (hm : behindInMarks op b = false := by rfl) : PT X (.Compare a [op] [b] pos) (dT Γ ξ (eOp2 g fa fb) E) :=
  (pt_cmpR ho ha hb hm).imp fun σ H Q ⟨W, es, S, P0, ok, fr, h⟩ => tOpW_of ⟨W, es, S, P0, ok, fr, h.val⟩
theorem u65_of (h : X.A.units + 66 < cLine) : X.A.units + 65 < cLine := Nat.lt_of_succ_lt h
/-! ### a method of a list with one argument, that changes nothing -/
def isLs (S : Store) (d : D) : Bool := match deref S d with
  | .lst _ => true
  | _ => false
def eMt (g : D → D → Store → Res) (fo fe : EF) : EF := fun es S => (fo es S).bind fun d S1 => if isLs S1 d then (fe es S1).bind fun e S2 => (g d e S2).nox else .bad
def rM1 (Γ : Pg) (g : D → D → Store → Res) : V → List V → Hp → VK → Prop := fun x xs H Q => ∃ W S a b v, xs = [v] ∧ Ok Γ W S H ∧ RepT Γ W a x ∧ Rep Γ W b v ∧ Cont Γ (g a b S) W Q (fun _ _ _ => False)
def gIdx : D → D → Store → Res := fun x y S => match toP (thw S x), toP (thw S y) with
  | some (.list ps), some p => if SeqAt.shaped (.list ps) && SeqAt.shaped p then match ps.findIdx? (fun z => PyData.eqv z p) with
    | some j => .ok (.int j) S
    | none => .bad
    else .bad
  | _, _ => .bad
theorem mt_gIdx (hK : X.K = Γ.K) (hu : X.A.units + 65 < cLine) : MtR X "list.index" (rM1 Γ gIdx) := by
  intro pins s σ H x xs v us Q I rx rxs ⟨W, S, a, b, y, e, ok, ra, rb, h⟩
  subst e
  unfold gIdx at h
  split at h
  · rename_i ps p hq hp
    split at h
    · rename_i hs
      have hs := Bool.and_eq_true_iff.mp hs
      split at h
      · rename_i j hj
        rw [List.findIdx?_eq_some_iff_getElem] at hj
        obtain ⟨hl, h1, h2⟩ := hj
        have dl := dp_T ok ra hq
        have dy := dp_deref ok rb hp
        obtain ⟨ad, rfl⟩ : ∃ ad, x = V.ref ad := by cases dl; exact ⟨_, rfl⟩
        exact mt_indexD hu pins s σ H _ _ v us Q I rx rxs ⟨ad, y, p, ps, j, ps[j], rfl, rfl, by rw [hK]; exact dl, by rw [hK]; exact dy, hs.1, hs.2, List.getElem?_eq_getElem hl, h1, fun m z' hm hz => by
          obtain ⟨hm2, rfl⟩ := List.getElem?_eq_some_iff.mp hz
          exact Bool.eq_false_iff.mpr (h2 m hm), h W _ H (Le.refl W) ok (by simp only [Rep])⟩
      · exact h.elim
    · exact h.elim
  · exact h.elim
theorem tBM_of {g : D → D → Store → Res} {fo fe : EF} {σ : L2.St} {H : Hp} {Q : VK} (h : dE Γ ξ (eMt g fo fe) E σ H Q) : tBM Γ.K "list" (rM1 Γ g) (dV Γ ξ fo E) (tCons (dE Γ ξ fe E) tNil) σ H Q := by
  obtain ⟨W, es, S, P0, ok, fr, h⟩ := h
  refine ⟨W, es, S, P0, ok, fr, ContV.bind h fun d S1 W1 v H1 le ok1 rv h1 => ?_⟩
  split at h1
  · rename_i hl
    have hl' : ∃ ds, deref S1 d = .lst ds := by
      unfold isLs at hl
      split at hl
      · rename_i ds e
        exact ⟨ds, e⟩
      · cases hl
    obtain ⟨ds, hd⟩ := hl'
    obtain ⟨a, vs, rfl, h2, _⟩ := asL ok1 rv hd
    refine ⟨.inl ⟨rfl, vs, h2⟩, W1, es, S1, P0, ok1, fr.le le, h1.bind fun e S2 W2 v2 H2 le2 ok2 rv2 h3 => ?_⟩
    exact ⟨W2, S2, d, e, v2, rfl, ok2, rv.mono le2, rv2, h3.nox⟩
  · exact h1.elim
theorem de_idx {o e : Expr} {fo fe : EF} {apos cpos : Pos} (hK : X.K = Γ.K) (hu : X.A.units + 65 < cLine) (hty : typeOf (.builtin "list.index") = pure (.type "method_descriptor")) (ho : PE X o (dV Γ ξ fo E)) (he : PE X e (dE Γ ξ fe E))
    (hbase : attributeBase o "index" X.env (eval o X.env) = eval o X.env := by rfl)
    (hfew : ((backTo cpos (starEach [e] X.env)).all (fun x => !x.1) && (backToKw cpos (keywordEach [] X.env)).all (fun x => x.1.isSome)
      && decide ([e].length + ([] : List Keyword).length + (if ([] : List Keyword).isEmpty then 0 else 1) < 30)) = true := by rfl)
    (hline : (apos.endLine == cpos.line) = true := by rfl) (hs : starEach [e] X.env = (false, eval e X.env) :: starEach [] X.env := by rfl) (hplain : (backTo cpos (starEach [] X.env)).any (·.1) = false := by rfl) :
    PE X (.Call (.Attribute o "index" apos) [e] [] cpos) (dE Γ ξ (eMt gIdx fo fe) E) :=
  (pe_bm PySem.F.plainAttrs_list PySem.F.slot_list_index hty (mt_gIdx (Γ := Γ) hK hu) ho (pa_cons he pa_nil hs) hbase hfew hline hs hplain).imp fun σ H Q h => by
    rw [hK]
    exact tBM_of h
end
end DL
set_option Elab.async false
set_option linter.all false
set_option maxRecDepth 100000
set_option maxHeartbeats 2000000
set_option autoImplicit false
/-! The data layer, 28: x += e, x -= e with integers. -/
namespace DL
open PySem PySem.Spec PyProof.Rows L2
section
variable {Γ : Pg} {ξ : Xx} {X : Cx} {E : WX}
/-- x op= e -/
def sInc (i : Nat) (o : Int → Int → Int) (f : EF) : SF := fun es S => match es[i]? with
  | some (.val (.int k)) => (f es S).toS es fun d S1 => match d with
    | .int j => .next (es.set i (.val (.int (o k j)))) S1
    | _ => .bad
  | _ => .bad
theorem ds_inc {op : Operator} {o : Int → Int → Int} {i : Nat} {x : Str} {e : Expr} {f : EF} {pos pos' : Pos} (ho : PIp X op (ipI o)) (hN : X.N.Nodup) (he : PE X e (dE Γ ξ f E)) (hi : X.N[i]? = some x := by rfl) (hx : Loc X.env.scope x := by first | exact Or.inl rfl | exact Or.inr rfl)
    (hf : X.fn x = true ∨ X.env.scope.names.lookup x = some .local := by first | exact .inl rfl | exact .inr rfl | assumption) : PS X (.AugAssign (.Name x pos') op e pos) (dS Γ ξ (sInc i o f) E) :=
  (ps_aug hN hi hx he ho hf).imp fun Dn σ H ⟨W, es, S, P0, ok, fr, h⟩ => by
    unfold sInc at h
    split at h
    · rename_i k hk
      obtain ⟨v, hv1, hv2⟩ : ∃ v, σ[i]? = some (some v) ∧ Rep Γ W (.int k) v := by
        obtain ⟨own, fr', ow⟩ := fr
        exact fr'.val hk
      simp only [Rep] at hv2
      subst hv2
      refine ⟨_, hv1, W, es, S, P0, ok, fr, ContS.toS fr h fun d S1 W1 v H1 le ok1 rv h1 => ?_⟩
      cases d with
      | int j =>
        simp only [Rep] at rv
        subst rv
        refine ⟨k, j, rfl, rfl, ?_⟩
        obtain ⟨W', e, ok', fr''⟩ := Frame.set (d := .int (o k j)) (v := .int (o k j)) ok1 (fr.le le) (by simp only [Rep]) i
        exact h1 W' _ H1 e.le ok' fr''
      | _ => exact h1.elim
    · exact h.elim
end
end DL
set_option Elab.async false
set_option linter.all false
set_option maxRecDepth 100000
set_option maxHeartbeats 2000000
set_option autoImplicit false
/-! The data layer, 29: o.pop() of a list in a cell. -/
namespace DL
open PySem PySem.Spec PyProof.Rows L2
section
variable {Γ : Pg} {ξ : Xx} {X : Cx} {E : WX}
theorem Reps.dropLast {W : Wd} : ∀ {ds : List D} {vs : List V}, Reps Γ W ds vs → Reps Γ W ds.dropLast vs.dropLast
  | [], vs, h => by simp only [Reps] at h; subst h; exact Reps.nil
  | [d], vs, h => by
    simp only [Reps] at h
    obtain ⟨v, vs', rfl, h1, rfl⟩ := h
    exact Reps.nil
  | d :: d2 :: ds, vs, h => by
    simp only [Reps] at h
    obtain ⟨v, vs', rfl, h1, h2⟩ := h
    obtain ⟨v2, vs2, rfl, h3, h4⟩ := h2
    have := Reps.dropLast (ds := d2 :: ds) (vs := v2 :: vs2) (by simp only [Reps]; exact ⟨v2, vs2, rfl, h3, h4⟩)
    simp only [List.dropLast_cons_cons]
    exact Reps.cons h1 this
/-- the value is dropped -/
def sPopC (fo : EF) : SF := fun es S => (fo es S).toS es fun o S1 => match o with
  | .cell c => match S1[c]? with
    | some ds => if ds.isEmpty then .bad else .next es (S1.set c ds.dropLast)
    | none => .bad
  | _ => .bad
theorem ds_popC {o : Expr} {fo : EF} {apos cpos pos : Pos} (hK : X.K = Γ.K)
    (P : PE X (.Call (.Attribute o "pop" apos) [] [] cpos) (tBM0 X.K "list" rPop (dE Γ ξ fo E))) (hs : swapsWith (.Call (.Attribute o "pop" apos) [] [] cpos) none pos.line X.env = pure false := by rfl) :
    PS X (.Expr (.Call (.Attribute o "pop" apos) [] [] cpos) pos) (dS Γ ξ (sPopC fo) E) := (ps_expr P hs).imp fun Dn σ H ⟨W, es, S, P0, ok, fr, h⟩ => by
  refine ⟨W, es, S, P0, ok, fr, ContS.toS fr h fun o S1 W1 ov H1 l1 ok1 r1 h1 => ?_⟩
  cases o with
  | cell c =>
    simp only [Rep] at r1
    obtain ⟨a, rfl, hm⟩ := r1
    obtain ⟨ds0, vs0, q1, q2, q3⟩ := ok1.cell hm
    simp only [q1] at h1
    split at h1
    case isTrue => exact h1.elim
    rename_i hne
    have hd : ds0 ≠ [] := fun e => hne (by rw [e]; rfl)
    have hv : 0 < vs0.length := by
      rw [q3.length]
      exact List.length_pos_iff.mpr hd
    exact ⟨.inl ⟨rfl, vs0, .inl (.inl q2)⟩, a, vs0, _, rfl, rfl, q2, List.getElem?_eq_getElem (by omega), h1 W1 σ _ (LeS.refl _) (ok1.cellSet hm q3.dropLast) (fr.le l1)⟩
  | _ => exact h1.elim
end
end DL
set_option Elab.async false
set_option linter.all false
set_option maxRecDepth 100000
set_option maxHeartbeats 2000000
set_option autoImplicit false
/-! The data layer, 30: x != y, x an instance of an own class that has __eq__ and no __ne__. -/
namespace DL
open PySem PySem.Spec PyProof.Rows L2 He
section
variable {prog : Program} {w : World} {A : Around} {E : Value → Shared → Prop} {s : Shared} {K : PySem.W.Frag} {x C f : Addr} {ox : Obj} {odd : Option Obj} {b tb : Value}
theorem objNe_K {Q : Fin → Shared → Prop} (X : K.In s.heap) (I : PySem.W.InstAt s.heap x ox C odd) (hs : PySem.W.findIn K (.ref C) "__eq__" = some (some (.ref f))) (hf : PySem.W.isFn K (.ref f) = true) (hu : A.units < cLine)
    (h : wpAny (model prog w) A (call (.ref f) [.ref x, b]) (fun v s' => ∃ c, v = .bool c ∧ Q (.done (.ret (.bool (!c)))) s') E s) : wpAny (model prog w) A (Builtin.«object.__ne__» ⟨[.ref x, b], []⟩) Q E s := by
  unfold Builtin.«object.__ne__»
  repeat (first
    | with_reducible refine wpAny_cRoomFor hu ?_
    | (refine wpAny_bind (m := callSpecialIfBound? (.ref x) (PySem.Str.ofString "__eq__") [b])
        (PySem.W.ifBound_K X I hs hf (wpAny_mono h (fun r s' hr => by
          obtain ⟨c, rfl, hq⟩ := hr
          repeat (first | exact hq | exact wpAny_pure hq | exact wpAny_truthy_bool hq | (refine wpAny_bind (m := truthy (.bool _)) (wpAny_truthy_bool ?_)) | wp_step)) fun _ _ e => e)))
    | wp_step)
theorem tryNe_K {Q : Option Value → Shared → Prop} (X : K.In s.heap) (I : PySem.W.InstAt s.heap x ox C odd) (hne : PySem.W.findIn K (.ref C) "__ne__" = some (some (.builtin "object.__ne__"))) (hm : PySem.W.mroIn K C (.type "object") = some true)
    (hs : PySem.W.findIn K (.ref C) "__eq__" = some (some (.ref f))) (hf : PySem.W.isFn K (.ref f) = true) (hu : A.units + 1 < cLine)
    (h : wpAny (model prog w) A.in1 (call (.ref f) [.ref x, b]) (fun v s' => ∃ c, v = .bool c ∧ Q (some (.bool (!c))) s') E s) : wpAny (model prog w) A (tryCompare (.ref x) "__ne__" b) Q E s := by
  unfold tryCompare
  refine wpAny_bind ?_
  simp only [callSpecialIfBound?, bindSpecialIfBound?]
  refine wpAny_holding (wpAny_bind (wpAny_bind (wpAny_bind (I.type.here ((PySem.W.looks_findIn X hne).here ?_)))))
  simp only [PySem.F.cmp_object.ne.bind]
  refine wpAny_bind (wpAny_askSetting (wpAny_ite ?_))
  have hi : PySem.W.Looks (model prog w) s.heap (isInstance (.ref x) (.type "object")) true := I.type.andThen (PySem.W.looks_mroIn X hm)
  have fin : wpAny (model prog w) A (call (.builtin "object.__ne__") ([.ref x] ++ [b]) >>= fun v => pure (some v)) (fun r s' => wpAny (model prog w) A (match r with | some .notImplemented | none => pure none | some v => pure (some v)) Q E s') E s :=
    wpAny_bind (wpAny_call (codeAny_call_builtin PySem.F.cmp_object.ne.plain PySem.F.cmpEntry_ne (PySem.W.check_slot PySem.F.cmpKind_ne PySem.F.cmpSplit_ne hi (PySem.F.cmpArgs_ne _ _) (objNe_K (A := A.in1) X I hs hf hu (wpAny_mono h (fun v s' hv => by
      obtain ⟨c, rfl, hq⟩ := hv
      first | exact ⟨c, rfl, wpAny_pure (wpAny_pure hq)⟩ | exact ⟨c, rfl, wpAny_pure hq⟩ | exact ⟨c, rfl, hq⟩) fun _ _ e => e)))))
  split
  · exact wpAny_bind (wpAny_pure (wpAny_pure fin))
  · exact wpAny_tryCatch (wpAny_bind (wpAny_pure (wpAny_pure fin)))
theorem cmpNe_K {Q : Value → Shared → Prop} (X : K.In s.heap) (I : PySem.W.InstAt s.heap x ox C odd) (hb : PySem.W.Looks (model prog w) s.heap (typeOf b) tb) (hn : PySem.W.notFirst K C tb = true) (hne : PySem.W.findIn K (.ref C) "__ne__" = some (some (.builtin "object.__ne__"))) (hm : PySem.W.mroIn K C (.type "object") = some true)
    (hs : PySem.W.findIn K (.ref C) "__eq__" = some (some (.ref f))) (hf : PySem.W.isFn K (.ref f) = true) (hu : A.units + 1 < cLine)
    (h : wpAny (model prog w) A.in1 (call (.ref f) [.ref x, b]) (fun v s' => ∃ c, v = .bool c ∧ Q (.bool (!c)) s') E s) : wpAny (model prog w) A (compareOp .NotEq (.ref x) b) Q E s := by
  have one : wpAny (model prog w) A (tryCompare (.ref x) "__ne__" b) (fun r s' => ∃ v, r = some v ∧ Q v s') E s := tryNe_K X I hne hm hs hf hu (wpAny_mono h (fun v s' hv => by
    obtain ⟨c, rfl, hq⟩ := hv
    exact ⟨c, rfl, _, rfl, hq⟩) fun _ _ e => e)
  show wpAny _ _ (richCompare .NotEq (.ref x) b) _ _ _
  unfold richCompare
  simp only [PySem.oneThing_ref]
  refine wpAny_holding (wpAny_bind (wpAny_cRoomFor (Nat.lt_of_succ_lt hu) ?_))
  refine wpAny_bind (I.type.here (wpAny_bind (hb.here ?_)))
  split
  · rename_i q
    have e : PySem.W.subIn K tb (.ref C) = some false := by
      rcases Bool.or_eq_true_iff.mp hn with e | e
      · rw [beq_iff_eq.mp e] at q; simp at q
      · exact beq_iff_eq.mp e
    refine wpAny_bind ((PySem.W.looks_subIn X e).here ?_)
    simp only [Bool.false_eq_true, if_false]
    refine wpAny_bind (wpAny_mono one (fun r s' z => ?_) fun _ _ e => e)
    obtain ⟨v, rfl, hq⟩ := z
    exact wpAny_pure hq
  · refine wpAny_bind (wpAny_pure ?_)
    simp only [Bool.false_eq_true, if_false]
    refine wpAny_bind (wpAny_mono one (fun r s' z => ?_) fun _ _ e => e)
    obtain ⟨v, rfl, hq⟩ := z
    exact wpAny_pure hq
end
section
variable {Γ : Pg} {ξ : Xx} {X : Cx} {E : WX}
def notR : Res → Res
  | .ok (.bl b) S => .ok (.bl (!b)) S
  | _ => .bad
def gOwnNe (cs : List Nat) (k : Nat) (den : List D → Store → Res) : D → D → Store → Res := fun x y S => notR (gOwnEq cs k den x y S)
structure NeF (Γ : Pg) (k : Nat) : Prop where
  hne : PySem.W.findIn Γ.K (.ref (Γ.cl k)) "__ne__" = some (some (.builtin "object.__ne__"))
  hm : PySem.W.mroIn Γ.K (Γ.cl k) (.type "object") = some true
def neB (K : PySem.W.Frag) (C : Addr) : Bool := eqO (PySem.W.findIn K (.ref C) "__ne__") (some (some (.builtin "object.__ne__"))) && bOB (PySem.W.mroIn K C (.type "object")) (some true)
theorem neB_ok {k : Nat} (h : neB Γ.K (Γ.cl k) = true) : NeF Γ k := by
  unfold neB at h
  obtain ⟨h1, h2⟩ := Bool.and_eq_true_iff.mp h
  exact ⟨eqO_ok h1, bOB_ok h2⟩
theorem op_ownNe {cs : List Nat} {k j n : Nat} {g : Addr} {P : Program} {w : World} {mg : Str → Option Value} {base : Heap} {den : List D → Store → Res} (hh : Here Γ P w mg base n X E) (b : EqF Γ cs k g) (z : NeF Γ k) (G : CalR Γ P w mg base j g 2 den) (hj : j + 1 ≤ n := by decide) : OpR X (compareOp .NotEq) (rD Γ (gOwnNe cs k den)) := by
  obtain ⟨h1, h2, h3, h4, h5, h6, h7⟩ := hh
  subst h1 h2 h4 h5
  intro pins s σ H x y v u Q I rx ry ⟨W, S, a, b', ok, ra, rb, h⟩
  unfold gOwnNe gOwnEq at h
  split at h
  case isFalse => exact h.elim
  rename_i hx
  obtain ⟨ds, rfl⟩ := isObj_of hx
  obtain ⟨p, dx, vs, rfl, q2, q3⟩ := asI ok ra
  obtain rfl : v = Value.ref p := rx
  obtain ⟨m, hF⟩ := I.fr
  obtain ⟨o, od, J⟩ := objInst I q2
  have run : Cont Γ (notR (chk 2 den [.obj k ds, b'] S)) W Q (fun _ _ _ => False) → wpAny (model X.prog X.w) X.A.in1 (call (.ref g) [.ref p, u]) (fun v s' => ∃ c, v = .bool c ∧ EP X pins σ Q (.bool (!c)) s') X.xe s := fun h' => by
    obtain ⟨c, S', hc⟩ : ∃ c S', chk 2 den [.obj k ds, b'] S = .ok (.bl c) S' := by
      unfold notR at h'
      split at h'
      · rename_i c S' e
        exact ⟨c, S', e⟩
      · exact h'.elim
    rw [hc] at h'
    refine wpAny_mono (wpAny_call (runA (Q := fun v H' => v = .bl c ∧ Q (.bl (!c)) H') (us := [.ref p, u]) (vs := [.ref p, y]) (E := fun _ _ _ => False) (by rw [h3]; exact G.run) (Room.in1 (h6.mono hj)) I.env0.in1 (fun _ _ _ _ _ _ z => by
      obtain ⟨_, _, _, _, _, _, _, _, _, _, _, _, z⟩ := z
      exact z.elim) I (.cons rfl (.cons ry .nil)) (spD_of ok (Reps.cons ra (Reps.cons rb Reps.nil)) (by
        rw [hc]
        intro W' v H' l o rv
        simp only [Rep] at rv
        exact ⟨rv, h' W' _ H' l o (by simp only [Rep])⟩)))) (fun w s' z => ?_) fun _ _ x => x
    obtain ⟨z', H', I', rz, ez, qz⟩ := z
    subst ez
    obtain rfl : w = Value.bool c := rz
    exact ⟨c, rfl, .bl (!c), H', I', rfl, qz⟩
  split at h
  · rename_i t hk
    obtain ⟨P, Z, pz, _⟩ := kit_of I ry (show TyX X.K H y (.type t) by rw [h3]; exact tyX ok rb hk)
    exact cmpNe_K I.kIn J (Z.ty _ _ I.kIn pz) (by rw [h3]; exact b.hb t (kind_mem hk)) (by rw [h3]; exact z.hne) (by rw [h3]; exact z.hm) (by rw [h3]; exact b.hs) (by rw [h3]; exact b.hf) (Nat.lt_of_le_of_lt (Nat.add_le_add_left (by decide) _) h6.units) (run h)
  · rename_i j ds' hk
    split at h
    case isFalse => exact h.elim
    rename_i hj'
    obtain ⟨p', dx', vs', rfl, q2', q3'⟩ := asI ok rb
    obtain rfl : u = Value.ref p' := ry
    obtain ⟨o', od', J'⟩ := objInst I q2'
    exact cmpNe_K I.kIn J J'.type (by rw [h3]; exact b.hc j hj') (by rw [h3]; exact z.hne) (by rw [h3]; exact z.hm) (by rw [h3]; exact b.hs) (by rw [h3]; exact b.hf) (Nat.lt_of_le_of_lt (Nat.add_le_add_left (by decide) _) h6.units) (run h)
  · exact h.elim

/-! ### a, b, c = x, y, z -/
def sPar3 (i j l : Nat) (a : AF) : SF := fun es S => match a es S with
  | .ok [d1, d2, d3] S1 => .next (((es.set i (.val d1)).set j (.val d2)).set l (.val d3)) S1
  | .exc k fs S1 => .exc k fs es S1
  | _ => .bad
theorem ds_par3 {i j l : Nat} {x y z : Str} {a b c : Expr} {f : AF} {px py pz pt pos : Pos} {kt k2 pt2} (hc : X.calm = true) (hN : X.N.Nodup) (ha : PA X [a, b, c] (dA Γ ξ f E)) (hi : X.N[i]? = some x := by rfl) (hj : X.N[j]? = some y := by rfl) (hl : X.N[l]? = some z := by rfl)
    (hij : i ≠ j := by decide) (hil : i ≠ l := by decide) (hjl : j ≠ l := by decide)
    (hx : X.env.scope.names.lookup x = some .local := by rfl) (hy : X.env.scope.names.lookup y = some .local := by rfl) (hz : X.env.scope.names.lookup z = some .local := by rfl)
    (hw : swappedStores [.Tuple [.Name x px, .Name y py, .Name z pz] kt pt] (.Tuple [a, b, c] k2 pt2) X.env = pure (some [x, y, z]) := by rfl)
    (hs : swapsWithSole [.Tuple [.Name x px, .Name y py, .Name z pz] kt pt] (.Tuple [a, b, c] k2 pt2) pos.line X.env = pure false := by rfl) : PS X (.Assign [.Tuple [.Name x px, .Name y py, .Name z pz] kt pt] (.Tuple [a, b, c] k2 pt2) pos) (dS Γ ξ (sPar3 i j l f) E) :=
  (ps_par3 hc hN hi hj hl hij hil hjl hx hy hz ha hw hs).imp fun Dn σ H ⟨W, es, S, P0, ok, fr, h⟩ => by
    refine ⟨W, es, S, P0, ok, fr, ?_⟩
    unfold sPar3 at h
    split at h
    · rename_i d1 d2 d3 S1 e
      rw [e]
      intro W1 vs H1 le ok1 rs
      simp only [Reps] at rs
      obtain ⟨v1, _, rfl, r1, v2, _, rfl, r2, v3, _, rfl, r3, rfl⟩ := rs
      obtain ⟨W2, e2, ok2, fr2⟩ := Frame.set ok1 (fr.le le) r1 i
      obtain ⟨W3, e3, ok3, fr3⟩ := Frame.set ok2 fr2 (r2.mono e2.le) j
      obtain ⟨W4, e4, ok4, fr4⟩ := Frame.set ok3 fr3 (r3.mono (e2.le.trans e3.le)) l
      exact ⟨v1, v2, v3, rfl, h W4 _ H1 (le.s.trans (e2.le.trans (e3.le.trans e4.le))) ok4 fr4⟩
    · rename_i k fs S1 e
      rw [e]
      exact fun W1 d H1 l o rx => h W1 σ d H1 l.s o (fr.le l) rx
    · exact h.elim
end
end DL
set_option Elab.async false
set_option linter.all false
set_option maxRecDepth 100000
set_option maxHeartbeats 2000000
set_option autoImplicit false
/-! The data layer, 31: == and != of lists and tuples, at any depth, that hold instances of own classes: each == of two instances runs their def. -/
namespace DL
open PySem PySem.Spec PyProof.Rows L2 He
open AutoSeq1 (wpAny_loadPart')
open MeetsSeq MeetsSeq2 MeetsSeq3 SeqRoads2
section
variable {prog : Program} {w : World}
/-- == tells b from each state of J, and ends in J -/
def EqJ (prog : Program) (w : World) (J : Shared → Prop) (A : Around) (y x : Value) (b : Bool) : Prop := ∀ (E : Value → Shared → Prop) (Q : Bool → Shared → Prop) (s : Shared), J s → (∀ s', J s' → Q b s') → wpAny (model prog w) A (eqBool y x) Q E s
def EqVJ (prog : Program) (w : World) (J : Shared → Prop) (A : Around) (x y : V) (b : Bool) : Prop := ∀ u v, RelV x u → RelV y v → EqJ prog w J A u v b
def LsJ (J : Shared → Prop) (l : Addr) (vs : List V) : Prop := ∀ s, J s → ∃ (items : Array Value) (n : Nat) (dd : Option Addr) (sl : Array (Option Value)), s.heap.get? l = some { cls := .type "list", dict := dd, data := .seq items n, slots := sl } ∧ Vals vs items.toList
def TpJ (J : Shared → Prop) (l : Addr) (vs : List V) : Prop := ∀ s, J s → ∃ (items : Array Value) (n : Nat) (dd : Option Addr) (sl : Array (Option Value)), s.heap.get? l = some { cls := .type "tuple", dict := dd, data := .seq items n, slots := sl } ∧ Vals vs items.toList
theorem vals_size {vs : List V} {items : Array Value} (r : Vals vs items.toList) : items.size = vs.length := by
  have := r.length
  simpa using this.symm
theorem vals_at {vs : List V} {items : Array Value} {i : Nat} (r : Vals vs items.toList) (h : i < vs.length) : ∃ x u, vs[i]? = some x ∧ items[i]? = some u ∧ RelV x u := by
  obtain ⟨u, h1, h2⟩ := r.get (List.getElem?_eq_getElem h)
  exact ⟨_, u, List.getElem?_eq_getElem h, by simpa using h1, h2⟩
theorem eq_loopJ {J : Shared → Prop} {l b : Addr} {vs us : List V} (hsz : vs.length = us.length) (e : Nat → Bool) (hl : LsJ J l vs) (hb : LsJ J b us) (k : Nat) :
    ∀ i : Nat, vs.length - i = k → MeetsIn prog w (Builtin.«list.__eq__.loop» ⟨[.ref l, .ref b, rawInt i, rawInt 2], []⟩)
      (fun A R s => J s ∧ (∀ j x y, vs[j]? = some x → us[j]? = some y → EqVJ prog w J A.in1 x y (e j)) ∧ ∀ s', J s' → R (.ok (.ret (.bool (((List.range vs.length).drop i).all e)))) s') := by
  induction k with
  | zero =>
    intro i hk A R s h
    obtain ⟨hp, g, d, tk, os⟩ := s; obtain ⟨hJ, he, h⟩ := h
    obtain ⟨items, n, dd, sl, ho, r⟩ := hl _ hJ
    obtain ⟨items2, n2, dd2, sl2, ho2, r2⟩ := hb _ hJ
    have s1 := vals_size r
    have s2 := vals_size r2
    wp_walk using wpAny_loadPart' ho, wpAny_loadPart' ho2
    have hi1 : items[((i : Nat) : Int).toNat]? = none := by simp; omega
    have hi2 : items2[((i : Nat) : Int).toNat]? = none := by simp; omega
    have hd : (List.range vs.length).drop i = [] := by simp; omega
    rw [hd] at h
    rw [hi1, hi2]
    wp_walk using wpAny_loadPart' ho, wpAny_loadPart' ho2
    show R (.ok (.ret (.bool (items.size == items2.size)))) _
    rw [s1, s2, hsz]
    simpa using h _ hJ
  | succ k ih =>
    intro i hk A R s h
    obtain ⟨hp, g, d, tk, os⟩ := s; obtain ⟨hJ, he, h⟩ := h
    obtain ⟨items, n, dd, sl, ho, r⟩ := hl _ hJ
    obtain ⟨items2, n2, dd2, sl2, ho2, r2⟩ := hb _ hJ
    have hlt : i < vs.length := by omega
    have hlt2 : i < us.length := by omega
    obtain ⟨x, u, x1, x2, x3⟩ := vals_at r hlt
    obtain ⟨y, v, y1, y2, y3⟩ := vals_at r2 hlt2
    wp_walk using wpAny_loadPart' ho, wpAny_loadPart' ho2
    have hi1 : items[((i : Nat) : Int).toNat]? = some u := by simpa using x2
    have hi2 : items2[((i : Nat) : Int).toNat]? = some v := by simpa using y2
    have hd : (List.range vs.length).drop i = i :: (List.range vs.length).drop (i + 1) := by simp [List.drop_eq_getElem_cons, hlt]
    have hc : ((i : Int) + 1) = ((i + 1 : Nat) : Int) := by push_cast; rfl
    rw [hd, List.all_cons] at h
    rw [hi1, hi2]
    refine wpAny_bind (he i x y x1 y1 u v x3 y3 _ _ _ hJ fun s' hJ' => ?_)
    obtain ⟨hp', g', d', tk', os'⟩ := s'
    cases hb' : e i with
    | true =>
      rw [hb'] at h
      wp_walk
      rw [hc]
      exact ⟨plainId_quiet plain_eq_loop _, codeAny_builtin entry_eq_loop (by
        rw [Around.under_plainId plain_eq_loop _]
        exact ih (i + 1) (by omega) A R _ ⟨hJ', he, fun s'' h'' => by simpa using h s'' h''⟩)⟩
    | false =>
      rw [hb'] at h
      obtain ⟨items', n', dd', sl', ho', r'⟩ := hl _ hJ'
      obtain ⟨items2', n2', dd2', sl2', ho2', r2'⟩ := hb _ hJ'
      obtain ⟨x', u', _, x2', _⟩ := vals_at r' hlt
      obtain ⟨y', v', _, y2', _⟩ := vals_at r2' hlt2
      have hi1' : items'[((i : Nat) : Int).toNat]? = some u' := by simpa using x2'
      have hi2' : items2'[((i : Nat) : Int).toNat]? = some v' := by simpa using y2'
      wp_walk using wpAny_loadPart' ho', wpAny_loadPart' ho2'
      rw [hi1', hi2']
      wp_walk
      simpa using h _ hJ'
theorem ne_loopJ {J : Shared → Prop} {l b : Addr} {vs us : List V} (hsz : vs.length = us.length) (e : Nat → Bool) (hl : LsJ J l vs) (hb : LsJ J b us) (k : Nat) :
    ∀ i : Nat, vs.length - i = k → MeetsIn prog w (Builtin.«list.__eq__.loop» ⟨[.ref l, .ref b, rawInt i, rawInt 3], []⟩)
      (fun A R s => J s ∧ (∀ j x y, vs[j]? = some x → us[j]? = some y → EqVJ prog w J A.in1 x y (e j)) ∧ ∀ s', J s' → R (.ok (.ret (.bool (!((List.range vs.length).drop i).all e)))) s') := by
  induction k with
  | zero =>
    intro i hk A R s h
    obtain ⟨hp, g, d, tk, os⟩ := s; obtain ⟨hJ, he, h⟩ := h
    obtain ⟨items, n, dd, sl, ho, r⟩ := hl _ hJ
    obtain ⟨items2, n2, dd2, sl2, ho2, r2⟩ := hb _ hJ
    have s1 := vals_size r
    have s2 := vals_size r2
    wp_walk using wpAny_loadPart' ho, wpAny_loadPart' ho2
    have hi1 : items[((i : Nat) : Int).toNat]? = none := by simp; omega
    have hi2 : items2[((i : Nat) : Int).toNat]? = none := by simp; omega
    have hd : (List.range vs.length).drop i = [] := by simp; omega
    rw [hd] at h
    rw [hi1, hi2]
    wp_walk using wpAny_loadPart' ho, wpAny_loadPart' ho2
    show R (.ok (.ret (.bool (items.size != items2.size)))) _
    rw [s1, s2, hsz]
    simpa using h _ hJ
  | succ k ih =>
    intro i hk A R s h
    obtain ⟨hp, g, d, tk, os⟩ := s; obtain ⟨hJ, he, h⟩ := h
    obtain ⟨items, n, dd, sl, ho, r⟩ := hl _ hJ
    obtain ⟨items2, n2, dd2, sl2, ho2, r2⟩ := hb _ hJ
    have hlt : i < vs.length := by omega
    have hlt2 : i < us.length := by omega
    obtain ⟨x, u, x1, x2, x3⟩ := vals_at r hlt
    obtain ⟨y, v, y1, y2, y3⟩ := vals_at r2 hlt2
    wp_walk using wpAny_loadPart' ho, wpAny_loadPart' ho2
    have hi1 : items[((i : Nat) : Int).toNat]? = some u := by simpa using x2
    have hi2 : items2[((i : Nat) : Int).toNat]? = some v := by simpa using y2
    have hd : (List.range vs.length).drop i = i :: (List.range vs.length).drop (i + 1) := by simp [List.drop_eq_getElem_cons, hlt]
    have hc : ((i : Int) + 1) = ((i + 1 : Nat) : Int) := by push_cast; rfl
    rw [hd, List.all_cons] at h
    rw [hi1, hi2]
    refine wpAny_bind (he i x y x1 y1 u v x3 y3 _ _ _ hJ fun s' hJ' => ?_)
    obtain ⟨hp', g', d', tk', os'⟩ := s'
    cases hb' : e i with
    | true =>
      rw [hb'] at h
      wp_walk
      rw [hc]
      exact ⟨plainId_quiet plain_eq_loop _, codeAny_builtin entry_eq_loop (by
        rw [Around.under_plainId plain_eq_loop _]
        exact ih (i + 1) (by omega) A R _ ⟨hJ', he, fun s'' h'' => by simpa using h s'' h''⟩)⟩
    | false =>
      rw [hb'] at h
      obtain ⟨items', n', dd', sl', ho', r'⟩ := hl _ hJ'
      obtain ⟨items2', n2', dd2', sl2', ho2', r2'⟩ := hb _ hJ'
      obtain ⟨x', u', _, x2', _⟩ := vals_at r' hlt
      obtain ⟨y', v', _, y2', _⟩ := vals_at r2' hlt2
      have hi1' : items'[((i : Nat) : Int).toNat]? = some u' := by simpa using x2'
      have hi2' : items2'[((i : Nat) : Int).toNat]? = some v' := by simpa using y2'
      wp_walk using wpAny_loadPart' ho', wpAny_loadPart' ho2'
      rw [hi1', hi2']
      wp_walk
      simpa using h _ hJ'
theorem list_eqJ {J : Shared → Prop} {l b : Addr} {vs us : List V} (hsz : vs.length = us.length) (e : Nat → Bool) (hl : LsJ J l vs) (hb : LsJ J b us) :
    MeetsIn prog w (Builtin.«list.__eq__» ⟨[.ref l, .ref b], []⟩)
      (fun A R s => J s ∧ (∀ j x y, vs[j]? = some x → us[j]? = some y → EqVJ prog w J A.in1 x y (e j)) ∧ ∀ s', J s' → R (.ok (.ret (.bool ((List.range vs.length).all e)))) s') := by
  intro A R s h
  obtain ⟨hp, g, d, tk, os⟩ := s; obtain ⟨hJ, he, h⟩ := h
  obtain ⟨items, n, dd, sl, ho, r⟩ := hl _ hJ
  obtain ⟨items2, n2, dd2, sl2, ho2, r2⟩ := hb _ hJ
  have s1 := vals_size r
  have s2 := vals_size r2
  have f3 := AutoSeq1.sub_list_list
  have hne : ¬ (items.size != items2.size) = true := by simp [s1, s2, hsz]
  wp_walk using wpAny_loadPart' ho, wpAny_loadPart' ho2
  exact ⟨plainId_quiet plain_eq_loop _, codeAny_builtin entry_eq_loop (by
    rw [Around.under_plainId plain_eq_loop _]
    exact eq_loopJ hsz e hl hb _ 0 rfl A R _ ⟨hJ, he, fun s' h' => by simpa using h s' h'⟩)⟩
theorem list_neJ {J : Shared → Prop} {l b : Addr} {vs us : List V} (hsz : vs.length = us.length) (e : Nat → Bool) (hl : LsJ J l vs) (hb : LsJ J b us) :
    MeetsIn prog w (Builtin.«list.__ne__» ⟨[.ref l, .ref b], []⟩)
      (fun A R s => J s ∧ (∀ j x y, vs[j]? = some x → us[j]? = some y → EqVJ prog w J A.in1 x y (e j)) ∧ ∀ s', J s' → R (.ok (.ret (.bool (!(List.range vs.length).all e)))) s') := by
  intro A R s h
  obtain ⟨hp, g, d, tk, os⟩ := s; obtain ⟨hJ, he, h⟩ := h
  obtain ⟨items, n, dd, sl, ho, r⟩ := hl _ hJ
  obtain ⟨items2, n2, dd2, sl2, ho2, r2⟩ := hb _ hJ
  have s1 := vals_size r
  have s2 := vals_size r2
  have f3 := AutoSeq1.sub_list_list
  have hne : ¬ (items.size != items2.size) = true := by simp [s1, s2, hsz]
  wp_walk using wpAny_loadPart' ho, wpAny_loadPart' ho2
  exact ⟨plainId_quiet plain_eq_loop _, codeAny_builtin entry_eq_loop (by
    rw [Around.under_plainId plain_eq_loop _]
    exact ne_loopJ hsz e hl hb _ 0 rfl A R _ ⟨hJ, he, fun s' h' => by simpa using h s' h'⟩)⟩
theorem tuple_eqJ {J : Shared → Prop} {l b : Addr} {vs us : List V} (e : Nat → Bool) (hl : TpJ J l vs) (hb : TpJ J b us) :
    MeetsIn prog w (Builtin.«tuple.__eq__» ⟨[.ref l, .ref b], []⟩)
      (fun A R s => J s ∧ (∀ j x y, vs[j]? = some x → us[j]? = some y → EqVJ prog w J A.in1 x y (e j)) ∧ ∀ s', J s' → R (.ok (.ret (.bool ((List.range (min vs.length us.length)).all e && vs.length == us.length)))) s') :=
  .of_wp fun A R s h => by
    obtain ⟨hp, g, d, tk, os⟩ := s; obtain ⟨hJ, he, h⟩ := h
    obtain ⟨items, n, dd, sl, ho, r⟩ := hl _ hJ
    obtain ⟨items2, n2, dd2, sl2, ho2, r2⟩ := hb _ hJ
    have s1 := vals_size r
    have s2 := vals_size r2
    have f2 := AutoSeq1.sub_tuple_tuple
    have hZ : (items.toList.zip items2.toList).length = min vs.length us.length := by simp [s1, s2]
    wp_walk using wpAny_loadPart' ho, wpAny_loadPart' ho2, wpAny_forIn_list _ (fun rest b s' => b.1 = none ∧ J s' ∧ ∃ i, rest = (items.toList.zip items2.toList).drop i ∧
      ∀ s'', J s'' → R (.ok (.ret (.bool (((List.range (min vs.length us.length)).drop i).all e && vs.length == us.length)))) s'') _
    case turn =>
      rintro ⟨y, x⟩ rest b s' ⟨hb', hJ', i, hz, hR⟩
      have hlt : i < (items.toList.zip items2.toList).length := by
        rcases Nat.lt_or_ge i (items.toList.zip items2.toList).length with h' | h'
        · exact h'
        · rw [List.drop_of_length_le h'] at hz; cases hz
      have hm : i < min vs.length us.length := hZ ▸ hlt
      have h1 : i < vs.length := Nat.lt_of_lt_of_le hm (Nat.min_le_left _ _)
      have h2 : i < us.length := Nat.lt_of_lt_of_le hm (Nat.min_le_right _ _)
      obtain ⟨x', u, x1, x2, x3⟩ := vals_at r h1
      obtain ⟨y', v, y1, y2, y3⟩ := vals_at r2 h2
      have i1 : i < items.size := by omega
      have i2 : i < items2.size := by omega
      rw [List.drop_eq_getElem_cons hlt] at hz
      injection hz with hyx hrest
      have hy : y = u := by
        have := congrArg Prod.fst hyx
        rw [Array.getElem?_eq_getElem i1] at x2
        have e2 := Option.some.inj x2
        rw [← e2]
        simpa using this
      have hx : x = v := by
        have := congrArg Prod.snd hyx
        rw [Array.getElem?_eq_getElem i2] at y2
        have e2 := Option.some.inj y2
        rw [← e2]
        simpa using this
      subst hy hx
      have hd : (List.range (min vs.length us.length)).drop i = i :: (List.range (min vs.length us.length)).drop (i + 1) := by simp [List.drop_eq_getElem_cons, hm]
      rw [hd, List.all_cons] at hR
      refine wpAny_bind (he i x' y' x1 y1 _ _ x3 y3 _ _ _ hJ' fun s2 hJ2 => ?_)
      cases hy : e i with
      | true =>
        rw [hy] at hR
        wp_walk
        exact ⟨rfl, hJ2, i + 1, hrest, fun s3 h3 => by simpa using hR s3 h3⟩
      | false =>
        rw [hy] at hR
        wp_walk
        exact ⟨_, rfl, by simpa using hR _ hJ2⟩
    case fin =>
      rintro ⟨b1, b2⟩ s' ⟨hb', hJ', i, hz, hR⟩
      simp only at hb'
      subst hb'
      have hge : min vs.length us.length ≤ i := by
        rcases Nat.lt_or_ge i (items.toList.zip items2.toList).length with h' | h'
        · rw [List.drop_eq_getElem_cons h'] at hz; cases hz
        · exact hZ ▸ h'
      rw [List.drop_of_length_le (by simpa using hge)] at hR
      wp_walk
      exact ⟨_, rfl, by simpa [Builtin.Tuple.tupleCompareSizes, s1, s2] using hR _ hJ'⟩
    case h =>
      exact ⟨rfl, hJ, 0, rfl, fun s' h' => by simpa using h s' h'⟩
/-! ### richCompare -/
variable {A : Around} {J : Shared → Prop} {l b : Addr} {vs us : List V} {e : Nat → Bool}
theorem rcJ_lists {s : Shared} (hJ : J s) (hl : LsJ J l vs) (hb : LsJ J b us) (hsz : vs.length = us.length) (hu : A.units < cLine) (he : ∀ j x y, vs[j]? = some x → us[j]? = some y → EqVJ prog w J A.in1 x y (e j))
    (E Q : Value → Shared → Prop) (h : ∀ s', J s' → Q (.bool ((List.range vs.length).all e)) s') : wpAny (model prog w) A (richCompare .Eq (.ref l) (.ref b)) Q E s := by
  obtain ⟨items, n, dd, sl, ho, r⟩ := hl _ hJ
  obtain ⟨items2, n2, dd2, sl2, ho2, r2⟩ := hb _ hJ
  have ta : s.TypeIs (.ref l) "list" := ⟨_, ho, rfl⟩
  have tb : s.TypeIs (.ref b) "list" := ⟨_, ho2, rfl⟩
  exact wpAny_richCompare_same_room (op := .Eq) ta tb PySem.F.slot_list_eq (call_meetsIn PySem.F.slot_list_eq ta PySem.F.entry_list_eq (PySem.F.args_list_eq_2 _ _) (list_eqJ hsz e hl hb)
    ⟨hJ, he, fun s' hs' => show Value.bool ((List.range vs.length).all e) ≠ Value.notImplemented ∧ Q (.bool ((List.range vs.length).all e)) s' from ⟨(fun x => nomatch x), h s' hs'⟩⟩) hu
theorem rcJ_listsNe {s : Shared} (hJ : J s) (hl : LsJ J l vs) (hb : LsJ J b us) (hsz : vs.length = us.length) (hu : A.units < cLine) (he : ∀ j x y, vs[j]? = some x → us[j]? = some y → EqVJ prog w J A.in1 x y (e j))
    (E Q : Value → Shared → Prop) (h : ∀ s', J s' → Q (.bool (!(List.range vs.length).all e)) s') : wpAny (model prog w) A (richCompare .NotEq (.ref l) (.ref b)) Q E s := by
  obtain ⟨items, n, dd, sl, ho, r⟩ := hl _ hJ
  obtain ⟨items2, n2, dd2, sl2, ho2, r2⟩ := hb _ hJ
  have ta : s.TypeIs (.ref l) "list" := ⟨_, ho, rfl⟩
  have tb : s.TypeIs (.ref b) "list" := ⟨_, ho2, rfl⟩
  exact wpAny_richCompare_same_room (op := .NotEq) ta tb PySem.F.slot_list_ne (call_meetsIn PySem.F.slot_list_ne ta PySem.F.entry_list_ne (PySem.F.args_list_ne_2 _ _) (list_neJ hsz e hl hb)
    ⟨hJ, he, fun s' hs' => show Value.bool (!(List.range vs.length).all e) ≠ Value.notImplemented ∧ Q (.bool (!(List.range vs.length).all e)) s' from ⟨(fun x => nomatch x), h s' hs'⟩⟩) hu
theorem rcJ_lens {s : Shared} (hJ : J s) (hl : LsJ J l vs) (hb : LsJ J b us) (hsz : vs.length ≠ us.length) (hu : A.units < cLine) (E Q : Value → Shared → Prop) (h : Q (.bool false) s) : wpAny (model prog w) A (richCompare .Eq (.ref l) (.ref b)) Q E s := by
  obtain ⟨items, n, dd, sl, ho, r⟩ := hl _ hJ
  obtain ⟨items2, n2, dd2, sl2, ho2, r2⟩ := hb _ hJ
  have s1 := vals_size r
  have s2 := vals_size r2
  exact SeqAt.RcAt.lists_lengths (A := A) (s := s) ⟨_, ho, rfl, _, rfl⟩ ⟨_, ho2, rfl, _, rfl⟩ (by simp [s1, s2, hsz]) hu prog w E Q h
theorem rcJ_lensNe {s : Shared} (hJ : J s) (hl : LsJ J l vs) (hb : LsJ J b us) (hsz : vs.length ≠ us.length) (hu : A.units < cLine) (E Q : Value → Shared → Prop) (h : Q (.bool true) s) : wpAny (model prog w) A (richCompare .NotEq (.ref l) (.ref b)) Q E s := by
  obtain ⟨items, n, dd, sl, ho, r⟩ := hl _ hJ
  obtain ⟨items2, n2, dd2, sl2, ho2, r2⟩ := hb _ hJ
  have s1 := vals_size r
  have s2 := vals_size r2
  exact SeqAt.RcNeAt.lists_lengths (A := A) (s := s) ⟨_, ho, rfl, _, rfl⟩ ⟨_, ho2, rfl, _, rfl⟩ (by simp [s1, s2, hsz]) hu prog w E Q h
theorem rcJ_tuples {s : Shared} (hJ : J s) (hl : TpJ J l vs) (hb : TpJ J b us) (hu : A.units < cLine) (he : ∀ j x y, vs[j]? = some x → us[j]? = some y → EqVJ prog w J A.in1 x y (e j))
    (E Q : Value → Shared → Prop) (h : ∀ s', J s' → Q (.bool ((List.range (min vs.length us.length)).all e && vs.length == us.length)) s') : wpAny (model prog w) A (richCompare .Eq (.ref l) (.ref b)) Q E s := by
  obtain ⟨items, n, dd, sl, ho, r⟩ := hl _ hJ
  obtain ⟨items2, n2, dd2, sl2, ho2, r2⟩ := hb _ hJ
  have ta : s.TypeIs (.ref l) "tuple" := ⟨_, ho, rfl⟩
  have tb : s.TypeIs (.ref b) "tuple" := ⟨_, ho2, rfl⟩
  exact wpAny_richCompare_same_room (op := .Eq) ta tb PySem.F.slot_tuple_eq (call_meetsIn PySem.F.slot_tuple_eq ta PySem.F.entry_tuple_eq (PySem.F.args_tuple_eq_2 _ _) (tuple_eqJ e hl hb)
    ⟨hJ, he, fun s' hs' => show Value.bool ((List.range (min vs.length us.length)).all e && vs.length == us.length) ≠ Value.notImplemented ∧ Q (.bool ((List.range (min vs.length us.length)).all e && vs.length == us.length)) s' from ⟨(fun x => nomatch x), h s' hs'⟩⟩) hu
/-- from richCompare to the truth of == -/
theorem eqJ_refs {l b : Addr} {k : Bool} (hs : ∀ s, J s → l = b → k = true) (h : ∀ (s : Shared) (E Q : Value → Shared → Prop), J s → (∀ s', J s' → Q (.bool k) s') → wpAny (model prog w) A (richCompare .Eq (.ref l) (.ref b)) Q E s) : EqJ prog w J A (.ref l) (.ref b) k := fun E Q s hJ hq => by
  unfold eqBool
  refine wpAny_holding ?_
  refine wpAny_ite_split (fun hab => ?_) (fun _ => ?_)
  · have e1 : l = b := by have := eq_of_beq hab; injection this
    rw [hs s hJ e1] at hq
    exact wpAny_bind (wpAny_rule (wpAny_pure (hq _ hJ)))
  · exact wpAny_bind (h s E _ hJ fun s' h' => wpAny_truthy_bool (hq s' h'))
end
end DL
set_option Elab.async false
set_option linter.all false
set_option maxRecDepth 100000
set_option maxHeartbeats 2000000
set_option autoImplicit false
/-! The data layer, 32: == of nested lists and tuples with instances of one own class at the bottom. -/
namespace DL
open PySem PySem.Spec PyProof.Rows L2 He
def eqLeaf : D → D → Option Bool
  | .non, .non => some true
  | .bl a, .bl b => some (a == b)
  | .int a, .int b => some (a == b)
  | .str a, .str b => if SeqAt.shaped (.str a) && SeqAt.shaped (.str b) then some (a == b) else none
  | _, _ => none
theorem eqLeaf_eqI {x y : D} {b : Bool} (h : eqLeaf x y = some b) : eqI x y = some b := by
  cases x <;> cases y <;> first
    | exact h
    | cases h
  all_goals rfl
def isInts (ds : List D) : Bool := ds.all fun d => match d with
  | .int _ => true
  | _ => false
open Classical in
noncomputable def eqObj (k : Nat) (den : List D → Store → Res) (S : Store) (ds es : List D) : Option Bool :=
  if h : ∃ b, den [.obj k ds, .obj k es] S = .ok (.bl b) S ∧ isInts ds = true ∧ isInts es = true ∧ ds.length = es.length ∧ (ds = es → b = true) then some h.choose else none
theorem eqObj_eq {k : Nat} {den : List D → Store → Res} {S : Store} {ds es : List D} {b : Bool} (h : den [.obj k ds, .obj k es] S = .ok (.bl b) S) (h1 : isInts ds = true) (h2 : isInts es = true) (h4 : ds.length = es.length) (h3 : ds = es → b = true) : eqObj k den S ds es = some b := by
  have hx : ∃ b, den [.obj k ds, .obj k es] S = .ok (.bl b) S ∧ isInts ds = true ∧ isInts es = true ∧ ds.length = es.length ∧ (ds = es → b = true) := ⟨b, h, h1, h2, h4, h3⟩
  unfold eqObj
  rw [dif_pos hx]
  have e := h.symm.trans hx.choose_spec.1
  injection e with e1
  injection e1 with e2
  exact congrArg some e2.symm
theorem eqObj_of {k : Nat} {den : List D → Store → Res} {S : Store} {ds es : List D} {b : Bool} (h : eqObj k den S ds es = some b) : den [.obj k ds, .obj k es] S = .ok (.bl b) S ∧ isInts ds = true ∧ isInts es = true ∧ ds.length = es.length ∧ (ds = es → b = true) := by
  unfold eqObj at h
  split at h
  · rename_i hx
    cases h
    exact hx.choose_spec
  · cases h
def allO (f : D → D → Option Bool) : List D → List D → Option Bool
  | [], _ => some true
  | _ :: _, [] => some true
  | x :: xs, y :: ys => (f x y).bind fun a => (allO f xs ys).map fun b => a && b
theorem allO_ex {f : D → D → Option Bool} : ∀ {xs ys : List D} {b : Bool}, allO f xs ys = some b → ∃ e : Nat → Bool, (∀ j x y, xs[j]? = some x → ys[j]? = some y → f x y = some (e j)) ∧ b = (List.range (min xs.length ys.length)).all e
  | [], ys, b, h => by
    cases h
    exact ⟨fun _ => true, fun j x y hx _ => by simp at hx, by simp⟩
  | x :: xs, [], b, h => by
    cases h
    exact ⟨fun _ => true, fun j x y _ hy => by simp at hy, by simp⟩
  | x :: xs, y :: ys, b, h => by
    rw [allO, Option.bind_eq_some_iff] at h
    obtain ⟨a, h1, h2⟩ := h
    rw [Option.map_eq_some_iff] at h2
    obtain ⟨c, h3, rfl⟩ := h2
    obtain ⟨e, e1, e2⟩ := allO_ex h3
    refine ⟨fun j => match j with | 0 => a | j + 1 => e j, fun j x' y' hx hy => ?_, ?_⟩
    · cases j with
      | zero =>
        simp at hx hy
        subst hx hy
        exact h1
      | succ j => exact e1 j x' y' (by simpa using hx) (by simpa using hy)
    · have hm : min (x :: xs).length (y :: ys).length = min xs.length ys.length + 1 := by simp [Nat.add_min_add_right]
      rw [hm, List.range_succ_eq_map, List.all_cons, List.all_map, e2]
      rfl
noncomputable def eqO (k : Nat) (den : List D → Store → Res) (S : Store) : Nat → D → D → Option Bool
  | 0, _, _ => none
  | n + 1, x, y => match x, y with
    | .lst xs, .lst ys => if xs.length = ys.length then allO (eqO k den S n) xs ys else some false
    | .tup xs, .tup ys => (allO (eqO k den S n) xs ys).map fun b => b && (xs.length == ys.length)
    | .obj a xs, .obj b ys => if a = k ∧ b = k then eqObj k den S xs ys else none
    | x, y => eqLeaf x y
section
variable {Γ : Pg} {ξ : Xx} {X : Cx} {E : WX} {k : Nat} {den : List D → Store → Res} {S : Store} {W : Wd}
theorem eqO_cases {n : Nat} {x y : D} {b : Bool} (h : eqO k den S (n + 1) x y = some b) : (∃ xs ys, x = .lst xs ∧ y = .lst ys) ∨ (∃ xs ys, x = .tup xs ∧ y = .tup ys) ∨ (∃ a c xs ys, x = .obj a xs ∧ y = .obj c ys) ∨ eqLeaf x y = some b := by
  cases x <;> cases y <;> first
    | exact .inl ⟨_, _, rfl, rfl⟩
    | exact .inr (.inl ⟨_, _, rfl, rfl⟩)
    | exact .inr (.inr (.inl ⟨_, _, _, _, rfl, rfl⟩))
    | exact .inr (.inr (.inr h))
theorem eqO_lst {n : Nat} {xs ys : List D} : eqO k den S (n + 1) (.lst xs) (.lst ys) = if xs.length = ys.length then allO (eqO k den S n) xs ys else some false := by rw [eqO]
theorem eqO_tup {n : Nat} {xs ys : List D} : eqO k den S (n + 1) (.tup xs) (.tup ys) = (allO (eqO k den S n) xs ys).map fun b => b && (xs.length == ys.length) := by rw [eqO]
theorem eqO_obj {n a c : Nat} {xs ys : List D} : eqO k den S (n + 1) (.obj a xs) (.obj c ys) = if a = k ∧ c = k then eqObj k den S xs ys else none := by rw [eqO]
theorem isInts_reps : ∀ {ds es : List D} {vs : List V}, isInts ds = true → isInts es = true → Reps Γ W ds vs → Reps Γ W es vs → ds = es
  | [], [], _, _, _, _, _ => rfl
  | [], e :: es, vs, _, _, h, h' => by
    simp only [Reps] at h h'
    obtain ⟨_, _, e, _⟩ := h'
    rw [h] at e
    cases e
  | d :: ds, [], vs, _, _, h, h' => by
    simp only [Reps] at h h'
    obtain ⟨_, _, e, _⟩ := h
    rw [h'] at e
    cases e
  | d :: ds, e :: es, vs, i, i', h, h' => by
    simp only [Reps] at h h'
    obtain ⟨v, vs', e1, r1, r2⟩ := h
    obtain ⟨v', vs'', e2, r1', r2'⟩ := h'
    rw [e1] at e2
    injection e2 with e3 e4
    subst e3 e4
    unfold isInts at i i'
    rw [List.all_cons, Bool.and_eq_true] at i i'
    obtain ⟨i1, i2⟩ := i
    obtain ⟨i1', i2'⟩ := i'
    cases d with
    | int a =>
      cases e with
      | int c =>
        simp only [Rep] at r1 r1'
        rw [r1] at r1'
        injection r1' with q
        rw [q, isInts_reps (ds := ds) (es := es) i2 i2' r2 r2']
      | _ => cases i1'
    | _ => cases i1
theorem reps_at {ds : List D} {vs : List V} {j : Nat} {v : V} (r : Reps Γ W ds vs) (h : vs[j]? = some v) : ∃ d, ds[j]? = some d ∧ Rep Γ W d v := by
  have hj := (List.getElem?_eq_some_iff.mp h).1
  rw [r.length] at hj
  obtain ⟨v', h1, h2⟩ := r.get (List.getElem?_eq_getElem hj)
  rw [h] at h1
  cases h1
  exact ⟨_, List.getElem?_eq_getElem hj, h2⟩
theorem all_true {n : Nat} {e : Nat → Bool} (h : ∀ j, j < n → e j = true) : (List.range n).all e = true := by
  rw [List.all_eq_true]
  exact fun j hj => h j (List.mem_range.mp hj)
theorem leaf_same {x y : D} {v : V} {b : Bool} (hl : eqLeaf x y = some b) (r : Rep Γ W x v) (r' : Rep Γ W y v) : b = true := by
  have fin : ∀ {c : Bool}, c = true → some c = some b → b = true := fun h e => by rw [← Option.some.inj e, h]
  cases x with
  | non =>
    cases y with
    | non => exact fin rfl hl
    | _ => cases hl
  | bl a =>
    cases y with
    | bl c =>
      simp only [Rep] at r r'
      rw [r] at r'
      injection r' with q
      exact fin (by rw [q]; exact beq_self_eq_true _) hl
    | _ => cases hl
  | int a =>
    cases y with
    | int c =>
      simp only [Rep] at r r'
      rw [r] at r'
      injection r' with q
      exact fin (by rw [q]; exact beq_self_eq_true _) hl
    | _ => cases hl
  | str a =>
    cases y with
    | str c =>
      simp only [Rep] at r r'
      rw [r] at r'
      injection r' with q
      simp only [eqLeaf] at hl
      split at hl
      · exact fin (by rw [q]; exact beq_self_eq_true _) hl
      · cases hl
    | _ => cases hl
  | _ => cases hl
/-- of one thing with itself: true -/
theorem eqO_same {H : Hp} {pins : List (Addr × Obj)} {σ : L2.St} {s : Shared} (hK : X.K = Γ.K) (ok : Ok Γ W S H) (I : Inv X pins σ H s) : ∀ (n : Nat) {x y : D} {v : V} {b : Bool}, eqO k den S n x y = some b → Rep Γ W x v → Rep Γ W y v → b = true
  | 0, x, y, v, b, h, _, _ => by cases h
  | n + 1, x, y, v, b, h, r, r' => by
    have go : ∀ {xs ys : List D} {vs : List V} {c : Bool}, allO (eqO k den S n) xs ys = some c → Reps Γ W xs vs → Reps Γ W ys vs → c = true := by
      intro xs ys vs c hc q q'
      obtain ⟨e, e1, rfl⟩ := allO_ex hc
      refine all_true fun j hj => ?_
      have hj1 : j < xs.length := by omega
      have hj2 : j < ys.length := by omega
      obtain ⟨v1, a1, a2⟩ := q.get (List.getElem?_eq_getElem hj1)
      obtain ⟨v2, b1, b2⟩ := q'.get (List.getElem?_eq_getElem hj2)
      rw [a1] at b1
      cases b1
      exact eqO_same hK ok I n (e1 j _ _ (List.getElem?_eq_getElem hj1) (List.getElem?_eq_getElem hj2)) a2 b2
    rcases eqO_cases h with ⟨xs, ys, rfl, rfl⟩ | ⟨xs, ys, rfl, rfl⟩ | ⟨a, c, xs, ys, rfl, rfl⟩ | hl
    · simp only [Rep] at r r'
      obtain ⟨p, vs, rfl, h1, h2⟩ := r
      obtain ⟨p', vs', e, h1', h2'⟩ := r'
      cases e
      obtain rfl := I.list_inj (by rw [hK]; exact sqL_H ok.f h1) (by rw [hK]; exact sqL_H ok.f h1')
      rw [eqO_lst, if_pos (by rw [← h2.length, ← h2'.length])] at h
      exact go h h2 h2'
    · simp only [Rep] at r r'
      obtain ⟨p, vs, rfl, h1, h2⟩ := r
      obtain ⟨p', vs', e, h1', h2'⟩ := r'
      cases e
      obtain rfl := I.tuple_inj (by rw [hK]; exact sqT_H ok.f h1) (by rw [hK]; exact sqT_H ok.f h1')
      rw [eqO_tup, Option.map_eq_some_iff] at h
      obtain ⟨c, hc, rfl⟩ := h
      rw [go hc h2 h2', ← h2.length, ← h2'.length]
      simp
    · rw [eqO_obj] at h
      split at h
      case isFalse => cases h
      rename_i hk
      obtain ⟨rfl, rfl⟩ := hk
      obtain ⟨_, i1, i2, il, i3⟩ := eqObj_of h
      refine i3 ?_
      simp only [Rep] at r r'
      obtain ⟨p, dx, vs, rfl, h1, h2⟩ := r
      obtain ⟨p', dx', vs', e, h1', h2'⟩ := r'
      cases e
      have : vs = vs' := by
        unfold ObjAt at h1 h1'
        split at h1
        · rename_i hn
          rw [hn] at h1'
          obtain ⟨sl, _, s1, s2, _⟩ := SlX.slt_inst I (slt_H ok.f h1)
          obtain ⟨sl', _, s1', s2', _⟩ := SlX.slt_inst I (slt_H ok.f h1')
          have es : sl = sl' := by
            have q := s2.at_
            rw [s2'.at_] at q
            injection q with q
            injection q with _ _ _ q4
            exact q4.symm
          subst es
          have ll : vs.length = vs'.length := by rw [h2.length, h2'.length, il]
          apply List.ext_getElem?
          intro i
          by_cases hi : i < vs.length
          · obtain ⟨u, u1, u2⟩ := s1 i vs[i] (by rw [List.getElem?_map, List.getElem?_eq_getElem hi]; rfl)
            obtain ⟨u', u1', u2'⟩ := s1' i (vs'[i]'(by omega)) (by rw [List.getElem?_map, List.getElem?_eq_getElem (by omega)]; rfl)
            rw [u1] at u1'
            injection u1' with q
            injection q with q
            subst q
            rw [List.getElem?_eq_getElem hi, List.getElem?_eq_getElem (by omega), u2.inj u2']
          · rw [List.getElem?_eq_none (by omega), List.getElem?_eq_none (by omega)]
        · rename_i ns hn
          rw [hn] at h1'
          have q := h1.1
          rw [h1'.1] at q
          injection q with q
          injection q with _ _ q3
          have e1 := congrArg (List.map Prod.snd) q3
          rw [List.map_snd_zip (by rw [h1'.2]; exact Nat.le_refl _), List.map_snd_zip (by rw [h1.2]; exact Nat.le_refl _)] at e1
          exact e1.symm
      subst this
      exact isInts_reps i1 i2 h2 h2'
    · exact leaf_same hl r r'
end
end DL
set_option Elab.async false
set_option linter.all false
set_option maxRecDepth 100000
set_option maxHeartbeats 2000000
set_option autoImplicit false
/-! The data layer, 33: the operators over DL32. -/
namespace DL
open PySem PySem.Spec PyProof.Rows L2 He
section
variable {Γ : Pg} {ξ : Xx} {X : Cx} {E : WX} {k : Nat} {den : List D → Store → Res} {S : Store} {W : Wd}
/-- the states behind: the world has grown, the store is the same -/
def JS (Γ : Pg) (X : Cx) (pins : List (Addr × Obj)) (σ : L2.St) (W : Wd) (S : Store) (s : Shared) : Prop := ∃ W' H', Le W W' ∧ Ok Γ W' S H' ∧ Inv X pins σ H' s
theorem lsJ {pins : List (Addr × Obj)} {σ : L2.St} {a : Addr} {vs : List V} (hK : X.K = Γ.K) (h : SqL Γ.K W.F a vs) : LsJ (JS Γ X pins σ W S) a vs := fun s ⟨W', H', le, ok, I⟩ => by
  obtain ⟨its, rv, ⟨o, n, e, hc, hd, hs⟩, _⟩ := I.list (by rw [hK]; exact sqL_H ok.f (sqL_le le.s h))
  obtain ⟨cls, dict, data, slots⟩ := o
  simp only at hc hd hs
  subst hc hd hs
  exact ⟨its.toArray, n, none, slots, e, by simpa using rv⟩
theorem tpJ {pins : List (Addr × Obj)} {σ : L2.St} {a : Addr} {vs : List V} (hK : X.K = Γ.K) (h : SqT Γ.K W.F a vs) : TpJ (JS Γ X pins σ W S) a vs := fun s ⟨W', H', le, ok, I⟩ => by
  obtain ⟨its, rv, ⟨o, e, hc, n, hs⟩, _⟩ := I.tuple (by rw [hK]; exact sqT_H ok.f (sqT_le le.s h))
  obtain ⟨cls, dict, data, slots⟩ := o
  simp only at hc hs
  subst hc hs
  exact ⟨its.toArray, n, dict, slots, e, by simpa using rv⟩
theorem eqO_run {cs : List Nat} {j : Nat} {g : Addr} {pins : List (Addr × Obj)} {σ : L2.St} (hK : X.K = Γ.K) (bf : EqF Γ cs k g) (hc : k ∈ cs) (G : CalR Γ X.prog X.w X.mg X.base j g 2 den) : ∀ (n : Nat) (A : Around) {x y : D} {vx vy : V} {b : Bool}, eqO k den S n x y = some b → Room (j + n) A →
    (∀ (s : Shared) (H : Hp), Inv X pins σ H s → Env0 X.prog X.w X.K X.mg X.base A X.stack s H) → Rep Γ W x vx → Rep Γ W y vy → EqVJ X.prog X.w (JS Γ X pins σ W S) A vx vy b
  | 0, A, x, y, vx, vy, b, h, _, _, _, _ => by cases h
  | n + 1, A, x, y, vx, vy, b, h, hr, he, rx, ry => by
    have same : ∀ (v : V), vx = v → vy = v → ∀ s, JS Γ X pins σ W S s → b = true := fun v e1 e2 s ⟨W', H', le, ok, I⟩ =>
      eqO_same hK ok I (n + 1) h (e1 ▸ rx.mono le.s) (e2 ▸ ry.mono le.s)
    have hu : A.units < cLine := hr.units0
    have sub : ∀ {xs ys : List D} {vs us : List V} {e : Nat → Bool}, Reps Γ W xs vs → Reps Γ W ys us → (∀ j x y, xs[j]? = some x → ys[j]? = some y → eqO k den S n x y = some (e j)) → ∀ j x y, vs[j]? = some x → us[j]? = some y → EqVJ X.prog X.w (JS Γ X pins σ W S) A.in1 x y (e j) := by
      intro xs ys vs us e q q' he' i x' y' hx hy
      obtain ⟨d1, a1, a2⟩ := reps_at q hx
      obtain ⟨d2, b1, b2⟩ := reps_at q' hy
      exact eqO_run hK bf hc G n A.in1 (he' i _ _ a1 b1) (Room.in1 hr) (fun s H I => (he s H I).in1) a2 b2
    intro u v ru rv
    rcases eqO_cases h with ⟨xs, ys, rfl, rfl⟩ | ⟨xs, ys, rfl, rfl⟩ | ⟨a, c, xs, ys, rfl, rfl⟩ | hl
    · simp only [Rep] at rx ry
      obtain ⟨p, vs, rfl, h1, h2⟩ := rx
      obtain ⟨p', us, rfl, h1', h2'⟩ := ry
      obtain rfl : u = Value.ref p := ru
      obtain rfl : v = Value.ref p' := rv
      refine eqJ_refs (fun s hJ e => same (.ref p) rfl (by rw [e]) s hJ) fun s E Q hJ hq => ?_
      rw [eqO_lst] at h
      split at h
      · rename_i hlen
        obtain ⟨e, e1, rfl⟩ := allO_ex h
        have hsz : vs.length = us.length := by rw [h2.length, h2'.length, hlen]
        refine rcJ_lists hJ (lsJ hK h1) (lsJ hK h1') hsz hu (sub h2 h2' e1) E Q fun s' hs' => ?_
        have : vs.length = min xs.length ys.length := by rw [h2.length]; omega
        rw [this]
        exact hq s' hs'
      · rename_i hlen
        cases h
        exact rcJ_lens hJ (lsJ hK h1) (lsJ hK h1') (by rw [h2.length, h2'.length]; exact hlen) hu E Q (hq s hJ)
    · simp only [Rep] at rx ry
      obtain ⟨p, vs, rfl, h1, h2⟩ := rx
      obtain ⟨p', us, rfl, h1', h2'⟩ := ry
      obtain rfl : u = Value.ref p := ru
      obtain rfl : v = Value.ref p' := rv
      refine eqJ_refs (fun s hJ e => same (.ref p) rfl (by rw [e]) s hJ) fun s E Q hJ hq => ?_
      rw [eqO_tup, Option.map_eq_some_iff] at h
      obtain ⟨c, hc', rfl⟩ := h
      obtain ⟨e, e1, rfl⟩ := allO_ex hc'
      refine rcJ_tuples hJ (tpJ hK h1) (tpJ hK h1') hu (sub h2 h2' e1) E Q fun s' hs' => ?_
      rw [h2.length, h2'.length]
      exact hq s' hs'
    · have h0 := h
      rw [eqO_obj] at h
      split at h
      case isFalse => cases h
      rename_i hk
      obtain ⟨rfl, rfl⟩ := hk
      obtain ⟨hd, _, _, _, _⟩ := eqObj_of h
      have rx0 := rx
      have ry0 := ry
      simp only [Rep] at rx ry
      obtain ⟨p, dx, vs, rfl, h1, h2⟩ := rx
      obtain ⟨p', dx', us, rfl, h1', h2'⟩ := ry
      obtain rfl : u = Value.ref p := ru
      obtain rfl : v = Value.ref p' := rv
      refine eqJ_refs (fun s hJ e => same (.ref p) rfl (by rw [e]) s hJ) fun s E Q hJ hq => ?_
      obtain ⟨W', H', le, ok, I⟩ := hJ
      obtain ⟨m, hF⟩ := I.fr
      obtain ⟨o, od, J⟩ := objInst I ((h1.mono le.f).mono ok.f)
      obtain ⟨o', od', J'⟩ := objInst I ((h1'.mono le.f).mono ok.f)
      refine PySem.W.cmp_K (op := .Eq) hu hF I.ok.mod.kin J J'.type (by rw [hK]; exact bf.hc _ hc) (by rw [hK]; exact bf.hs) (by rw [hK]; exact bf.hf) (wpAny_call ?_)
      have G' : FnR X.prog X.w X.K X.mg X.base (L2.CX X.prog X.w) j g (spD Γ 2 den) := by rw [hK]; exact G.run
      refine codeAny_mono (G' A X.stack s H' [.ref p, .ref p'] [.ref p, .ref p'] (fun z H'' => z = .bl b ∧ ∃ W'', Le W' W'' ∧ Ok Γ W'' S H'') (fun _ _ _ => False) (hr.mono (by omega)) (he s H' I) (.cons rfl (.cons rfl .nil)) (spD_of ok (Reps.cons (rx0.mono le.s) (Reps.cons (ry0.mono le.s) Reps.nil)) (by
        rw [show chk 2 den [.obj c xs, .obj c ys] S = .ok (.bl b) S from by
          unfold chk
          rw [if_pos (show ([D.obj c xs, D.obj c ys] : List D).length = 2 from rfl), hd]]
        intro W'' z H'' l o rz
        simp only [Rep] at rz
        exact ⟨rz, W'', l, o⟩))) fun r s' hq' => ?_
      cases r with
      | error er =>
        obtain ⟨_, _, _, _, _, _, _, _, _, _, _, _, z⟩ := hq'
        exact z.elim
      | ok fl =>
        cases fl with
        | ret u =>
          obtain ⟨z, H'', I', rz, ez, W'', l, o⟩ := I.after hq'
          subst ez
          obtain rfl : u = Value.bool b := rz
          exact hq s' ⟨W'', H'', le.trans l, o, I'⟩
        | next => exact False.elim hq'
        | brk => exact False.elim hq'
        | cont => exact False.elim hq'
    · intro E Q s hJ hq
      have hJ' := hJ
      obtain ⟨W', H', le, ok, I⟩ := hJ
      exact (eqAt_I (A := A) hK hr.units ok I (eqLeaf_eqI hl) (rx.mono le.s) (ry.mono le.s) ru rv) X.prog X.w E Q (hq s hJ')
/-! ### the operators -/
noncomputable def gEqO (k n : Nat) (den : List D → Store → Res) : D → D → Store → Res := fun x y S => match x, y with
  | .lst _, .lst _ => match eqO k den S n x y with
    | some b => .ok (.bl b) S
    | none => .bad
  | .tup _, .tup _ => match eqO k den S n x y with
    | some b => .ok (.bl b) S
    | none => .bad
  | _, _ => .bad
noncomputable def gNeO (k n : Nat) (den : List D → Store → Res) : D → D → Store → Res := fun x y S => match x, y with
  | .lst _, .lst _ => match eqO k den S n x y with
    | some b => .ok (.bl (!b)) S
    | none => .bad
  | _, _ => .bad
theorem op_eqO {cs : List Nat} {k j m n : Nat} {g : Addr} {P : Program} {w : World} {mg : Str → Option Value} {base : Heap} {den : List D → Store → Res} (hh : Here Γ P w mg base n X E) (bf : EqF Γ cs k g) (hc : k ∈ cs) (G : CalR Γ P w mg base j g 2 den) (hj : j + m ≤ n := by decide) : OpR X (compareOp .Eq) (rD Γ (gEqO k m den)) := by
  obtain ⟨h1, h2, h3, h4, h5, h6, h7⟩ := hh
  subst h1 h2 h4 h5
  intro pins s σ H x y v u Q I rx ry ⟨W, S, a, b, ok, ra, rb, h⟩
  have hJ : JS Γ X pins σ W S s := ⟨W, H, Le.refl W, ok, I⟩
  have hu : X.A.units < cLine := h6.units0
  have fin : ∀ c, Cont Γ (.ok (.bl c) S) W Q (fun _ _ _ => False) → ∀ s', JS Γ X pins σ W S s' → EP X pins σ Q (.bool c) s' := fun c h s' ⟨W', H', le, ok', I'⟩ => ⟨.bl c, H', I', rfl, h W' _ H' le ok' (by simp only [Rep])⟩
  cases m with
  | zero =>
    unfold gEqO at h
    split at h
    · exact h.elim
    · exact h.elim
    · exact h.elim
  | succ m =>
    have sub : ∀ {xs ys : List D} {vs us : List V} {e : Nat → Bool}, Reps Γ W xs vs → Reps Γ W ys us → (∀ j x y, xs[j]? = some x → ys[j]? = some y → eqO k den S m x y = some (e j)) → ∀ j x y, vs[j]? = some x → us[j]? = some y → EqVJ X.prog X.w (JS Γ X pins σ W S) X.A.in1 x y (e j) := by
      intro xs ys vs us e q q' he' i x' y' hx hy
      obtain ⟨d1, a1, a2⟩ := reps_at q hx
      obtain ⟨d2, b1, b2⟩ := reps_at q' hy
      exact eqO_run h3 bf hc G m X.A.in1 (he' i _ _ a1 b1) (Room.in1 (h6.mono hj)) (fun s H I => I.env0.in1) a2 b2
    show wpAny _ _ (richCompare .Eq v u) _ _ _
    unfold gEqO at h
    split at h
    · rename_i xs ys
      simp only [Rep] at ra rb
      obtain ⟨p, vs, rfl, q1, q2⟩ := ra
      obtain ⟨p', us, rfl, q1', q2'⟩ := rb
      obtain rfl : v = Value.ref p := rx
      obtain rfl : u = Value.ref p' := ry
      rw [eqO_lst] at h
      by_cases hlen : xs.length = ys.length
      · rw [if_pos hlen] at h
        cases hal : allO (eqO k den S m) xs ys with
        | none =>
          rw [hal] at h
          exact h.elim
        | some c =>
          rw [hal] at h
          obtain ⟨e, e1, rfl⟩ := allO_ex hal
          have hsz : vs.length = us.length := by rw [q2.length, q2'.length, hlen]
          refine rcJ_lists hJ (lsJ h3 q1) (lsJ h3 q1') hsz hu (sub q2 q2' e1) X.xe _ fun s' hs' => ?_
          have : vs.length = min xs.length ys.length := by rw [q2.length]; omega
          rw [this]
          exact fin _ h s' hs'
      · rw [if_neg hlen] at h
        exact rcJ_lens hJ (lsJ h3 q1) (lsJ h3 q1') (by rw [q2.length, q2'.length]; exact hlen) hu X.xe _ (fin _ h s hJ)
    · rename_i xs ys
      simp only [Rep] at ra rb
      obtain ⟨p, vs, rfl, q1, q2⟩ := ra
      obtain ⟨p', us, rfl, q1', q2'⟩ := rb
      obtain rfl : v = Value.ref p := rx
      obtain rfl : u = Value.ref p' := ry
      rw [eqO_tup] at h
      cases hal : allO (eqO k den S m) xs ys with
      | none =>
        rw [hal] at h
        exact h.elim
      | some c =>
        rw [hal] at h
        obtain ⟨e, e1, rfl⟩ := allO_ex hal
        refine rcJ_tuples hJ (tpJ h3 q1) (tpJ h3 q1') hu (sub q2 q2' e1) X.xe _ fun s' hs' => ?_
        rw [q2.length, q2'.length]
        exact fin _ h s' hs'
    · exact h.elim
theorem op_neO {cs : List Nat} {k j m n : Nat} {g : Addr} {P : Program} {w : World} {mg : Str → Option Value} {base : Heap} {den : List D → Store → Res} (hh : Here Γ P w mg base n X E) (bf : EqF Γ cs k g) (hc : k ∈ cs) (G : CalR Γ P w mg base j g 2 den) (hj : j + m ≤ n := by decide) : OpR X (compareOp .NotEq) (rD Γ (gNeO k m den)) := by
  obtain ⟨h1, h2, h3, h4, h5, h6, h7⟩ := hh
  subst h1 h2 h4 h5
  intro pins s σ H x y v u Q I rx ry ⟨W, S, a, b, ok, ra, rb, h⟩
  have hJ : JS Γ X pins σ W S s := ⟨W, H, Le.refl W, ok, I⟩
  have hu : X.A.units < cLine := h6.units0
  have fin : ∀ c, Cont Γ (.ok (.bl c) S) W Q (fun _ _ _ => False) → ∀ s', JS Γ X pins σ W S s' → EP X pins σ Q (.bool c) s' := fun c h s' ⟨W', H', le, ok', I'⟩ => ⟨.bl c, H', I', rfl, h W' _ H' le ok' (by simp only [Rep])⟩
  cases m with
  | zero =>
    unfold gNeO at h
    split at h
    · exact h.elim
    · exact h.elim
  | succ m =>
    have sub : ∀ {xs ys : List D} {vs us : List V} {e : Nat → Bool}, Reps Γ W xs vs → Reps Γ W ys us → (∀ j x y, xs[j]? = some x → ys[j]? = some y → eqO k den S m x y = some (e j)) → ∀ j x y, vs[j]? = some x → us[j]? = some y → EqVJ X.prog X.w (JS Γ X pins σ W S) X.A.in1 x y (e j) := by
      intro xs ys vs us e q q' he' i x' y' hx hy
      obtain ⟨d1, a1, a2⟩ := reps_at q hx
      obtain ⟨d2, b1, b2⟩ := reps_at q' hy
      exact eqO_run h3 bf hc G m X.A.in1 (he' i _ _ a1 b1) (Room.in1 (h6.mono hj)) (fun s H I => I.env0.in1) a2 b2
    show wpAny _ _ (richCompare .NotEq v u) _ _ _
    unfold gNeO at h
    split at h
    · rename_i xs ys
      simp only [Rep] at ra rb
      obtain ⟨p, vs, rfl, q1, q2⟩ := ra
      obtain ⟨p', us, rfl, q1', q2'⟩ := rb
      obtain rfl : v = Value.ref p := rx
      obtain rfl : u = Value.ref p' := ry
      rw [eqO_lst] at h
      by_cases hlen : xs.length = ys.length
      · rw [if_pos hlen] at h
        cases hal : allO (eqO k den S m) xs ys with
        | none =>
          rw [hal] at h
          exact h.elim
        | some c =>
          rw [hal] at h
          obtain ⟨e, e1, rfl⟩ := allO_ex hal
          have hsz : vs.length = us.length := by rw [q2.length, q2'.length, hlen]
          refine rcJ_listsNe hJ (lsJ h3 q1) (lsJ h3 q1') hsz hu (sub q2 q2' e1) X.xe _ fun s' hs' => ?_
          have : vs.length = min xs.length ys.length := by rw [q2.length]; omega
          rw [this]
          exact fin _ h s' hs'
      · rw [if_neg hlen] at h
        exact rcJ_lensNe hJ (lsJ h3 q1) (lsJ h3 q1') (by rw [q2.length, q2'.length]; exact hlen) hu X.xe _ (fin _ h s hJ)
    · exact h.elim
end
end DL
set_option Elab.async false
set_option linter.all false
set_option maxRecDepth 100000
set_option maxHeartbeats 2000000
set_option autoImplicit false
/-! The data layer, 34: comprehensions with two fors, without tests. -/
namespace DL
open PySem L2
section
variable {Γ : Pg} {ξ : Xx} {X : Cx} {E : WX}
/-! ### a list that is being built: it stands in the private part, at A -/
theorem pStart {W : Wd} {S : Store} {H : Hp} {A : Addr} (ok : Ok Γ W S H) (hA : H A = none) : Ok Γ { W with P := upd W.P A (.lst []) } S (upd H A (.lst [])) := by
  obtain ⟨hAF, hAP, hAm⟩ := ok.fresh hA
  refine ⟨fun a u q => ?_, fun a u q => ?_, fun i a q => ⟨(ok.m i a q).1, ?_⟩, ok.nd, ok.len, fun i a es q1 q2 => ?_⟩
  · rw [upd_ne (ne_of_none (show W.F a = some u from q) hAF)]
    exact ok.f a u q
  · by_cases z : a = A
    · subst z
      have q : upd W.P a (.lst []) a = some u := q
      rw [upd_same] at q ⊢
      exact ⟨q, hAF⟩
    · have q : upd W.P A (.lst []) a = some u := q
      rw [upd_ne z] at q ⊢
      exact ok.p a u q
  · show upd W.P A (.lst []) a = none
    rw [upd_ne (hAm i a q)]
    exact (ok.m i a q).2
  · obtain ⟨us, q3, q4⟩ := ok.c i a es q1 q2
    exact ⟨us, by rw [upd_ne (hAm i a q1)]; exact q3, repsP W q4⟩
theorem pGrow {W : Wd} {S : Store} {H P1 : Hp} {A : Addr} {vs us : List V} (ok : Ok Γ W S H) (hP : W.P = upd P1 A (.lst vs)) : Ok Γ { W with P := upd P1 A (.lst us) } S (upd H A (.lst us)) := by
  have hA := ok.p A _ (by rw [hP]; exact upd_same)
  refine ⟨fun a u q => ?_, fun a u q => ?_, fun i a q => ⟨(ok.m i a q).1, ?_⟩, ok.nd, ok.len, fun i a es q1 q2 => ?_⟩
  · rw [upd_ne (ne_of_none (show W.F a = some u from q) hA.2)]
    exact ok.f a u q
  · by_cases z : a = A
    · subst z
      have q : upd P1 a (.lst us) a = some u := q
      rw [upd_same] at q ⊢
      exact ⟨q, hA.2⟩
    · have q : upd P1 A (.lst us) a = some u := q
      rw [upd_ne z] at q ⊢
      exact ok.p a u (by rw [hP, upd_ne z]; exact q)
  · have q3 := (ok.m i a q).2
    show upd P1 A (.lst us) a = none
    have nA : a ≠ A := fun z => by
      rw [z, hP, upd_same] at q3
      cases q3
    rw [hP, upd_ne nA] at q3
    rw [upd_ne nA]
    exact q3
  · have q3 := (ok.m i a q1).2
    have nA : a ≠ A := fun z => by
      rw [z, hP, upd_same] at q3
      cases q3
    obtain ⟨us', q4, q5⟩ := ok.c i a es q1 q2
    exact ⟨us', by rw [upd_ne nA]; exact q4, repsP W q5⟩
theorem pEnd {W : Wd} {S : Store} {H P1 : Hp} {A : Addr} {vs : List V} {acc : List D} (ok : Ok Γ W S H) (hP : W.P = upd P1 A (.lst vs)) (hA1 : P1 A = none) (r : Reps Γ W acc vs) : Ok Γ { W with F := upd W.F A (.lst vs), P := P1 } S H ∧ LeS W { W with F := upd W.F A (.lst vs), P := P1 } ∧ Rep Γ { W with F := upd W.F A (.lst vs), P := P1 } (.lst acc) (.ref A) := by
  obtain ⟨hH, n⟩ := ok.p A _ (by rw [hP]; exact upd_same)
  have lF : LeS W { W with F := upd W.F A (.lst vs), P := P1 } := ⟨fun a u q => by
    show upd W.F A (.lst vs) a = some u
    rw [upd_ne (ne_of_none (show W.F a = some u from q) n)]
    exact q, fun _ _ q => q⟩
  have hnA : ∀ (i : Nat) (a : Addr), W.m[i]? = some a → a ≠ A := fun i a q z => by
    have q3 := (ok.m i a q).2
    rw [z, hP, upd_same] at q3
    cases q3
  refine ⟨⟨fun a u q => ?_, fun a u q => ?_, fun i a q => ?_, ok.nd, ok.len, fun i a es q1 q2 => ?_⟩, lF, ?_⟩
  · by_cases z : a = A
    · subst z
      have q : upd W.F a (.lst vs) a = some u := q
      rw [upd_same] at q
      rw [hH]
      exact q
    · have q : upd W.F A (.lst vs) a = some u := q
      rw [upd_ne z] at q
      exact ok.f a u q
  · have q : P1 a = some u := q
    have z : a ≠ A := ne_of_none q hA1
    have q2 := ok.p a u (by rw [hP, upd_ne z]; exact q)
    refine ⟨q2.1, ?_⟩
    show upd W.F A (.lst vs) a = none
    rw [upd_ne z]
    exact q2.2
  · have z := hnA i a q
    refine ⟨?_, ?_⟩
    · show upd W.F A (.lst vs) a = none
      rw [upd_ne z]
      exact (ok.m i a q).1
    · have q3 := (ok.m i a q).2
      rw [hP, upd_ne z] at q3
      exact q3
  · obtain ⟨us, q4, q5⟩ := ok.c i a es q1 q2
    exact ⟨us, q4, q5.mono lF⟩
  · simp only [Rep]
    exact ⟨A, vs, rfl, .inl (.inl upd_same), r.mono lF⟩
theorem frameA {W W' : Wd} {es : List SD} {σ : L2.St} {P0 : Hp} {A : Addr} {o : HO} (fr : Frame Γ ξ W es σ P0) (l : LeS W W') (hP : W'.P = upd W.P A o) (hA : W.P A = none) : Frame Γ ξ W' es σ (upd P0 A o) := by
  obtain ⟨own, fr1, fr2⟩ := fr
  refine ⟨own, SlotsR.mono l fr1, fr2.nd, fun p hp => ?_, fun a ha => ?_⟩
  · obtain ⟨q1, q2⟩ := fr2.at_ p hp
    have nA : p.1 ≠ A := fun z => by
      rw [z, hA] at q2
      cases q2
    exact ⟨by rw [upd_ne nA]; exact q1, by rw [hP, upd_ne nA]; exact q2⟩
  · rw [hP]
    by_cases z : a = A
    · rw [z, upd_same, upd_same]
    · rw [upd_ne z, upd_ne z]
      exact fr2.rest a ha
theorem frameB {W W' : Wd} {es : List SD} {σ : L2.St} {P0 P1 : Hp} {A : Addr} {o o' : HO} (fr : Frame Γ ξ W es σ (upd P0 A o)) (hW : W.P = upd P1 A o) (l : LeS W W') (hP : W'.P = upd P1 A o') : Frame Γ ξ W' es σ (upd P0 A o') := by
  obtain ⟨own, fr1, fr2⟩ := fr
  refine ⟨own, SlotsR.mono l fr1, fr2.nd, fun p hp => ?_, fun a ha => ?_⟩
  · obtain ⟨q1, q2⟩ := fr2.at_ p hp
    have nA : p.1 ≠ A := fun z => by
      rw [z, upd_same] at q1
      cases q1
    rw [upd_ne nA] at q1
    rw [hW, upd_ne nA] at q2
    exact ⟨by rw [upd_ne nA]; exact q1, by rw [hP, upd_ne nA]; exact q2⟩
  · rw [hP]
    have q := fr2.rest a ha
    by_cases z : a = A
    · rw [z, upd_same, upd_same]
    · rw [hW, upd_ne z, upd_ne z] at q
      rw [upd_ne z, upd_ne z]
      exact q
theorem Frame.wipe {W : Wd} {es : List SD} {σ : L2.St} {P0 : Hp} {vs : List Nat} (fr : Frame Γ ξ W es σ P0) (hn : ∀ j ∈ vs, ∀ ds, es[j]? ≠ some (.acc ds)) : Frame Γ ξ W (wipeD es vs) (L2.wipe σ vs) P0 := by
  obtain ⟨own, fr1, fr2⟩ := fr
  exact ⟨own, SlotsR.wipe fr1 hn, fr2⟩
/-! ### the meaning -/
open Classical in
noncomputable def lc2I (g1 : Gd) (t1 : TF) (e : EF) (es1 : List SD) (k : Store → List D → Res) : List D → Store → List D → Res
  | [], S, acc => if g1.ok S then k S acc else .bad
  | d :: ds, S, acc => if g1.ok S ∧ acc.length < 1000000 then match t1 d es1 S with
    | none => .bad
    | some es2 => (e es2 S).nox.bind fun y S2 => lc2I g1 t1 e es1 k ds S2 (acc ++ [y])
    else .bad
open Classical in
noncomputable def lc2L (q : Bool) (g : Gd) (t : TF) (it1 : IF) (vs1 : List Nat) (t1 : TF) (e : EF) (es : List SD) : List D → Store → List D → Res
  | [], S, acc => if g.ok S then if q = true then .ok (.cell S.length) (S ++ [acc]) else .ok (.lst acc) S else .bad
  | d :: ds, S, acc => if g.ok S then match t d es S with
    | none => .bad
    | some es1 => match it1 es1 S with
      | .ok ds1 g1 S1 => lc2I g1 t1 e (wipeD es1 vs1) (fun S acc => lc2L q g t it1 vs1 t1 e es ds S acc) ds1 S1 acc
      | _ => .bad
    else .bad
noncomputable def eLc2 (q : Bool) (vs vs1 : List Nat) (it : IF) (t : TF) (it1 : IF) (t1 : TF) (e : EF) : EF := fun es S => match it es S with
  | .ok ds g S1 => if noAcc es vs = true then lc2L q g t it1 vs1 t1 e (wipeD es vs) ds S1 [] else .bad
  | .exc k fs S1 => .exc k fs S1
  | .bad => .bad
theorem tLc2_of {vs vs1 : List Nat} {q : Bool} {fi fi1 : IF} {t t1 : TF} {ix ix1 : List Nat} {fe : EF} {σ : L2.St} {H : Hp} {Q : VK} (hix : ∀ j ∈ ix, j ∈ vs) (hix1 : ∀ j ∈ ix1, j ∈ vs1) (hvs : ∀ j ∈ vs1, j ∈ vs) (h : dE Γ ξ (eLc2 q vs vs1 fi t fi1 t1 fe) E σ H Q) :
    tLc2 (dIQ Γ ξ fi E) (dG Γ ξ t ix) tYes (dI Γ ξ fi1 E0) (dG Γ ξ t1 ix1) tYes (dE Γ ξ fe E0) vs vs1 σ H Q := by
  obtain ⟨W, es, S, P0, ok, fr, h⟩ := h
  refine ⟨W, es, S, P0, ok, fr, ?_⟩
  unfold eLc2 at h
  cases e : fi es S with
  | bad => rw [e] at h; exact h.elim
  | exc k fs S1 => rw [e] at h; exact h
  | ok ds g S1 =>
    rw [e] at h
    simp only at h
    split at h
    case isFalse => exact h.elim
    rename_i hna
    have hn : ∀ j ∈ vs, ∀ ds, es[j]? ≠ some (.acc ds) := fun j hj => noAcc_at hna hj
    intro W1 J H1 l1 ok1 y A hA
    obtain ⟨hAF, hAP, hAm⟩ := ok1.fresh hA
    have h := Cont.le h l1
    let K : List D → Store → List D → Res := lc2L q g t fi1 vs1 t1 fe (wipeD es vs)
    let O : Nat → Hp → Prop := fun i H => i ≤ ds.length ∧ ∃ W' S' acc vs', LeS W1 W' ∧ W'.P = upd W1.P A (.lst vs') ∧ Ok Γ W' S' H ∧ Reps Γ W' acc vs' ∧ Cont Γ (K (ds.drop i) S' acc) { W' with P := W1.P } Q (at_ E σ)
    refine ⟨fun i m H => m = ds.length - i ∧ O i H, ⟨ds.length, by simp, Nat.zero_le _, { W1 with P := upd W1.P A (.lst []) }, S1, [], [], ⟨fun _ _ h => h, fun _ _ h => h⟩, rfl, pStart ok1 hA, Reps.nil, by rw [List.drop_zero]; exact h⟩, ?_⟩
    rintro i m H ⟨rfl, hi, W2, S2, acc, vs', l2, hP2, ok2, ra, h2⟩
    have lQ : LeQ W1 W2 := ⟨l2, fun a u e => by
      rw [hP2, upd_ne (ne_of_none e hAP)]
      exact e⟩
    by_cases hgd : g.ok S2
    case neg =>
      by_cases hlt : i < ds.length
      · simp only [K] at h2
        rw [List.drop_eq_getElem_cons hlt, lc2L, if_neg hgd] at h2
        exact h2.elim
      · simp only [K] at h2
        rw [List.drop_of_length_le (by omega), lc2L, if_neg hgd] at h2
        exact h2.elim
    obtain ⟨y1, y2⟩ := y W2 S2 H lQ ok2 hgd
    by_cases hlt : i < ds.length
    · right
      obtain ⟨g1, g2⟩ := y2 i ds[i] (List.getElem?_eq_getElem hlt)
      refine ⟨g1, fun H => O (i + 1) H, fun H' q => ⟨ds.length - (i + 1), by omega, rfl, q⟩, fun x H' yl => ?_⟩
      obtain ⟨W3, l3, ok3, r3⟩ := g2 x H' yl
      simp only [K] at h2
      rw [List.drop_eq_getElem_cons hlt, lc2L, if_pos hgd] at h2
      cases ht : t ds[i] (wipeD es vs) S2 with
      | none => rw [ht] at h2; exact h2.elim
      | some es3 =>
        rw [ht] at h2
        simp only at h2
        have hP3 : W3.P = upd W.P A (.lst vs') := by rw [l3.p, hP2, l1.p]
        have fr3 : Frame Γ ξ W3 (wipeD es vs) (L2.wipe σ vs) (upd P0 A (.lst vs')) := frameA (Frame.wipe fr hn) ((l1.s.trans l2).trans l3.s) hP3 (by rw [← l1.p]; exact hAP)
        refine ⟨W3, wipeD es vs, S2, upd P0 A (.lst vs'), ds[i], es3, ok3, fr3, r3, ht, fun W4 σ4 st ok4 fr4 => ?_⟩
        have hna' : noAcc (wipeD es vs) ix = true := noAcc_of fun j hj ds q => hn j (hix j hj) ds (wipeD_acc q)
        obtain rfl := st.same hna'
        refine ⟨by rw [wipe_eq st.len fun j hj => st.out j fun q => hj (hix j q), wipe_wipe], ?_⟩
        unfold tYes
        simp only [if_true]
        refine ⟨W4, es3, S2, _, ok4, fr4, ?_⟩
        have hn3 : ∀ j ∈ vs1, ∀ ds, es3[j]? ≠ some (.acc ds) := fun j hj ds q => hn j (hvs j hj) ds (wipeD_acc (st.acc j ds q))
        cases e1 : fi1 es3 S2 with
        | bad => rw [e1] at h2; exact h2.elim
        | exc k fs S' => rw [e1] at h2; exact h2.elim
        | ok ds1 gg S5 =>
          rw [e1] at h2
          simp only at h2
          intro W5 J1 H5 l5 ok5 yd
          have hP4 : W4.P = upd W1.P A (.lst vs') := by rw [l3.p, hP2]
          have hP5 : W5.P = upd W1.P A (.lst vs') := by rw [l5.p, hP4]
          let KI : List D → Store → List D → Res := lc2I gg t1 fe (wipeD es3 vs1) (fun S acc => K (ds.drop (i + 1)) S acc)
          let O1 : Nat → Hp → Prop := fun j H => j ≤ ds1.length ∧ ∃ W' S' acc vs'', LeS W5 W' ∧ W'.P = upd W1.P A (.lst vs'') ∧ Ok Γ W' S' H ∧ Reps Γ W' acc vs'' ∧ Cont Γ (KI (ds1.drop j) S' acc) { W' with P := W1.P } Q (at_ E σ)
          have l25 : Le { W2 with P := W1.P } { W5 with P := W1.P } := (show Le { W2 with P := W1.P } { W4 with P := W1.P } from ⟨l3.f, rfl, l3.m⟩).trans ⟨l5.f, rfl, l5.m⟩
          refine ⟨fun j k H => k = ds1.length - j ∧ O1 j H, ⟨ds1.length, by simp, Nat.zero_le _, W5, S5, acc, vs', LeS.refl _, hP5, ok5, ra.mono (l3.s.trans l5.s), by rw [List.drop_zero]; exact Cont.le h2 l25⟩, ?_⟩
          rintro j k H ⟨rfl, hj, W6, S6, acc6, vs6, l6, hP6, ok6, ra6, h6⟩
          by_cases hgd1 : gg.ok S6
          case neg =>
            by_cases hlt1 : j < ds1.length
            · simp only [KI] at h6
              rw [List.drop_eq_getElem_cons hlt1, lc2I, if_neg (fun z => hgd1 z.1)] at h6
              exact h6.elim
            · simp only [KI] at h6
              rw [List.drop_of_length_le (show ds1.length ≤ j by omega), lc2I, if_neg hgd1] at h6
              exact h6.elim
          obtain ⟨z1, z2⟩ := yd W6 S6 H l6 ok6 hgd1
          by_cases hlt1 : j < ds1.length
          · right
            obtain ⟨p1, p2⟩ := z2 j ds1[j] (List.getElem?_eq_getElem hlt1)
            refine ⟨p1, fun H => O1 (j + 1) H, fun H' q => ⟨ds1.length - (j + 1), by omega, rfl, q⟩, fun x1 H7 yl1 => ?_⟩
            obtain ⟨W7, l7, ok7, r7⟩ := p2 x1 H7 yl1
            simp only [KI] at h6
            by_cases hac : acc6.length < 1000000
            case neg =>
              rw [List.drop_eq_getElem_cons hlt1, lc2I, if_neg (fun z => hac z.2)] at h6
              exact h6.elim
            rw [List.drop_eq_getElem_cons hlt1, lc2I, if_pos ⟨hgd1, hac⟩] at h6
            cases ht1 : t1 ds1[j] (wipeD es3 vs1) S6 with
            | none => rw [ht1] at h6; exact h6.elim
            | some es8 =>
              rw [ht1] at h6
              simp only at h6
              have hP7 : W7.P = upd W1.P A (.lst vs6) := by rw [l7.p, hP6]
              have fr7 : Frame Γ ξ W7 (wipeD es3 vs1) (L2.wipe σ4 vs1) (upd P0 A (.lst vs6)) := frameB (Frame.wipe fr4 hn3) hP4 ((l5.s.trans l6).trans l7.s) hP7
              refine ⟨W7, wipeD es3 vs1, S6, upd P0 A (.lst vs6), ds1[j], es8, ok7, fr7, r7, ht1, fun W8 σ8 st8 ok8 fr8 => ?_⟩
              have hna8 : noAcc (wipeD es3 vs1) ix1 = true := noAcc_of fun j hj ds q => hn3 j (hix1 j hj) ds (wipeD_acc q)
              obtain rfl := st8.same hna8
              refine ⟨by rw [wipe_eq st8.len fun j hj => st8.out j fun q => hj (hix1 j q), wipe_wipe], ?_⟩
              refine ⟨W8, es8, S6, _, ok8, fr8, ?_⟩
              cases ee : fe es8 S6 with
              | bad => rw [ee] at h6; exact h6.elim
              | exc k fs S' => rw [ee] at h6; exact h6.elim
              | ok d9 S9 =>
                rw [ee] at h6
                simp only [Res.nox, Res.bind] at h6
                intro W9 v9 H9 l9 ok9 r9
                have hP9 : W9.P = upd W1.P A (.lst vs6) := by rw [l9.p, hP7]
                refine ⟨vs6, (ok9.p A _ (by rw [hP9]; exact upd_same)).1, ?_, hlt1, { W9 with P := upd W1.P A (.lst (vs6 ++ [v9])) }, S9, acc6 ++ [d9], vs6 ++ [v9], ?_, rfl, pGrow ok9 hP9, ?_, ?_⟩
                · rw [ra6.length, sizeLine_eq]
                  omega
                · exact (l6.trans (l7.s.trans l9.s)).trans ⟨fun _ _ h => h, fun _ _ h => h⟩
                · exact repsP W9 ((ra6.mono (l7.s.trans l9.s)).append (Reps.cons r9 Reps.nil))
                · exact Cont.le h6 ((show Le { W6 with P := W1.P } { W8 with P := W1.P } from ⟨l7.f, rfl, l7.m⟩).trans ⟨l9.f, rfl, l9.m⟩)
          · left
            simp only [KI] at h6
            rw [List.drop_of_length_le (show ds1.length ≤ j by omega), lc2I, if_pos hgd1] at h6
            have z1' : J1.stop j H := by
              have : j = ds1.length := by omega
              rw [this]
              exact z1
            exact ⟨z1', hlt, W6, S6, acc6, vs6, l2.trans (l3.s.trans (l5.s.trans l6)), hP6, ok6, ra6, h6⟩
    · left
      have e2 : i = ds.length := by omega
      subst e2
      simp only [K] at h2
      rw [List.drop_length, lc2L, if_pos hgd] at h2
      by_cases hq : q = true
      · rw [if_pos hq] at h2
        obtain ⟨k1, k2, k3⟩ := ok2.toCell (P1 := W1.P) (A := A) (vs := vs') (ds := acc) (by rw [hP2]; exact upd_same) hAP (fun a u e => by rw [hP2, upd_ne (ne_of_none e hAP)]; exact e) ra
        exact ⟨y1, h2 _ _ H ⟨k2.f, rfl, k2.m⟩ k1 k3⟩
      rw [if_neg hq] at h2
      obtain ⟨k1, k2, k3⟩ := pEnd ok2 hP2 hAP ra
      exact ⟨y1, h2 _ _ H ⟨k2.f, rfl, fun _ _ q => q⟩ k1 k3⟩
theorem de_lc2 {elt tg iter tg1 iter1 : Expr} {scope : Scope} {own : List (Str × Nat)} {vs1 : List Nat} {pos : Pos} {q : Bool} {fi fi1 : IF} {t t1 : TF} {ix ix1 : List Nat} {fe : EF} (hc : X.calm = true) (hN : X.N.Nodup) (hi : PI X tg iter (dIQ Γ ξ fi E)) (ok : BlkOk X.N X.env.scope scope own)
    (hg : ∀ (s : Shared) (H : Hp) (C : Addr) (cl : List (Str × Addr)) (fp : List Addr), PG (X.blk s H scope (PySem.compEnvC scope cl C X.env) fp) tg (dG Γ ξ t ix))
    (hi1 : ∀ (s : Shared) (H : Hp) (C : Addr) (cl : List (Str × Addr)) (fp : List Addr), PI (X.blk s H scope (PySem.compEnvC scope cl C X.env) fp) tg1 iter1 (dI Γ ξ fi1 E0))
    (hg1 : ∀ (s : Shared) (H : Hp) (C : Addr) (cl : List (Str × Addr)) (fp : List Addr), PG (X.blk s H scope (PySem.compEnvC scope cl C X.env) fp) tg1 (dG Γ ξ t1 ix1))
    (he : ∀ (s : Shared) (H : Hp) (C : Addr) (cl : List (Str × Addr)) (fp : List Addr), PE (X.blk s H scope (PySem.compEnvC scope cl C X.env) fp) elt (dE Γ ξ fe E0)) (hix : ∀ j ∈ ix, j ∈ own.map (·.2) := by decide) (hix1 : ∀ j ∈ ix1, j ∈ vs1 := by decide) (hv : ∀ j ∈ vs1, j ∈ own.map (·.2) := by decide)
    (hs : ∀ x, foldedSetIterable iter X.env x = pure x := by intro _; rfl) (hs1 : ∀ env x, foldedSetIterable iter1 env x = pure x := by intro _ _; rfl) :
    PE X (.ListComp elt [⟨tg, iter, [], 0⟩, ⟨tg1, iter1, [], 0⟩] scope pos) (dE Γ ξ (eLc2 q (own.map (·.2)) vs1 fi t fi1 t1 fe) E) :=
  (pe_lc2 hc hN hi ok hv hg (fun _ _ _ _ _ => pts_nil) hi1 hg1 (fun _ _ _ _ _ => pts_nil) he hs hs1).imp fun σ H Q h => tLc2_of hix hix1 hv h
theorem ds_setLc2 {i : Nat} {y : Str} {py : Pos} {elt tg iter tg1 iter1 : Expr} {scope : Scope} {own : List (Str × Nat)} {vs1 : List Nat} {pos spos : Pos} {q : Bool} {fi fi1 : IF} {t t1 : TF} {ix ix1 : List Nat} {fe : EF}
    (P : PS X (.Assign [.Name y py] (.ListComp elt [⟨tg, iter, [], 0⟩, ⟨tg1, iter1, [], 0⟩] scope pos) spos) (tAsg (tLc2 (dIQ Γ ξ fi E) (dG Γ ξ t ix) tYes (dI Γ ξ fi1 E0) (dG Γ ξ t1 ix1) tYes (dE Γ ξ fe E0) (own.map (·.2)) vs1) (gName i))) (hix : ∀ j ∈ ix, j ∈ own.map (·.2) := by decide) (hix1 : ∀ j ∈ ix1, j ∈ vs1 := by decide) (hv : ∀ j ∈ vs1, j ∈ own.map (·.2) := by decide) :
    PS X (.Assign [.Name y py] (.ListComp elt [⟨tg, iter, [], 0⟩, ⟨tg1, iter1, [], 0⟩] scope pos) spos) (dS Γ ξ (sAsg (tgN i) (eLc2 q (own.map (·.2)) vs1 fi t fi1 t1 fe)) E) := P.imp fun Dn σ H ⟨W, es, S, P0, ok, fr, h⟩ =>
  tLc2_of hix hix1 hv ⟨W, es, S, P0, ok, fr, ContS.toS fr h fun d S1 W1 v H1 le ok1 rv h1 => by
    obtain ⟨W', e, ok', fr'⟩ := Frame.set ok1 (fr.le le) rv i
    exact h1 W' _ H1 e.le ok' fr'⟩
end
end DL
set_option Elab.async false
set_option linter.all false
set_option maxRecDepth 100000
set_option maxHeartbeats 2000000
set_option autoImplicit false
/-! The data layer, 35: enumerate of lists and tuples, zip of three, two items stored at once. -/
namespace PySem
open Sem (wp)
set_option maxHeartbeats 1000000 in
theorem dl_enum_newB {v : Value} {o : Obj} {H : Heap → Prop} (B : Begins v o H) :
    Meets (Builtin.«enumerate.__new__» ⟨[.type "enumerate", v], []⟩) (fun _ R s => H s.heap ∧
      R (.ok (.ret (.ref (s.heap.push o).objs.size))) { s with heap := (s.heap.push o).push { cls := .type "enumerate", data := .fields #[.none, .bool false, .ref s.heap.objs.size, rawInt 0, .none, .none] } }) :=
  .of_wp fun prog w A R s h => by
    obtain ⟨hp, g, d, tk, os⟩ := s; obtain ⟨h1, h⟩ := h
    have hsub := sub_enumerate
    have q1 : ∀ {A' : Around} {E : Value → Shared → Prop} {Q : Value → Shared → Prop}, Q (.ref hp.objs.size) ⟨hp.push o, g, d, tk, os⟩ → wpAny (model prog w) A' (pyIter v) Q E ⟨hp, g, d, tk, os⟩ :=
      fun q => B.iter prog w _ _ ⟨hp, g, d, tk, os⟩ _ h1 q
    wp_walk using q1
    refine wpAny_stack_any fun st => wpAny_pure ?_
    split
    · rename_i c _ _ _ _ _
      cases (c == Value.type "enumerate")
      · wp_walk using q1
        exact ⟨_, rfl, h⟩
      · wp_walk using q1
        exact ⟨_, rfl, h⟩
    · wp_walk using q1
      exact ⟨_, rfl, h⟩
section
variable {prog : Program} {w : World} {A : Around} {E : Value → Shared → Prop} {s : Shared}
theorem dl_enum_begins {v : Value} {o : Obj} {H : Heap → Prop} {Q : Value → Shared → Prop} (B : Begins v o H) (h1 : H s.heap)
    (h : ∀ h', IsEnum h' (s.heap.objs.size + 1) s.heap.objs.size 0 .none → h'.get? s.heap.objs.size = some o → h'.objs.size = s.heap.objs.size + 2 →
      (∀ b o, s.heap.get? b = some o → h'.get? b = some o) → Q (.ref (s.heap.objs.size + 1)) { s with heap := h' }) :
    wpAny (model prog w) A (call (.type "enumerate") [v]) Q E s := by
  refine callType_new F.called_enumerate (by decide) (F.typeCall_enumerate_1 _) (F.newCall_enumerate_1 _) (fun obj => F.args_object_init_2 obj _) F.entry_enumerate_new
    (dl_enum_newB B) ⟨h1, ?_⟩
  have hz : (s.heap.push o).objs.size = s.heap.objs.size + 1 := Heap.size_push ..
  show _ ∧ _
  rw [hz]
  have he : IsEnum ((s.heap.push o).push { cls := .type "enumerate", data := .fields #[.none, .bool false, .ref s.heap.objs.size, rawInt 0, .none, .none] }) (s.heap.objs.size + 1) s.heap.objs.size 0 .none := by
    have := Heap.get?_push_size (s.heap.push o) (o := { cls := .type "enumerate", data := .fields #[.none, .bool false, .ref s.heap.objs.size, rawInt 0, .none, .none] }) rfl
    rw [hz] at this; exact this
  refine ⟨⟨_, he, rfl⟩, h _ he (Heap.get?_push_of_some _ (Heap.get?_push_size _ B.free)) (by rw [Heap.size_push, hz]) fun b o x => Heap.get?_push_of_some _ (Heap.get?_push_of_some _ x)⟩
end
end PySem
namespace DL
open PySem PySem.Spec PyProof.Rows L2 He
/-! ### enumerate over a list or a tuple -/
def IteX (K : PySem.W.Frag) (a : Src) : It :=
  ⟨fun i H => ∃ (xs : List V) (x : V), SqX K H a xs ∧ xs[i]? = some x, fun i H v H' => ∃ T x, v = .ref T ∧ H T = none ∧ H' = upd H T (.tup [.int (i : Nat), x]) ∧ ∀ xs, SqX K H a xs → xs[i]? = some x, fun i H => ∃ xs : List V, SqX K H a xs ∧ xs.length = i⟩
theorem turn_enumX {P : Program} {w : World} {K : PySem.W.Frag} {elts : List Expr} {kk : Nat} {tpos : Pos} {a : Src} {e it : Addr} (na : a.a ≠ it) (hne : e ≠ it) (hea : e ≠ a.a) :
    Turn P w K (.Tuple elts kk tpos) (IteX K a) [e, it] e (fun i h => (∃ old, IsEnum h e it ((i : Nat) : Int) old) ∧ IsIt h a it i) where
  mem := by simp
  obj := fun i h st b hb => by
    obtain ⟨⟨old, he⟩, hi⟩ := st
    have e' : b = e ∨ b = it := by simpa using hb
    rcases e' with z | z
    · rw [z]; exact ⟨_, he, fun v q => nomatch q⟩
    · rw [z]; exact isIt_get hi
  keep := fun i h h' st k => let ⟨⟨old, he⟩, hi⟩ := st; ⟨⟨old, k e (by simp) _ he⟩, isIt_at hi fun o q => k it (by simp) o q⟩
  item := by
    intro X hP hw hK hc i pins s σ H E I hf st hg
    subst hP hw hK
    obtain ⟨⟨old, he⟩, hit⟩ := st
    obtain ⟨xs, x, hq, hx⟩ := hg
    obtain ⟨its, rv, p, hz⟩ := inv_seqX I hq
    obtain ⟨u, hu, ru⟩ := rv.get hx
    have hel : e < s.heap.objs.size := Heap.lt_size he
    have hil : it < s.heap.objs.size := by obtain ⟨_, q, _⟩ := isIt_get hit; exact Heap.lt_size q
    have g1 : i < its.toArray.size := by simpa using (List.getElem?_eq_some_iff.mp hu).1
    have hef : e ∉ [it, a.a] := by simp [hne, hea]
    refine wpAny_pyNext_enum_itemD (drawsX (A := X.A.in1) (I.ok.hd hc) it a na its.toArray) he ⟨hit, p⟩ g1 hne hef fun v h' tk e1 ho d1 hT hsz hk => ?_
    obtain rfl : u = v := by
      have : its.toArray[i]? = some u := by simpa using hu
      exact Option.some.inj (this.symm.trans e1)
    refine ⟨_, rfl, wpAny_letOwnedTupleGo_enum (s := { s with heap := h', toks := tk + 1 }) ho fun h'' he' sb => ?_⟩
    have hT2 : h''.get? s.heap.objs.size = some { cls := .type "tuple", data := .seq #[.int i tk, u] } := (sb.2 _ (Nat.ne_of_gt hel)).trans hT
    have new : ObjOk X.prog X.w (upd H s.heap.objs.size (.tup [.int (i : Nat), x])) h'' s.heap.objs.size (.tup [.int (i : Nat), x]) :=
      ⟨by show 2 ≤ sizeLine; decide, [.int i tk, u], .cons ⟨_, rfl⟩ (.cons ru .nil), ⟨_, hT2, rfl, _, rfl⟩⟩
    have I1 : Inv X pins σ (upd H s.heap.objs.size (.tup [.int (i : Nat), x])) { s with heap := h'', toks := tk + 1 } :=
      I.turnedNew (t' := tk + 1) (ch := [e, it]) (fun b ob hb q => (sb.2 b (fun z => hb (by simp [z]))).trans (hk b ob (fun z => hb (by simp [z])) (fun z => hb (by simp [z])) q)) hf (Nat.le_refl _) new
    refine ⟨.ref s.heap.objs.size, _, I1, rfl, ⟨_, x, rfl, I.hok.fresh (Nat.le_refl _), rfl, fun ys hy => by rw [inv_seqX_inj I hy hq]; exact hx⟩, ⟨⟨u, ?_⟩, isIt_at d1.1 fun o q => (sb.2 it (Ne.symm hne)).trans q⟩, fun b hb => ?_⟩
    · have e1 : ((i + 1 : Nat) : Int) = (i : Int) + 1 := by omega
      rw [e1]; exact he'
    · have hb' : b < s.heap.objs.size := by
        have e' : b = e ∨ b = it := by simpa using hb
        rcases e' with z | z
        · rw [z]; exact hel
        · rw [z]; exact hil
      rw [upd_ne (Nat.ne_of_lt hb')]
      exact (hf b hb).1
  done := by
    intro X hP hw hK hc i pins s σ H E I hf st hg
    subst hP hw hK
    obtain ⟨⟨old, he⟩, hit⟩ := st
    obtain ⟨xs, hq, hx⟩ := hg
    obtain ⟨its, rv, p, hz⟩ := inv_seqX I hq
    have hl := rv.length
    have en : i = its.toArray.size := by simp; omega
    subst en
    exact wpAny_pyNext_enum_endD (drawsX (A := X.A.in1) (I.ok.hd hc) it a na its.toArray) he ⟨hit, p⟩ fun h' hk => ⟨rfl, I.turnedL (t' := s.toks) (ch := [e, it]) (fun c o hb q => hk c o (fun q' => hb (by simp [q'])) q) hf⟩
  self := fun A i s Q E st h => let ⟨⟨_, he⟩, _⟩ := st; wpAny_pyIter_enum he h
def iEnumX (K : PySem.W.Frag) (ta : TA) : TI := fun σ H R => ta σ H fun vs H1 => ∃ (a : Src) (xs : List V), vs = [.ref a.a] ∧ SqX K H1 a xs ∧ R (IteX K a) H1
theorem pi_enumX {X : Cx} {e : Expr} {ta : TA} {p pos tpos : Pos} {elts : List Expr} {kk : Nat} (hg : Gl X "enumerate") (hm : X.mg "enumerate" = none) (ha : PA X [e] ta) (hs : starEach [e] X.env = [(false, eval e X.env)] := by rfl) :
    PI X (.Tuple elts kk tpos) (.Call (.Name "enumerate" p) [e] [] pos) (iEnumX X.K ta) := by
  refine ⟨fun pins s σ H R I h => ?_⟩
  refine Call_ (ld_blt I hg hm boot_enumerate (PyProof.Rows.callWith_type1 (thn (ha.run pos pins s σ H _ I h) fun us s1 ⟨vs, H1, I1, r1, q1⟩ => ?_) hs rfl))
  obtain ⟨a, xs, ex, hq, q⟩ := q1
  subst ex
  cases r1 with
  | cons r rr =>
    cases rr
    cases r
    obtain ⟨its, rv, p', hz⟩ := inv_seqX I1 hq
    refine dl_enum_begins (beginsX a its.toArray) p' fun h' he hit hsz hk => wpAny_pyIter_enum he ?_
    have I2 : Inv X pins σ H1 { s1 with heap := h' } := I1.kept (t' := s1.toks) hk
    refine ⟨s1.heap.objs.size + 1, [s1.heap.objs.size + 1, s1.heap.objs.size], _, _, H1, rfl, I2, turn_enumX (Nat.ne_of_lt hz) (Nat.succ_ne_self _) (Nat.ne_of_gt (Nat.lt_succ_of_lt hz)), ⟨⟨.none, he⟩, isIt_new hit⟩, fun b hb => ?_, q⟩
    have e' : b = s1.heap.objs.size + 1 ∨ b = s1.heap.objs.size := by simpa using hb
    have hle : s1.heap.objs.size ≤ b := by
      rcases e' with z | z
      · rw [z]; exact Nat.le_add_right _ _
      · rw [z]; exact Nat.le_refl _
    exact I1.fpOk hle (I1.hok.fresh hle)
section
variable {Γ : Pg} {ξ : Xx} {X : Cx} {E : WX}
theorem yld_enumX {W : Wd} {a : Src} {ds : List D} {g : Gd} (q1 : ∀ W' S' H', LeS W W' → Ok Γ W' S' H' → g.ok S' → ∃ vs, SqX Γ.K H' a vs ∧ Reps Γ W' ds vs) : Yld Γ W (IteX Γ.K a) (enumD ds) g := fun W' S H l ok hg => by
  obtain ⟨vs, q, r⟩ := q1 W' S H l ok hg
  refine ⟨⟨vs, q, by rw [r.length, enumD_len]⟩, fun i d hd => ?_⟩
  obtain ⟨e, he, rfl⟩ := enumD_get hd
  obtain ⟨v, hv, rv⟩ := r.get he
  refine ⟨⟨vs, v, q, hv⟩, fun z H' ⟨T, x', e1, hT, e2, e3⟩ => ?_⟩
  have e3 := e3 vs q
  rw [hv] at e3
  obtain rfl := Option.some.inj e3
  subst e1 e2
  have l2 := Le.lay (o := .tup [.int (i : Nat), v]) (ok.fresh hT).1
  exact ⟨_, l2, ok.lay hT _, rep_tup (Reps.cons (by simp only [Rep]) (Reps.cons (rv.mono l2.s) Reps.nil))⟩
def itEnumX (a : AF) : IF := fun es S => (a es S).bindI fun ds S1 => match ds with
  | [x] => match seqV S1 x with
    | some (_, xs, g) => .ok (enumD xs) g S1
    | none => .bad
  | _ => .bad
theorem di_enumX {e : Expr} {ta : AF} {p pos tpos : Pos} {elts : List Expr} {kk : Nat} (hK : X.K = Γ.K) (hm : X.mg "enumerate" = none) (ha : PA X [e] (dA Γ ξ ta E)) (hg : Gl X "enumerate" := by rfl) (hs : starEach [e] X.env = [(false, eval e X.env)] := by rfl) :
    PI X (.Tuple elts kk tpos) (.Call (.Name "enumerate" p) [e] [] pos) (dI Γ ξ (itEnumX ta) E) :=
  (pi_enumX hg hm ha hs).imp fun σ H R ⟨W, es, S, P0, ok, fr, h⟩ => by
    refine ⟨W, es, S, P0, ok, fr, ?_⟩
    unfold itEnumX at h
    cases e : ta es S with
    | bad => rw [e] at h; exact h.elim
    | exc k fs S1 => rw [e] at h; exact h
    | ok ds S1 =>
      rw [e] at h
      intro W1 vs H1 l1 ok1 rs
      simp only [ResA.bindI] at h
      split at h
      case h_2 => exact h.elim
      rename_i x
      split at h
      case h_2 => exact h.elim
      rename_i t xs g hx
      simp only [Reps] at rs
      obtain ⟨v, vs', rfl, r1, rfl⟩ := rs
      obtain ⟨a, rfl, ⟨va, q1, q2⟩, q3⟩ := src_of ok1 r1 hx
      rw [hK]
      exact ⟨⟨t, a⟩, va, rfl, q1, h W1 _ H1 l1 ok1 (yld_enumX q3)⟩
@[simp] theorem itEnumX_eq {a : AF} {es : List SD} {S : Store} : itEnumX a es S = (a es S).bindI fun ds S1 => match ds with
  | [x] => match seqV S1 x with
    | some (_, xs, g) => .ok (enumD xs) g S1
    | none => .bad
  | _ => .bad := by
  unfold itEnumX
  rfl
end

/-! ### zip of three -/
def Itz3 (K : PySem.W.Frag) (a b c : Src) : It :=
  ⟨fun i H => ∃ (xs ys zs : List V) (x y z : V), SqX K H a xs ∧ SqX K H b ys ∧ SqX K H c zs ∧ xs[i]? = some x ∧ ys[i]? = some y ∧ zs[i]? = some z,
    fun i H v H' => ∃ T x y z, v = .ref T ∧ H T = none ∧ H' = upd H T (.tup [x, y, z]) ∧ (∀ xs, SqX K H a xs → xs[i]? = some x) ∧ (∀ ys, SqX K H b ys → ys[i]? = some y) ∧ ∀ zs, SqX K H c zs → zs[i]? = some z,
    fun i H => ∃ xs ys zs : List V, SqX K H a xs ∧ SqX K H b ys ∧ SqX K H c zs ∧ (xs.length = i ∨ ys.length = i ∨ zs.length = i) ∧ i ≤ xs.length ∧ i ≤ ys.length ∧ i ≤ zs.length⟩
theorem turn_zip3X {P : Program} {w : World} {K : PySem.W.Frag} {elts : List Expr} {kk : Nat} {tpos : Pos} {a b c : Src} {z TI TO i1 i2 i3 : Addr} (D : ZipSep3 z TI TO i1 i2 i3 [i1, a.a] [i2, b.a] [i3, c.a]) (n1 : a.a ≠ i1) (n2 : b.a ≠ i2) (n3 : c.a ≠ i3) :
    Turn P w K (.Tuple elts kk tpos) (Itz3 K a b c) [z, TI, TO, i1, i2, i3] z (fun i h => IsZip h z TI TO .none ∧ IsTupOf3 h TI (.ref i1) (.ref i2) (.ref i3) ∧ (∃ x y u, IsTupOf3 h TO x y u) ∧ IsIt h a i1 i ∧ IsIt h b i2 i ∧ IsIt h c i3 i) where
  mem := by simp
  obj := fun i h st c hc => by
    obtain ⟨hz, hTI, ⟨x, y, u, hTO⟩, h1, h2, h3⟩ := st
    have e' : c = z ∨ c = TI ∨ c = TO ∨ c = i1 ∨ c = i2 ∨ c = i3 := by simpa using hc
    rcases e' with q | q | q | q | q | q
    · rw [q]; exact ⟨_, hz, fun v q => nomatch q⟩
    · rw [q]; exact ⟨_, hTI, fun v q => nomatch q⟩
    · rw [q]; exact ⟨_, hTO, fun v q => nomatch q⟩
    · rw [q]; exact isIt_get h1
    · rw [q]; exact isIt_get h2
    · rw [q]; exact isIt_get h3
  keep := fun i h h' st k => by
    obtain ⟨hz, hTI, ⟨x, y, u, hTO⟩, h1, h2, h3⟩ := st
    exact ⟨k z (by simp) _ hz, k TI (by simp) _ hTI, ⟨x, y, u, k TO (by simp) _ hTO⟩, isIt_at h1 fun o q => k i1 (by simp) o q, isIt_at h2 fun o q => k i2 (by simp) o q, isIt_at h3 fun o q => k i3 (by simp) o q⟩
  item := by
    intro X hP hw hK hc i pins s σ H E I hf st hg
    subst hP hw hK
    obtain ⟨hz, hTI, ⟨x0, y0, u0, hTO⟩, h1, h2, h3⟩ := st
    obtain ⟨xs, ys, zs, x, y, t, hqx, hqy, hqz, hx, hy, ht⟩ := hg
    obtain ⟨its, rv, p, _⟩ := inv_seqX I hqx
    obtain ⟨its2, rv2, p2, _⟩ := inv_seqX I hqy
    obtain ⟨its3, rv3, p3, _⟩ := inv_seqX I hqz
    obtain ⟨u, hu, ru⟩ := rv.get hx
    obtain ⟨u2, hu2, ru2⟩ := rv2.get hy
    obtain ⟨u3, hu3, ru3⟩ := rv3.get ht
    have hzl : z < s.heap.objs.size := Heap.lt_size hz
    have g1 : i < its.toArray.size := by simpa using (List.getElem?_eq_some_iff.mp hu).1
    have g2 : i < its2.toArray.size := by simpa using (List.getElem?_eq_some_iff.mp hu2).1
    have g3 : i < its3.toArray.size := by simpa using (List.getElem?_eq_some_iff.mp hu3).1
    refine wpAny_pyNext_zipD3_item D (drawsX (A := X.A.in1) (I.ok.hd hc) i1 a n1 its.toArray) (drawsX (A := X.A.in1) (I.ok.hd hc) i2 b n2 its2.toArray) (drawsX (A := X.A.in1) (I.ok.hd hc) i3 c n3 its3.toArray) hz hTI hTO ⟨h1, p⟩ ⟨h2, p2⟩ ⟨h3, p3⟩ g1 g2 g3 fun v1 v2 v3 h' tk e1 e2 e3 z' TO' d1 d2 d3 hT hsz hk => ?_
    obtain rfl : u = v1 := by
      have : its.toArray[i]? = some u := by simpa using hu
      exact Option.some.inj (this.symm.trans e1)
    obtain rfl : u2 = v2 := by
      have : its2.toArray[i]? = some u2 := by simpa using hu2
      exact Option.some.inj (this.symm.trans e2)
    obtain rfl : u3 = v3 := by
      have : its3.toArray[i]? = some u3 := by simpa using hu3
      exact Option.some.inj (this.symm.trans e3)
    refine ⟨_, rfl, wpAny_letOwnedTupleGo_zip (s := { s with heap := h', toks := tk }) z' fun h'' z'' sb => ?_⟩
    have hT2 : h''.get? s.heap.objs.size = some { cls := .type "tuple", data := .seq #[u, u2, u3] } := (sb.2 _ (Nat.ne_of_gt hzl)).trans hT
    have new : ObjOk X.prog X.w (upd H s.heap.objs.size (.tup [x, y, t])) h'' s.heap.objs.size (.tup [x, y, t]) :=
      ⟨by show 3 ≤ sizeLine; decide, [u, u2, u3], .cons ru (.cons ru2 (.cons ru3 .nil)), ⟨_, hT2, rfl, _, rfl⟩⟩
    have I1 : Inv X pins σ (upd H s.heap.objs.size (.tup [x, y, t])) { s with heap := h'', toks := tk } :=
      I.turnedNew (t' := tk) (ch := [z, TI, TO, i1, i2, i3]) (fun c o hb q => (sb.2 c (fun q' => hb (by simp [q']))).trans (hk c o (fun q' => hb (by simp [q'])) (fun q' => hb (by simp [q'])) (fun q' => hb (by simp [q'])) (fun q' => hb (by simp [q'])) (fun q' => hb (by simp [q'])) q)) hf (Nat.le_refl _) new
    refine ⟨.ref s.heap.objs.size, _, I1, rfl, ⟨_, x, y, t, rfl, I.hok.fresh (Nat.le_refl _), rfl, fun l hl => by rw [inv_seqX_inj I hl hqx]; exact hx, fun l hl => by rw [inv_seqX_inj I hl hqy]; exact hy, fun l hl => by rw [inv_seqX_inj I hl hqz]; exact ht⟩, ⟨z'', ?_, ⟨u, u2, u3, ?_⟩, ?_, ?_, ?_⟩, fun c hcm => ?_⟩
    · exact (sb.2 _ D.TIz).trans (hk _ _ D.TIz D.TITO D.TIi1 D.TIi2 D.TIi3 hTI)
    · exact (sb.2 _ D.TOz).trans TO'
    · exact isIt_at d1.1 fun o q => (sb.2 _ fun w => D.zf1 (by simp [w])).trans q
    · exact isIt_at d2.1 fun o q => (sb.2 _ fun w => D.zf2 (by simp [w])).trans q
    · exact isIt_at d3.1 fun o q => (sb.2 _ fun w => D.zf3 (by simp [w])).trans q
    · have hlt : c < s.heap.objs.size := by
        have e' : c = z ∨ c = TI ∨ c = TO ∨ c = i1 ∨ c = i2 ∨ c = i3 := by simpa using hcm
        rcases e' with q | q | q | q | q | q
        · rw [q]; exact hzl
        · rw [q]; exact Heap.lt_size hTI
        · rw [q]; exact Heap.lt_size hTO
        · rw [q]; obtain ⟨_, e1, _⟩ := isIt_get h1; exact Heap.lt_size e1
        · rw [q]; obtain ⟨_, e2, _⟩ := isIt_get h2; exact Heap.lt_size e2
        · rw [q]; obtain ⟨_, e3, _⟩ := isIt_get h3; exact Heap.lt_size e3
      rw [upd_ne (Nat.ne_of_lt hlt)]
      exact (hf c hcm).1
  done := by
    intro X hP hw hK hc i pins s σ H E I hf st hg
    subst hP hw hK
    obtain ⟨hz, hTI, ⟨x0, y0, u0, hTO⟩, h1, h2, h3⟩ := st
    obtain ⟨xs, ys, zs, hqx, hqy, hqz, hend, hl1, hl2, hl3⟩ := hg
    obtain ⟨its, rv, p, _⟩ := inv_seqX I hqx
    obtain ⟨its2, rv2, p2, _⟩ := inv_seqX I hqy
    obtain ⟨its3, rv3, p3, _⟩ := inv_seqX I hqz
    have l1 := rv.length
    have l2 := rv2.length
    have l3 := rv3.length
    refine wpAny_pyNext_zipD3_end D (drawsX (A := X.A.in1) (I.ok.hd hc) i1 a n1 its.toArray) (drawsX (A := X.A.in1) (I.ok.hd hc) i2 b n2 its2.toArray) (drawsX (A := X.A.in1) (I.ok.hd hc) i3 c n3 its3.toArray) (i := i) hz hTI hTO ⟨h1, p⟩ ⟨h2, p2⟩ ⟨h3, p3⟩ (by simp; omega) (by simp; omega) (by simp; omega) (by simp; omega) fun h' tk hk => ⟨rfl, I.turnedL (t' := tk) (ch := [z, TI, TO, i1, i2, i3]) (fun c o hb q =>
      hk c o (fun q' => hb (by simp [q'])) (fun q' => hb (by simp [q'])) (fun q' => hb (by simp [q'])) (fun q' => hb (by simp [q'])) (fun q' => hb (by simp [q'])) q) hf⟩
  self := fun A i s Q E st h => wpAny_pyIter_zip st.1 h
def iZip3 (K : PySem.W.Frag) (ta : TA) : TI := fun σ H R => ta σ H fun vs H1 => ∃ (a b c : Src) (xs ys zs : List V), vs = [.ref a.a, .ref b.a, .ref c.a] ∧ SqX K H1 a xs ∧ SqX K H1 b ys ∧ SqX K H1 c zs ∧ R (Itz3 K a b c) H1
theorem pi_zip3X {X : Cx} {e e2 e3 : Expr} {ta : TA} {p pos tpos : Pos} {elts : List Expr} {kk : Nat} (hg : Gl X "zip") (hm : X.mg "zip" = none) (ha : PA X [e, e2, e3] ta)
    (hs : starEach [e, e2, e3] X.env = (false, eval e X.env) :: starEach [e2, e3] X.env := by rfl) (hpl : (backTo pos (starEach [e2, e3] X.env)).any (·.1) = false := by rfl) :
    PI X (.Tuple elts kk tpos) (.Call (.Name "zip" p) [e, e2, e3] [] pos) (iZip3 X.K ta) := by
  refine ⟨fun pins s σ H R I h => ?_⟩
  refine Call_ (ld_blt I hg hm PyProof.Rows.boot_zip (PyProof.Rows.callWith_type1 (thn (ha.run pos pins s σ H _ I h) fun us s1 ⟨vs, H1, I1, r1, q1⟩ => ?_) hs hpl))
  obtain ⟨a, b, c, xs, ys, zs, ex, hqx, hqy, hqz, q⟩ := q1
  subst ex
  cases r1 with
  | cons r rr =>
    cases rr with
    | cons r' rr =>
      cases rr with
      | cons r'' rr =>
        cases rr
        cases r
        cases r'
        cases r''
        have fresh6 : ∀ c, c ∈ [s1.heap.objs.size + 5, s1.heap.objs.size + 3, s1.heap.objs.size + 4, s1.heap.objs.size, s1.heap.objs.size + 1, s1.heap.objs.size + 2] → FpOk X pins H1 c := fun c hcm => by
          have e' : c = s1.heap.objs.size + 5 ∨ c = s1.heap.objs.size + 3 ∨ c = s1.heap.objs.size + 4 ∨ c = s1.heap.objs.size ∨ c = s1.heap.objs.size + 1 ∨ c = s1.heap.objs.size + 2 := by simpa using hcm
          have hle : s1.heap.objs.size ≤ c := by
            rcases e' with z | z | z | z | z | z
            · rw [z]; exact Nat.le_add_right _ _
            · rw [z]; exact Nat.le_add_right _ _
            · rw [z]; exact Nat.le_add_right _ _
            · rw [z]; exact Nat.le_refl _
            · rw [z]; exact Nat.le_add_right _ _
            · rw [z]; exact Nat.le_add_right _ _
          exact I1.fpOk hle (I1.hok.fresh hle)
        obtain ⟨its, rv, p1, la⟩ := inv_seqX I1 hqx
        obtain ⟨its2, rv2, p2, lb⟩ := inv_seqX I1 hqy
        obtain ⟨its3, rv3, p3, lc⟩ := inv_seqX I1 hqz
        refine zip_begins3 (beginsX a its.toArray) (beginsX b its2.toArray) (beginsX c its3.toArray) p1 p2 p3 fun h' hz hTI hTO h1 h2 h3 hsz hk => wpAny_pyIter_zip hz ?_
        have I2 : Inv X pins σ H1 { s1 with heap := h' } := I1.kept (t' := s1.toks) hk
        exact ⟨s1.heap.objs.size + 5, [s1.heap.objs.size + 5, s1.heap.objs.size + 3, s1.heap.objs.size + 4, s1.heap.objs.size, s1.heap.objs.size + 1, s1.heap.objs.size + 2], _, _, H1, rfl, I2,
          turn_zip3X (zip_sep3 (fun b hb => by rw [List.mem_singleton.mp hb]; exact la) (fun c hb => by rw [List.mem_singleton.mp hb]; exact lb) (fun c hb => by rw [List.mem_singleton.mp hb]; exact lc)) (Nat.ne_of_lt la) (Nat.ne_of_lt (Nat.lt_succ_of_lt lb)) (Nat.ne_of_lt (Nat.lt_succ_of_lt (Nat.lt_succ_of_lt lc))), ⟨hz, hTI, ⟨_, _, _, hTO⟩, isIt_new h1, isIt_new h2, isIt_new h3⟩, fresh6, q⟩
def zip3D : List D → List D → List D → List D
  | x :: xs, y :: ys, z :: zs => .tup [x, y, z] :: zip3D xs ys zs
  | _, _, _ => []
theorem zip3D_get : ∀ {xs ys zs : List D} {i : Nat} {d : D}, (zip3D xs ys zs)[i]? = some d → ∃ x y z, xs[i]? = some x ∧ ys[i]? = some y ∧ zs[i]? = some z ∧ d = .tup [x, y, z]
  | x :: xs, y :: ys, z :: zs, 0, d, h => by
    simp only [zip3D, List.getElem?_cons_zero, Option.some.injEq] at h
    exact ⟨x, y, z, rfl, rfl, rfl, h.symm⟩
  | x :: xs, y :: ys, z :: zs, i + 1, d, h => by
    simp only [zip3D, List.getElem?_cons_succ] at h ⊢
    exact zip3D_get h
  | [], _, _, _, _, h => by simp [zip3D] at h
  | _ :: _, [], _, _, _, h => by simp [zip3D] at h
  | _ :: _, _ :: _, [], _, _, h => by simp [zip3D] at h
theorem zip3D_len : ∀ {xs ys zs : List D}, (xs.length = (zip3D xs ys zs).length ∨ ys.length = (zip3D xs ys zs).length ∨ zs.length = (zip3D xs ys zs).length) ∧ (zip3D xs ys zs).length ≤ xs.length ∧ (zip3D xs ys zs).length ≤ ys.length ∧ (zip3D xs ys zs).length ≤ zs.length
  | x :: xs, y :: ys, z :: zs => by
    have := zip3D_len (xs := xs) (ys := ys) (zs := zs)
    simp only [zip3D, List.length_cons]
    omega
  | [], _, _ => by simp [zip3D]
  | _ :: _, [], _ => by simp [zip3D]
  | _ :: _, _ :: _, [] => by simp [zip3D]
section
variable {Γ : Pg} {ξ : Xx} {X : Cx} {E : WX}
theorem yld_zip3 {W : Wd} {a b c : Src} {ds fs hs : List D} {g g' g'' : Gd} (q1 : ∀ W' S' H', LeS W W' → Ok Γ W' S' H' → g.ok S' → ∃ vs, SqX Γ.K H' a vs ∧ Reps Γ W' ds vs) (q2 : ∀ W' S' H', LeS W W' → Ok Γ W' S' H' → g'.ok S' → ∃ vs, SqX Γ.K H' b vs ∧ Reps Γ W' fs vs)
    (q3 : ∀ W' S' H', LeS W W' → Ok Γ W' S' H' → g''.ok S' → ∃ vs, SqX Γ.K H' c vs ∧ Reps Γ W' hs vs) : Yld Γ W (Itz3 Γ.K a b c) (zip3D ds fs hs) (g ++ (g' ++ g'')) := fun W' S H l ok hg => by
  obtain ⟨vs, q, r⟩ := q1 W' S H l ok fun p hp => hg p (List.mem_append_left _ hp)
  obtain ⟨us, q', r'⟩ := q2 W' S H l ok fun p hp => hg p (List.mem_append_right _ (List.mem_append_left _ hp))
  obtain ⟨ts, q'', r''⟩ := q3 W' S H l ok fun p hp => hg p (List.mem_append_right _ (List.mem_append_right _ hp))
  refine ⟨⟨vs, us, ts, q, q', q'', ?_⟩, fun i d hd => ?_⟩
  · rw [r.length, r'.length, r''.length]
    exact zip3D_len
  · obtain ⟨x, y, t, h1, h2, h3, rfl⟩ := zip3D_get hd
    obtain ⟨v, hv, rv⟩ := r.get h1
    obtain ⟨u, hu, ru⟩ := r'.get h2
    obtain ⟨w, hw, rw_⟩ := r''.get h3
    refine ⟨⟨vs, us, ts, v, u, w, q, q', q'', hv, hu, hw⟩, fun z H' ⟨T, x', y', t', e1, hT, e2, e3, e4, e5⟩ => ?_⟩
    have e3 := e3 vs q
    have e4 := e4 us q'
    have e5 := e5 ts q''
    rw [hv] at e3
    rw [hu] at e4
    rw [hw] at e5
    obtain rfl := Option.some.inj e3
    obtain rfl := Option.some.inj e4
    obtain rfl := Option.some.inj e5
    subst e1 e2
    have l2 := Le.lay (o := .tup [v, u, w]) (ok.fresh hT).1
    exact ⟨_, l2, ok.lay hT _, rep_tup (Reps.cons (rv.mono l2.s) (Reps.cons (ru.mono l2.s) (Reps.cons (rw_.mono l2.s) Reps.nil)))⟩
def itZip3 (a : AF) : IF := fun es S => (a es S).bindI fun ds S1 => match ds with
  | [x, y, z] => match seqV S1 x, seqV S1 y, seqV S1 z with
    | some (_, xs, g), some (_, ys, g'), some (_, zs, g'') => .ok (zip3D xs ys zs) (g ++ (g' ++ g'')) S1
    | _, _, _ => .bad
  | _ => .bad
theorem di_zip3 {e e2 e3 : Expr} {ta : AF} {p pos tpos : Pos} {elts : List Expr} {kk : Nat} (hK : X.K = Γ.K) (hm : X.mg "zip" = none) (ha : PA X [e, e2, e3] (dA Γ ξ ta E)) (hg : Gl X "zip" := by rfl)
    (hs : starEach [e, e2, e3] X.env = (false, eval e X.env) :: starEach [e2, e3] X.env := by rfl) (hpl : (backTo pos (starEach [e2, e3] X.env)).any (·.1) = false := by rfl) :
    PI X (.Tuple elts kk tpos) (.Call (.Name "zip" p) [e, e2, e3] [] pos) (dI Γ ξ (itZip3 ta) E) :=
  (pi_zip3X hg hm ha hs hpl).imp fun σ H R ⟨W, es, S, P0, ok, fr, h⟩ => by
    refine ⟨W, es, S, P0, ok, fr, ?_⟩
    unfold itZip3 at h
    cases e : ta es S with
    | bad => rw [e] at h; exact h.elim
    | exc k fs S1 => rw [e] at h; exact h
    | ok ds S1 =>
      rw [e] at h
      intro W1 vs H1 l1 ok1 rs
      simp only [ResA.bindI] at h
      split at h
      case h_2 => exact h.elim
      rename_i x y z
      split at h
      case h_2 => exact h.elim
      rename_i t1 xs g1 t2 ys g2 t3 zs g3 hx hy hz
      simp only [Reps] at rs
      obtain ⟨v, vs', rfl, r1, u, us', rfl, r2, w, ws', rfl, r3, rfl⟩ := rs
      obtain ⟨a, rfl, ⟨va, q1, q2⟩, q3⟩ := src_of ok1 r1 hx
      obtain ⟨b, rfl, ⟨vb, q4, q5⟩, q6⟩ := src_of ok1 r2 hy
      obtain ⟨c, rfl, ⟨vc, q7, q8⟩, q9⟩ := src_of ok1 r3 hz
      rw [hK]
      exact ⟨⟨t1, a⟩, ⟨t2, b⟩, ⟨t3, c⟩, va, vb, vc, rfl, q1, q4, q7, h W1 _ H1 l1 ok1 (yld_zip3 q3 q6 q9)⟩
@[simp] theorem itZip3_eq {a : AF} {es : List SD} {S : Store} : itZip3 a es S = (a es S).bindI fun ds S1 => match ds with
  | [x, y, z] => match seqV S1 x, seqV S1 y, seqV S1 z with
    | some (_, xs, g), some (_, ys, g'), some (_, zs, g'') => .ok (zip3D xs ys zs) (g ++ (g' ++ g'')) S1
    | _, _, _ => .bad
  | _ => .bad := by
  unfold itZip3
  rfl

/-! ### o1[i1], o2[i2] = .. -/
def stAt (d : D) (es : List SD) (o i : D) (S3 : Store) : Fl := match o, i with
  | .cell c, .int k => match S3[c]? with
    | some ds => match ixN ds.length k with
      | some j => .next es (S3.set c (ds.set j d))
      | none => .bad
    | none => .bad
  | _, _ => .bad
def sStV (fo fi : EF) (d : D) : SF := fun es S1 => (fo es S1).toS es fun o S2 => (fi es S2).toS es fun i S3 => stAt d es o i S3
theorem toS_bind {r : Res} {es : List SD} {k : D → Store → Fl} {g : SF} : (r.toS es k).bind g = r.toS es fun d S => (k d S).bind g := by
  cases r <;> rfl
def sStore2 (fo fi fo2 fi2 fe : EF) : SF := fun es S => (fe es S).toS es fun d S1 => match d with
  | .tup [d1, d2] => (sStV fo fi d1 es S1).bind (sStV fo2 fi2 d2)
  | _ => .bad
theorem ds_store2 {o i o2 i2 e : Expr} {fo fi fo2 fi2 fe : EF} {tpos tpos2 tp pos : Pos} {kt : Nat} (hK : X.K = Γ.K) (hc : X.calm = true) (ho : PE X o (dE Γ ξ fo E)) (hi : PE X i (dE Γ ξ fi E)) (ho2 : PE X o2 (dE Γ ξ fo2 E)) (hi2 : PE X i2 (dE Γ ξ fi2 E)) (he : PE X e (dE Γ ξ fe E))
    (hs : swapsWithSole [.Tuple [.Subscript o i tpos, .Subscript o2 i2 tpos2] kt tp] e pos.line X.env = pure false := by rfl) (hw : swappedStores [.Tuple [.Subscript o i tpos, .Subscript o2 i2 tpos2] kt tp] e X.env = pure none := by rfl)
    (h1 : (assignEach [.Tuple [.Subscript o i tpos, .Subscript o2 i2 tpos2] kt tp] X.env).map (·.2) = [assign (.Tuple [.Subscript o i tpos, .Subscript o2 i2 tpos2] kt tp) X.env] := by rfl)
    (ha : ∀ v, assign (.Subscript o i tpos) X.env v = (do
      let ov ← holding [v] (eval o X.env)
      let iv ← holding [v, ov] (eval i X.env)
      standAt tpos
      holding [v, ov, iv] (setItem ov iv v)
      release [v, ov, iv] []) := by intro _; rfl)
    (ha2 : ∀ v, assign (.Subscript o2 i2 tpos2) X.env v = (do
      let ov ← holding [v] (eval o2 X.env)
      let iv ← holding [v, ov] (eval i2 X.env)
      standAt tpos2
      holding [v, ov, iv] (setItem ov iv v)
      release [v, ov, iv] []) := by intro _; rfl)
    (hg : (assignEach [.Subscript o i tpos, .Subscript o2 i2 tpos2] X.env).map (·.2) = assign (.Subscript o i tpos) X.env :: (assignEach [.Subscript o2 i2 tpos2] X.env).map (·.2) := by rfl)
    (hg2 : (assignEach [.Subscript o2 i2 tpos2] X.env).map (·.2) = assign (.Subscript o2 i2 tpos2) X.env :: (assignEach [] X.env).map (·.2) := by rfl)
    (hn : (assignEach [.Subscript o i tpos, .Subscript o2 i2 tpos2] X.env).length = 2 := by rfl) (hst : (assignEach [.Subscript o i tpos, .Subscript o2 i2 tpos2] X.env).findIdx? (·.1) = none := by rfl) :
    PS X (.Assign [.Tuple [.Subscript o i tpos, .Subscript o2 i2 tpos2] kt tp] e pos) (dS Γ ξ (sStore2 fo fi fo2 fi2 fe) E) :=
  (ps_asg he (pg_tup hc (pgs_cons (pg_sub ho hi set_list ha) (pgs_cons (pg_sub ho2 hi2 set_list ha2) pgs_nil hg2) hg) hn hst) hs hw h1).imp fun Dn σ H ⟨W, es, S, P0, ok, fr, h⟩ => by
    refine ⟨W, es, S, P0, ok, fr, ContS.toS fr h fun d S1 W1 v H1 l1 ok1 r1 h1 => ?_⟩
    split at h1
    case h_2 => exact h1.elim
    rename_i d1 d2
    simp only [Rep] at r1
    obtain ⟨a, vs, rfl, q1, q2⟩ := r1
    simp only [Reps] at q2
    obtain ⟨v1, _, rfl, r1, v2, _, rfl, r2, rfl⟩ := q2
    refine ⟨a, [v1, v2], rfl, by rw [hK]; exact sqT_H ok1.f q1, rfl, v1, [v2], rfl, ?_⟩
    have fr1 := fr.le l1
    clear q1 ok fr h l1
    have key : ∀ (g : SF) (d : D) (v : V) (fo fi : EF) (W1 : Wd) (S1 : Store) (H1 : Hp) (Q : L2.St → Hp → Prop), Ok Γ W1 S1 H1 → Frame Γ ξ W1 es σ P0 → Rep Γ W1 d v → ContS Γ ξ ((sStV fo fi d es S1).bind g) W1 P0 Dn E →
        (∀ W4 S4 H4, LeS W1 W4 → Ok Γ W4 S4 H4 → Frame Γ ξ W4 es σ P0 → ContS Γ ξ (g es S4) W4 P0 Dn E → Q σ H4) → gSub (dE Γ ξ fo E) (dE Γ ξ fi E) rSetL v σ H1 Q := by
      intro g d v fo fi W1 S1 H1 Q ok1 fr1 r1 h1 q
      unfold sStV at h1
      rw [toS_bind] at h1
      refine ⟨W1, es, S1, P0, ok1, fr1, ContS.toS fr1 h1 fun o S2 W2 ov H2 l2 ok2 r2 h2 => ?_⟩
      rw [toS_bind] at h2
      refine ⟨W2, es, S2, P0, ok2, fr1.le l2, ContS.toS (fr1.le l2) h2 fun i S3 W3 iv H3 l3 ok3 r3 h3 => ?_⟩
      unfold stAt at h3
      split at h3
      case h_2 => exact h3.elim
      rename_i c k
      split at h3
      case h_2 => exact h3.elim
      rename_i ds hc
      split at h3
      case h_2 => exact h3.elim
      rename_i j hj
      have r2' := r2.mono l3.s
      simp only [Rep] at r2' r3
      obtain ⟨a, rfl, hm⟩ := r2'
      subst r3
      obtain ⟨ds', vs, q1, q2, q3⟩ := ok3.cell hm
      rw [hc] at q1
      obtain rfl := Option.some.inj q1
      refine ⟨a, vs, k, j, rfl, rfl, q2, by rw [q3.length]; exact hj, ?_⟩
      exact q W3 _ _ (l2.trans l3).s (ok3.cellSet hm (q3.set (r1.mono (l2.trans l3).s) j)) ((fr1.le l2).le l3) h3
    refine key (sStV fo2 fi2 d2) d1 v1 fo fi W1 S1 H1 _ ok1 fr1 r1 h1 fun W4 S4 H4 l4 ok4 fr4 h4 => ?_
    have h4' : ContS Γ ξ ((sStV fo2 fi2 d2 es S4).bind fun es S => .next es S) W4 P0 Dn E := by
      cases e : sStV fo2 fi2 d2 es S4 <;> rw [e] at h4 <;> exact h4
    refine ⟨v2, [], rfl, ?_⟩
    exact key (fun es S => .next es S) d2 v2 fo2 fi2 W4 S4 H4 _ ok4 fr4 (r2.mono l4) h4' fun W5 S5 H5 l5 ok5 fr5 h5 => ⟨rfl, h5 W5 σ H5 (LeS.refl _) ok5 fr5⟩
end
end DL
set_option Elab.async false
set_option linter.all false
set_option maxRecDepth 100000
set_option maxHeartbeats 2000000
set_option autoImplicit false
/-! The data layer, 36: != of lists of which the one may be the frame's own or may change, with instances of one own class; the frame's own list is popped; list * int. -/
namespace DL
open PySem PySem.Spec PyProof.Rows L2 He
open AutoSeq1 (wpAny_loadPart')
open MeetsSeq MeetsSeq2 MeetsSeq3 SeqRoads2
section
variable {prog : Program} {w : World}
/-- both lists as they stand in a state of J: n items each, == of the i-th ones tells e i and ends in J -/
def ItE (prog : Program) (w : World) (J : Shared → Prop) (A : Around) (l b : Addr) (e : Nat → Bool) (n : Nat) : Prop := ∀ s, J s → ∃ (items : Array Value) (m : Nat) (dd : Option Addr) (sl : Array (Option Value)) (items2 : Array Value) (m2 : Nat) (dd2 : Option Addr) (sl2 : Array (Option Value)),
  s.heap.get? l = some { cls := .type "list", dict := dd, data := .seq items m, slots := sl } ∧ s.heap.get? b = some { cls := .type "list", dict := dd2, data := .seq items2 m2, slots := sl2 } ∧ items.size = n ∧ items2.size = n ∧
  ∀ i u v, items[i]? = some u → items2[i]? = some v → ∀ (E : Value → Shared → Prop) (Q : Bool → Shared → Prop), (∀ s', J s' → Q (e i) s') → wpAny (model prog w) A (eqBool u v) Q E s
theorem at_size {items : Array Value} {i n : Nat} (h : items.size = n) (hi : i < n) : ∃ u, items[i]? = some u := ⟨_, Array.getElem?_eq_getElem (by omega)⟩
theorem ne_loopQ {J : Shared → Prop} {l b : Addr} {n : Nat} (e : Nat → Bool) (k : Nat) :
    ∀ i : Nat, n - i = k → MeetsIn prog w (Builtin.«list.__eq__.loop» ⟨[.ref l, .ref b, rawInt i, rawInt 3], []⟩)
      (fun A R s => J s ∧ ItE prog w J A.in1 l b e n ∧ ∀ s', J s' → R (.ok (.ret (.bool (!((List.range n).drop i).all e)))) s') := by
  induction k with
  | zero =>
    intro i hk A R s h
    obtain ⟨hp, g, d, tk, os⟩ := s; obtain ⟨hJ, he, h⟩ := h
    obtain ⟨items, m, dd, sl, items2, m2, dd2, sl2, ho, ho2, s1, s2, _⟩ := he _ hJ
    wp_walk using wpAny_loadPart' ho, wpAny_loadPart' ho2
    have hi1 : items[((i : Nat) : Int).toNat]? = none := by simp; omega
    have hi2 : items2[((i : Nat) : Int).toNat]? = none := by simp; omega
    have hd : (List.range n).drop i = [] := by simp; omega
    rw [hd] at h
    rw [hi1, hi2]
    wp_walk using wpAny_loadPart' ho, wpAny_loadPart' ho2
    show R (.ok (.ret (.bool (items.size != items2.size)))) _
    rw [s1, s2]
    simpa using h _ hJ
  | succ k ih =>
    intro i hk A R s h
    obtain ⟨hp, g, d, tk, os⟩ := s; obtain ⟨hJ, he, h⟩ := h
    obtain ⟨items, m, dd, sl, items2, m2, dd2, sl2, ho, ho2, s1, s2, hq⟩ := he _ hJ
    have hlt : i < n := by omega
    obtain ⟨u, x2⟩ := at_size s1 hlt
    obtain ⟨v, y2⟩ := at_size s2 hlt
    wp_walk using wpAny_loadPart' ho, wpAny_loadPart' ho2
    have hi1 : items[((i : Nat) : Int).toNat]? = some u := by simpa using x2
    have hi2 : items2[((i : Nat) : Int).toNat]? = some v := by simpa using y2
    have hd : (List.range n).drop i = i :: (List.range n).drop (i + 1) := by simp [List.drop_eq_getElem_cons, hlt]
    have hc : ((i : Int) + 1) = ((i + 1 : Nat) : Int) := by push_cast; rfl
    rw [hd, List.all_cons] at h
    rw [hi1, hi2]
    refine wpAny_bind (hq i u v x2 y2 _ _ fun s' hJ' => ?_)
    obtain ⟨hp', g', d', tk', os'⟩ := s'
    cases hb' : e i with
    | true =>
      rw [hb'] at h
      wp_walk
      rw [hc]
      exact ⟨plainId_quiet plain_eq_loop _, codeAny_builtin entry_eq_loop (by
        rw [Around.under_plainId plain_eq_loop _]
        exact ih (i + 1) (by omega) A R _ ⟨hJ', he, fun s'' h'' => by simpa using h s'' h''⟩)⟩
    | false =>
      rw [hb'] at h
      obtain ⟨items', m', dd', sl', items2', m2', dd2', sl2', ho', ho2', s1', s2', _⟩ := he _ hJ'
      obtain ⟨u', x2'⟩ := at_size s1' hlt
      obtain ⟨v', y2'⟩ := at_size s2' hlt
      have hi1' : items'[((i : Nat) : Int).toNat]? = some u' := by simpa using x2'
      have hi2' : items2'[((i : Nat) : Int).toNat]? = some v' := by simpa using y2'
      wp_walk using wpAny_loadPart' ho', wpAny_loadPart' ho2'
      rw [hi1', hi2']
      wp_walk
      simpa using h _ hJ'
theorem list_neQ {J : Shared → Prop} {l b : Addr} {n : Nat} (e : Nat → Bool) :
    MeetsIn prog w (Builtin.«list.__ne__» ⟨[.ref l, .ref b], []⟩)
      (fun A R s => J s ∧ ItE prog w J A.in1 l b e n ∧ ∀ s', J s' → R (.ok (.ret (.bool (!(List.range n).all e)))) s') := by
  intro A R s h
  obtain ⟨hp, g, d, tk, os⟩ := s; obtain ⟨hJ, he, h⟩ := h
  obtain ⟨items, m, dd, sl, items2, m2, dd2, sl2, ho, ho2, s1, s2, _⟩ := he _ hJ
  have f3 := AutoSeq1.sub_list_list
  have hne : ¬ (items.size != items2.size) = true := by simp [s1, s2]
  wp_walk using wpAny_loadPart' ho, wpAny_loadPart' ho2
  exact ⟨plainId_quiet plain_eq_loop _, codeAny_builtin entry_eq_loop (by
    rw [Around.under_plainId plain_eq_loop _]
    exact ne_loopQ e _ 0 rfl A R _ ⟨hJ, he, fun s' h' => by simpa using h s' h'⟩)⟩
theorem rcQ_listsNe {A : Around} {J : Shared → Prop} {l b : Addr} {e : Nat → Bool} {n : Nat} {s : Shared} (hJ : J s) (he : ItE prog w J A.in1 l b e n) (hu : A.units < cLine)
    (E Q : Value → Shared → Prop) (h : ∀ s', J s' → Q (.bool (!(List.range n).all e)) s') : wpAny (model prog w) A (richCompare .NotEq (.ref l) (.ref b)) Q E s := by
  obtain ⟨items, m, dd, sl, items2, m2, dd2, sl2, ho, ho2, s1, s2, _⟩ := he _ hJ
  have ta : s.TypeIs (.ref l) "list" := ⟨_, ho, rfl⟩
  have tb : s.TypeIs (.ref b) "list" := ⟨_, ho2, rfl⟩
  exact wpAny_richCompare_same_room (op := .NotEq) ta tb PySem.F.slot_list_ne (call_meetsIn PySem.F.slot_list_ne ta PySem.F.entry_list_ne (PySem.F.args_list_ne_2 _ _) (list_neQ e)
    ⟨hJ, he, fun s' hs' => show Value.bool (!(List.range n).all e) ≠ Value.notImplemented ∧ Q (.bool (!(List.range n).all e)) s' from ⟨(fun x => nomatch x), h s' hs'⟩⟩) hu
end
section
variable {Γ : Pg} {ξ : Xx} {X : Cx} {E : WX} {k : Nat} {den : List D → Store → Res} {S : Store} {W : Wd}
noncomputable def gNeT (k n : Nat) (den : List D → Store → Res) : D → D → Store → Res := fun x y S => match deref S x, deref S y with
  | .lst xs, .lst ys => match eqO k den S n (.lst xs) (.lst ys) with
    | some b => .ok (.bl (!b)) S
    | none => .bad
  | _, _ => .bad
theorem get_of {pins : List (Addr × Obj)} {σ : L2.St} {H : Hp} {s : Shared} {a : Addr} {vs : List V} (I : Inv X pins σ H s) (h : SqL X.K H a vs) : ∃ (items : Array Value) (n : Nat) (dd : Option Addr) (sl : Array (Option Value)), s.heap.get? a = some { cls := .type "list", dict := dd, data := .seq items n, slots := sl } ∧ Vals vs items.toList := by
  obtain ⟨its, rv, ⟨o, n, e, hc, hd, hs⟩, _⟩ := I.list h
  obtain ⟨cls, dict, data, slots⟩ := o
  simp only at hc hd hs
  subst hc hd hs
  exact ⟨its.toArray, n, none, slots, e, by simpa using rv⟩
theorem op_neT {cs : List Nat} {k j m n : Nat} {g : Addr} {P : Program} {w : World} {mg : Str → Option Value} {base : Heap} {den : List D → Store → Res} (hh : Here Γ P w mg base n X E) (bf : EqF Γ cs k g) (hc : k ∈ cs) (G : CalR Γ P w mg base j g 2 den) (hj : j + m ≤ n := by decide) : OpR X (compareOp .NotEq) (rV2 Γ (gNeT k m den)) := by
  obtain ⟨h1, h2, h3, h4, h5, h6, h7⟩ := hh
  subst h1 h2 h4 h5
  intro pins s σ H x y v u Q I rx ry ⟨W, S, a, b, ok, ra, rb, h⟩
  have hJ : JS Γ X pins σ W S s := ⟨W, H, Le.refl W, ok, I⟩
  have hu : X.A.units < cLine := h6.units0
  have fin : ∀ c, Cont Γ (.ok (.bl c) S) W Q (fun _ _ _ => False) → ∀ s', JS Γ X pins σ W S s' → EP X pins σ Q (.bool c) s' := fun c h s' ⟨W', H', le, ok', I'⟩ => ⟨.bl c, H', I', rfl, h W' _ H' le ok' (by simp only [Rep])⟩
  show wpAny _ _ (richCompare .NotEq v u) _ _ _
  unfold gNeT at h
  split at h
  case h_2 => exact h.elim
  rename_i xs ys hx hy
  obtain ⟨p, vs, rfl, q1, q2⟩ := asL ok ra hx
  obtain ⟨p', us, rfl, q1', q2'⟩ := asL ok (.inl rb) hy
  obtain rfl : v = Value.ref p := rx
  obtain rfl : u = Value.ref p' := ry
  cases m with
  | zero => exact h.elim
  | succ m =>
    rw [eqO_lst] at h
    by_cases hlen : xs.length = ys.length
    · rw [if_pos hlen] at h
      cases hal : allO (eqO k den S m) xs ys with
      | none =>
        rw [hal] at h
        exact h.elim
      | some c =>
        rw [hal] at h
        obtain ⟨e, e1, rfl⟩ := allO_ex hal
        have hn : min xs.length ys.length = xs.length := by omega
        rw [hn] at h
        refine rcQ_listsNe (e := e) (n := xs.length) hJ (fun s1 ⟨W1, H1, le, ok1, I1⟩ => ?_) hu X.xe _ (fin _ h)
        obtain ⟨_, vs1, e2, r1, r2⟩ := asL ok1 (ra.mono le) hx
        obtain ⟨_, us1, e2', r1', r2'⟩ := asL ok1 (.inl (rb.mono le.s)) hy
        injection e2 with e2
        injection e2' with e2'
        subst e2 e2'
        obtain ⟨items, m1, dd, sl, g1, g2⟩ := get_of I1 (by rw [h3]; exact r1)
        obtain ⟨items2, m2, dd2, sl2, g1', g2'⟩ := get_of I1 (by rw [h3]; exact r1')
        refine ⟨items, m1, dd, sl, items2, m2, dd2, sl2, g1, g1', by rw [vals_size g2, r2.length], by rw [vals_size g2', r2'.length, hlen], fun i u v hu1 hv1 E1 Q1 hQ => ?_⟩
        have li : i < vs1.length := by
          have := (Array.getElem?_eq_some_iff.mp hu1).1
          rw [vals_size g2] at this
          exact this
        have li' : i < us1.length := by
          have := (Array.getElem?_eq_some_iff.mp hv1).1
          rw [vals_size g2'] at this
          exact this
        obtain ⟨x', u', x1, x2, x3⟩ := vals_at g2 li
        obtain ⟨y', v', y1, y2, y3⟩ := vals_at g2' li'
        rw [hu1] at x2
        rw [hv1] at y2
        obtain rfl := Option.some.inj x2
        obtain rfl := Option.some.inj y2
        obtain ⟨d1, a1, a2⟩ := reps_at r2 x1
        obtain ⟨d2, b1, b2⟩ := reps_at r2' y1
        exact eqO_run (W := W1) h3 bf hc G m X.A.in1 (e1 i _ _ a1 b1) (Room.in1 (h6.mono hj)) (fun s H I => I.env0.in1) a2 b2 u v x3 y3 E1 Q1 s1 ⟨W1, H1, Le.refl W1, ok1, I1⟩ fun s2 ⟨W2, H2, le2, ok2, I2⟩ => hQ s2 ⟨W2, H2, le.trans le2, ok2, I2⟩
    · rw [if_neg hlen] at h
      obtain ⟨items, m1, dd, sl, g1, g2⟩ := get_of I (by rw [h3]; exact q1)
      obtain ⟨items2, m2, dd2, sl2, g1', g2'⟩ := get_of I (by rw [h3]; exact q1')
      exact SeqAt.RcNeAt.lists_lengths (A := X.A) (s := s) ⟨_, g1, rfl, _, rfl⟩ ⟨_, g1', rfl, _, rfl⟩ (by simp [vals_size g2, vals_size g2', q2.length, q2'.length, hlen]) hu X.prog X.w X.xe _ (fin _ h s hJ)
theorem de_cmpV {op : CmpOp} {a b : Expr} {fa fb : EF} {g : D → D → Store → Res} {pos : Pos} (ho : OpR X (compareOp op) (rV2 Γ g)) (ha : PE X a (dV Γ ξ fa E)) (hb : PE X b (dE Γ ξ fb E)) (hm : behindInMarks op b = false := by rfl) : PE X (.Compare a [op] [b] pos) (dE Γ ξ (eOp2 g fa fb) E) :=
  (pe_cmpR ho ha hb hm).imp fun σ H Q h => tOpV_of h
theorem dt_cmpV {op : CmpOp} {a b : Expr} {fa fb : EF} {g : D → D → Store → Res} {pos : Pos} (ho : OpR X (compareOp op) (rV2 Γ g)) (ha : PE X a (dV Γ ξ fa E)) (hb : PE X b (dE Γ ξ fb E)) (hm : behindInMarks op b = false := by rfl) : PT X (.Compare a [op] [b] pos) (dT Γ ξ (eOp2 g fa fb) E) :=
  (pt_cmpR ho ha hb hm).imp fun σ H Q ⟨W, es, S, P0, ok, fr, h⟩ => tOpV_of ⟨W, es, S, P0, ok, fr, h.val⟩
/-! ### the frame's own list is popped (the value is dropped) -/
def sPop (i : Nat) : SF := fun es S => match es[i]? with
  | some (.acc ds) => if ds.isEmpty then .bad else .next (es.set i (.acc ds.dropLast)) S
  | _ => .bad
theorem ds_pop {i : Nat} {x : Str} {p1 apos cpos pos : Pos} (hK : X.K = Γ.K)
    (P : PE X (.Call (.Attribute (.Name x p1) "pop" apos) [] [] cpos) (tBM0 X.K "list" rPop (tVar i))) (hs : swapsWith (.Call (.Attribute (.Name x p1) "pop" apos) [] [] cpos) none pos.line X.env = pure false := by rfl) :
    PS X (.Expr (.Call (.Attribute (.Name x p1) "pop" apos) [] [] cpos) pos) (dS Γ ξ (sPop i) E) := (ps_expr P hs).imp fun Dn σ H ⟨W, es, S, P0, ok, fr, h⟩ => by
  unfold sPop at h
  split at h
  case h_2 => exact h.elim
  rename_i ds hi
  split at h
  case isTrue => exact h.elim
  rename_i hne
  obtain ⟨own, fr1, o⟩ := id fr
  obtain ⟨a, vs, h1, h2, h3⟩ := fr1.acc hi
  have hP : W.P a = some (.lst vs) := (o.at_ _ h3).2
  have hH := ok.p _ _ hP
  have hd : ds ≠ [] := fun e => hne (by rw [e]; rfl)
  have hv : 0 < vs.length := by
    rw [h2.length]
    exact List.length_pos_iff.mpr hd
  obtain ⟨a', vs0, own', q1, q2, q3, q4, q5, q6⟩ := SlotsR.grow (ds := ds.dropLast) (vs := vs.dropLast) h2.dropLast fr1 hi o.nd
  obtain rfl : a = a' := by
    rw [h1] at q1
    exact V.ref.inj (Option.some.inj (Option.some.inj q1))
  obtain ⟨hHa, hFa⟩ := hH
  have hM : ∀ (i : Nat) (b : Addr), W.m[i]? = some b → b ≠ a := fun i b q z => by
    have := (ok.m i b q).2
    rw [z, hP] at this
    cases this
  obtain ⟨k1, k2⟩ := ok.own (own' := own') (a := a) (vs := vs.dropLast) o hFa hM (o.at_ _ q3).1 rfl (by rw [q5]; exact o.nd) q6
  exact ⟨.ref a, h1, .inl ⟨rfl, vs, .inl (.inl hHa)⟩, a, vs, _, rfl, rfl, hHa, List.getElem?_eq_getElem (by omega), h _ σ _ Wd.own_le k1 ⟨own', q4.mono Wd.own_le, k2⟩⟩
/-! ### list * int -/
def gRep : D → D → Store → Res := fun x y S => match deref S x, y with
  | .lst xs, .int k => if 0 ≤ k ∧ k < 2 ^ 63 ∧ xs.length * k.toNat ≤ 16777216 then .ok (.lst (List.replicate k.toNat xs).flatten) S else .bad
  | _, _ => .bad
theorem Reps.rep {W : Wd} {ds : List D} {vs : List V} (r : Reps Γ W ds vs) : ∀ n : Nat, Reps Γ W (List.replicate n ds).flatten (List.replicate n vs).flatten
  | 0 => by simp only [List.replicate, List.flatten_nil, Reps]
  | n + 1 => by
    rw [List.replicate_succ, List.replicate_succ, List.flatten_cons, List.flatten_cons]
    exact r.append (Reps.rep r n)
theorem op_repL : OpR X (binaryOp .Mult) (fun x y H Q => ∃ l k xs, x = V.ref l ∧ y = V.int k ∧ SqL X.K H l xs ∧ 0 ≤ k ∧ k < 2 ^ 63 ∧ xs.length * k.toNat ≤ sizeLine ∧ ∀ p, H p = none → Q (.ref p) (upd H p (.lst (List.replicate k.toNat xs).flatten))) := by
  intro pins s σ H x y v u Q I rx ry h
  obtain ⟨l, k, xs, rfl, rfl, hs, h1, h2, hz, q⟩ := h
  obtain rfl : v = Value.ref l := rx
  obtain ⟨t, rfl⟩ := ry
  obtain ⟨its, r, ⟨⟨cls, dd, data, sl⟩, n, ho, hc, hdn, hd⟩, hlen⟩ := I.list hs
  have hc1 : cls = Value.type "list" := hc
  have hd1 : data = Data.seq its.toArray n := hd
  subst hc1 hd1
  have hl : xs.length = its.length := r.length
  have hlen2 : its.toArray.size * k.toNat ≤ sizeLine := by rw [List.size_toArray, ← hl]; exact hz
  have hcap : ¬ its.toArray.size * k.toNat > (2 ^ 63 - 1) / 8 := by
    have : (sizeLine : Nat) ≤ (2 ^ 63 - 1) / 8 := by decide
    omega
  have hfit : ¬ (!Builtin.List.listFitsIndex k) = true := by
    rw [fitsIndex_both (by omega) h2]
    exact Bool.false_ne_true
  have hlong : ¬ Builtin.List.listTooLong (its.toArray.size * k.toNat) = true := by
    rw [notLongL hlen2]
    exact Bool.false_ne_true
  have hnew : List.foldl (fun x1 x2 => x1 ++ x2) #[] (List.replicate (if its.toArray.isEmpty = true then 0 else k.toNat) its.toArray) = (List.replicate k.toNat its).flatten.toArray := by
    have f0 : ∀ m : Nat, List.foldl (fun x1 x2 => x1 ++ x2) #[] (List.replicate m its.toArray) = (List.replicate m its).flatten.toArray := fun m => by
      have := foldl_rep its m []
      rw [List.nil_append] at this
      exact this
    rw [f0]
    cases its with
    | nil => simp
    | cons a r' => rw [if_neg (by simp)]
  refine wpAny_binaryOp_repeat_ref (T := "list") (U := "int") (by decide) ⟨_, ho, rfl⟩ (fun s' => typeIs_int s' k t) noFill_list_mul PySem.F.fills_int_mul PySem.F.slot_int_rmul repeat_list PySem.F.slot_int_index.lookup
    (call_meets PySem.F.slot_int_rmul (typeIs_int s k t) PySem.F.entry_int_rmul (PySem.F.args_int_rmul_2 _ _) (lm_int_rmul_list_any k t l its.toArray n dd sl)
      ⟨ho, rfl, ⟨_, ho, rfl⟩, call_meets PySem.F.slot_list_mul ⟨_, ho, rfl⟩ PySem.F.entry_list_mul (PySem.F.args_list_mul_2 _ _) (lm_list_mul_any l its.toArray n dd sl k t hfit hcap hlong) ⟨ho, ?_⟩⟩)
  rw [hnew]
  exact ⟨.ref _, _, I.lnew (t' := s.toks) (r.rep k.toNat) (by rw [PyProof.Rows.lm_len_rep_flat, Nat.mul_comm]; exact hz), rfl, q _ I.fresh⟩
theorem op_gRep (hK : X.K = Γ.K) : OpR X (binaryOp .Mult) (rD Γ gRep) := by
  intro pins s σ H x y v u Q I rx ry ⟨W, S, a, b, ok, ra, rb, h⟩
  unfold gRep at h
  split at h
  case h_2 => exact h.elim
  rename_i xs k hx
  split at h
  case isFalse => exact h.elim
  rename_i hz
  obtain ⟨p, vs, rfl, q1, q2⟩ := asL ok (.inl ra) hx
  simp only [Rep] at rb
  subst rb
  refine op_repL pins s σ H _ _ v u Q I rx ry ⟨p, k, vs, rfl, rfl, by rw [hK]; exact q1, hz.1, hz.2.1, by rw [q2.length, sizeLine_eq]; exact hz.2.2, fun l hl => ?_⟩
  have le := Le.lay (o := .lst (List.replicate k.toNat vs).flatten) (ok.fresh hl).1
  exact h _ _ _ le (ok.lay hl _) (rep_lst ((q2.mono le.s).rep k.toNat))
end
end DL
set_option Elab.async false
set_option linter.all false
set_option maxRecDepth 100000
set_option maxHeartbeats 2000000
set_option autoImplicit false
/-! The data layer, 37: list(zip(xs, ys)). -/
namespace DL
open PySem PySem.Spec PyProof.Rows L2 He
theorem zip_no_len : typeLookup (.type "zip") "__len__" = pure none := by rw [typeLookup_type, builtinLookup_eq_fast]; kernel_rfl
theorem zip_no_hint : typeLookup (.type "zip") "__length_hint__" = pure none := by rw [typeLookup_type, builtinLookup_eq_fast]; kernel_rfl
/-- the zip's own things at turn i -/
structure ZSt (z TI TO i1 i2 l1 l2 : Addr) (i : Nat) (h : Heap) : Prop where
  zz : IsZip h z TI TO .none ∨ ∃ (T : Addr) (f : Bool) (oT : Obj), IsZipHeld h z TI TO T f ∧ h.get? T = some oT ∧ T ≠ z ∧ T ≠ TO ∧ T ≠ i1 ∧ T ≠ i2
  ti : IsPair h TI (.ref i1) (.ref i2)
  tO : ∃ a b, IsPair h TO a b
  a1 : h.IsListIter i1 l1 i
  a2 : h.IsListIter i2 l2 i
section
variable {prog : Program} {w : World} {A : Around} {E : Value → Shared → Prop} {s : Shared} {z TI TO i1 i2 l1 l2 : Addr} {i : Nat} {xs ys : Array Value}
theorem ZSt.lt {h : Heap} (st : ZSt z TI TO i1 i2 l1 l2 i h) : ∀ b ∈ [z, TI, TO, i1, i2], b < h.objs.size := by
  obtain ⟨hz, hTI, ⟨x, y, hTO⟩, ⟨o1, e1, _, d1⟩, ⟨o2, e2, _, d2⟩⟩ := st
  intro c hc
  have e' : c = z ∨ c = TI ∨ c = TO ∨ c = i1 ∨ c = i2 := by simpa using hc
  rcases e' with q | q | q | q | q
  · rw [q]
    rcases hz with hz | ⟨_, _, _, hz, _⟩
    · exact Heap.lt_size hz
    · exact Heap.lt_size hz
  · rw [q]; exact Heap.lt_size hTI
  · rw [q]; exact Heap.lt_size hTO
  · rw [q]; exact Heap.lt_size e1
  · rw [q]; exact Heap.lt_size e2
theorem ZSt.keep {h h' : Heap} (st : ZSt z TI TO i1 i2 l1 l2 i h) (k : ∀ b o, h.get? b = some o → (b = z ∨ b = TI ∨ b = TO ∨ b = i1 ∨ b = i2) → h'.get? b = some o) (k2 : ∀ b o, h.get? b = some o → ∃ o', h'.get? b = some o') : ZSt z TI TO i1 i2 l1 l2 i h' := by
  obtain ⟨hz, hTI, ⟨x, y, hTO⟩, h1, h2⟩ := st
  refine ⟨?_, k TI _ hTI (by simp), ⟨x, y, k TO _ hTO (by simp)⟩, h1.at fun o q => k i1 o q (by simp), h2.at fun o q => k i2 o q (by simp)⟩
  rcases hz with hz | ⟨T, f, oT, hz, hT, n⟩
  · exact .inl (k z _ hz (by simp))
  · obtain ⟨o', e⟩ := k2 T oT hT
    exact .inr ⟨T, f, o', k z _ hz (by simp), e, n⟩
theorem zstep {x y : Value} {Q : Option Value → Shared → Prop} (D : ZipApart z TI TO i1 i2 l1 l2) (st : ZSt z TI TO i1 i2 l1 l2 i s.heap) (hl1 : s.heap.IsList l1 xs) (hl2 : s.heap.IsList l2 ys) (hx : xs[i]? = some x) (hy : ys[i]? = some y)
    (hQ : ∀ h', ZSt z TI TO i1 i2 l1 l2 (i + 1) h' → IsPair h' s.heap.objs.size x y → (∀ c o, c ≠ z → c ≠ TO → c ≠ i1 → c ≠ i2 → s.heap.get? c = some o → h'.get? c = some o) → Q (some (.ref s.heap.objs.size)) { s with heap := h' }) :
    wpAny (model prog w) A (pyNext (.ref z)) Q E s := by
  have hlt := st.lt
  have n1 : s.heap.objs.size ≠ z := Nat.ne_of_gt (hlt z (by simp))
  have n2 : s.heap.objs.size ≠ i1 := Nat.ne_of_gt (hlt i1 (by simp))
  have n3 : s.heap.objs.size ≠ i2 := Nat.ne_of_gt (hlt i2 (by simp))
  have n4 : s.heap.objs.size ≠ TO := Nat.ne_of_gt (hlt TO (by simp))
  obtain ⟨hz, hTI, ⟨x0, y0, hTO⟩, h1, h2⟩ := st
  rcases hz with hz | ⟨T, f, oT, hz, hT, t1, t2, t3, t4⟩
  · exact wpAny_pyNext_zip_item D hz hTI hTO h1 h2 hl1 hl2 hx hy fun h' z' TO' h1' h2' hT hsz hk => hQ h' ⟨.inr ⟨_, false, _, z', hT, n1, n4, n2, n3⟩, hk TI _ D.TIz D.TITO D.TIi1 D.TIi2 hTI, ⟨_, _, TO'⟩, h1', h2'⟩ hT hk
  · exact wpAny_pyNext_zip_item_held D hz hT hTI h1 h2 hl1 hl2 hx hy fun h' z' h1' h2' hT' hsz hk => hQ h' ⟨.inr ⟨T, true, oT, z', hk T oT t1 t3 t4 hT, t1, t2, t3, t4⟩, hk TI _ D.TIz D.TIi1 D.TIi2 hTI, ⟨_, _, hk TO _ D.TOz D.TOi1 D.TOi2 hTO⟩, h1', h2'⟩ hT' fun c o c1 c2 c3 c4 e => hk c o c1 c3 c4 e
theorem zend {Q : Option Value → Shared → Prop} (hh : A.handled = none) (D : ZipApart z TI TO i1 i2 l1 l2) (st : ZSt z TI TO i1 i2 l1 l2 i s.heap) (hl1 : s.heap.IsList l1 xs) (hl2 : s.heap.IsList l2 ys) (he : xs[i]? = none ∨ ys[i]? = none)
    (hQ : ∀ h', (∀ c o, c ≠ z → c ≠ TO → c ≠ i1 → c ≠ i2 → s.heap.get? c = some o → h'.get? c = some o) → Q none { s with heap := h' }) :
    wpAny (model prog w) A (pyNext (.ref z)) Q E s := by
  obtain ⟨hz, hTI, ⟨x0, y0, hTO⟩, h1, h2⟩ := st
  rcases hz with hz | ⟨T, f, oT, hz, hT, t1, t2, t3, t4⟩
  · exact wpAny_pyNext_zip_end hh D hz hTI hTO h1 h2 hl1 hl2 he hQ
  · exact wpAny_pyNext_zip_end_held hh D hz hT hTI h1 h2 hl1 hl2 he fun h' hk => hQ h' fun c o c1 c2 c3 c4 e => hk c o c1 c3 c4 e
end
section
variable {Γ : Pg} {ξ : Xx} {X : Cx} {E : WX} {S : Store}
/-- an address that the world knows nothing of -/
def Free (W : Wd) (p : Addr) : Prop := W.F p = none ∧ W.P p = none ∧ ∀ (i : Nat) (a : Addr), W.m[i]? = some a → a ≠ p
theorem Ok.other {W : Wd} {H : Hp} {p : Addr} {o : HO} (ok : Ok Γ W S H) (fr : Free W p) : Ok Γ W S (upd H p o) := by
  obtain ⟨f1, f2, f3⟩ := fr
  refine ⟨fun a u e => ?_, fun a u e => ?_, ok.m, ok.nd, ok.len, fun i a ds h1 h2 => ?_⟩
  · have : a ≠ p := fun z => by rw [z, f1] at e; cases e
    rw [upd_ne this]
    exact ok.f a u e
  · have : a ≠ p := fun z => by rw [z, f2] at e; cases e
    rw [upd_ne this]
    exact ok.p a u e
  · obtain ⟨vs, q1, q2⟩ := ok.c i a ds h1 h2
    exact ⟨vs, by rw [upd_ne (f3 i a h1)]; exact q1, q2⟩
theorem Free.lay {W : Wd} {p q : Addr} {o : HO} (fr : Free W p) (h : p ≠ q) : Free (W.lay q o) p := ⟨by
  show upd W.F q o p = none
  rw [upd_ne h]
  exact fr.1, fr.2.1, fr.2.2⟩
def tup2 (p : D × D) : D := .tup [p.1, p.2]
theorem Reps.snoc {W : Wd} {ds : List D} {vs : List V} {d : D} {v : V} (h : Reps Γ W ds vs) (r : Rep Γ W d v) : Reps Γ W (ds ++ [d]) (vs ++ [v]) := h.append (Reps.cons r Reps.nil)
theorem lz_loop {pins : List (Addr × Obj)} {σ : L2.St} {z TI TO i1 i2 l1 l2 L : Addr} {xs ys : List D} {res : Value} (hK : X.K = Γ.K) (A : Around) (hh : A.handled = none) (D : ZipApart z TI TO i1 i2 l1 l2) (hL : L ≠ z ∧ L ≠ TI ∧ L ≠ TO ∧ L ≠ i1 ∧ L ≠ i2) (hz : min xs.length ys.length ≤ sizeLine)
    (R : Result → Shared → Prop) : ∀ (k i : Nat) (W : Wd) (H : Hp) (s : Shared) (acc : List V), min xs.length ys.length - i = k → i ≤ min xs.length ys.length → Inv X pins σ H s → ZSt z TI TO i1 i2 l1 l2 i s.heap → (∀ b ∈ [z, TO, i1, i2], FpOk X pins H b) → Ok Γ W S H → Free W L → H L = some (.lst acc) →
    Reps Γ W (((xs.zip ys).take i).map tup2) acc → Rep Γ W (.lst xs) (.ref l1) → Rep Γ W (.lst ys) (.ref l2) →
    (∀ W' H' s' acc', Le W W' → Inv X pins σ H' s' → Ok Γ W' S H' → Free W' L → H' L = some (.lst acc') → Reps Γ W' ((xs.zip ys).map tup2) acc' → R (.ok (.ret res)) s') →
    codeAny (model X.prog X.w) A (.builtin "list.extend.loop" ⟨[.ref L, .ref z, res], []⟩) R s := by
  intro k
  induction k with
  | zero =>
    intro i W H s acc hk hi I st hf ok fr hH ra r1 r2 hR
    have hin : i = min xs.length ys.length := by omega
    refine codeAny_builtin F.entry_extend_loop ?_
    rw [Around.under_plainId F.plain_extend_loop _]
    have r1' := r1
    have r2' := r2
    simp only [Rep] at r1' r2'
    obtain ⟨_, vs, e1, q1, p1⟩ := r1'
    obtain ⟨_, us, e2, q2, p2⟩ := r2'
    injection e1 with e1
    injection e2 with e2
    subst e1 e2
    obtain ⟨its, rv, pl, _⟩ := I.list (by rw [hK]; exact sqL_H ok.f q1)
    obtain ⟨its2, rv2, pl2, _⟩ := I.list (by rw [hK]; exact sqL_H ok.f q2)
    have z1 := rv.length
    have z2 := rv2.length
    have z3 := p1.length
    have z4 := p2.length
    show wpAny _ A.in1 (pyNext (.ref z) >>= _) _ _ s
    refine wpAny_bind (zend (A := A.in1) hh D st pl.isList pl2.isList (by
      rcases Nat.le_total xs.length ys.length with h | h
      · exact .inl (by simp; omega)
      · exact .inr (by simp; omega)) fun h' hk' => ?_)
    have I1 : Inv X pins σ H { s with heap := h' } := I.turnedL (t' := s.toks) (ch := [z, TO, i1, i2]) (fun c o hb q => hk' c o (fun q' => hb (by simp [q'])) (fun q' => hb (by simp [q'])) (fun q' => hb (by simp [q'])) (fun q' => hb (by simp [q'])) q) hf
    refine wpAny_pure (hR W H _ acc (Le.refl W) I1 ok fr hH ?_)
    rw [List.take_of_length_le (by rw [List.length_zip]; omega)] at ra
    exact ra
  | succ k ih =>
    intro i W H s acc hk hi I st hf ok fr hH ra r1 r2 hR
    have hlt : i < min xs.length ys.length := by omega
    refine codeAny_builtin F.entry_extend_loop ?_
    rw [Around.under_plainId F.plain_extend_loop _]
    have r1' := r1
    have r2' := r2
    simp only [Rep] at r1' r2'
    obtain ⟨_, vs, e1, q1, p1⟩ := r1'
    obtain ⟨_, us, e2, q2, p2⟩ := r2'
    injection e1 with e1
    injection e2 with e2
    subst e1 e2
    obtain ⟨its, rv, pl, _⟩ := I.list (by rw [hK]; exact sqL_H ok.f q1)
    obtain ⟨its2, rv2, pl2, _⟩ := I.list (by rw [hK]; exact sqL_H ok.f q2)
    have hx : xs[i]? = some (xs[i]'(by omega)) := List.getElem?_eq_getElem (by omega)
    have hy : ys[i]? = some (ys[i]'(by omega)) := List.getElem?_eq_getElem (by omega)
    generalize xs[i]'(by omega) = x at hx
    generalize ys[i]'(by omega) = y at hy
    obtain ⟨v, hv, rx⟩ := p1.get hx
    obtain ⟨u, hu, ry⟩ := p2.get hy
    obtain ⟨v', hv', rv'⟩ := rv.get hv
    obtain ⟨u', hu', ru'⟩ := rv2.get hu
    show wpAny _ A.in1 (pyNext (.ref z) >>= _) _ _ s
    refine wpAny_bind (zstep (A := A.in1) D st pl.isList pl2.isList (x := v') (y := u') (by simpa using hv') (by simpa using hu') fun h' st' hT hk' => ?_)
    have hTf : H s.heap.objs.size = none := I.hok.fresh (Nat.le_refl _)
    have new : ObjOk X.prog X.w (upd H s.heap.objs.size (.tup [v, u])) h' s.heap.objs.size (.tup [v, u]) :=
      ⟨by show 2 ≤ sizeLine; decide, [v', u'], .cons rv' (.cons ru' .nil), ⟨_, hT, rfl, _, rfl⟩⟩
    have I1 : Inv X pins σ (upd H s.heap.objs.size (.tup [v, u])) { s with heap := h' } :=
      I.turnedNew (t' := s.toks) (ch := [z, TO, i1, i2]) (fun c o hb q => hk' c o (fun q' => hb (by simp [q'])) (fun q' => hb (by simp [q'])) (fun q' => hb (by simp [q'])) (fun q' => hb (by simp [q'])) q) hf (Nat.le_refl _) new
    have hLT : L ≠ s.heap.objs.size := fun e => by rw [e, hTf] at hH; cases hH
    have hH1 : upd H s.heap.objs.size (.tup [v, u]) L = some (.lst acc) := by rw [upd_ne hLT]; exact hH
    obtain ⟨zs, itsL, n, rL, hlL, eL⟩ := I1.lstM hH1
    have alen : acc.length = i := by
      rw [ra.length, List.length_map, List.length_take, List.length_zip]
      omega
    have I2 := I1.lset (its' := itsL ++ [.ref s.heap.objs.size]) (ys := acc ++ [.ref s.heap.objs.size]) (f := (·.push (.ref s.heap.objs.size))) (t' := s.toks) hH1 eL (by simp) (rL.append (.cons (show L2.RelV (V.ref s.heap.objs.size) (Value.ref s.heap.objs.size) from rfl) .nil)) (by rw [List.length_append, List.length_singleton, alen]; omega)
    have eL' := eL
    have hlt2 : L < h'.objs.size := Heap.lt_size eL'
    have ok1 := ok.lay hTf (.tup [v, u])
    have fr1 := fr.lay (o := .tup [v, u]) hLT
    have le1 : Le W (W.lay s.heap.objs.size (.tup [v, u])) := Le.lay (ok.fresh hTf).1
    have ok2 := Ok.other (o := .lst (acc ++ [.ref s.heap.objs.size])) ok1 fr1
    have rt : Rep Γ (W.lay s.heap.objs.size (.tup [v, u])) (.tup [x, y]) (.ref s.heap.objs.size) := rep_tup (Reps.cons (rx.mono le1.s) (Reps.cons (ry.mono le1.s) Reps.nil))
    show wpAny _ A.in1 (updateSeq L (·.push (.ref s.heap.objs.size)) >>= _) _ _ _
    refine wpAny_bind (wpAny_updateSeq eL rfl (wpAny_pure ⟨plainId_quiet F.plain_extend_loop _, ih (i + 1) _ _ _ (acc ++ [.ref s.heap.objs.size]) (by omega) hlt I2 ?_ ?_ ok2 fr1 upd_same ?_ (r1.mono le1.s) (r2.mono le1.s) fun W' H' s' acc' le' => hR W' H' s' acc' (le1.trans le')⟩) (by rw [List.size_toArray, ← hlL]; omega) (by simp only [Array.size_push, List.size_toArray]; rw [← hlL]; omega))
    · refine st'.keep (fun b o e hb => ?_) fun b o e => ?_
      · have : L ≠ b := by
          rcases hb with q | q | q | q | q <;> rw [q]
          · exact hL.1
          · exact hL.2.1
          · exact hL.2.2.1
          · exact hL.2.2.2.1
          · exact hL.2.2.2.2
        exact (Heap.get?_update_other _ _ this).trans e
      · by_cases hb : L = b
        · subst hb
          exact ⟨_, Heap.get?_update_self _ eL rfl⟩
        · exact ⟨o, (Heap.get?_update_other _ _ hb).trans e⟩
    · intro b hb
      have fb := hf b hb
      have bl : b ≠ s.heap.objs.size := Nat.ne_of_lt (st.lt b (by
        have e' : b = z ∨ b = TO ∨ b = i1 ∨ b = i2 := by simpa using hb
        rcases e' with q | q | q | q <;> simp [q]))
      have bL : b ≠ L := fun e => by
        have := fb.1
        rw [e, hH] at this
        cases this
      exact ⟨by rw [upd_ne bL, upd_ne bl]; exact fb.1, fb.2⟩
    · have et : (xs.zip ys).take (i + 1) = (xs.zip ys).take i ++ [(x, y)] := by
        rw [List.take_add_one, show (xs.zip ys)[i]? = some (x, y) from List.getElem?_zip_eq_some.mpr ⟨hx, hy⟩]
        rfl
      rw [et, List.map_append]
      exact (ra.mono le1.s).snoc rt
end
end DL
set_option Elab.async false
set_option linter.all false
set_option maxRecDepth 100000
set_option maxHeartbeats 2000000
set_option autoImplicit false
/-! The data layer, 38: a new list that may become the frame's own: comprehensions, list(x); list(zip(xs, ys)). -/
namespace DL
open PySem PySem.Spec PyProof.Rows L2 He
section
variable {Γ : Pg} {ξ : Xx} {X : Cx} {E : WX}
/-- a new list: nobody else knows of it -/
def ContN (Γ : Pg) (r : ResA) (W : Wd) (Q : VK) (E : XK) : Prop := match r with
  | .ok ds S => ∀ W' p vs H', Le W W' → Ok Γ W' S H' → Free W' p → H' p = some (.lst vs) → Reps Γ W' ds vs → Q (.ref p) H'
  | .exc k fs S => ∀ W' d H', Le W W' → Ok Γ W' S H' → RepX (Γ := Γ) W' fs d → E (.ref (Γ.cl k)) d H'
  | .bad => False
theorem ContN.le {r : ResA} {W W' : Wd} {Q : VK} {E : XK} (h : ContN Γ r W Q E) (e : Le W W') : ContN Γ r W' Q E := by
  cases r with
  | ok d S => exact fun W2 p v H2 l => h W2 p v H2 (e.trans l)
  | exc k fs S => exact fun W2 v H2 l => h W2 v H2 (e.trans l)
  | bad => exact h
def dN (Γ : Pg) (ξ : Xx) (f : AF) (E : WX) : TE := fun σ H Q => ∃ W es S P0, Ok Γ W S H ∧ Frame Γ ξ W es σ P0 ∧ ContN Γ (f es S) W Q (at_ E σ)
def toN (r : Res) : ResA := match r with
  | .ok (.lst ds) S => .ok ds S
  | .exc k fs S => .exc k fs S
  | _ => .bad
noncomputable def eLcN (vs : List Nat) (it : IF) (t : TF) (c e : EF) : AF := fun es S => toN (eLc false vs it t c e es S)
theorem tLcN_of {vs : List Nat} {fi : IF} {t : TF} {ix : List Nat} {fc fe : EF} {σ : L2.St} {H : Hp} {Q : VK} (hix : ∀ j ∈ ix, j ∈ vs) (h : dN Γ ξ (eLcN vs fi t fc fe) E σ H Q) : tLc (dIQ Γ ξ fi E) (dG Γ ξ t ix) (dT Γ ξ fc E0) (dE Γ ξ fe E0) vs σ H Q := by
  obtain ⟨W, es, S, P0, ok, fr, h⟩ := h
  refine ⟨W, es, S, P0, ok, fr, ?_⟩
  unfold eLcN eLc at h
  cases e : fi es S with
  | bad => rw [e] at h; exact h.elim
  | exc k fs S1 => rw [e] at h; exact h
  | ok ds g S1 =>
    rw [e] at h
    simp only at h
    split at h
    case isFalse => exact h.elim
    rename_i hg
    obtain ⟨hsz, hna⟩ := hg
    have hn : ∀ j ∈ vs, ∀ ds, es[j]? ≠ some (.acc ds) := fun j hj => noAcc_at hna hj
    intro W1 J H1 l1 ok1 y A hA
    obtain ⟨hAF, hAP, hAm⟩ := ok1.fresh hA
    have h := ContN.le h l1
    refine ⟨fun i m H => m = ds.length - i ∧ i ≤ ds.length ∧ ∃ W' S' acc vs', LeS W1 W' ∧ W'.P = upd W1.P A (.lst vs') ∧ Ok Γ W' S' H ∧ Reps Γ W' acc vs' ∧ acc.length ≤ i ∧ ContN Γ (toN (lcL false g t fc fe (wipeD es vs) (ds.drop i) S' acc)) { W' with P := W1.P } Q (at_ E σ), ?_, ?_⟩
    · refine ⟨ds.length, by simp, Nat.zero_le _, { W1 with P := upd W1.P A (.lst []) }, S1, [], [], ⟨fun _ _ h => h, fun _ _ h => h⟩, rfl, ?_, Reps.nil, Nat.le_refl _, by rw [List.drop_zero]; exact h⟩
      refine ⟨fun a u q => ?_, fun a u q => ?_, fun i a q => ⟨(ok1.m i a q).1, ?_⟩, ok1.nd, ok1.len, fun i a es q1 q2 => ?_⟩
      · rw [upd_ne (ne_of_none (show W1.F a = some u from q) hAF)]
        exact ok1.f a u q
      · by_cases z : a = A
        · subst z
          have q : upd W1.P a (.lst []) a = some u := q
          rw [upd_same] at q ⊢
          exact ⟨q, hAF⟩
        · have q : upd W1.P A (.lst []) a = some u := q
          rw [upd_ne z] at q ⊢
          exact ok1.p a u q
      · show upd W1.P A (.lst []) a = none
        rw [upd_ne (hAm i a q)]
        exact (ok1.m i a q).2
      · obtain ⟨us, q3, q4⟩ := ok1.c i a es q1 q2
        exact ⟨us, by rw [upd_ne (hAm i a q1)]; exact q3, repsP W1 q4⟩
    rintro i m H ⟨rfl, hi, W2, S2, acc, vs', l2, hP2, ok2, ra, hac, h2⟩
    have lQ : LeQ W1 W2 := ⟨l2, fun a u e => by
      rw [hP2, upd_ne (ne_of_none e hAP)]
      exact e⟩
    by_cases hgd : g.ok S2
    case neg =>
      by_cases hlt : i < ds.length
      · rw [List.drop_eq_getElem_cons hlt, lcL, if_neg hgd] at h2
        exact h2.elim
      · rw [List.drop_of_length_le (by omega), lcL, if_neg hgd] at h2
        exact h2.elim
    obtain ⟨y1, y2⟩ := y W2 S2 H lQ ok2 hgd
    have hH : H A = some (.lst vs') := (ok2.p A _ (by rw [hP2]; exact upd_same)).1
    by_cases hlt : i < ds.length
    · right
      obtain ⟨g1, g2⟩ := y2 i ds[i] (List.getElem?_eq_getElem hlt)
      refine ⟨g1, fun H => i + 1 ≤ ds.length ∧ ∃ W' S' acc vs', LeS W1 W' ∧ W'.P = upd W1.P A (.lst vs') ∧ Ok Γ W' S' H ∧ Reps Γ W' acc vs' ∧ acc.length ≤ i + 1 ∧ ContN Γ (toN (lcL false g t fc fe (wipeD es vs) (ds.drop (i + 1)) S' acc)) { W' with P := W1.P } Q (at_ E σ),
        fun H' q => ⟨ds.length - (i + 1), by omega, rfl, q⟩, fun x H' yl => ?_⟩
      obtain ⟨W3, l3, ok3, r3⟩ := g2 x H' yl
      rw [List.drop_eq_getElem_cons hlt, lcL, if_pos hgd] at h2
      cases ht : t ds[i] (wipeD es vs) S2 with
      | none => rw [ht] at h2; exact h2.elim
      | some es3 =>
        rw [ht] at h2
        simp only at h2
        obtain ⟨own, fr1, fr2⟩ := fr
        have fr3 : Frame Γ ξ W3 (wipeD es vs) (L2.wipe σ vs) (upd P0 A (.lst vs')) := by
          refine ⟨own, SlotsR.mono ((l1.s.trans l2).trans l3.s) (SlotsR.wipe fr1 hn), fr2.nd, fun p hp => ?_, fun a ha => ?_⟩
          · obtain ⟨q1, q2⟩ := fr2.at_ p hp
            have nA : p.1 ≠ A := fun z => by
              have q3 : W1.P p.1 = some p.2 := by rw [l1.p]; exact q2
              rw [z, hAP] at q3
              cases q3
            refine ⟨by rw [upd_ne nA]; exact q1, ?_⟩
            rw [l3.p, hP2, upd_ne nA, l1.p]
            exact q2
          · rw [l3.p, hP2]
            by_cases z : a = A
            · rw [z, upd_same, upd_same]
            · rw [upd_ne z, upd_ne z, l1.p]
              exact fr2.rest a ha
        refine ⟨W3, wipeD es vs, S2, upd P0 A (.lst vs'), ds[i], es3, ok3, fr3, r3, ht, fun W4 σ4 st ok4 fr4 => ?_⟩
        have hna' : noAcc (wipeD es vs) ix = true := noAcc_of fun j hj ds q => hn j (hix j hj) ds (wipeD_acc q)
        obtain rfl := st.same hna'
        refine ⟨?_, ?_⟩
        · rw [wipe_eq st.len fun j hj => st.out j fun q => hj (hix j q), wipe_wipe]
        refine ⟨W4, es3, S2, _, ok4, fr4, ?_⟩
        have l23 : Le { W2 with P := W1.P } { W4 with P := W1.P } := ⟨l3.f, rfl, l3.m⟩
        cases ec : fc es3 S2 with
        | bad => rw [ec] at h2; exact h2.elim
        | exc k fs S' => rw [ec] at h2; exact h2.elim
        | ok b S5 =>
          rw [ec] at h2
          simp only [Res.nox, Res.bind] at h2
          cases b with
          | bl b =>
            intro W5 H5 l5 ok5
            have l25 : Le { W2 with P := W1.P } { W5 with P := W1.P } := l23.trans ⟨l5.f, rfl, l5.m⟩
            have hP5 : W5.P = upd W1.P A (.lst vs') := by rw [l5.p, l3.p, hP2]
            cases b with
            | false =>
              rw [if_neg Bool.false_ne_true]
              simp only at h2
              exact ⟨hlt, W5, S5, acc, vs', l2.trans (l3.s.trans l5.s), hP5, ok5, ra.mono (l3.s.trans l5.s), Nat.le_succ_of_le hac, ContN.le h2 l25⟩
            | true =>
              rw [if_pos rfl]
              simp only at h2
              refine ⟨W5, es3, S5, _, ok5, fr4.le l5, ?_⟩
              cases ee : fe es3 S5 with
              | bad => rw [ee] at h2; exact h2.elim
              | exc k fs S' => rw [ee] at h2; exact h2.elim
              | ok d6 S6 =>
                rw [ee] at h2
                simp only [Res.nox, Res.bind] at h2
                intro W6 v6 H6 l6 ok6 r6
                have hP6 : W6.P = upd W1.P A (.lst vs') := by rw [l6.p, hP5]
                have hH6 : H6 A = some (.lst vs') ∧ W6.F A = none := ok6.p A _ (by rw [hP6]; exact upd_same)
                refine ⟨vs', hH6.1, ?_, hlt, { W6 with P := upd W1.P A (.lst (vs' ++ [v6])) }, S6, acc ++ [d6], vs' ++ [v6], ⟨fun a u q => ?_, fun i a q => ?_⟩, rfl, ?_, ?_, by simp; omega, ?_⟩
                · rw [ra.length, sizeLine_eq]
                  omega
                · exact l6.f _ _ (l5.f _ _ (l3.f _ _ (l2.f _ _ q)))
                · exact l6.m _ _ (l5.m _ _ (l3.m _ _ (l2.m _ _ q)))
                · refine ⟨fun a u q => ?_, fun a u q => ?_, fun i a q => ⟨(ok6.m i a q).1, ?_⟩, ok6.nd, ok6.len, fun i a es q1 q2 => ?_⟩
                  · rw [upd_ne (ne_of_none (show W6.F a = some u from q) hH6.2)]
                    exact ok6.f a u q
                  · by_cases z : a = A
                    · subst z
                      have q : upd W1.P a (.lst (vs' ++ [v6])) a = some u := q
                      rw [upd_same] at q ⊢
                      exact ⟨q, hH6.2⟩
                    · have q : upd W1.P A (.lst (vs' ++ [v6])) a = some u := q
                      rw [upd_ne z] at q ⊢
                      exact ok6.p a u (by rw [hP6, upd_ne z]; exact q)
                  · have q3 := (ok6.m i a q).2
                    show upd W1.P A (.lst (vs' ++ [v6])) a = none
                    have nA : a ≠ A := fun z => by
                      rw [z, hP6, upd_same] at q3
                      cases q3
                    rw [hP6, upd_ne nA] at q3
                    rw [upd_ne nA]
                    exact q3
                  · have q3 := (ok6.m i a q1).2
                    have nA : a ≠ A := fun z => by
                      rw [z, hP6, upd_same] at q3
                      cases q3
                    obtain ⟨us, q4, q5⟩ := ok6.c i a es q1 q2
                    exact ⟨us, by rw [upd_ne nA]; exact q4, repsP W6 q5⟩
                · exact repsP W6 ((ra.mono (l3.s.trans (l5.s.trans l6.s))).append (Reps.cons r6 Reps.nil))
                · exact ContN.le h2 (l25.trans ⟨l6.f, rfl, l6.m⟩)
          | _ => exact h2.elim
    · left
      have e2 : i = ds.length := by omega
      subst e2
      rw [List.drop_length, lcL, if_pos hgd] at h2
      rw [if_neg Bool.false_ne_true] at h2
      have hnA : ∀ (i : Nat) (a : Addr), W2.m[i]? = some a → a ≠ A := fun i a q z => by
        have q3 := (ok2.m i a q).2
        rw [z, hP2, upd_same] at q3
        cases q3
      have nF : W2.F A = none := (ok2.p A _ (by rw [hP2]; exact upd_same)).2
      refine ⟨y1, h2 { W2 with P := W1.P } A vs' H (Le.refl _) (ok2.less fun a u q => by
        rw [hP2, upd_ne (ne_of_none q hAP)]
        exact q) ⟨nF, hAP, hnA⟩ hH (repsP W2 ra)⟩

/-- x = a new list: the frame's own from now on -/
def sAccN (i : Nat) (a : AF) : SF := fun es S => match a es S with
  | .ok ds S1 => .next (es.set i (.acc ds)) S1
  | .exc k fs S1 => .exc k fs es S1
  | .bad => .bad
theorem tAccN_of {i : Nat} {a : AF} {te : TE} {Dn : Ends} {σ : L2.St} {H : Hp} (q : ∀ Q, dN Γ ξ a E σ H Q → te σ H Q) (h : dS Γ ξ (sAccN i a) E Dn σ H) : tAsg te (gName i) Dn σ H := by
  obtain ⟨W, es, S, P0, ok, fr, h⟩ := h
  refine q _ ⟨W, es, S, P0, ok, fr, ?_⟩
  unfold sAccN at h
  cases e : a es S with
  | bad => rw [e] at h; exact h.elim
  | exc k fs S1 => rw [e] at h; exact fun W1 d H1 l o rx => h W1 σ d H1 l.s o (fr.le l) rx
  | ok ds S1 =>
    rw [e] at h
    intro W1 p vs H1 l1 ok1 fp hp rs
    obtain ⟨hF, hP, hM⟩ := fp
    obtain ⟨own, fr1, o⟩ := fr.le l1
    have np : p ∉ own.map (·.1) := fun q => by
      obtain ⟨z, hz, rfl⟩ := List.mem_map.mp q
      rw [(o.at_ z hz).2] at hP
      cases hP
    have h0 : P0 p = none := by rw [← o.rest p np]; exact hP
    obtain ⟨own', s1, s2, s3⟩ := SlotsR.setAcc (a := p) rs i fr1 o.nd np
    obtain ⟨k1, k2⟩ := ok1.own (own' := own') (a := p) (vs := vs) o hF hM h0 rfl s2 fun q hq => (s3 q hq).elim (fun z => .inl ⟨z, fun e => np (by rw [← e]; exact List.mem_map.mpr ⟨q, z, rfl⟩)⟩) .inr
    have e2 : upd H1 p (.lst vs) = H1 := by
      funext b
      by_cases z : b = p
      · rw [z, upd_same, hp]
      · rw [upd_ne z]
    rw [e2] at k1 k2
    exact h _ _ _ (l1.s.trans Wd.own_le) k1 ⟨own', s1.mono Wd.own_le, k2⟩
theorem ds_accN {i : Nat} {x : Str} {e : Expr} {a : AF} {pos pos' : Pos} {te : TE} (hN : X.N.Nodup) (ha : PE X e te) (q : ∀ σ H Q, dN Γ ξ a E σ H Q → te σ H Q) (hi : X.N[i]? = some x := by rfl) (hx : Loc X.env.scope x := by first | exact Or.inl rfl | exact Or.inr rfl) (hs : swapsWith e (some (.Name x pos')) pos.line X.env = pure false := by rfl)
    (hf : X.fn x = true ∨ X.env.scope.names.lookup x = some .local := by first | exact .inl rfl | exact .inr rfl | assumption) : PS X (.Assign [.Name x pos'] e pos) (dS Γ ξ (sAccN i a) E) :=
  (ps_set hN hi hx ha hs hf).imp fun Dn σ H h => tAccN_of (fun Q => q σ H Q) h
theorem ds_lcN {i : Nat} {y : Str} {py : Pos} {elt tg iter : Expr} {ifs : List Expr} {scope : Scope} {own : List (Str × Nat)} {pos spos : Pos} {fi : IF} {t : TF} {ix : List Nat} {fc fe : EF} (hc : X.calm = true) (hN : X.N.Nodup) (ok : BlkOk X.N X.env.scope scope own) (hi : PI X tg iter (dIQ Γ ξ fi E))
    (hg : ∀ (s : Shared) (H : Hp) (C : Addr) (cl : List (Str × Addr)) (fp : List Addr), PG (X.blk s H scope (PySem.compEnvC scope cl C X.env) fp) tg (dG Γ ξ t ix)) (ht : ∀ (s : Shared) (H : Hp) (C : Addr) (cl : List (Str × Addr)) (fp : List Addr), PTs (X.blk s H scope (PySem.compEnvC scope cl C X.env) fp) ifs (dT Γ ξ fc E0))
    (he : ∀ (s : Shared) (H : Hp) (C : Addr) (cl : List (Str × Addr)) (fp : List Addr), PE (X.blk s H scope (PySem.compEnvC scope cl C X.env) fp) elt (dE Γ ξ fe E0))
    (hy : X.N[i]? = some y := by rfl) (hyl : X.env.scope.names.lookup y = some .local := by rfl) (hsw : swapsWith (.ListComp elt [⟨tg, iter, ifs, 0⟩] scope pos) (some (.Name y py)) spos.line X.env = pure true := by rfl)
    (hix : ∀ j ∈ ix, j ∈ own.map (·.2) := by decide) (hs : ∀ x, foldedSetIterable iter X.env x = pure x := by intro _; rfl) :
    PS X (.Assign [.Name y py] (.ListComp elt [⟨tg, iter, ifs, 0⟩] scope pos) spos) (dS Γ ξ (sAccN i (eLcN (own.map (·.2)) fi t fc fe)) E) := (ps_setLc hc hN hy hyl hsw hi ok hg ht he hs).imp fun Dn σ H h => tAccN_of (fun Q => tLcN_of hix) h
/-- list(x), to become the frame's own -/
def aListN (f : EF) : AF := fun es S => (f es S).bindA fun x S1 => match deref S1 x with
  | .lst ds => .ok ds S1
  | .tup ds => .ok ds S1
  | _ => .bad
theorem ds_listN {i : Nat} {y : Str} {py p pos spos : Pos} {a : Expr} {f : EF} (hK : X.K = Γ.K) (hN : X.N.Nodup) (hm : X.mg "list" = none) (ha : PE X a (dV Γ ξ f E)) (hg : Gl X "list" := by rfl)
    (hi : X.N[i]? = some y := by rfl) (hx : Loc X.env.scope y := by first | exact Or.inl rfl | exact Or.inr rfl) (hs : swapsWith (.Call (.Name "list" p) [a] [] pos) (some (.Name y py)) spos.line X.env = pure false := by rfl)
    (hf : X.fn y = true ∨ X.env.scope.names.lookup y = some .local := by first | exact .inl rfl | exact .inr rfl | assumption)
    (he : starEach (a :: []) X.env = (false, eval a X.env) :: starEach [] X.env := by rfl) (hpl : (backTo pos (starEach [] X.env)).any (·.1) = false := by rfl) :
    PS X (.Assign [.Name y py] (.Call (.Name "list" p) [a] [] pos) spos) (dS Γ ξ (sAccN i (aListN f)) E) := by
  refine ds_accN hN (pe_callTy call_list_of hg hm (by decide +kernel) (pa_cons ha pa_nil he) (he := he) (hpl := hpl)) (fun σ H Q h => ?_) hi hx hs hf
  obtain ⟨W, es, S, P0, ok, fr, h⟩ := h
  refine ⟨W, es, S, P0, ok, fr, ?_⟩
  unfold aListN at h
  unfold ContV
  cases e : f es S with
  | bad => rw [e] at h; exact h.elim
  | exc k fs S1 => rw [e] at h; exact h
  | ok d S1 =>
    rw [e] at h
    simp only [Res.bindA] at h
    intro W1 v H1 le ok1 rv
    have go : ∀ {q : Addr} {vs : List V} {ds : List D}, (SqL Γ.K H1 q vs ∨ SqT Γ.K H1 q vs) → Reps Γ W1 ds vs → v = .ref q → ContN Γ (.ok ds S1) W Q (at_ E σ) → ∃ p ys, [v] = [V.ref p] ∧ (SqL X.K H1 p ys ∨ SqT X.K H1 p ys) ∧ ∀ l, H1 l = none → Q (.ref l) (upd H1 l (.lst ys)) := fun {q vs ds} h1 h2 hx h => by
      subst hx
      refine ⟨q, vs, rfl, by rw [hK]; exact h1, fun l hl => ?_⟩
      have fr1 := ok1.fresh hl
      exact h W1 l vs _ le (Ok.other ok1 fr1) fr1 upd_same h2
    split at h
    · rename_i ds hd
      obtain ⟨q, vs, hx, h1, h2⟩ := asL ok1 rv hd
      exact go (.inl h1) h2 hx h
    · rename_i ds hd
      obtain ⟨q, vs, hx, h1, h2⟩ := asT ok1 rv hd
      exact go (.inr h1) h2 hx h
    · exact h.elim
end
end DL
set_option Elab.async false
set_option linter.all false
set_option maxRecDepth 100000
set_option maxHeartbeats 2000000
set_option autoImplicit false
/-! The data layer, 39: list(zip(xs, ys)) of two lists that do not change. -/
namespace DL
open PySem PySem.Spec PyProof.Rows L2 He
section
variable {Γ : Pg} {ξ : Xx} {X : Cx} {E : WX} {S : Store}
theorem upd_upd {H : Hp} {L : Addr} {u v : HO} : upd (upd H L u) L v = upd H L v := by
  funext b
  by_cases z : b = L
  · rw [z, upd_same, upd_same]
  · rw [upd_ne z, upd_ne z, upd_ne z]
theorem lz_call {pins : List (Addr × Obj)} {σ : L2.St} {z TI TO i1 i2 l1 l2 : Addr} {xs ys : List D} {W : Wd} {H : Hp} {s : Shared} {Q : Value → Shared → Prop} {Ex : Value → Shared → Prop} (hK : X.K = Γ.K) (hh : X.A.handled = none) (D : ZipApart z TI TO i1 i2 l1 l2) (I : Inv X pins σ H s)
    (hzz : IsZip s.heap z TI TO .none) (st : ZSt z TI TO i1 i2 l1 l2 0 s.heap) (hf : ∀ b ∈ [z, TO, i1, i2], FpOk X pins H b) (ok : Ok Γ W S H) (r1 : Rep Γ W (.lst xs) (.ref l1)) (r2 : Rep Γ W (.lst ys) (.ref l2)) (hz : min xs.length ys.length ≤ sizeLine)
    (hQ : ∀ W' H' s' L acc, Le W W' → Inv X pins σ H' s' → Ok Γ W' S H' → Free W' L → H' L = some (.lst acc) → Reps Γ W' ((xs.zip ys).map tup2) acc → Q (.ref L) s') :
    wpAny (model X.prog X.w) X.A (call (.type "list") [.ref z]) Q Ex s := by
  refine callType_codes (Q₁ := fun obj s₁ => obj = .ref s.heap.objs.size ∧ s₁ = { s with heap := s.heap.push { cls := .type "list", data := .seq #[] } }) PySem.F.called_list (PySem.F.typeCall_list_1 _) PySem.F.entry_list_init
    (code_list_new _ ⟨rfl, rfl⟩) fun obj s₁ h₁ => ?_
  obtain ⟨rfl, rfl⟩ := h₁
  have hS : (s.heap.push { cls := .type "list", data := .seq #[] }).get? s.heap.objs.size = some { cls := .type "list", data := .seq #[] } := Heap.get?_push_size _ rfl
  have hH0 : H s.heap.objs.size = none := I.fresh
  have fL : Free W s.heap.objs.size := ok.fresh hH0
  have zlt := st.lt
  have nL : ∀ b ∈ [z, TI, TO, i1, i2], b ≠ s.heap.objs.size := fun b hb => Nat.ne_of_lt (zlt b hb)
  have I1 : Inv X pins σ (upd H s.heap.objs.size (.lst [])) { s with heap := s.heap.push { cls := .type "list", data := .seq #[] } } := I.lnew (its := []) (t' := s.toks) .nil (by decide)
  refine ⟨⟨_, hS, rfl⟩, PySem.F.args_list_init_2 _ _, ?_⟩
  show wpAny _ _ (do let old ← Builtin.List.listItems (.ref s.heap.objs.size); Builtin.List.listUpdate (.ref s.heap.objs.size) (fun _ => #[]); letGo old.toList.reverse; Builtin.List.listExtendWith (.ref s.heap.objs.size) (.ref z) .none) _ _ _
  refine wpAny_bind ?_
  unfold Builtin.List.listItems
  refine wpAny_bind (wpAny_seqItems hS rfl (wpAny_pure ?_))
  show wpAny _ _ (updateSeq s.heap.objs.size (fun _ => #[]) >>= fun _ => letGo (#[] : Array Value).toList.reverse >>= fun _ => Builtin.List.listExtendWith (.ref s.heap.objs.size) (.ref z) .none) _ _ _
  refine wpAny_bind (wpAny_updateSeq hS rfl ?_)
  have hS₂ := Heap.get?_update_self (Obj.mapSeq (fun _ => (#[] : Array Value))) hS rfl
  have I2 := I1.lset (t' := s.toks) (its := []) (its' := []) (ys := []) (f := fun _ => #[]) upd_same hS rfl .nil (by decide)
  refine wpAny_bind (wpAny_letGo ?_)
  have hz2 : IsZip ((s.heap.push { cls := .type "list", data := .seq #[] }).update s.heap.objs.size (Obj.mapSeq (fun _ => (#[] : Array Value)))) z TI TO .none :=
    (Heap.get?_update_other _ _ (Ne.symm (nL z (by simp)))).trans (Heap.get?_push_of_some _ hzz)
  have hT : Shared.TypeIs { s with heap := (s.heap.push { cls := .type "list", data := .seq #[] }).update s.heap.objs.size (Obj.mapSeq (fun _ => (#[] : Array Value))) } (.ref z) "zip" := ⟨_, hz2, rfl⟩
  unfold Builtin.List.listExtendWith
  refine wpAny_bind (wpAny_typeOf hT ?_)
  have h1 : Builtin.List.listSameRef (.ref s.heap.objs.size) (.ref z) = false := by simp [Builtin.List.listSameRef, Ne.symm (nL z (by simp))]
  have h2 : (Value.type "zip" == Value.type "list") = false := by decide
  have h3 : (Value.type "zip" == Value.type "tuple") = false := by decide
  simp only [h1, h2, h3, Bool.or_false, Bool.false_eq_true, if_false]
  refine wpAny_bind (wpAny_pyIter_zip hz2 ?_)
  refine wpAny_bind (wpAny_holding ?_)
  unfold Builtin.List.listLengthHint
  refine wpAny_bind (wpAny_specialOf hT zip_no_len ?_)
  show wpAny _ _ (specialOf (Value.ref z) (Str.ofString "__length_hint__") >>= _) _ _ _
  refine wpAny_bind (wpAny_specialOf hT zip_no_hint ?_)
  refine wpAny_pure ?_
  show wpAny _ _ (rule "list.extend.makes-room" >>= fun _ => Builtin.List.listTouch (.ref s.heap.objs.size) >>= fun _ =>
    again (.builtin "list.extend.loop" ⟨[.ref s.heap.objs.size, .ref z, .none], []⟩)) _ _ _
  refine wpAny_bind (wpAny_rule ?_)
  refine wpAny_bind ?_
  show wpAny _ _ (updateSeq s.heap.objs.size (·.push .none) >>= fun _ => updateSeq s.heap.objs.size (·.pop)) _ _ _
  refine wpAny_bind (wpAny_updateSeq hS₂ rfl ?_)
  have hS₃ := Heap.get?_update_self (Obj.mapSeq (·.push Value.none)) hS₂ rfl
  have I3 := I2.lset (t' := s.toks) (its := []) (its' := [.none]) (ys := [.non]) (f := (·.push Value.none)) upd_same hS₂ rfl (.cons rfl .nil) (by decide)
  refine wpAny_updateSeq (hz := by seq_fits) hS₃ rfl ?_
  have hS₄ := Heap.get?_update_self (Obj.mapSeq (·.pop)) hS₃ rfl
  have I4 := I3.lset (t' := s.toks) (its := [.none]) (its' := []) (ys := []) (f := (·.pop)) upd_same hS₃ rfl .nil (by decide)
  rw [upd_upd, upd_upd, upd_upd] at I4
  refine wpAny_pure ⟨plainId_quiet PySem.F.plain_extend_loop _, ?_⟩
  refine lz_loop (xs := xs) (ys := ys) (S := S) hK X.A.in1 hh D ⟨Ne.symm (nL z (by simp)), Ne.symm (nL TI (by simp)), Ne.symm (nL TO (by simp)), Ne.symm (nL i1 (by simp)), Ne.symm (nL i2 (by simp))⟩ hz _ _ 0 W _ _ [] rfl (Nat.zero_le _) I4 ?_ ?_ (ok.other fL) fL upd_same (by simpa using Reps.nil) r1 r2 ?_
  · refine st.keep (fun b o e hb => ?_) fun b o e => ?_
    · have : s.heap.objs.size ≠ b := Ne.symm (nL b (by
        rcases hb with q | q | q | q | q <;> simp [q]))
      exact (Heap.get?_update_other _ _ this).trans ((Heap.get?_update_other _ _ this).trans ((Heap.get?_update_other _ _ this).trans (Heap.get?_push_of_some _ e)))
    · have : s.heap.objs.size ≠ b := Ne.symm (Nat.ne_of_lt (Heap.lt_size e))
      exact ⟨o, (Heap.get?_update_other _ _ this).trans ((Heap.get?_update_other _ _ this).trans ((Heap.get?_update_other _ _ this).trans (Heap.get?_push_of_some _ e)))⟩
  · intro b hb
    have fb := hf b hb
    have bl : b ≠ s.heap.objs.size := nL b (by
      have e' : b = z ∨ b = TO ∨ b = i1 ∨ b = i2 := by simpa using hb
      rcases e' with q | q | q | q <;> simp [q])
    exact ⟨by rw [upd_ne bl]; exact fb.1, fb.2⟩
  · intro W' H' s' acc' le' I' ok' fr' hL ra
    exact ⟨rfl, hQ W' H' s' _ acc' le' I' ok' fr' hL ra⟩
/-- list(zip(xs, ys)) -/
def eLz (a : AF) : EF := fun es S => match a es S with
  | .ok [.lst xs, .lst ys] S1 => if min xs.length ys.length ≤ 16777216 then .ok (.lst ((xs.zip ys).map tup2)) S1 else .bad
  | .exc k fs S1 => .exc k fs S1
  | _ => .bad
theorem de_listzip {e e2 : Expr} {ta : AF} {p p2 pos pos2 : Pos} (hc : X.calm = true) (hK : X.K = Γ.K) (hm : X.mg "list" = none) (hmz : X.mg "zip" = none) (ha : PA X [e, e2] (dA Γ ξ ta E)) (hg : Gl X "list" := by rfl) (hgz : Gl X "zip" := by rfl)
    (hs : starEach [e, e2] X.env = (false, eval e X.env) :: starEach [e2] X.env := by rfl) (hpl : (backTo pos2 (starEach [e2] X.env)).any (·.1) = false := by rfl)
    (he : starEach ((.Call (.Name "zip" p2) [e, e2] [] pos2) :: []) X.env = (false, eval (.Call (.Name "zip" p2) [e, e2] [] pos2) X.env) :: starEach [] X.env := by rfl) (hpl2 : (backTo pos (starEach [] X.env)).any (·.1) = false := by rfl) :
    PE X (.Call (.Name "list" p) [.Call (.Name "zip" p2) [e, e2] [] pos2] [] pos) (dE Γ ξ (eLz ta) E) := by
  refine ⟨fun pins s σ H Q I ⟨W, es, S, P0, ok, fr, h⟩ => ?_⟩
  refine wpAny_Call_Name_kw (ld_blt (u := .type "list") I hg hm (by decide +kernel) ?_)
  refine PyProof.Rows.callWith_type1 ?_ he hpl2
  rw [he]
  show wpAny _ _ (spliced ((false, eval (.Call (.Name "zip" p2) [e, e2] [] pos2) X.env) :: backTo pos (starEach [] X.env))) _ _ s
  refine Calls.spliced_cons ?_
  refine Call_ (ld_blt I hgz hmz PyProof.Rows.boot_zip (PyProof.Rows.callWith_type1 (thn (ha.run pos2 pins s σ H (fun vs H1 => ∃ W1 S1 xs ys, Le W W1 ∧ Ok Γ W1 S1 H1 ∧ Reps Γ W1 [.lst xs, .lst ys] vs ∧ min xs.length ys.length ≤ 16777216 ∧ Cont Γ (.ok (.lst ((xs.zip ys).map tup2)) S1) W1 Q (at_ E σ)) I ⟨W, es, S, P0, ok, fr, ?_⟩) fun us s1 ⟨vs, H1, I1, rr, W1, S1, xs, ys, le1, ok1, rs, hz, h1⟩ => ?_) hs hpl))
  · unfold eLz at h
    cases e : ta es S with
    | bad => rw [e] at h; exact h.elim
    | exc k fs S1 => rw [e] at h; exact h
    | ok ds S1 =>
      rw [e] at h
      intro W1 vs H1 le1 ok1 rs
      match ds, h, rs with
      | [.lst xs, .lst ys], h, rs =>
        have h : Cont Γ (if min xs.length ys.length ≤ 16777216 then .ok (.lst ((xs.zip ys).map tup2)) S1 else .bad) W Q (at_ E σ) := h
        split at h
        · rename_i hz
          exact ⟨W1, _, xs, ys, le1, ok1, rs, hz, Cont.le h le1⟩
        · exact h.elim
  · simp only [Reps] at rs
    obtain ⟨v1, vs1, rfl, r1, v2, vs2, rfl, r2, rfl⟩ := rs
    have r1' := r1
    have r2' := r2
    simp only [Rep] at r1' r2'
    obtain ⟨a, zs1, rfl, q1, p1⟩ := r1'
    obtain ⟨b, zs2, rfl, q2, p2⟩ := r2'
    cases rr with
    | cons r rr =>
      cases rr with
      | cons r' rr =>
        cases rr
        cases r
        cases r'
        have fresh5 : ∀ c, s1.heap.objs.size ≤ c → FpOk X pins H1 c := fun c hle => I1.fpOk hle (I1.hok.fresh hle)
        obtain ⟨its, rv, pl, _⟩ := I1.list (by rw [hK]; exact sqL_H ok1.f q1)
        obtain ⟨its2, rv2, pl2, _⟩ := I1.list (by rw [hK]; exact sqL_H ok1.f q2)
        have la := pl.lt
        have lb := pl2.lt
        refine zip_begins2 (begins_list a its.toArray) (begins_list b its2.toArray) pl.isList pl2.isList fun h' hz' hTI hTO hi1 hi2 hsz hk => ?_
        have I2 : Inv X pins σ H1 { s1 with heap := h' } := I1.kept (t' := s1.toks) hk
        have D : ZipApart (s1.heap.objs.size + 4) (s1.heap.objs.size + 2) (s1.heap.objs.size + 3) s1.heap.objs.size (s1.heap.objs.size + 1) a b := zipApart_new la lb
        have fp : ∀ c ∈ [s1.heap.objs.size + 4, s1.heap.objs.size + 3, s1.heap.objs.size, s1.heap.objs.size + 1], FpOk X pins H1 c := fun c hc => fresh5 c (by
          have e' : c = s1.heap.objs.size + 4 ∨ c = s1.heap.objs.size + 3 ∨ c = s1.heap.objs.size ∨ c = s1.heap.objs.size + 1 := by simpa using hc
          rcases e' with q | q | q | q
          · rw [q]; exact Nat.le_add_right _ _
          · rw [q]; exact Nat.le_add_right _ _
          · rw [q]; exact Nat.le_refl _
          · rw [q]; exact Nat.le_add_right _ _)
        refine Calls.spliced_nil (lz_call (S := S1) (W := W1) hK (I2.ok.hd hc) D I2 hz' ⟨.inl hz', hTI, ⟨_, _, hTO⟩, ⟨_, hi1, rfl, rfl⟩, ⟨_, hi2, rfl, rfl⟩⟩ fp ok1 r1 r2 (by rw [sizeLine_eq]; exact hz) fun W' H' s' L acc le' I' ok' fr' hL ra => ?_)
        have n := fr'.1
        let F1 : Hp := upd W'.F L (.lst acc)
        have lF : LeS W' { W' with F := F1 } := ⟨fun a u q => by
          show upd W'.F L _ a = some u
          rw [upd_ne (ne_of_none q n)]
          exact q, fun _ _ q => q⟩
        refine ⟨.ref L, H', I', rfl, h1 { W' with F := F1 } _ H' ⟨fun a o q => lF.f _ _ (le'.f _ _ q), le'.p, le'.m⟩ ⟨fun a u q => ?_, fun a u q => ?_, fun i a q => ?_, ok'.nd, ok'.len, fun i a ds q3 q4 => ?_⟩ ?_⟩
        · have q : upd W'.F L (.lst acc) a = some u := q
          by_cases z : a = L
          · subst z
            rw [upd_same] at q
            rw [hL]
            exact q
          · rw [upd_ne z] at q
            exact ok'.f a u q
        · have z : a ≠ L := ne_of_none q fr'.2.1
          refine ⟨(ok'.p a u q).1, ?_⟩
          show upd W'.F L _ a = none
          rw [upd_ne z]
          exact (ok'.p a u q).2
        · refine ⟨?_, (ok'.m i a q).2⟩
          show upd W'.F L _ a = none
          rw [upd_ne (fr'.2.2 i a q)]
          exact (ok'.m i a q).1
        · obtain ⟨us, q5, q6⟩ := ok'.c i a ds q3 q4
          exact ⟨us, q5, q6.mono lF⟩
        · simp only [Rep]
          exact ⟨L, acc, rfl, .inl (.inl upd_same), ra.mono lF⟩
end
end DL
set_option Elab.async false
set_option linter.all false
set_option maxRecDepth 100000
set_option maxHeartbeats 2000000
set_option autoImplicit false
/-! The data layer, 40: C(k = v, ..) of a class whose instances have a dict. -/
namespace DL
open PySem PySem.Spec PyProof.Rows L2 He
section
variable {Γ : Pg} {ξ : Xx} {X : Cx} {E : WX} {S : Store}
def eNewKC (c n m l : Nat) (gD : List D → List D) (F : List D → Store → ResA) (a : AF) : EF := fun es S => (a es S).bind fun ds S1 => if ds.length = m then newC c n l F (gD ds) S1 else .bad
structure MakKC (Γ : Pg) (P : Program) (w : World) (mg : Str → Option Value) (base : Heap) (k : Nat) (x : Str) (c n : Nat) (ns : List Str) (ks : List Str) (gV : List V → List V) (F : List D → Store → ResA) : Prop where
  at_ : Γ.at_ c = some ns
  ex : ∃ (fI : Addr) (fd : FuncData) (ps : List Str) (gv : List Value → List Value → List Value) (g : List V → List V → List V), Mk Γ.K (Γ.cl c) fI ∧ FnOk P w Γ.K mg base (L2.CX P w) k fI fd ps (spC Γ c n ns F) ∧ mg x = some (.ref (Γ.cl c)) ∧ KBn Γ.K fd ps 1 ks gv g ∧ ∀ x zs, zs.length = ks.length → g [x] zs = x :: gV zs
theorem de_newKC {kws : List Keyword} {ks ns : List Str} {x : Str} {fa : AF} {c n j l : Nat} {p pos : Pos} {P : Program} {w : World} {mg : Str → Option Value} {base : Heap} {F : List D → Store → ResA} {gD : List D → List D} {gV : List V → List V} (hh : Here Γ P w mg base l X E) (M : MakKC Γ P w mg base j x c n ns ks gV F) (hgd : ∀ W ds vs, Reps Γ W ds vs → Reps Γ W (gD ds) (gV vs))
    (ha : PK X kws (dA Γ ξ fa E)) (hj : j + 1 ≤ l := by decide) (hg : Gl X x := by rfl) (hdb : (x == ("__debug__" : Str)) = false := by decide)
    (hall : (backToKw pos (keywordEach kws X.env)).all (·.1.isSome) = true := by rfl) (hks : (backToKw pos (keywordEach kws X.env)).filterMap (·.1) = ks := by rfl)
    (hpl : ((backTo pos (starEach [] X.env)).any (·.1) || (backToKw pos (keywordEach kws X.env)).any (·.1.isNone)) = false := by rfl) :
    PE X (.Call (.Name x p) [] kws pos) (dE Γ ξ (eNewKC c n ks.length ns.length gD F fa) E) := by
  obtain ⟨h1, h2, h3, h4, h5, h6, h7⟩ := hh
  subst h1 h2 h4 h5
  obtain ⟨fI, fd, ps, gv, g, hM, hF, hm, hb, hgv⟩ := M.ex
  rw [← h3] at hM hF hb
  refine ⟨fun pins s σ H Q I ⟨W, es', S, P0, ok, fr, h⟩ => ?_⟩
  refine wpAny_Call_Name_kw (ld_glob I hg hm ?_ hdb)
  refine PySem.W.callWith_KW0 (h₀ := X.base) I.ok.mod.kin hM.kp hall (thn (ha.run pos pins s σ H (fun vs H1 => ∃ W1 S1 ds1, Ok Γ W1 S1 H1 ∧ Reps Γ W1 ds1 vs ∧ Cont Γ (if ds1.length = ks.length then newC c n ns.length F (gD ds1) S1 else .bad) W1 Q (at_ E σ)) I
    ⟨W, es', S, P0, ok, fr, ContA.bind h fun ds1 S1 W1 vs H1 le ok1 rs h1 => ⟨W1, S1, ds1, ok1, rs, h1⟩⟩) fun us s1 ⟨vs, H1, I1, r, W1, S1, ds1, ok1, rs, h1⟩ => ⟨I1.kIn, ?_⟩) hpl
  split at h1
  case isFalse => exact h1.elim
  rename_i hl
  rw [hks]
  refine runMkK (gV := g) hM hF (h6.mono hj) hb (pass_of h7 σ) I1 r (rs.length.trans hl) fun x dx hx hd hne => ?_
  rw [hgv _ _ (rs.length.trans hl)]
  exact spC_of M.at_ ok1 (hgd W1 _ _ rs) h1 hx hd hne
end
section
variable {Γ : Pg} {P : Program} {w : World} {mg : Str → Option Value} {base : Heap} {fn : List DefA} {cks : PySem.W.Frag → List Bool} {k : Nat}
theorem makKC_of {d : DefA} {ps ks ns : List Str} {n c : Nat} {x : Str} {gV : List V → List V} {FF : List D → Store → ResA} (B : Bs fn cks Γ.K mg) (i : Nat) (hg : (Fa.glo x).ok Γ.K = true) (hmk : mkB Γ.K (ga Γ.K x) = true)
    (hI : ∀ fd, FunD Γ.K d.name d.qual d.params d.body d.scope (d.dvs Γ.K) [] (d.at_ Γ.K) fd → FnOk P w Γ.K mg base (L2.CX P w) k (d.at_ Γ.K) fd ps (spC Γ c n ns FF))
    (hbd : ∀ fd, FunD Γ.K d.name d.qual d.params d.body d.scope (d.dvs Γ.K) [] (d.at_ Γ.K) fd → ∃ (gv : List Value → List Value → List Value) (g : List V → List V → List V), KBn Γ.K fd ps 1 ks gv g ∧ ∀ x zs, zs.length = ks.length → g [x] zs = x :: gV zs)
    (hd : fn[i]? = some d := by rfl) (ha : d.at_ Γ.K = ma Γ.K (ga Γ.K x) "__init__" := by rfl) (hc : Γ.cl c = ga Γ.K x := by rfl) (hat : Γ.at_ c = some ns := by rfl) : MakKC Γ P w mg base k x c n ns ks gV FF := by
  obtain ⟨fd, F⟩ := B.def_ d (List.mem_of_getElem? hd)
  obtain ⟨gv, g, b1, b2⟩ := hbd fd F
  have z := hI fd F
  rw [ha] at z
  exact ⟨hat, _, fd, ps, gv, g, by rw [hc]; exact mkB_ok hmk, z, by rw [hc]; exact B.glo hg, b1, b2⟩
/-- without defaults: how such a def binds by names -/
theorem kbind_no {d : DefA} {fd : FuncData} {ps ks : List Str} {j : Nat} {gv : List Value → List Value → List Value} {gV : List V → List V → List V} (F : FunD Γ.K d.name d.qual d.params d.body d.scope (d.dvs Γ.K) [] (d.at_ Γ.K) fd) (hdf : d.dfl = [])
    (hrel : ∀ {vs : List V} {us : List Value} {zs : List V} {ws : List Value}, Vals vs us → Vals zs ws → Vals (gV vs zs) (gv us ws))
    (hbd : ∀ (kV doc pm : Value) (an : Option Addr) (cdv ct : Value) (us ws : List Value), us.length = j → ws.length = ks.length → bindArgs (PySem.W.fnOf d.name d.qual d.params d.body d.scope .none kV doc pm an cdv ct) ⟨us, ks.zip ws⟩ = pure (ps.zip (gv us ws))) :
    KBn Γ.K fd ps j ks gv gV := by
  obtain ⟨oc, od, dV, kV, doc, pm, an, cdv, ct, osl, e, lk, hcd, hD, hK⟩ := F.ex
  have ed : d.dvs Γ.K = [] := by
    unfold DefA.dvs
    rw [hdf]
    rfl
  have eV : dV = .none := by
    rcases hD with ⟨_, z⟩ | ⟨z, _⟩
    · exact z
    · exact absurd ed z
  subst eV
  refine ⟨fun s us ws X l1 l2 => ?_, hrel⟩
  rw [e]
  exact BindsTo.of_eq (hbd kV doc pm an cdv ct us ws l1 l2)
end
end DL
set_option Elab.async false
set_option linter.all false
set_option maxRecDepth 100000
set_option maxHeartbeats 2000000
set_option autoImplicit false
namespace K04
open PySem PySem.Spec PyProof.Rows L2 He DL
def top (i : Nat) : Stmt := PySem.Challenge.pw_rowpicks_k04_polynomials_reckoned.main.body.getD i (.Pass ⟨0, 0, 0, 0⟩)
def clf (K : PySem.W.Frag) : Nat → Addr
  | 0 => ga K "Ratio"
  | 1 => ga K "PickError"
  | 2 => ga K "InvalidNumber"
  | 3 => ga K "ByZero"
  | 4 => ga K "Poly"
  | 5 => ga K "InvalidPoly"
  | _ => 0
def atf : Nat → Option (List Str)
  | 4 => some ["kept"]
  | _ => none
abbrev GG (K : PySem.W.Frag) : Pg := ⟨K, clf K, atf⟩
def sNil : SF := fun es S => .next es S
def cks (K : PySem.W.Frag) : List Bool := [stB K (ga K "Ratio") "down" 0,
  slB K (ga K "Ratio"),
  siB K (ga K "Ratio"),
  prB K (ga K "Ratio") "bottom",
  stB K (ga K "Ratio") "up" 1,
  prB K (ga K "Ratio") "top",
  (Fa.glo "_law_told").ok K,
  clB K (ga K "Poly") ["kept"],
  siB K (ga K "Poly"),
  (Fa.free "isinstance").ok K,
  (Fa.free "bool").ok K,
  isB K (clf K) [0, 4],
  (Fa.free "int").ok K,
  (Fa.glo "is_integer").ok K,
  (Fa.glo "PickError").ok K,
  bsB K (ga K "PickError"),
  (Fa.glo "InvalidNumber").ok K,
  oinB K (ga K "InvalidNumber"),
  eqO (PySem.W.findIn K (.ref (ga K "InvalidNumber")) "value") (some none),
  (Fa.glo "ByZero").ok K,
  oinB K (ga K "ByZero"),
  (Fa.free "abs").ok K,
  (Fa.glo "common_divisor").ok K,
  (Fa.glo "Ratio").ok K,
  mkB K (ga K "Ratio"),
  (Fa.glo "parts").ok K,
  bnB K (ga K "Ratio") .Mult,
  bnB K (ga K "Ratio") .Add,
  (Fa.free "all").ok K,
  (Fa.glo "is_number").ok K,
  (Fa.free "tuple").ok K,
  (Fa.free "list").ok K,
  (Fa.glo "is_list").ok K,
  (Fa.glo "InvalidPoly").ok K,
  oinB K (ga K "InvalidPoly"),
  eqO (PySem.W.findIn K (.ref (ga K "InvalidPoly")) "value") (some none),
  (Fa.glo "as_ratio").ok K,
  eqFB K (ga K "Ratio") [ga K "Ratio", ga K "Poly"],
  (Fa.glo "Poly").ok K,
  mkB K (ga K "Poly"),
  mtB K (ga K "Poly") "worth",
  eqFB K (ga K "Poly") [ga K "Ratio", ga K "Poly"],
  (Fa.free "len").ok K,
  prB K (ga K "Poly") "degree",
  (Fa.free "max").ok K,
  (Fa.free "min").ok K,
  (Fa.free "range").ok K,
  xffB K (clf K) [5] "value",
  mtsB K (clf K) [(1, 5, false), (2, 5, false), (3, 5, false), (5, 5, true)],
  (Fa.glo "_law_caught").ok K,
  (Fa.glo "_law_take").ok K,
  mtB K (ga K "Poly") "numbers",
  (Fa.glo "_law_numbers").ok K,
  (Fa.glo "_law_trim").ok K,
  (Fa.glo "_law_given").ok K,
  (Fa.free "enumerate").ok K,
  mtB K (ga K "Poly") "derivative",
  (Fa.glo "_law_frac").ok K,
  (Fa.glo "_law_times").ok K,
  (Fa.glo "_law_plus").ok K,
  (Fa.glo "_law_at").ok K,
  (Fa.glo "_law_made").ok K,
  (Fa.glo "_law_sum").ok K,
  (Fa.glo "_law_product").ok K,
  spB K (ga K "Ratio") "__neg__",
  spB K (ga K "Poly") "__neg__",
  bnB K (ga K "Poly") .Mult,
  (Fa.free "zip").ok K,
  (Fa.glo "paired").ok K,
  bnB K (ga K "Ratio") .Sub,
  bnB K (ga K "Poly") .Sub,
  bnB K (ga K "Poly") .Add,
  (Fa.glo "_law_pair_right").ok K,
  (Fa.glo "_law_number").ok K,
  (Fa.glo "_law_drawn").ok K,
  (Fa.glo "_law_bag").ok K,
  (Fa.glo "_law_cell").ok K,
  (Fa.glo "law").ok K]
abbrev s_law : Stmt := top 40
def d_law : DefA := ⟨fun K => ga K "law", "law", "law", defArgs s_law, defBody s_law, defScope s_law, []⟩
theorem sc_law : FnScope ["_law_script", "_law_index", "_law_bag_here", "_law_one", "_law_other", "_law_pair", "_law_handed", "_law_x", "_law_built", "_law_told_here", "_law_odd"] ["_law_script"] (defScope s_law) := ⟨rfl, rfl, rfl, by decide +kernel, rfl, by decide +kernel, by decide +kernel⟩
abbrev s__law_told : Stmt := top 28
def d__law_told : DefA := ⟨fun K => ga K "_law_told", "_law_told", "_law_told", defArgs s__law_told, defBody s__law_told, defScope s__law_told, []⟩
theorem sc__law_told : FnScope ["_law_figure"] ["_law_figure"] (defScope s__law_told) := ⟨rfl, rfl, rfl, by decide +kernel, rfl, by decide +kernel, by decide +kernel⟩
abbrev s_Ratio_bottom : Stmt := inClass (top 14) 3
def d_Ratio_bottom : DefA := ⟨fun K => pa K (ga K "Ratio") "bottom", "bottom", "Ratio.bottom", defArgs s_Ratio_bottom, defBody s_Ratio_bottom, defScope s_Ratio_bottom, []⟩
theorem sc_Ratio_bottom : FnScope ["self"] ["self"] (defScope s_Ratio_bottom) := ⟨rfl, rfl, rfl, by decide +kernel, rfl, by decide +kernel, by decide +kernel⟩
abbrev s_Ratio_top : Stmt := inClass (top 14) 2
def d_Ratio_top : DefA := ⟨fun K => pa K (ga K "Ratio") "top", "top", "Ratio.top", defArgs s_Ratio_top, defBody s_Ratio_top, defScope s_Ratio_top, []⟩
theorem sc_Ratio_top : FnScope ["self"] ["self"] (defScope s_Ratio_top) := ⟨rfl, rfl, rfl, by decide +kernel, rfl, by decide +kernel, by decide +kernel⟩
abbrev s_Poly_worth : Stmt := inClass (top 19) 3
def d_Poly_worth : DefA := ⟨fun K => ma K (ga K "Poly") "worth", "worth", "Poly.worth", defArgs s_Poly_worth, defBody s_Poly_worth, defScope s_Poly_worth, []⟩
theorem sc_Poly_worth : FnScope ["self", "number", "found", "coefficient"] ["self", "number"] (defScope s_Poly_worth) := ⟨rfl, rfl, rfl, by decide +kernel, rfl, by decide +kernel, by decide +kernel⟩
abbrev s_Ratiod__muld_ : Stmt := inClass (top 14) 7
def d_Ratiod__muld_ : DefA := ⟨fun K => ma K (ga K "Ratio") "__mul__", "__mul__", "Ratio.__mul__", defArgs s_Ratiod__muld_, defBody s_Ratiod__muld_, defScope s_Ratiod__muld_, []⟩
theorem sc_Ratiod__muld_ : FnScope ["self", "other", "top", "bottom"] ["self", "other"] (defScope s_Ratiod__muld_) := ⟨rfl, rfl, rfl, by decide +kernel, rfl, by decide +kernel, by decide +kernel⟩
abbrev s_Ratiod__initd_ : Stmt := inClass (top 14) 1
def d_Ratiod__initd_ : DefA := ⟨fun K => ma K (ga K "Ratio") "__init__", "__init__", "Ratio.__init__", defArgs s_Ratiod__initd_, defBody s_Ratiod__initd_, defScope s_Ratiod__initd_, [.int 1]⟩
theorem sc_Ratiod__initd_ : FnScope ["self", "top", "bottom", "piece"] ["self", "top", "bottom"] (defScope s_Ratiod__initd_) := ⟨rfl, rfl, rfl, by decide +kernel, rfl, by decide +kernel, by decide +kernel⟩
abbrev s_is_integer : Stmt := top 10
def d_is_integer : DefA := ⟨fun K => ga K "is_integer", "is_integer", "is_integer", defArgs s_is_integer, defBody s_is_integer, defScope s_is_integer, []⟩
theorem sc_is_integer : FnScope ["value"] ["value"] (defScope s_is_integer) := ⟨rfl, rfl, rfl, by decide +kernel, rfl, by decide +kernel, by decide +kernel⟩
abbrev s_InvalidNumberd__initd_ : Stmt := inClass (top 3) 0
def d_InvalidNumberd__initd_ : DefA := ⟨fun K => ma K (ga K "InvalidNumber") "__init__", "__init__", "InvalidNumber.__init__", defArgs s_InvalidNumberd__initd_, defBody s_InvalidNumberd__initd_, defScope s_InvalidNumberd__initd_, []⟩
theorem sc_InvalidNumberd__initd_ : FnScope ["self", "value"] ["self", "value"] (defScope s_InvalidNumberd__initd_) := ⟨rfl, rfl, rfl, by decide +kernel, rfl, by decide +kernel, by decide +kernel⟩
abbrev s_ByZerod__initd_ : Stmt := inClass (top 6) 0
def d_ByZerod__initd_ : DefA := ⟨fun K => ma K (ga K "ByZero") "__init__", "__init__", "ByZero.__init__", defArgs s_ByZerod__initd_, defBody s_ByZerod__initd_, defScope s_ByZerod__initd_, []⟩
theorem sc_ByZerod__initd_ : FnScope ["self"] ["self"] (defScope s_ByZerod__initd_) := ⟨rfl, rfl, rfl, by decide +kernel, rfl, by decide +kernel, by decide +kernel⟩
abbrev s_common_divisor : Stmt := top 11
def d_common_divisor : DefA := ⟨fun K => ga K "common_divisor", "common_divisor", "common_divisor", defArgs s_common_divisor, defBody s_common_divisor, defScope s_common_divisor, []⟩
theorem sc_common_divisor : FnScope ["one", "other"] ["one", "other"] (defScope s_common_divisor) := ⟨rfl, rfl, rfl, by decide +kernel, rfl, by decide +kernel, by decide +kernel⟩
abbrev s_parts : Stmt := top 12
def d_parts : DefA := ⟨fun K => ga K "parts", "parts", "parts", defArgs s_parts, defBody s_parts, defScope s_parts, []⟩
theorem sc_parts : FnScope ["number"] ["number"] (defScope s_parts) := ⟨rfl, rfl, rfl, by decide +kernel, rfl, by decide +kernel, by decide +kernel⟩
abbrev s_Ratiod__addd_ : Stmt := inClass (top 14) 5
def d_Ratiod__addd_ : DefA := ⟨fun K => ma K (ga K "Ratio") "__add__", "__add__", "Ratio.__add__", defArgs s_Ratiod__addd_, defBody s_Ratiod__addd_, defScope s_Ratiod__addd_, []⟩
theorem sc_Ratiod__addd_ : FnScope ["self", "other", "top", "bottom"] ["self", "other"] (defScope s_Ratiod__addd_) := ⟨rfl, rfl, rfl, by decide +kernel, rfl, by decide +kernel, by decide +kernel⟩
abbrev s_Polyd__initd_ : Stmt := inClass (top 19) 0
def d_Polyd__initd_ : DefA := ⟨fun K => ma K (ga K "Poly") "__init__", "__init__", "Poly.__init__", defArgs s_Polyd__initd_, defBody s_Polyd__initd_, defScope s_Polyd__initd_, []⟩
theorem sc_Polyd__initd_ : FnScope ["self", "numbers", "number", "kept"] ["self", "numbers"] (defScope s_Polyd__initd_) := ⟨rfl, rfl, rfl, by decide +kernel, rfl, by decide +kernel, by decide +kernel⟩
abbrev s_is_number : Stmt := top 15
def d_is_number : DefA := ⟨fun K => ga K "is_number", "is_number", "is_number", defArgs s_is_number, defBody s_is_number, defScope s_is_number, []⟩
theorem sc_is_number : FnScope ["value"] ["value"] (defScope s_is_number) := ⟨rfl, rfl, rfl, by decide +kernel, rfl, by decide +kernel, by decide +kernel⟩
abbrev s_is_list : Stmt := top 17
def d_is_list : DefA := ⟨fun K => ga K "is_list", "is_list", "is_list", defArgs s_is_list, defBody s_is_list, defScope s_is_list, []⟩
theorem sc_is_list : FnScope ["value"] ["value"] (defScope s_is_list) := ⟨rfl, rfl, rfl, by decide +kernel, rfl, by decide +kernel, by decide +kernel⟩
abbrev s_InvalidPolyd__initd_ : Stmt := inClass (top 5) 0
def d_InvalidPolyd__initd_ : DefA := ⟨fun K => ma K (ga K "InvalidPoly") "__init__", "__init__", "InvalidPoly.__init__", defArgs s_InvalidPolyd__initd_, defBody s_InvalidPolyd__initd_, defScope s_InvalidPolyd__initd_, []⟩
theorem sc_InvalidPolyd__initd_ : FnScope ["self", "value"] ["self", "value"] (defScope s_InvalidPolyd__initd_) := ⟨rfl, rfl, rfl, by decide +kernel, rfl, by decide +kernel, by decide +kernel⟩
abbrev s_as_ratio : Stmt := top 16
def d_as_ratio : DefA := ⟨fun K => ga K "as_ratio", "as_ratio", "as_ratio", defArgs s_as_ratio, defBody s_as_ratio, defScope s_as_ratio, []⟩
theorem sc_as_ratio : FnScope ["number"] ["number"] (defScope s_as_ratio) := ⟨rfl, rfl, rfl, by decide +kernel, rfl, by decide +kernel, by decide +kernel⟩
abbrev s_Ratiod__eqd_ : Stmt := inClass (top 14) 10
def d_Ratiod__eqd_ : DefA := ⟨fun K => ma K (ga K "Ratio") "__eq__", "__eq__", "Ratio.__eq__", defArgs s_Ratiod__eqd_, defBody s_Ratiod__eqd_, defScope s_Ratiod__eqd_, []⟩
theorem sc_Ratiod__eqd_ : FnScope ["self", "other"] ["self", "other"] (defScope s_Ratiod__eqd_) := ⟨rfl, rfl, rfl, by decide +kernel, rfl, by decide +kernel, by decide +kernel⟩
abbrev s_Polyd__eqd_ : Stmt := inClass (top 19) 4
def d_Polyd__eqd_ : DefA := ⟨fun K => ma K (ga K "Poly") "__eq__", "__eq__", "Poly.__eq__", defArgs s_Polyd__eqd_, defBody s_Polyd__eqd_, defScope s_Polyd__eqd_, []⟩
theorem sc_Polyd__eqd_ : FnScope ["self", "other"] ["self", "other"] (defScope s_Polyd__eqd_) := ⟨rfl, rfl, rfl, by decide +kernel, rfl, by decide +kernel, by decide +kernel⟩
abbrev s_Poly_degree : Stmt := inClass (top 19) 1
def d_Poly_degree : DefA := ⟨fun K => pa K (ga K "Poly") "degree", "degree", "Poly.degree", defArgs s_Poly_degree, defBody s_Poly_degree, defScope s_Poly_degree, []⟩
theorem sc_Poly_degree : FnScope ["self"] ["self"] (defScope s_Poly_degree) := ⟨rfl, rfl, rfl, by decide +kernel, rfl, by decide +kernel, by decide +kernel⟩
abbrev s__law_caught : Stmt := top 39
def d__law_caught : DefA := ⟨fun K => ga K "_law_caught", "_law_caught", "_law_caught", defArgs s__law_caught, defBody s__law_caught, defScope s__law_caught, []⟩
theorem sc__law_caught : FnScope ["_law_thing", "e"] ["_law_thing"] (defScope s__law_caught) := ⟨rfl, rfl, rfl, by decide +kernel, rfl, by decide +kernel, by decide +kernel⟩
abbrev s__law_take : Stmt := top 24
def d__law_take : DefA := ⟨fun K => ga K "_law_take", "_law_take", "_law_take", defArgs s__law_take, defBody s__law_take, defScope s__law_take, []⟩
theorem sc__law_take : FnScope ["_law_bag_here", "_law_many", "_law_digit", "_law_mixed"] ["_law_bag_here", "_law_many"] (defScope s__law_take) := ⟨rfl, rfl, rfl, by decide +kernel, rfl, by decide +kernel, by decide +kernel⟩
abbrev s__law_numbers : Stmt := top 36
def d__law_numbers : DefA := ⟨fun K => ga K "_law_numbers", "_law_numbers", "_law_numbers", defArgs s__law_numbers, defBody s__law_numbers, defScope s__law_numbers, []⟩
theorem sc__law_numbers : FnScope ["_law_poly", "_law_figure"] ["_law_poly"] (defScope s__law_numbers) := ⟨rfl, rfl, rfl, by decide +kernel, rfl, by decide +kernel, by decide +kernel⟩
abbrev s_Poly_numbers : Stmt := inClass (top 19) 2
def d_Poly_numbers : DefA := ⟨fun K => ma K (ga K "Poly") "numbers", "numbers", "Poly.numbers", defArgs s_Poly_numbers, defBody s_Poly_numbers, defScope s_Poly_numbers, []⟩
theorem sc_Poly_numbers : FnScope ["self"] ["self"] (defScope s_Poly_numbers) := ⟨rfl, rfl, rfl, by decide +kernel, rfl, by decide +kernel, by decide +kernel⟩
abbrev s__law_trim : Stmt := top 31
def d__law_trim : DefA := ⟨fun K => ga K "_law_trim", "_law_trim", "_law_trim", defArgs s__law_trim, defBody s__law_trim, defScope s__law_trim, []⟩
theorem sc__law_trim : FnScope ["_law_poly", "_law_found"] ["_law_poly"] (defScope s__law_trim) := ⟨rfl, rfl, rfl, by decide +kernel, rfl, by decide +kernel, by decide +kernel⟩
abbrev s__law_given : Stmt := top 29
def d__law_given : DefA := ⟨fun K => ga K "_law_given", "_law_given", "_law_given", defArgs s__law_given, defBody s__law_given, defScope s__law_given, []⟩
theorem sc__law_given : FnScope ["_law_x"] ["_law_x"] (defScope s__law_given) := ⟨rfl, rfl, rfl, by decide +kernel, rfl, by decide +kernel, by decide +kernel⟩
abbrev s__law_pair_right : Stmt := top 38
def d__law_pair_right : DefA := ⟨fun K => ga K "_law_pair_right", "_law_pair_right", "_law_pair_right", defArgs s__law_pair_right, defBody s__law_pair_right, defScope s__law_pair_right, []⟩
theorem sc__law_pair_right : FnScope ["_law_one", "_law_other", "_law_x", "_law_first", "_law_second", "_law_left", "_law_right", "_law_told_here", "_law_due", "_law_poly", "_law_thing", "_law_slope", "_law_place"] ["_law_one", "_law_other", "_law_x"] (defScope s__law_pair_right) := ⟨rfl, rfl, rfl, by decide +kernel, rfl, by decide +kernel, by decide +kernel⟩
abbrev s_Poly_derivative : Stmt := inClass (top 19) 10
def d_Poly_derivative : DefA := ⟨fun K => ma K (ga K "Poly") "derivative", "derivative", "Poly.derivative", defArgs s_Poly_derivative, defBody s_Poly_derivative, defScope s_Poly_derivative, []⟩
theorem sc_Poly_derivative : FnScope ["self", "place", "number"] ["self"] (defScope s_Poly_derivative) := ⟨rfl, rfl, rfl, by decide +kernel, rfl, by decide +kernel, by decide +kernel⟩
abbrev s__law_times : Stmt := top 27
def d__law_times : DefA := ⟨fun K => ga K "_law_times", "_law_times", "_law_times", defArgs s__law_times, defBody s__law_times, defScope s__law_times, []⟩
theorem sc__law_times : FnScope ["_law_x", "_law_y"] ["_law_x", "_law_y"] (defScope s__law_times) := ⟨rfl, rfl, rfl, by decide +kernel, rfl, by decide +kernel, by decide +kernel⟩
abbrev s__law_frac : Stmt := top 25
def d__law_frac : DefA := ⟨fun K => ga K "_law_frac", "_law_frac", "_law_frac", defArgs s__law_frac, defBody s__law_frac, defScope s__law_frac, []⟩
theorem sc__law_frac : FnScope ["_law_up", "_law_down", "_law_one", "_law_other"] ["_law_up", "_law_down"] (defScope s__law_frac) := ⟨rfl, rfl, rfl, by decide +kernel, rfl, by decide +kernel, by decide +kernel⟩
abbrev s__law_at : Stmt := top 34
def d__law_at : DefA := ⟨fun K => ga K "_law_at", "_law_at", "_law_at", defArgs s__law_at, defBody s__law_at, defScope s__law_at, []⟩
theorem sc__law_at : FnScope ["_law_poly", "_law_x", "_law_found", "_law_figure"] ["_law_poly", "_law_x"] (defScope s__law_at) := ⟨rfl, rfl, rfl, by decide +kernel, rfl, by decide +kernel, by decide +kernel⟩
abbrev s__law_plus : Stmt := top 26
def d__law_plus : DefA := ⟨fun K => ga K "_law_plus", "_law_plus", "_law_plus", defArgs s__law_plus, defBody s__law_plus, defScope s__law_plus, []⟩
theorem sc__law_plus : FnScope ["_law_x", "_law_y"] ["_law_x", "_law_y"] (defScope s__law_plus) := ⟨rfl, rfl, rfl, by decide +kernel, rfl, by decide +kernel, by decide +kernel⟩
abbrev s__law_made : Stmt := top 35
def d__law_made : DefA := ⟨fun K => ga K "_law_made", "_law_made", "_law_made", defArgs s__law_made, defBody s__law_made, defScope s__law_made, []⟩
theorem sc__law_made : FnScope ["_law_poly", "_law_x"] ["_law_poly"] (defScope s__law_made) := ⟨rfl, rfl, rfl, by decide +kernel, rfl, by decide +kernel, by decide +kernel⟩
abbrev s__law_sum : Stmt := top 33
def d__law_sum : DefA := ⟨fun K => ga K "_law_sum", "_law_sum", "_law_sum", defArgs s__law_sum, defBody s__law_sum, defScope s__law_sum, []⟩
theorem sc__law_sum : FnScope ["_law_one", "_law_other", "_law_sign", "_law_found", "_law_place", "_law_x", "_law_y"] ["_law_one", "_law_other", "_law_sign"] (defScope s__law_sum) := ⟨rfl, rfl, rfl, by decide +kernel, rfl, by decide +kernel, by decide +kernel⟩
abbrev s__law_product : Stmt := top 32
def d__law_product : DefA := ⟨fun K => ga K "_law_product", "_law_product", "_law_product", defArgs s__law_product, defBody s__law_product, defScope s__law_product, []⟩
theorem sc__law_product : FnScope ["_law_one", "_law_other", "_law_found", "_law_place", "_law_x", "_law_further", "_law_y"] ["_law_one", "_law_other"] (defScope s__law_product) := ⟨rfl, rfl, rfl, by decide +kernel, rfl, by decide +kernel, by decide +kernel⟩
abbrev s_Polyd__negd_ : Stmt := inClass (top 19) 7
def d_Polyd__negd_ : DefA := ⟨fun K => ma K (ga K "Poly") "__neg__", "__neg__", "Poly.__neg__", defArgs s_Polyd__negd_, defBody s_Polyd__negd_, defScope s_Polyd__negd_, []⟩
theorem sc_Polyd__negd_ : FnScope ["self", "number"] ["self"] (defScope s_Polyd__negd_) := ⟨rfl, rfl, rfl, by decide +kernel, rfl, by decide +kernel, by decide +kernel⟩
abbrev s_Ratiod__negd_ : Stmt := inClass (top 14) 9
def d_Ratiod__negd_ : DefA := ⟨fun K => ma K (ga K "Ratio") "__neg__", "__neg__", "Ratio.__neg__", defArgs s_Ratiod__negd_, defBody s_Ratiod__negd_, defScope s_Ratiod__negd_, []⟩
theorem sc_Ratiod__negd_ : FnScope ["self"] ["self"] (defScope s_Ratiod__negd_) := ⟨rfl, rfl, rfl, by decide +kernel, rfl, by decide +kernel, by decide +kernel⟩
abbrev s_Polyd__muld_ : Stmt := inClass (top 19) 8
def d_Polyd__muld_ : DefA := ⟨fun K => ma K (ga K "Poly") "__mul__", "__mul__", "Poly.__mul__", defArgs s_Polyd__muld_, defBody s_Polyd__muld_, defScope s_Polyd__muld_, []⟩
theorem sc_Polyd__muld_ : FnScope ["self", "other", "found", "place", "one", "further", "two"] ["self", "other"] (defScope s_Polyd__muld_) := ⟨rfl, rfl, rfl, by decide +kernel, rfl, by decide +kernel, by decide +kernel⟩
abbrev s_Polyd__subd_ : Stmt := inClass (top 19) 6
def d_Polyd__subd_ : DefA := ⟨fun K => ma K (ga K "Poly") "__sub__", "__sub__", "Poly.__sub__", defArgs s_Polyd__subd_, defBody s_Polyd__subd_, defScope s_Polyd__subd_, []⟩
theorem sc_Polyd__subd_ : FnScope ["self", "other", "one", "two"] ["self", "other"] (defScope s_Polyd__subd_) := ⟨rfl, rfl, rfl, by decide +kernel, rfl, by decide +kernel, by decide +kernel⟩
abbrev s_paired : Stmt := top 20
def d_paired : DefA := ⟨fun K => ga K "paired", "paired", "paired", defArgs s_paired, defBody s_paired, defScope s_paired, []⟩
theorem sc_paired : FnScope ["one", "other", "many", "longer", "place", "numbers"] ["one", "other"] (defScope s_paired) := ⟨rfl, rfl, rfl, by decide +kernel, rfl, by decide +kernel, by decide +kernel⟩
abbrev s_Ratiod__subd_ : Stmt := inClass (top 14) 6
def d_Ratiod__subd_ : DefA := ⟨fun K => ma K (ga K "Ratio") "__sub__", "__sub__", "Ratio.__sub__", defArgs s_Ratiod__subd_, defBody s_Ratiod__subd_, defScope s_Ratiod__subd_, []⟩
theorem sc_Ratiod__subd_ : FnScope ["self", "other", "top", "bottom"] ["self", "other"] (defScope s_Ratiod__subd_) := ⟨rfl, rfl, rfl, by decide +kernel, rfl, by decide +kernel, by decide +kernel⟩
abbrev s_Polyd__addd_ : Stmt := inClass (top 19) 5
def d_Polyd__addd_ : DefA := ⟨fun K => ma K (ga K "Poly") "__add__", "__add__", "Poly.__add__", defArgs s_Polyd__addd_, defBody s_Polyd__addd_, defScope s_Polyd__addd_, []⟩
theorem sc_Polyd__addd_ : FnScope ["self", "other", "one", "two"] ["self", "other"] (defScope s_Polyd__addd_) := ⟨rfl, rfl, rfl, by decide +kernel, rfl, by decide +kernel, by decide +kernel⟩
abbrev s__law_number : Stmt := top 30
def d__law_number : DefA := ⟨fun K => ga K "_law_number", "_law_number", "_law_number", defArgs s__law_number, defBody s__law_number, defScope s__law_number, []⟩
theorem sc__law_number : FnScope ["_law_bag_here", "_law_way", "_law_great"] ["_law_bag_here"] (defScope s__law_number) := ⟨rfl, rfl, rfl, by decide +kernel, rfl, by decide +kernel, by decide +kernel⟩
abbrev s__law_drawn : Stmt := top 37
def d__law_drawn : DefA := ⟨fun K => ga K "_law_drawn", "_law_drawn", "_law_drawn", defArgs s__law_drawn, defBody s__law_drawn, defScope s__law_drawn, []⟩
theorem sc__law_drawn : FnScope ["_law_bag_here", "_law_found", "_law_lap"] ["_law_bag_here"] (defScope s__law_drawn) := ⟨rfl, rfl, rfl, by decide +kernel, rfl, by decide +kernel, by decide +kernel⟩
abbrev s__law_bag : Stmt := top 23
def d__law_bag : DefA := ⟨fun K => ga K "_law_bag", "_law_bag", "_law_bag", defArgs s__law_bag, defBody s__law_bag, defScope s__law_bag, []⟩
theorem sc__law_bag : FnScope ["_law_cell_here"] ["_law_cell_here"] (defScope s__law_bag) := ⟨rfl, rfl, rfl, by decide +kernel, rfl, by decide +kernel, by decide +kernel⟩
abbrev s__law_cell : Stmt := top 22
def d__law_cell : DefA := ⟨fun K => ga K "_law_cell", "_law_cell", "_law_cell", defArgs s__law_cell, defBody s__law_cell, defScope s__law_cell, []⟩
theorem sc__law_cell : FnScope ["_law_script", "_law_index"] ["_law_script", "_law_index"] (defScope s__law_cell) := ⟨rfl, rfl, rfl, by decide +kernel, rfl, by decide +kernel, by decide +kernel⟩
def fns : List DefA := [d_law, d__law_told, d_Ratio_bottom, d_Ratio_top, d_Poly_worth, d_Ratiod__muld_, d_Ratiod__initd_, d_is_integer, d_InvalidNumberd__initd_, d_ByZerod__initd_, d_common_divisor, d_parts, d_Ratiod__addd_, d_Polyd__initd_, d_is_number, d_is_list, d_InvalidPolyd__initd_, d_as_ratio, d_Ratiod__eqd_, d_Polyd__eqd_, d_Poly_degree, d__law_caught, d__law_take, d__law_numbers, d_Poly_numbers, d__law_trim, d__law_given, d__law_pair_right, d_Poly_derivative, d__law_times, d__law_frac, d__law_at, d__law_plus, d__law_made, d__law_sum, d__law_product, d_Polyd__negd_, d_Ratiod__negd_, d_Polyd__muld_, d_Polyd__subd_, d_paired, d_Ratiod__subd_, d_Polyd__addd_, d__law_number, d__law_drawn, d__law_bag, d__law_cell]
abbrev BB (K : PySem.W.Frag) (mg : Str → Option Value) : Prop := Bs fns cks K mg
section
variable {P : Program} {w : World} {K : PySem.W.Frag} {mg : Str → Option Value} {base : Heap}
theorem k0 (B : BB K mg) : stB K (ga K "Ratio") "down" 0 = true := B.ck 0
theorem k1 (B : BB K mg) : slB K (ga K "Ratio") = true := B.ck 1
theorem k2 (B : BB K mg) : siB K (ga K "Ratio") = true := B.ck 2
theorem k3 (B : BB K mg) : prB K (ga K "Ratio") "bottom" = true := B.ck 3
theorem k4 (B : BB K mg) : stB K (ga K "Ratio") "up" 1 = true := B.ck 4
theorem k5 (B : BB K mg) : prB K (ga K "Ratio") "top" = true := B.ck 5
theorem k6 (B : BB K mg) : (Fa.glo "_law_told").ok K = true := B.ck 6
theorem k7 (B : BB K mg) : clB K (ga K "Poly") ["kept"] = true := B.ck 7
theorem k8 (B : BB K mg) : siB K (ga K "Poly") = true := B.ck 8
theorem k9 (B : BB K mg) : (Fa.free "isinstance").ok K = true := B.ck 9
theorem k10 (B : BB K mg) : (Fa.free "bool").ok K = true := B.ck 10
theorem k11 (B : BB K mg) : isB K (clf K) [0, 4] = true := B.ck 11
theorem k12 (B : BB K mg) : (Fa.free "int").ok K = true := B.ck 12
theorem k13 (B : BB K mg) : (Fa.glo "is_integer").ok K = true := B.ck 13
theorem k14 (B : BB K mg) : (Fa.glo "PickError").ok K = true := B.ck 14
theorem k15 (B : BB K mg) : bsB K (ga K "PickError") = true := B.ck 15
theorem k16 (B : BB K mg) : (Fa.glo "InvalidNumber").ok K = true := B.ck 16
theorem k17 (B : BB K mg) : oinB K (ga K "InvalidNumber") = true := B.ck 17
theorem k18 (B : BB K mg) : eqO (PySem.W.findIn K (.ref (ga K "InvalidNumber")) "value") (some none) = true := B.ck 18
theorem k19 (B : BB K mg) : (Fa.glo "ByZero").ok K = true := B.ck 19
theorem k20 (B : BB K mg) : oinB K (ga K "ByZero") = true := B.ck 20
theorem k21 (B : BB K mg) : (Fa.free "abs").ok K = true := B.ck 21
theorem k22 (B : BB K mg) : (Fa.glo "common_divisor").ok K = true := B.ck 22
theorem k23 (B : BB K mg) : (Fa.glo "Ratio").ok K = true := B.ck 23
theorem k24 (B : BB K mg) : mkB K (ga K "Ratio") = true := B.ck 24
theorem k25 (B : BB K mg) : (Fa.glo "parts").ok K = true := B.ck 25
theorem k26 (B : BB K mg) : bnB K (ga K "Ratio") .Mult = true := B.ck 26
theorem k27 (B : BB K mg) : bnB K (ga K "Ratio") .Add = true := B.ck 27
theorem k28 (B : BB K mg) : (Fa.free "all").ok K = true := B.ck 28
theorem k29 (B : BB K mg) : (Fa.glo "is_number").ok K = true := B.ck 29
theorem k30 (B : BB K mg) : (Fa.free "tuple").ok K = true := B.ck 30
theorem k31 (B : BB K mg) : (Fa.free "list").ok K = true := B.ck 31
theorem k32 (B : BB K mg) : (Fa.glo "is_list").ok K = true := B.ck 32
theorem k33 (B : BB K mg) : (Fa.glo "InvalidPoly").ok K = true := B.ck 33
theorem k34 (B : BB K mg) : oinB K (ga K "InvalidPoly") = true := B.ck 34
theorem k35 (B : BB K mg) : eqO (PySem.W.findIn K (.ref (ga K "InvalidPoly")) "value") (some none) = true := B.ck 35
theorem k36 (B : BB K mg) : (Fa.glo "as_ratio").ok K = true := B.ck 36
theorem k37 (B : BB K mg) : eqFB K (ga K "Ratio") [ga K "Ratio", ga K "Poly"] = true := B.ck 37
theorem k38 (B : BB K mg) : (Fa.glo "Poly").ok K = true := B.ck 38
theorem k39 (B : BB K mg) : mkB K (ga K "Poly") = true := B.ck 39
theorem k40 (B : BB K mg) : mtB K (ga K "Poly") "worth" = true := B.ck 40
theorem k41 (B : BB K mg) : eqFB K (ga K "Poly") [ga K "Ratio", ga K "Poly"] = true := B.ck 41
theorem k42 (B : BB K mg) : (Fa.free "len").ok K = true := B.ck 42
theorem k43 (B : BB K mg) : prB K (ga K "Poly") "degree" = true := B.ck 43
theorem k44 (B : BB K mg) : (Fa.free "max").ok K = true := B.ck 44
theorem k45 (B : BB K mg) : (Fa.free "min").ok K = true := B.ck 45
theorem k46 (B : BB K mg) : (Fa.free "range").ok K = true := B.ck 46
theorem k47 (B : BB K mg) : xffB K (clf K) [5] "value" = true := B.ck 47
theorem k48 (B : BB K mg) : mtsB K (clf K) [(1, 5, false), (2, 5, false), (3, 5, false), (5, 5, true)] = true := B.ck 48
theorem k49 (B : BB K mg) : (Fa.glo "_law_caught").ok K = true := B.ck 49
theorem k50 (B : BB K mg) : (Fa.glo "_law_take").ok K = true := B.ck 50
theorem k51 (B : BB K mg) : mtB K (ga K "Poly") "numbers" = true := B.ck 51
theorem k52 (B : BB K mg) : (Fa.glo "_law_numbers").ok K = true := B.ck 52
theorem k53 (B : BB K mg) : (Fa.glo "_law_trim").ok K = true := B.ck 53
theorem k54 (B : BB K mg) : (Fa.glo "_law_given").ok K = true := B.ck 54
theorem k55 (B : BB K mg) : (Fa.free "enumerate").ok K = true := B.ck 55
theorem k56 (B : BB K mg) : mtB K (ga K "Poly") "derivative" = true := B.ck 56
theorem k57 (B : BB K mg) : (Fa.glo "_law_frac").ok K = true := B.ck 57
theorem k58 (B : BB K mg) : (Fa.glo "_law_times").ok K = true := B.ck 58
theorem k59 (B : BB K mg) : (Fa.glo "_law_plus").ok K = true := B.ck 59
theorem k60 (B : BB K mg) : (Fa.glo "_law_at").ok K = true := B.ck 60
theorem k61 (B : BB K mg) : (Fa.glo "_law_made").ok K = true := B.ck 61
theorem k62 (B : BB K mg) : (Fa.glo "_law_sum").ok K = true := B.ck 62
theorem k63 (B : BB K mg) : (Fa.glo "_law_product").ok K = true := B.ck 63
theorem k64 (B : BB K mg) : spB K (ga K "Ratio") "__neg__" = true := B.ck 64
theorem k65 (B : BB K mg) : spB K (ga K "Poly") "__neg__" = true := B.ck 65
theorem k66 (B : BB K mg) : bnB K (ga K "Poly") .Mult = true := B.ck 66
theorem k67 (B : BB K mg) : (Fa.free "zip").ok K = true := B.ck 67
theorem k68 (B : BB K mg) : (Fa.glo "paired").ok K = true := B.ck 68
theorem k69 (B : BB K mg) : bnB K (ga K "Ratio") .Sub = true := B.ck 69
theorem k70 (B : BB K mg) : bnB K (ga K "Poly") .Sub = true := B.ck 70
theorem k71 (B : BB K mg) : bnB K (ga K "Poly") .Add = true := B.ck 71
theorem k72 (B : BB K mg) : (Fa.glo "_law_pair_right").ok K = true := B.ck 72
theorem k73 (B : BB K mg) : (Fa.glo "_law_number").ok K = true := B.ck 73
theorem k74 (B : BB K mg) : (Fa.glo "_law_drawn").ok K = true := B.ck 74
theorem k75 (B : BB K mg) : (Fa.glo "_law_bag").ok K = true := B.ck 75
theorem k76 (B : BB K mg) : (Fa.glo "_law_cell").ok K = true := B.ck 76
theorem k77 (B : BB K mg) : (Fa.glo "law").ok K = true := B.ck 77
theorem st0_down (B : BB K mg) : SlotF (GG K) 0 "down" 0 := ⟨_, stB_ok (k0 B)⟩
theorem sl0 (B : BB K mg) : SlF (GG K) 0 := ⟨rfl, slB_ok (k1 B), siB_ok (k2 B)⟩
theorem st0_up (B : BB K mg) : SlotF (GG K) 0 "up" 1 := ⟨_, stB_ok (k4 B)⟩
theorem cl4 (B : BB K mg) : ClF (GG K) 4 ["kept"] := ⟨rfl, (clB_ok (k7 B)).1, siB_ok (k8 B), by decide +kernel, (clB_ok (k7 B)).2⟩
theorem isf (B : BB K mg) : IsF (GG K) [0, 4] := isB_ok (k11 B) (fun k hk => by
  simp only [List.mem_cons, List.not_mem_nil, or_false] at hk
  rcases hk with rfl | rfl
  · exact (.sl (sl0 B))
  · exact (.cl _ (cl4 B)))
theorem eqf0 (B : BB K mg) : EqF (GG K) [0, 4] 0 (ma K (ga K "Ratio") "__eq__") := eqFB_ok (Γ := GG K) (cs := [0, 4]) (k := 0) (k37 B)
theorem eqf4 (B : BB K mg) : EqF (GG K) [0, 4] 4 (ma K (ga K "Poly") "__eq__") := eqFB_ok (Γ := GG K) (cs := [0, 4]) (k := 4) (k41 B)
noncomputable def b_Ratio_bottom : SF := (sRet (eOp1 (gSlot 0 0) (eVar 0)))
noncomputable def D_Ratio_bottom : List D → Store → Res := fnD 1 b_Ratio_bottom
theorem p_Ratio_bottom (B : BB K mg) {ξ : Xx} (cdv : Value) (A : Around) (outer : List Env) (s : Shared) (H : Hp) (Ex : XK) (hr : Room 0 (A.deeper (envOfC d_Ratio_bottom.qual d_Ratio_bottom.scope s.heap.objs.size (d_Ratio_bottom.at_ (GG K).K) cdv))) :
    PSs (cxOf (L2.CX P w) P w (GG K).K mg base ["self"] d_Ratio_bottom.qual d_Ratio_bottom.scope (d_Ratio_bottom.at_ (GG K).K) cdv A outer s H Ex) d_Ratio_bottom.body (dS (GG K) ξ b_Ratio_bottom (fun c d' _ H => Ex c d' H)) := by
  have hh : Here (GG K) P w mg base 0 (cxOf (L2.CX P w) P w (GG K).K mg base ["self"] d_Ratio_bottom.qual d_Ratio_bottom.scope (d_Ratio_bottom.at_ (GG K).K) cdv A outer s H Ex) (fun c d' _ H => Ex c d' H) := here_of hr
  exact (dss_one (ds_ret (de_slot hh.K (sl0 B) (st0_down B) (de_var 0))))
theorem c_Ratio_bottom (B : BB K mg) : CalR (GG K) P w mg base 1 (pa K (ga K "Ratio") "bottom") 1 D_Ratio_bottom := calR_of (Γ := GG K) (k := 0) (d := d_Ratio_bottom) (ξ := ⟨0, .none, none⟩) (body := b_Ratio_bottom) B 2 sc_Ratio_bottom (p_Ratio_bottom B) (fun _ _ _ _ _ _ us hl => match us, hl with | [_], _ => rfl)
noncomputable def b_Ratio_top : SF := (sRet (eOp1 (gSlot 0 1) (eVar 0)))
noncomputable def D_Ratio_top : List D → Store → Res := fnD 1 b_Ratio_top
theorem p_Ratio_top (B : BB K mg) {ξ : Xx} (cdv : Value) (A : Around) (outer : List Env) (s : Shared) (H : Hp) (Ex : XK) (hr : Room 0 (A.deeper (envOfC d_Ratio_top.qual d_Ratio_top.scope s.heap.objs.size (d_Ratio_top.at_ (GG K).K) cdv))) :
    PSs (cxOf (L2.CX P w) P w (GG K).K mg base ["self"] d_Ratio_top.qual d_Ratio_top.scope (d_Ratio_top.at_ (GG K).K) cdv A outer s H Ex) d_Ratio_top.body (dS (GG K) ξ b_Ratio_top (fun c d' _ H => Ex c d' H)) := by
  have hh : Here (GG K) P w mg base 0 (cxOf (L2.CX P w) P w (GG K).K mg base ["self"] d_Ratio_top.qual d_Ratio_top.scope (d_Ratio_top.at_ (GG K).K) cdv A outer s H Ex) (fun c d' _ H => Ex c d' H) := here_of hr
  exact (dss_one (ds_ret (de_slot hh.K (sl0 B) (st0_up B) (de_var 0))))
theorem c_Ratio_top (B : BB K mg) : CalR (GG K) P w mg base 1 (pa K (ga K "Ratio") "top") 1 D_Ratio_top := calR_of (Γ := GG K) (k := 0) (d := d_Ratio_top) (ξ := ⟨0, .none, none⟩) (body := b_Ratio_top) B 3 sc_Ratio_top (p_Ratio_top B) (fun _ _ _ _ _ _ us hl => match us, hl with | [_], _ => rfl)
noncomputable def b__law_told : SF := (sRet (eTup (aCons (eOp1 (gProp 0 D_Ratio_top) (eVar 0)) (aCons (eOp1 (gProp 0 D_Ratio_bottom) (eVar 0)) aNil))))
noncomputable def D__law_told : List D → Store → Res := fnD 1 b__law_told
theorem p__law_told (B : BB K mg) {ξ : Xx} (cdv : Value) (A : Around) (outer : List Env) (s : Shared) (H : Hp) (Ex : XK) (hr : Room 2 (A.deeper (envOfC d__law_told.qual d__law_told.scope s.heap.objs.size (d__law_told.at_ (GG K).K) cdv))) :
    PSs (cxOf (L2.CX P w) P w (GG K).K mg base ["_law_figure"] d__law_told.qual d__law_told.scope (d__law_told.at_ (GG K).K) cdv A outer s H Ex) d__law_told.body (dS (GG K) ξ b__law_told (fun c d' _ H => Ex c d' H)) := by
  have hh : Here (GG K) P w mg base 2 (cxOf (L2.CX P w) P w (GG K).K mg base ["_law_figure"] d__law_told.qual d__law_told.scope (d__law_told.at_ (GG K).K) cdv A outer s H Ex) (fun c d' _ H => Ex c d' H) := here_of hr
  exact (dss_one (ds_ret (de_tup (da_cons (de_prop hh (sl0 B) (prB_ok (Γ := GG K) (k5 B)) (c_Ratio_top B) (de_var 0)) (da_cons (de_prop hh (sl0 B) (prB_ok (Γ := GG K) (k3 B)) (c_Ratio_bottom B) (de_var 0)) da_nil)))))
theorem c__law_told (B : BB K mg) : Cal (GG K) P w mg base 3 "_law_told" 1 D__law_told := cal_of (Γ := GG K) (k := 2) (d := d__law_told) (ξ := ⟨0, .none, none⟩) (body := b__law_told) B 1 sc__law_told (k6 B) (p__law_told B) (fun _ _ _ _ _ _ us hl => match us, hl with | [_], _ => rfl)
noncomputable def b_is_integer : SF := (sRet (eAnd (eOp2 (gIsi [0, 4]) (eVar 0) (eC (.ty "int"))) (eNot (eOp2 (gIsi [0, 4]) (eVar 0) (eC (.ty "bool"))))))
noncomputable def D_is_integer : List D → Store → Res := fnD 1 b_is_integer
theorem p_is_integer (B : BB K mg) {ξ : Xx} (cdv : Value) (A : Around) (outer : List Env) (s : Shared) (H : Hp) (Ex : XK) (hr : Room 0 (A.deeper (envOfC d_is_integer.qual d_is_integer.scope s.heap.objs.size (d_is_integer.at_ (GG K).K) cdv))) :
    PSs (cxOf (L2.CX P w) P w (GG K).K mg base ["value"] d_is_integer.qual d_is_integer.scope (d_is_integer.at_ (GG K).K) cdv A outer s H Ex) d_is_integer.body (dS (GG K) ξ b_is_integer (fun c d' _ H => Ex c d' H)) := by
  have hh : Here (GG K) P w mg base 0 (cxOf (L2.CX P w) P w (GG K).K mg base ["value"] d_is_integer.qual d_is_integer.scope (d_is_integer.at_ (GG K).K) cdv A outer s H Ex) (fun c d' _ H => Ex c d' H) := here_of hr
  exact (dss_one (ds_ret (de_and (de_b2 (cr_isi hh.K (isf B)) (B.free (k9 B)) (by decide +kernel) (de_var 0) (de_ty (B.free (k12 B)) (by decide +kernel))) (de_one (de_not (de_b2 (cr_isi hh.K (isf B)) (B.free (k9 B)) (by decide +kernel) (de_var 0) (de_ty (B.free (k10 B)) (by decide +kernel))))))))
theorem c_is_integer (B : BB K mg) : Cal (GG K) P w mg base 1 "is_integer" 1 D_is_integer := cal_of (Γ := GG K) (k := 0) (d := d_is_integer) (ξ := ⟨0, .none, none⟩) (body := b_is_integer) B 7 sc_is_integer (k13 B) (p_is_integer B) (fun _ _ _ _ _ _ us hl => match us, hl with | [_], _ => rfl)
theorem c_InvalidNumberd__initd_ (B : BB K mg) : ExF (GG K) P w mg base 1 "InvalidNumber" 2 "value" := exf_of (d := d_InvalidNumberd__initd_) (t := "a value is not a number that is asked for here") B 8 sc_InvalidNumberd__initd_ (k16 B) (k17 B) (k18 B) (fun _ _ _ _ _ _ => pss_cons (ps_expr (pe_binit (bsB_ok (B.glo (k14 B)) (k15 B)) (pa_cons (pv 0) (pa_cons pe_str pa_nil)))) (pss_one (ps_ost (pv 0) (pv 1)))) (fun _ _ _ _ _ _ us hl => match us, hl with | [_, _], _ => rfl)
theorem c_ByZerod__initd_ (B : BB K mg) : ExF0 (GG K) P w mg base 1 "ByZero" 3 := exf0_of (d := d_ByZerod__initd_) (t := "a number is divided by 0") B 9 sc_ByZerod__initd_ (k19 B) (k20 B) (fun _ _ _ _ _ _ => pss_one (ps_expr (pe_binit (bsB_ok (B.glo (k14 B)) (k15 B)) (pa_cons (pv 0) (pa_cons pe_str pa_nil))))) (fun _ _ _ _ _ _ us hl => match us, hl with | [_], _ => rfl)
noncomputable def b_common_divisor : SF := (sSeq (sWhile (eOp2 gNe (eVar 1) (eC (.int 0))) (sPar 0 1 (aCons (eVar 1) (aCons (eOp2 iModN (eVar 0) (eVar 1)) aNil))))
    (sRet (eOp1 gAbs (eVar 0))))
noncomputable def D_common_divisor : List D → Store → Res := fnD 2 b_common_divisor
theorem p_common_divisor (B : BB K mg) {ξ : Xx} (cdv : Value) (A : Around) (outer : List Env) (s : Shared) (H : Hp) (Ex : XK) (hr : Room 0 (A.deeper (envOfC d_common_divisor.qual d_common_divisor.scope s.heap.objs.size (d_common_divisor.at_ (GG K).K) cdv))) :
    PSs (cxOf (L2.CX P w) P w (GG K).K mg base ["one", "other"] d_common_divisor.qual d_common_divisor.scope (d_common_divisor.at_ (GG K).K) cdv A outer s H Ex) d_common_divisor.body (dS (GG K) ξ b_common_divisor (fun c d' _ H => Ex c d' H)) := by
  have hh : Here (GG K) P w mg base 0 (cxOf (L2.CX P w) P w (GG K).K mg base ["one", "other"] d_common_divisor.qual d_common_divisor.scope (d_common_divisor.at_ (GG K).K) cdv A outer s H Ex) (fun c d' _ H => Ex c d' H) := here_of hr
  exact (dss_cons (ds_while (passes_of rfl) (dt_cmp (op_gNe hh.K hh.u64) (de_var 1) de_int) (dss_one (ds_par rfl sc_common_divisor.nd (da_cons (de_var 1) (da_cons (de_op op_iModN (de_var 0) (de_var 1)) da_nil)))))
    (dss_one (ds_ret (de_b1 (cr_abs) (B.free (k21 B)) (by decide +kernel) (dv_of (de_var 0))))))
theorem c_common_divisor (B : BB K mg) : Cal (GG K) P w mg base 1 "common_divisor" 2 D_common_divisor := cal_of (Γ := GG K) (k := 0) (d := d_common_divisor) (ξ := ⟨0, .none, none⟩) (body := b_common_divisor) B 10 sc_common_divisor (k22 B) (p_common_divisor B) (fun _ _ _ _ _ _ us hl => match us, hl with | [_, _], _ => rfl)
noncomputable def b_Ratiod__initd_ : SF := (sSeq (sIf (eNot (eCall 1 D_is_integer (aCons (eVar 1) aNil))) (sRaise 2 "value" (eVar 1)) sNil)
    (sSeq (sIf (eNot (eCall 1 D_is_integer (aCons (eVar 2) aNil))) (sRaise 2 "value" (eVar 2)) sNil)
    (sSeq (sIf (eOp2 gEq (eVar 2) (eC (.int 0))) (sRaise0 3) sNil)
    (sSeq (sAsg (tgN 3) (eIf (eOp2 iGt (eVar 2) (eC (.int 0))) (eCall 2 D_common_divisor (aCons (eVar 1) (aCons (eVar 2) aNil))) (eOp1 iNeg (eCall 2 D_common_divisor (aCons (eVar 1) (aCons (eVar 2) aNil))))))
    sPass))))
noncomputable def I_Ratiod__initd_ : List D → Store → ResA := initD true 4 b_Ratiod__initd_ (eOp2 iDivN (eVar 1) (eVar 3)) (eOp2 iDivN (eVar 2) (eVar 3))
theorem i_Ratiod__initd_ (B : BB K mg) {fd : FuncData} (F : FunD (GG K).K d_Ratiod__initd_.name d_Ratiod__initd_.qual d_Ratiod__initd_.params d_Ratiod__initd_.body d_Ratiod__initd_.scope (d_Ratiod__initd_.dvs (GG K).K) [] (d_Ratiod__initd_.at_ (GG K).K) fd) : FnOk P w (GG K).K mg base (L2.CX P w) 3 (d_Ratiod__initd_.at_ (GG K).K) fd ["self", "top", "bottom"] (spI (GG K) 0 2 I_Ratiod__initd_) := init_of (sw := true) (Γ := GG K) (k := 2) (d := d_Ratiod__initd_) (body := b_Ratiod__initd_) F sc_Ratiod__initd_ rfl rfl (sl0 B) (st0_up B) (st0_down B) fun ξ cdv A outer s H Ex hr => by
  have hh : Here (GG K) P w mg base 2 (cxOf (L2.CX P w) P w (GG K).K mg base ["self", "top", "bottom", "piece"] d_Ratiod__initd_.qual d_Ratiod__initd_.scope (d_Ratiod__initd_.at_ (GG K).K) cdv A outer s H Ex) (fun c d' _ H => Ex c d' H) := here_of hr
  exact (di_cons (ds_if (dt_not (dt_val (de_call hh (c_is_integer B) (da_cons (de_var 1) da_nil)))) (dss_one (ds_raise hh (c_InvalidNumberd__initd_ B) rfl (de_var 1))) dss_nil)
    (di_cons (ds_if (dt_not (dt_val (de_call hh (c_is_integer B) (da_cons (de_var 2) da_nil)))) (dss_one (ds_raise hh (c_InvalidNumberd__initd_ B) rfl (de_var 2))) dss_nil)
    (di_cons (ds_if (dt_cmp (op_gEq hh.K hh.u64) (de_var 2) de_int) (dss_one (ds_raise0 hh (c_ByZerod__initd_ B) rfl)) dss_nil)
    (di_cons (ds_set sc_Ratiod__initd_.nd (de_if (dt_cmp op_iGt (de_var 2) de_int) (de_call hh (c_common_divisor B) (da_cons (de_var 1) (da_cons (de_var 2) da_nil))) (de_un un_iNeg (de_call hh (c_common_divisor B) (da_cons (de_var 1) (da_cons (de_var 2) da_nil))))))
    (di_tail (pss_cons (SlX.ps_sl (pv 0) (de_op op_iDivN (de_var 1) (de_var 3))) (pss_one (SlX.ps_sl (pv 0) (de_op op_iDivN (de_var 2) (de_var 3))))))))))
theorem mk_Ratiod__initd__2 (B : BB K mg) : Mak (GG K) P w mg base 3 "Ratio" 0 2 [] I_Ratiod__initd_ := mak_of (ps := ["self", "top", "bottom"]) (d := d_Ratiod__initd_) B 6 (k23 B) (k24 B) (fun fd F => i_Ratiod__initd_ B F) (fun fd F => binds_dfl F 3 1 (by intro h; cases h) rfl (fun W => by show Reps (GG K) W [] _; exact Reps.nil) (fun _ _ _ _ _ _ _ us its hu hi => match us, its, hu, hi with | [_, _, _], [_], _, _ => ⟨_, rfl, rfl⟩))
theorem mk_Ratiod__initd__1 (B : BB K mg) : Mak (GG K) P w mg base 3 "Ratio" 0 2 [.int 1] I_Ratiod__initd_ := mak_of (ps := ["self", "top", "bottom"]) (d := d_Ratiod__initd_) B 6 (k23 B) (k24 B) (fun fd F => i_Ratiod__initd_ B F) (fun fd F => binds_dfl F 2 0 (by intro h; cases h) rfl (fun W => by show Reps (GG K) W [.int 1] _; exact Reps.cons (by simp only [Rep]; rfl) (Reps.nil)) (fun _ _ _ _ _ _ _ us its hu hi => match us, its, hu, hi with | [_, _], [_], _, _ => ⟨_, rfl, rfl⟩))
noncomputable def b_parts : SF := (sSeq (sIf (eOp2 (gIsi [0, 4]) (eVar 0) (eC (.cls 0))) (sRet (eTup (aCons (eOp1 (gProp 0 D_Ratio_top) (eVar 0)) (aCons (eOp1 (gProp 0 D_Ratio_bottom) (eVar 0)) aNil)))) sNil)
    (sRet (eTup (aCons (eVar 0) (aCons (eC (.int 1)) aNil)))))
noncomputable def D_parts : List D → Store → Res := fnD 1 b_parts
theorem p_parts (B : BB K mg) {ξ : Xx} (cdv : Value) (A : Around) (outer : List Env) (s : Shared) (H : Hp) (Ex : XK) (hr : Room 2 (A.deeper (envOfC d_parts.qual d_parts.scope s.heap.objs.size (d_parts.at_ (GG K).K) cdv))) :
    PSs (cxOf (L2.CX P w) P w (GG K).K mg base ["number"] d_parts.qual d_parts.scope (d_parts.at_ (GG K).K) cdv A outer s H Ex) d_parts.body (dS (GG K) ξ b_parts (fun c d' _ H => Ex c d' H)) := by
  have hh : Here (GG K) P w mg base 2 (cxOf (L2.CX P w) P w (GG K).K mg base ["number"] d_parts.qual d_parts.scope (d_parts.at_ (GG K).K) cdv A outer s H Ex) (fun c d' _ H => Ex c d' H) := here_of hr
  exact (dss_cons (ds_if (dt_val (de_b2 (cr_isi hh.K (isf B)) (B.free (k9 B)) (by decide +kernel) (de_var 0) (de_glob hh.mg (B.cls (k23 B) rfl)))) (dss_one (ds_ret (de_tup (da_cons (de_prop hh (sl0 B) (prB_ok (Γ := GG K) (k5 B)) (c_Ratio_top B) (de_var 0)) (da_cons (de_prop hh (sl0 B) (prB_ok (Γ := GG K) (k3 B)) (c_Ratio_bottom B) (de_var 0)) da_nil))))) dss_nil)
    (dss_one (ds_ret (de_tup (da_cons (de_var 0) (da_cons de_int da_nil))))))
theorem c_parts (B : BB K mg) : Cal (GG K) P w mg base 3 "parts" 1 D_parts := cal_of (Γ := GG K) (k := 2) (d := d_parts) (ξ := ⟨0, .none, none⟩) (body := b_parts) B 11 sc_parts (k25 B) (p_parts B) (fun _ _ _ _ _ _ us hl => match us, hl with | [_], _ => rfl)
noncomputable def b_Ratiod__muld_ : SF := (sSeq (sAsg (tgT 2 (tsCons (tgN 2) (tsCons (tgN 3) tsNil))) (eCall 1 D_parts (aCons (eVar 1) aNil)))
    (sRet (eNew 0 2 [] I_Ratiod__initd_ (aCons (eOp2 iMul (eOp1 (gSlot 0 1) (eVar 0)) (eVar 2)) (aCons (eOp2 iMul (eOp1 (gSlot 0 0) (eVar 0)) (eVar 3)) aNil)))))
noncomputable def D_Ratiod__muld_ : List D → Store → Res := fnD 4 b_Ratiod__muld_
theorem p_Ratiod__muld_ (B : BB K mg) {ξ : Xx} (cdv : Value) (A : Around) (outer : List Env) (s : Shared) (H : Hp) (Ex : XK) (hr : Room 4 (A.deeper (envOfC d_Ratiod__muld_.qual d_Ratiod__muld_.scope s.heap.objs.size (d_Ratiod__muld_.at_ (GG K).K) cdv))) :
    PSs (cxOf (L2.CX P w) P w (GG K).K mg base ["self", "other", "top", "bottom"] d_Ratiod__muld_.qual d_Ratiod__muld_.scope (d_Ratiod__muld_.at_ (GG K).K) cdv A outer s H Ex) d_Ratiod__muld_.body (dS (GG K) ξ b_Ratiod__muld_ (fun c d' _ H => Ex c d' H)) := by
  have hh : Here (GG K) P w mg base 4 (cxOf (L2.CX P w) P w (GG K).K mg base ["self", "other", "top", "bottom"] d_Ratiod__muld_.qual d_Ratiod__muld_.scope (d_Ratiod__muld_.at_ (GG K).K) cdv A outer s H Ex) (fun c d' _ H => Ex c d' H) := here_of hr
  exact (dss_cons (ds_asg (de_call hh (c_parts B) (da_cons (de_var 1) da_nil)) (dg_tup hh.K rfl (dgs_cons (dg_name sc_Ratiod__muld_.nd) (dgs_cons (dg_name sc_Ratiod__muld_.nd) dgs_nil))))
    (dss_one (ds_ret (de_new hh (mk_Ratiod__initd__2 B) (da_cons (de_op op_iMul (de_slot hh.K (sl0 B) (st0_up B) (de_var 0)) (de_var 2)) (da_cons (de_op op_iMul (de_slot hh.K (sl0 B) (st0_down B) (de_var 0)) (de_var 3)) da_nil))))))
theorem c_Ratiod__muld_ (B : BB K mg) : CalR (GG K) P w mg base 5 (ma K (ga K "Ratio") "__mul__") 2 D_Ratiod__muld_ := calR_of (Γ := GG K) (k := 4) (d := d_Ratiod__muld_) (ξ := ⟨0, .none, none⟩) (body := b_Ratiod__muld_) B 5 sc_Ratiod__muld_ (p_Ratiod__muld_ B) (fun _ _ _ _ _ _ us hl => match us, hl with | [_, _], _ => rfl)
noncomputable def b_Ratiod__addd_ : SF := (sSeq (sAsg (tgT 2 (tsCons (tgN 2) (tsCons (tgN 3) tsNil))) (eCall 1 D_parts (aCons (eVar 1) aNil)))
    (sRet (eNew 0 2 [] I_Ratiod__initd_ (aCons (eOp2 iAdd (eOp2 iMul (eOp1 (gSlot 0 1) (eVar 0)) (eVar 3)) (eOp2 iMul (eVar 2) (eOp1 (gSlot 0 0) (eVar 0)))) (aCons (eOp2 iMul (eOp1 (gSlot 0 0) (eVar 0)) (eVar 3)) aNil)))))
noncomputable def D_Ratiod__addd_ : List D → Store → Res := fnD 4 b_Ratiod__addd_
theorem p_Ratiod__addd_ (B : BB K mg) {ξ : Xx} (cdv : Value) (A : Around) (outer : List Env) (s : Shared) (H : Hp) (Ex : XK) (hr : Room 4 (A.deeper (envOfC d_Ratiod__addd_.qual d_Ratiod__addd_.scope s.heap.objs.size (d_Ratiod__addd_.at_ (GG K).K) cdv))) :
    PSs (cxOf (L2.CX P w) P w (GG K).K mg base ["self", "other", "top", "bottom"] d_Ratiod__addd_.qual d_Ratiod__addd_.scope (d_Ratiod__addd_.at_ (GG K).K) cdv A outer s H Ex) d_Ratiod__addd_.body (dS (GG K) ξ b_Ratiod__addd_ (fun c d' _ H => Ex c d' H)) := by
  have hh : Here (GG K) P w mg base 4 (cxOf (L2.CX P w) P w (GG K).K mg base ["self", "other", "top", "bottom"] d_Ratiod__addd_.qual d_Ratiod__addd_.scope (d_Ratiod__addd_.at_ (GG K).K) cdv A outer s H Ex) (fun c d' _ H => Ex c d' H) := here_of hr
  exact (dss_cons (ds_asg (de_call hh (c_parts B) (da_cons (de_var 1) da_nil)) (dg_tup hh.K rfl (dgs_cons (dg_name sc_Ratiod__addd_.nd) (dgs_cons (dg_name sc_Ratiod__addd_.nd) dgs_nil))))
    (dss_one (ds_ret (de_new hh (mk_Ratiod__initd__2 B) (da_cons (de_op op_iAdd (de_op op_iMul (de_slot hh.K (sl0 B) (st0_up B) (de_var 0)) (de_var 3)) (de_op op_iMul (de_var 2) (de_slot hh.K (sl0 B) (st0_down B) (de_var 0)))) (da_cons (de_op op_iMul (de_slot hh.K (sl0 B) (st0_down B) (de_var 0)) (de_var 3)) da_nil))))))
theorem c_Ratiod__addd_ (B : BB K mg) : CalR (GG K) P w mg base 5 (ma K (ga K "Ratio") "__add__") 2 D_Ratiod__addd_ := calR_of (Γ := GG K) (k := 4) (d := d_Ratiod__addd_) (ξ := ⟨0, .none, none⟩) (body := b_Ratiod__addd_) B 12 sc_Ratiod__addd_ (p_Ratiod__addd_ B) (fun _ _ _ _ _ _ us hl => match us, hl with | [_, _], _ => rfl)
noncomputable def b_Poly_worth : SF := (sSeq (sAsg (tgN 2) (eNew 0 2 [.int 1] I_Ratiod__initd_ (aCons (eC (.int 0)) aNil)))
    (sSeq (sFor (itSeq (eOp1 gRev (eOp1 (gSlot 4 0) (eVar 0)))) (tgN 3) (sAsg (tgN 2) (eOp2 (gOwn 0 D_Ratiod__addd_) (eOp2 (gOwn 0 D_Ratiod__muld_) (eVar 2) (eVar 1)) (eVar 3))))
    (sRet (eVar 2))))
noncomputable def D_Poly_worth : List D → Store → Res := fnD 4 b_Poly_worth
theorem p_Poly_worth (B : BB K mg) {ξ : Xx} (cdv : Value) (A : Around) (outer : List Env) (s : Shared) (H : Hp) (Ex : XK) (hr : Room 5 (A.deeper (envOfC d_Poly_worth.qual d_Poly_worth.scope s.heap.objs.size (d_Poly_worth.at_ (GG K).K) cdv))) :
    PSs (cxOf (L2.CX P w) P w (GG K).K mg base ["self", "number", "found", "coefficient"] d_Poly_worth.qual d_Poly_worth.scope (d_Poly_worth.at_ (GG K).K) cdv A outer s H Ex) d_Poly_worth.body (dS (GG K) ξ b_Poly_worth (fun c d' _ H => Ex c d' H)) := by
  have hh : Here (GG K) P w mg base 5 (cxOf (L2.CX P w) P w (GG K).K mg base ["self", "number", "found", "coefficient"] d_Poly_worth.qual d_Poly_worth.scope (d_Poly_worth.at_ (GG K).K) cdv A outer s H Ex) (fun c d' _ H => Ex c d' H) := here_of hr
  exact (dss_cons (ds_set sc_Poly_worth.nd (de_new hh (mk_Ratiod__initd__1 B) (da_cons de_int da_nil)))
    (dss_cons (ds_for (passes_of rfl) rfl (di_seq hh.K (de_revL hh.K (dv_of (de_fld hh.K (cl4 B) (i := 0) rfl (de_var 0))))) (dg_name sc_Poly_worth.nd) (dss_one (ds_set sc_Poly_worth.nd (de_op (op_own hh (bnB_ok (k27 B)) (c_Ratiod__addd_ B)) (de_op (op_own hh (bnB_ok (k26 B)) (c_Ratiod__muld_ B)) (de_var 2) (de_var 1)) (de_var 3)))))
    (dss_one (ds_ret (de_var 2)))))
theorem c_Poly_worth (B : BB K mg) : CalR (GG K) P w mg base 6 (ma K (ga K "Poly") "worth") 2 D_Poly_worth := calR_of (Γ := GG K) (k := 5) (d := d_Poly_worth) (ξ := ⟨0, .none, none⟩) (body := b_Poly_worth) B 4 sc_Poly_worth (p_Poly_worth B) (fun _ _ _ _ _ _ us hl => match us, hl with | [_, _], _ => rfl)
theorem kf_Poly_worth (B : BB K mg) : KFn (GG K) P w mg base 6 (ma K (ga K "Poly") "worth") 1 ["number"] (spD (GG K) 2 D_Poly_worth) (fun vs zs => vs ++ zs) := kfn_of (Γ := GG K) (ξ := ⟨0, .none, none⟩) (gv := fun vs zs => vs ++ zs) B 4 sc_Poly_worth (p_Poly_worth B) (fun _ _ _ _ _ _ us ws hu hw => match us, ws, hu, hw with | [_], [_], _, _ => rfl) (fun r1 r2 => r1.append r2)
noncomputable def b_is_number : SF := (sRet (eOr (eOp2 (gIsi [0, 4]) (eVar 0) (eC (.cls 0))) (eCall 1 D_is_integer (aCons (eVar 0) aNil))))
noncomputable def D_is_number : List D → Store → Res := fnD 1 b_is_number
theorem p_is_number (B : BB K mg) {ξ : Xx} (cdv : Value) (A : Around) (outer : List Env) (s : Shared) (H : Hp) (Ex : XK) (hr : Room 1 (A.deeper (envOfC d_is_number.qual d_is_number.scope s.heap.objs.size (d_is_number.at_ (GG K).K) cdv))) :
    PSs (cxOf (L2.CX P w) P w (GG K).K mg base ["value"] d_is_number.qual d_is_number.scope (d_is_number.at_ (GG K).K) cdv A outer s H Ex) d_is_number.body (dS (GG K) ξ b_is_number (fun c d' _ H => Ex c d' H)) := by
  have hh : Here (GG K) P w mg base 1 (cxOf (L2.CX P w) P w (GG K).K mg base ["value"] d_is_number.qual d_is_number.scope (d_is_number.at_ (GG K).K) cdv A outer s H Ex) (fun c d' _ H => Ex c d' H) := here_of hr
  exact (dss_one (ds_ret (de_or (de_b2 (cr_isi hh.K (isf B)) (B.free (k9 B)) (by decide +kernel) (de_var 0) (de_glob hh.mg (B.cls (k23 B) rfl))) (de_one (de_call hh (c_is_integer B) (da_cons (de_var 0) da_nil))))))
theorem c_is_number (B : BB K mg) : Cal (GG K) P w mg base 2 "is_number" 1 D_is_number := cal_of (Γ := GG K) (k := 1) (d := d_is_number) (ξ := ⟨0, .none, none⟩) (body := b_is_number) B 14 sc_is_number (k29 B) (p_is_number B) (fun _ _ _ _ _ _ us hl => match us, hl with | [_], _ => rfl)
noncomputable def b_is_list : SF := (sRet (eIsiT [0, 4] (eVar 0) (aCons (eC (.ty "list")) (aCons (eC (.ty "tuple")) aNil))))
noncomputable def D_is_list : List D → Store → Res := fnD 1 b_is_list
theorem p_is_list (B : BB K mg) {ξ : Xx} (cdv : Value) (A : Around) (outer : List Env) (s : Shared) (H : Hp) (Ex : XK) (hr : Room 0 (A.deeper (envOfC d_is_list.qual d_is_list.scope s.heap.objs.size (d_is_list.at_ (GG K).K) cdv))) :
    PSs (cxOf (L2.CX P w) P w (GG K).K mg base ["value"] d_is_list.qual d_is_list.scope (d_is_list.at_ (GG K).K) cdv A outer s H Ex) d_is_list.body (dS (GG K) ξ b_is_list (fun c d' _ H => Ex c d' H)) := by
  have hh : Here (GG K) P w mg base 0 (cxOf (L2.CX P w) P w (GG K).K mg base ["value"] d_is_list.qual d_is_list.scope (d_is_list.at_ (GG K).K) cdv A outer s H Ex) (fun c d' _ H => Ex c d' H) := here_of hr
  exact (dss_one (ds_ret (de_isiT hh.K (isf B) aCons_ne (B.free (k9 B)) (by decide +kernel) (de_var 0) (da_cons (de_ty (B.free (k31 B)) (by decide +kernel)) (da_cons (de_ty (B.free (k30 B)) (by decide +kernel)) da_nil)))))
theorem c_is_list (B : BB K mg) : Cal (GG K) P w mg base 1 "is_list" 1 D_is_list := cal_of (Γ := GG K) (k := 0) (d := d_is_list) (ξ := ⟨0, .none, none⟩) (body := b_is_list) B 15 sc_is_list (k32 B) (p_is_list B) (fun _ _ _ _ _ _ us hl => match us, hl with | [_], _ => rfl)
theorem c_InvalidPolyd__initd_ (B : BB K mg) : ExF (GG K) P w mg base 1 "InvalidPoly" 5 "value" := exf_of (d := d_InvalidPolyd__initd_) (t := "a value is not what polynomials are made of") B 16 sc_InvalidPolyd__initd_ (k33 B) (k34 B) (k35 B) (fun _ _ _ _ _ _ => pss_cons (ps_expr (pe_binit (bsB_ok (B.glo (k14 B)) (k15 B)) (pa_cons (pv 0) (pa_cons pe_str pa_nil)))) (pss_one (ps_ost (pv 0) (pv 1)))) (fun _ _ _ _ _ _ us hl => match us, hl with | [_, _], _ => rfl)
noncomputable def b_as_ratio : SF := (sSeq (sIf (eNot (eCall 1 D_is_number (aCons (eVar 0) aNil))) (sRaise 2 "value" (eVar 0)) sNil)
    (sRet (eNew 0 2 [] I_Ratiod__initd_ (aCons (eOp2 gIx (eCall 1 D_parts (aCons (eVar 0) aNil)) (eC (.int 0))) (aCons (eOp2 gIx (eCall 1 D_parts (aCons (eVar 0) aNil)) (eC (.int 1))) aNil)))))
noncomputable def D_as_ratio : List D → Store → Res := fnD 1 b_as_ratio
theorem p_as_ratio (B : BB K mg) {ξ : Xx} (cdv : Value) (A : Around) (outer : List Env) (s : Shared) (H : Hp) (Ex : XK) (hr : Room 4 (A.deeper (envOfC d_as_ratio.qual d_as_ratio.scope s.heap.objs.size (d_as_ratio.at_ (GG K).K) cdv))) :
    PSs (cxOf (L2.CX P w) P w (GG K).K mg base ["number"] d_as_ratio.qual d_as_ratio.scope (d_as_ratio.at_ (GG K).K) cdv A outer s H Ex) d_as_ratio.body (dS (GG K) ξ b_as_ratio (fun c d' _ H => Ex c d' H)) := by
  have hh : Here (GG K) P w mg base 4 (cxOf (L2.CX P w) P w (GG K).K mg base ["number"] d_as_ratio.qual d_as_ratio.scope (d_as_ratio.at_ (GG K).K) cdv A outer s H Ex) (fun c d' _ H => Ex c d' H) := here_of hr
  exact (dss_cons (ds_if (dt_not (dt_val (de_call hh (c_is_number B) (da_cons (de_var 0) da_nil)))) (dss_one (ds_raise hh (c_InvalidNumberd__initd_ B) rfl (de_var 0))) dss_nil)
    (dss_one (ds_ret (de_new hh (mk_Ratiod__initd__2 B) (da_cons (de_ix hh.K (dv_of (de_call hh (c_parts B) (da_cons (de_var 0) da_nil))) de_int) (da_cons (de_ix hh.K (dv_of (de_call hh (c_parts B) (da_cons (de_var 0) da_nil))) de_int) da_nil))))))
theorem c_as_ratio (B : BB K mg) : Cal (GG K) P w mg base 5 "as_ratio" 1 D_as_ratio := cal_of (Γ := GG K) (k := 4) (d := d_as_ratio) (ξ := ⟨0, .none, none⟩) (body := b_as_ratio) B 17 sc_as_ratio (k36 B) (p_as_ratio B) (fun _ _ _ _ _ _ us hl => match us, hl with | [_], _ => rfl)
noncomputable def b_Ratiod__eqd_ : SF := (sSeq (sIf (eNot (eCall 1 D_is_number (aCons (eVar 1) aNil))) (sRet (eC (.bl false))) sNil)
    (sRet (eOp2 gEq (eTup (aCons (eOp1 (gSlot 0 1) (eVar 0)) (aCons (eOp1 (gSlot 0 0) (eVar 0)) aNil))) (eCall 1 D_parts (aCons (eVar 1) aNil)))))
noncomputable def D_Ratiod__eqd_ : List D → Store → Res := fnD 2 b_Ratiod__eqd_
theorem p_Ratiod__eqd_ (B : BB K mg) {ξ : Xx} (cdv : Value) (A : Around) (outer : List Env) (s : Shared) (H : Hp) (Ex : XK) (hr : Room 3 (A.deeper (envOfC d_Ratiod__eqd_.qual d_Ratiod__eqd_.scope s.heap.objs.size (d_Ratiod__eqd_.at_ (GG K).K) cdv))) :
    PSs (cxOf (L2.CX P w) P w (GG K).K mg base ["self", "other"] d_Ratiod__eqd_.qual d_Ratiod__eqd_.scope (d_Ratiod__eqd_.at_ (GG K).K) cdv A outer s H Ex) d_Ratiod__eqd_.body (dS (GG K) ξ b_Ratiod__eqd_ (fun c d' _ H => Ex c d' H)) := by
  have hh : Here (GG K) P w mg base 3 (cxOf (L2.CX P w) P w (GG K).K mg base ["self", "other"] d_Ratiod__eqd_.qual d_Ratiod__eqd_.scope (d_Ratiod__eqd_.at_ (GG K).K) cdv A outer s H Ex) (fun c d' _ H => Ex c d' H) := here_of hr
  exact (dss_cons (ds_if (dt_not (dt_val (de_call hh (c_is_number B) (da_cons (de_var 1) da_nil)))) (dss_one (ds_ret de_bl)) dss_nil)
    (dss_one (ds_ret (de_cmp (op_gEq hh.K hh.u64) (de_tup (da_cons (de_slot hh.K (sl0 B) (st0_up B) (de_var 0)) (da_cons (de_slot hh.K (sl0 B) (st0_down B) (de_var 0)) da_nil))) (de_call hh (c_parts B) (da_cons (de_var 1) da_nil))))))
theorem c_Ratiod__eqd_ (B : BB K mg) : CalR (GG K) P w mg base 4 (ma K (ga K "Ratio") "__eq__") 2 D_Ratiod__eqd_ := calR_of (Γ := GG K) (k := 3) (d := d_Ratiod__eqd_) (ξ := ⟨0, .none, none⟩) (body := b_Ratiod__eqd_) B 18 sc_Ratiod__eqd_ (p_Ratiod__eqd_ B) (fun _ _ _ _ _ _ us hl => match us, hl with | [_, _], _ => rfl)
noncomputable def b_Polyd__initd_ : SF := (sSeq (sIf (eOr (eNot (eCall 1 D_is_list (aCons (eVar 1) aNil))) (eNot (eOp1 gAll (eLc false [2] (itSeq (eVar 1)) (tgN 2) eYes (eCall 1 D_is_number (aCons (eVar 2) aNil)))))) (sRaise 5 "value" (eVar 1)) sNil)
    (sSeq (sAccN 3 (eLcN [2] (itSeq (eVar 1)) (tgN 2) eYes (eCall 1 D_as_ratio (aCons (eVar 2) aNil))))
    (sSeq (sWhile (eAnd (eOp2 (gNeT 0 1 D_Ratiod__eqd_) (eVarT 3) (eLst aNil)) (eOp2 (gOwnEq [0, 4] 0 D_Ratiod__eqd_) (eOp2 gIx (eVarT 3) (eOp1 iNeg (eC (.int 1)))) (eC (.int 0)))) (sPop 3))
    sPass)))
noncomputable def I_Polyd__initd_ : List D → Store → ResA := initC 4 b_Polyd__initd_ [(eVar 3)]
theorem i_Polyd__initd_ (B : BB K mg) {fd : FuncData} (F : FunD (GG K).K d_Polyd__initd_.name d_Polyd__initd_.qual d_Polyd__initd_.params d_Polyd__initd_.body d_Polyd__initd_.scope (d_Polyd__initd_.dvs (GG K).K) [] (d_Polyd__initd_.at_ (GG K).K) fd) : FnOk P w (GG K).K mg base (L2.CX P w) 6 (d_Polyd__initd_.at_ (GG K).K) fd ["self", "numbers"] (spC (GG K) 4 1 ["kept"] I_Polyd__initd_) := initC_of (Γ := GG K) (k := 5) (d := d_Polyd__initd_) (body := b_Polyd__initd_) F sc_Polyd__initd_ rfl rfl (cl4 B) (by decide) rfl fun ξ cdv A outer s H Ex hr => by
  have hh : Here (GG K) P w mg base 5 (cxOf (L2.CX P w) P w (GG K).K mg base ["self", "numbers", "number", "kept"] d_Polyd__initd_.qual d_Polyd__initd_.scope (d_Polyd__initd_.at_ (GG K).K) cdv A outer s H Ex) (fun c d' _ H => Ex c d' H) := here_of hr
  exact (di_cons (ds_if (PW.pt (dw_or (dt_not (dt_val (de_call hh (c_is_list B) (da_cons (de_var 1) da_nil)))) (dw_or1 (dt_not (dt_val (de_b1 (cr_gAll hh.K rfl) (B.free (k28 B)) (by decide +kernel) (dv_of (de_lc (q := false) rfl sc_Polyd__initd_.nd (diq_seqT hh.K (dv_of (de_var 1))) (blkOk_by (own := [("number", 2)]) (by kernel_rfl)) (fun _ _ _ _ _ => (dg_name sc_Polyd__initd_.nd)) (fun _ _ _ _ _ => dts_nil) (fun _ _ _ _ _ => (de_call hh.blk (c_is_number B) (da_cons (de_var 2) da_nil))))))))))) (dss_one (ds_raise hh (c_InvalidPolyd__initd_ B) rfl (de_var 1))) dss_nil)
    (di_cons (ds_lcN rfl sc_Polyd__initd_.nd (blkOk_by (own := [("number", 2)]) (by kernel_rfl)) (diq_seqT hh.K (dv_of (de_var 1))) (fun _ _ _ _ _ => (dg_name sc_Polyd__initd_.nd)) (fun _ _ _ _ _ => dts_nil) (fun _ _ _ _ _ => (de_call hh.blk (c_as_ratio B) (da_cons (de_var 2) da_nil))))
    (di_cons (ds_while (passes_of rfl) (PW.pt (dw_and (dt_cmpV (op_neT hh (eqf0 B) (by decide) (c_Ratiod__eqd_ B)) (dv_var 3) (de_lst da_nil)) (dw_and1 (dt_cmp (op_ownEq hh (eqf0 B) (c_Ratiod__eqd_ B)) (de_ix hh.K (dv_var 3) (de_un un_iNeg de_int)) de_int)))) (dss_one (ds_pop (i := 3) hh.K (pe_bm0 PySem.F.plainAttrs_list PySem.F.slot_list_pop PySem.F.type_list_pop mt_pop (pv 3)))))
    (di_tail (pss_cons (ps_fld (pv 0) (de_var 3) rfl) pss_nil)))))
theorem mk_Polyd__initd__1 (B : BB K mg) : MakC (GG K) P w mg base 6 "Poly" 4 1 ["kept"] [] I_Polyd__initd_ := makC_of (ps := ["self", "numbers"]) (d := d_Polyd__initd_) B 13 (k38 B) (k39 B) (fun fd F => i_Polyd__initd_ B F) (fun fd F => ⟨[], [], FunD.bindsN F (fun _ _ _ _ _ _ us hl => match us, hl with | [_, _], _ => rfl), .nil, fun W => Reps.nil⟩)
theorem mkk_Polyd__initd__numbers (B : BB K mg) : MakKC (GG K) P w mg base 6 "Poly" 4 1 ["kept"] ["numbers"] (fun zs => zs) I_Polyd__initd_ := makKC_of (ps := ["self", "numbers"]) (d := d_Polyd__initd_) B 13 (k38 B) (k39 B) (fun fd F => i_Polyd__initd_ B F) (fun fd F => ⟨fun vs zs => vs ++ zs, fun vs zs => vs ++ zs, kbind_no F rfl (fun r1 r2 => r1.append r2) (fun _ _ _ _ _ _ us ws hu hw => match us, ws, hu, hw with | [_], [_], _, _ => rfl), fun x zs hz => rfl⟩)
noncomputable def b_Polyd__eqd_ : SF := (sRet (eAnd (eOp2 (gIsi [0, 4]) (eVar 1) (eC (.cls 4))) (eOp2 (gEqO 0 2 D_Ratiod__eqd_) (eOp1 (gSlot 4 0) (eVar 0)) (eOp1 (gSlot 4 0) (eVar 1)))))
noncomputable def D_Polyd__eqd_ : List D → Store → Res := fnD 2 b_Polyd__eqd_
theorem p_Polyd__eqd_ (B : BB K mg) {ξ : Xx} (cdv : Value) (A : Around) (outer : List Env) (s : Shared) (H : Hp) (Ex : XK) (hr : Room 6 (A.deeper (envOfC d_Polyd__eqd_.qual d_Polyd__eqd_.scope s.heap.objs.size (d_Polyd__eqd_.at_ (GG K).K) cdv))) :
    PSs (cxOf (L2.CX P w) P w (GG K).K mg base ["self", "other"] d_Polyd__eqd_.qual d_Polyd__eqd_.scope (d_Polyd__eqd_.at_ (GG K).K) cdv A outer s H Ex) d_Polyd__eqd_.body (dS (GG K) ξ b_Polyd__eqd_ (fun c d' _ H => Ex c d' H)) := by
  have hh : Here (GG K) P w mg base 6 (cxOf (L2.CX P w) P w (GG K).K mg base ["self", "other"] d_Polyd__eqd_.qual d_Polyd__eqd_.scope (d_Polyd__eqd_.at_ (GG K).K) cdv A outer s H Ex) (fun c d' _ H => Ex c d' H) := here_of hr
  exact (dss_one (ds_ret (de_and (de_b2 (cr_isi hh.K (isf B)) (B.free (k9 B)) (by decide +kernel) (de_var 1) (de_glob hh.mg (B.cls (k38 B) rfl))) (de_one (de_cmp (op_eqO hh (eqf0 B) (by decide) (c_Ratiod__eqd_ B)) (de_fld hh.K (cl4 B) (i := 0) rfl (de_var 0)) (de_fld hh.K (cl4 B) (i := 0) rfl (de_var 1)))))))
theorem c_Polyd__eqd_ (B : BB K mg) : CalR (GG K) P w mg base 7 (ma K (ga K "Poly") "__eq__") 2 D_Polyd__eqd_ := calR_of (Γ := GG K) (k := 6) (d := d_Polyd__eqd_) (ξ := ⟨0, .none, none⟩) (body := b_Polyd__eqd_) B 19 sc_Polyd__eqd_ (p_Polyd__eqd_ B) (fun _ _ _ _ _ _ us hl => match us, hl with | [_, _], _ => rfl)
noncomputable def b_Poly_degree : SF := (sRet (eOp2 iSub (eOp1 gLen (eOp1 (gSlot 4 0) (eVar 0))) (eC (.int 1))))
noncomputable def D_Poly_degree : List D → Store → Res := fnD 1 b_Poly_degree
theorem p_Poly_degree (B : BB K mg) {ξ : Xx} (cdv : Value) (A : Around) (outer : List Env) (s : Shared) (H : Hp) (Ex : XK) (hr : Room 0 (A.deeper (envOfC d_Poly_degree.qual d_Poly_degree.scope s.heap.objs.size (d_Poly_degree.at_ (GG K).K) cdv))) :
    PSs (cxOf (L2.CX P w) P w (GG K).K mg base ["self"] d_Poly_degree.qual d_Poly_degree.scope (d_Poly_degree.at_ (GG K).K) cdv A outer s H Ex) d_Poly_degree.body (dS (GG K) ξ b_Poly_degree (fun c d' _ H => Ex c d' H)) := by
  have hh : Here (GG K) P w mg base 0 (cxOf (L2.CX P w) P w (GG K).K mg base ["self"] d_Poly_degree.qual d_Poly_degree.scope (d_Poly_degree.at_ (GG K).K) cdv A outer s H Ex) (fun c d' _ H => Ex c d' H) := here_of hr
  exact (dss_one (ds_ret (de_op op_iSub (de_b1 (cr_len hh.K) (B.free (k42 B)) (by decide +kernel) (dv_of (de_fld hh.K (cl4 B) (i := 0) rfl (de_var 0)))) de_int)))
theorem c_Poly_degree (B : BB K mg) : CalR (GG K) P w mg base 1 (pa K (ga K "Poly") "degree") 1 D_Poly_degree := calR_of (Γ := GG K) (k := 0) (d := d_Poly_degree) (ξ := ⟨0, .none, none⟩) (body := b_Poly_degree) B 20 sc_Poly_degree (p_Poly_degree B) (fun _ _ _ _ _ _ us hl => match us, hl with | [_], _ => rfl)
noncomputable def b__law_caught : SF := (sSeq (sTry [(1, 5, false), (2, 5, false), (3, 5, false), (5, 5, true)] (sExpr (eNewC 4 1 1 [] I_Polyd__initd_ (aCons (eVar 0) aNil))) [(5, some 1, (sRet (eLst (aCons (eC (.str "poly")) (aCons (eXf [5] 1 "value") aNil)))))])
    (sRet (eLst aNil)))
noncomputable def D__law_caught : List D → Store → Res := fnD 2 b__law_caught
theorem p__law_caught (B : BB K mg) {ξ : Xx} (cdv : Value) (A : Around) (outer : List Env) (s : Shared) (H : Hp) (Ex : XK) (hr : Room 7 (A.deeper (envOfC d__law_caught.qual d__law_caught.scope s.heap.objs.size (d__law_caught.at_ (GG K).K) cdv))) :
    PSs (cxOf (L2.CX P w) P w (GG K).K mg base ["_law_thing", "e"] d__law_caught.qual d__law_caught.scope (d__law_caught.at_ (GG K).K) cdv A outer s H Ex) d__law_caught.body (dS (GG K) ξ b__law_caught (fun c d' _ H => Ex c d' H)) := by
  have hh : Here (GG K) P w mg base 7 (cxOf (L2.CX P w) P w (GG K).K mg base ["_law_thing", "e"] d__law_caught.qual d__law_caught.scope (d__law_caught.at_ (GG K).K) cdv A outer s H Ex) (fun c d' _ H => Ex c d' H) := here_of hr
  exact (dss_cons (ds_try rfl rfl sc__law_caught.nd hh.tk hh.K (mtsB_ok (Γ := GG K) (k48 B)) (fun W pn xe tk po => (dss_one (ds_expr (de_newC (hh.tr tk) (mk_Polyd__initd__1 B) (da_cons (de_var 0) da_nil))))) (HdsA.named (i := 1) ⟨rfl, by decide, .inl (B.glo (k33 B))⟩ rfl rfl (fun _ _ _ _ _ hz hf => (dss_one (ds_ret (de_lst (da_cons de_str (da_cons (de_xf hh.K (xffB_ok (k47 B)) hz hf (pv 1)) da_nil)))))) HdsA.nil))
    (dss_one (ds_ret (de_lst da_nil))))
theorem c__law_caught (B : BB K mg) : Cal (GG K) P w mg base 8 "_law_caught" 1 D__law_caught := cal_of (Γ := GG K) (k := 7) (d := d__law_caught) (ξ := ⟨0, .none, none⟩) (body := b__law_caught) B 21 sc__law_caught (k49 B) (p__law_caught B) (fun _ _ _ _ _ _ us hl => match us, hl with | [_], _ => rfl)
noncomputable def b__law_take : SF := (sSeq (sIf (eOp2 iGt (eOp2 gIx (eVar 0) (eC (.int 0))) (eC (.int 0))) (sSeq (sAsg (tgN 2) (eOp2 iMod (eOp2 gIx (eVar 0) (eC (.int 0))) (eVar 1)))
    (sSeq (sStore (eVar 0) (eC (.int 0)) (eOp2 iDiv (eOp2 gIx (eVar 0) (eC (.int 0))) (eVar 1)))
    (sRet (eVar 2)))) sNil)
    (sSeq (sStore (eVar 0) (eC (.int 2)) (eOp2 iAdd (eOp2 gIx (eVar 0) (eC (.int 2))) (eC (.int 1))))
    (sSeq (sAsg (tgN 3) (eOp2 iMod (eOp2 iPow (eOp2 iAdd (eOp2 iAdd (eOp2 gIx (eVar 0) (eC (.int 1))) (eOp2 iMul (eC (.int 86028121)) (eOp2 gIx (eVar 0) (eC (.int 2))))) (eC (.int 947))) (eC (.int 5))) (eC (.int 2147483647))))
    (sSeq (sAsg (tgN 3) (eOp2 iMod (eOp2 iPow (eOp2 iAdd (eVar 3) (eOp2 iMul (eC (.int 104729)) (eOp2 gIx (eVar 0) (eC (.int 2))))) (eC (.int 3))) (eC (.int 2147483587))))
    (sRet (eOp2 iMod (eOp2 iDiv (eVar 3) (eC (.int 16))) (eVar 1)))))))
noncomputable def D__law_take : List D → Store → Res := fnD 4 b__law_take
theorem p__law_take (B : BB K mg) {ξ : Xx} (cdv : Value) (A : Around) (outer : List Env) (s : Shared) (H : Hp) (Ex : XK) (hr : Room 0 (A.deeper (envOfC d__law_take.qual d__law_take.scope s.heap.objs.size (d__law_take.at_ (GG K).K) cdv))) :
    PSs (cxOf (L2.CX P w) P w (GG K).K mg base ["_law_bag_here", "_law_many", "_law_digit", "_law_mixed"] d__law_take.qual d__law_take.scope (d__law_take.at_ (GG K).K) cdv A outer s H Ex) d__law_take.body (dS (GG K) ξ b__law_take (fun c d' _ H => Ex c d' H)) := by
  have hh : Here (GG K) P w mg base 0 (cxOf (L2.CX P w) P w (GG K).K mg base ["_law_bag_here", "_law_many", "_law_digit", "_law_mixed"] d__law_take.qual d__law_take.scope (d__law_take.at_ (GG K).K) cdv A outer s H Ex) (fun c d' _ H => Ex c d' H) := here_of hr
  exact (dss_cons (ds_if (dt_cmp op_iGt (de_ix hh.K (dv_of (de_var 0)) de_int) de_int) (dss_cons (ds_set sc__law_take.nd (de_op op_iMod (de_ix hh.K (dv_of (de_var 0)) de_int) (de_var 1)))
    (dss_cons (ds_store (de_var 0) de_int (de_op op_iDiv (de_ix hh.K (dv_of (de_var 0)) de_int) (de_var 1)))
    (dss_one (ds_ret (de_var 2))))) dss_nil)
    (dss_cons (ds_store (de_var 0) de_int (de_op op_iAdd (de_ix hh.K (dv_of (de_var 0)) de_int) de_int))
    (dss_cons (ds_set sc__law_take.nd (de_op op_iMod (de_op op_iPow (de_op op_iAdd (de_op op_iAdd (de_ix hh.K (dv_of (de_var 0)) de_int) (de_op op_iMul de_int (de_ix hh.K (dv_of (de_var 0)) de_int))) de_int) de_int) de_int))
    (dss_cons (ds_set sc__law_take.nd (de_op op_iMod (de_op op_iPow (de_op op_iAdd (de_var 3) (de_op op_iMul de_int (de_ix hh.K (dv_of (de_var 0)) de_int))) de_int) de_int))
    (dss_one (ds_ret (de_op op_iMod (de_op op_iDiv (de_var 3) de_int) (de_var 1))))))))
theorem c__law_take (B : BB K mg) : Cal (GG K) P w mg base 1 "_law_take" 2 D__law_take := cal_of (Γ := GG K) (k := 0) (d := d__law_take) (ξ := ⟨0, .none, none⟩) (body := b__law_take) B 22 sc__law_take (k50 B) (p__law_take B) (fun _ _ _ _ _ _ us hl => match us, hl with | [_, _], _ => rfl)
noncomputable def b_Poly_numbers : SF := (sRet (eOp1 gListOf (eOp1 (gSlot 4 0) (eVar 0))))
noncomputable def D_Poly_numbers : List D → Store → Res := fnD 1 b_Poly_numbers
theorem p_Poly_numbers (B : BB K mg) {ξ : Xx} (cdv : Value) (A : Around) (outer : List Env) (s : Shared) (H : Hp) (Ex : XK) (hr : Room 0 (A.deeper (envOfC d_Poly_numbers.qual d_Poly_numbers.scope s.heap.objs.size (d_Poly_numbers.at_ (GG K).K) cdv))) :
    PSs (cxOf (L2.CX P w) P w (GG K).K mg base ["self"] d_Poly_numbers.qual d_Poly_numbers.scope (d_Poly_numbers.at_ (GG K).K) cdv A outer s H Ex) d_Poly_numbers.body (dS (GG K) ξ b_Poly_numbers (fun c d' _ H => Ex c d' H)) := by
  have hh : Here (GG K) P w mg base 0 (cxOf (L2.CX P w) P w (GG K).K mg base ["self"] d_Poly_numbers.qual d_Poly_numbers.scope (d_Poly_numbers.at_ (GG K).K) cdv A outer s H Ex) (fun c d' _ H => Ex c d' H) := here_of hr
  exact (dss_one (ds_ret (de_t1 (cr_list hh.K) (B.free (k31 B)) (by decide +kernel) (dv_of (de_fld hh.K (cl4 B) (i := 0) rfl (de_var 0))))))
theorem c_Poly_numbers (B : BB K mg) : CalR (GG K) P w mg base 1 (ma K (ga K "Poly") "numbers") 1 D_Poly_numbers := calR_of (Γ := GG K) (k := 0) (d := d_Poly_numbers) (ξ := ⟨0, .none, none⟩) (body := b_Poly_numbers) B 24 sc_Poly_numbers (p_Poly_numbers B) (fun _ _ _ _ _ _ us hl => match us, hl with | [_], _ => rfl)
noncomputable def b__law_numbers : SF := (sRet (eLc false [1] (itSeq (eMeth 4 1 D_Poly_numbers (eVar 0) aNil)) (tgN 1) eYes (eCall 1 D__law_told (aCons (eVar 1) aNil))))
noncomputable def D__law_numbers : List D → Store → Res := fnD 2 b__law_numbers
theorem p__law_numbers (B : BB K mg) {ξ : Xx} (cdv : Value) (A : Around) (outer : List Env) (s : Shared) (H : Hp) (Ex : XK) (hr : Room 3 (A.deeper (envOfC d__law_numbers.qual d__law_numbers.scope s.heap.objs.size (d__law_numbers.at_ (GG K).K) cdv))) :
    PSs (cxOf (L2.CX P w) P w (GG K).K mg base ["_law_poly", "_law_figure"] d__law_numbers.qual d__law_numbers.scope (d__law_numbers.at_ (GG K).K) cdv A outer s H Ex) d__law_numbers.body (dS (GG K) ξ b__law_numbers (fun c d' _ H => Ex c d' H)) := by
  have hh : Here (GG K) P w mg base 3 (cxOf (L2.CX P w) P w (GG K).K mg base ["_law_poly", "_law_figure"] d__law_numbers.qual d__law_numbers.scope (d__law_numbers.at_ (GG K).K) cdv A outer s H Ex) (fun c d' _ H => Ex c d' H) := here_of hr
  exact (dss_one (ds_ret (de_lc (q := false) rfl sc__law_numbers.nd (diq_seqT hh.K (dv_of (de_meth0 hh (.cl _ (cl4 B)) (mtB_ok (k51 B)) (c_Poly_numbers B) (de_var 0)))) (blkOk_by (own := [("_law_figure", 1)]) (by kernel_rfl)) (fun _ _ _ _ _ => (dg_name sc__law_numbers.nd)) (fun _ _ _ _ _ => dts_nil) (fun _ _ _ _ _ => (de_call hh.blk (c__law_told B) (da_cons (de_var 1) da_nil))))))
theorem c__law_numbers (B : BB K mg) : Cal (GG K) P w mg base 4 "_law_numbers" 1 D__law_numbers := cal_of (Γ := GG K) (k := 3) (d := d__law_numbers) (ξ := ⟨0, .none, none⟩) (body := b__law_numbers) B 23 sc__law_numbers (k52 B) (p__law_numbers B) (fun _ _ _ _ _ _ us hl => match us, hl with | [_], _ => rfl)
noncomputable def b__law_trim : SF := (sSeq (sAccN 1 (aListN (eVar 0)))
    (sSeq (sWhile (eAnd (eOp2 (gNeT 0 1 D_Ratiod__eqd_) (eVarT 1) (eLst aNil)) (eOp2 gEq (eOp2 gIx (eOp2 gIx (eVarT 1) (eOp1 iNeg (eC (.int 1)))) (eC (.int 0))) (eC (.int 0)))) (sPop 1))
    (sRet (eVar 1))))
noncomputable def D__law_trim : List D → Store → Res := fnD 2 b__law_trim
theorem p__law_trim (B : BB K mg) {ξ : Xx} (cdv : Value) (A : Around) (outer : List Env) (s : Shared) (H : Hp) (Ex : XK) (hr : Room 5 (A.deeper (envOfC d__law_trim.qual d__law_trim.scope s.heap.objs.size (d__law_trim.at_ (GG K).K) cdv))) :
    PSs (cxOf (L2.CX P w) P w (GG K).K mg base ["_law_poly", "_law_found"] d__law_trim.qual d__law_trim.scope (d__law_trim.at_ (GG K).K) cdv A outer s H Ex) d__law_trim.body (dS (GG K) ξ b__law_trim (fun c d' _ H => Ex c d' H)) := by
  have hh : Here (GG K) P w mg base 5 (cxOf (L2.CX P w) P w (GG K).K mg base ["_law_poly", "_law_found"] d__law_trim.qual d__law_trim.scope (d__law_trim.at_ (GG K).K) cdv A outer s H Ex) (fun c d' _ H => Ex c d' H) := here_of hr
  exact (dss_cons (ds_listN hh.K sc__law_trim.nd (B.free (k31 B)) (dv_of (de_var 0)))
    (dss_cons (ds_while (passes_of rfl) (PW.pt (dw_and (dt_cmpV (op_neT hh (eqf0 B) (by decide) (c_Ratiod__eqd_ B)) (dv_var 1) (de_lst da_nil)) (dw_and1 (dt_cmp (op_gEq hh.K hh.u64) (de_ix hh.K (dv_of (de_ix hh.K (dv_var 1) (de_un un_iNeg de_int))) de_int) de_int)))) (dss_one (ds_pop (i := 1) hh.K (pe_bm0 PySem.F.plainAttrs_list PySem.F.slot_list_pop PySem.F.type_list_pop mt_pop (pv 1)))))
    (dss_one (ds_ret (de_var 1)))))
theorem c__law_trim (B : BB K mg) : Cal (GG K) P w mg base 6 "_law_trim" 1 D__law_trim := cal_of (Γ := GG K) (k := 5) (d := d__law_trim) (ξ := ⟨0, .none, none⟩) (body := b__law_trim) B 25 sc__law_trim (k53 B) (p__law_trim B) (fun _ _ _ _ _ _ us hl => match us, hl with | [_], _ => rfl)
noncomputable def b_Poly_numbers_c : SF := (sRet (eOp1 gListC (eOp1 (gSlot 4 0) (eVar 0))))
noncomputable def D_Poly_numbers_c : List D → Store → Res := fnD 1 b_Poly_numbers_c
theorem p_Poly_numbers_c (B : BB K mg) {ξ : Xx} (cdv : Value) (A : Around) (outer : List Env) (s : Shared) (H : Hp) (Ex : XK) (hr : Room 0 (A.deeper (envOfC d_Poly_numbers.qual d_Poly_numbers.scope s.heap.objs.size (d_Poly_numbers.at_ (GG K).K) cdv))) :
    PSs (cxOf (L2.CX P w) P w (GG K).K mg base ["self"] d_Poly_numbers.qual d_Poly_numbers.scope (d_Poly_numbers.at_ (GG K).K) cdv A outer s H Ex) d_Poly_numbers.body (dS (GG K) ξ b_Poly_numbers_c (fun c d' _ H => Ex c d' H)) := by
  have hh : Here (GG K) P w mg base 0 (cxOf (L2.CX P w) P w (GG K).K mg base ["self"] d_Poly_numbers.qual d_Poly_numbers.scope (d_Poly_numbers.at_ (GG K).K) cdv A outer s H Ex) (fun c d' _ H => Ex c d' H) := here_of hr
  exact (dss_one (ds_ret (de_t1 (cr_listC hh.K) (B.free (k31 B)) (by decide +kernel) (dv_of (de_fld hh.K (cl4 B) (i := 0) rfl (de_var 0))))))
theorem c_Poly_numbers_c (B : BB K mg) : CalR (GG K) P w mg base 1 (ma K (ga K "Poly") "numbers") 1 D_Poly_numbers_c := calR_of (Γ := GG K) (k := 0) (d := d_Poly_numbers) (ξ := ⟨0, .none, none⟩) (body := b_Poly_numbers_c) B 24 sc_Poly_numbers (p_Poly_numbers_c B) (fun _ _ _ _ _ _ us hl => match us, hl with | [_], _ => rfl)
noncomputable def b__law_given : SF := (sRet (eIf (eOp2 gEq (eOp2 gIx (eVar 0) (eC (.int 1))) (eC (.int 1))) (eOp2 gIx (eVar 0) (eC (.int 0))) (eNew 0 2 [] I_Ratiod__initd_ (aCons (eOp2 gIx (eVar 0) (eC (.int 0))) (aCons (eOp2 gIx (eVar 0) (eC (.int 1))) aNil)))))
noncomputable def D__law_given : List D → Store → Res := fnD 1 b__law_given
theorem p__law_given (B : BB K mg) {ξ : Xx} (cdv : Value) (A : Around) (outer : List Env) (s : Shared) (H : Hp) (Ex : XK) (hr : Room 4 (A.deeper (envOfC d__law_given.qual d__law_given.scope s.heap.objs.size (d__law_given.at_ (GG K).K) cdv))) :
    PSs (cxOf (L2.CX P w) P w (GG K).K mg base ["_law_x"] d__law_given.qual d__law_given.scope (d__law_given.at_ (GG K).K) cdv A outer s H Ex) d__law_given.body (dS (GG K) ξ b__law_given (fun c d' _ H => Ex c d' H)) := by
  have hh : Here (GG K) P w mg base 4 (cxOf (L2.CX P w) P w (GG K).K mg base ["_law_x"] d__law_given.qual d__law_given.scope (d__law_given.at_ (GG K).K) cdv A outer s H Ex) (fun c d' _ H => Ex c d' H) := here_of hr
  exact (dss_one (ds_ret (de_if (dt_cmp (op_gEq hh.K hh.u64) (de_ix hh.K (dv_of (de_var 0)) de_int) de_int) (de_ix hh.K (dv_of (de_var 0)) de_int) (de_new hh (mk_Ratiod__initd__2 B) (da_cons (de_ix hh.K (dv_of (de_var 0)) de_int) (da_cons (de_ix hh.K (dv_of (de_var 0)) de_int) da_nil))))))
theorem c__law_given (B : BB K mg) : Cal (GG K) P w mg base 5 "_law_given" 1 D__law_given := cal_of (Γ := GG K) (k := 4) (d := d__law_given) (ξ := ⟨0, .none, none⟩) (body := b__law_given) B 26 sc__law_given (k54 B) (p__law_given B) (fun _ _ _ _ _ _ us hl => match us, hl with | [_], _ => rfl)
noncomputable def b_Poly_derivative : SF := (sRet (eNewC 4 1 1 [] I_Polyd__initd_ (aCons (eLc false [1, 2] (itEnum (aCons (eSl gSlL (eOp1 (gSlot 4 0) (eVar 0)) (some (eC (.int 1))) none) aNil)) (tgT 2 (tsCons (tgN 1) (tsCons (tgN 2) tsNil))) eYes (eOp2 (gOwn 0 D_Ratiod__muld_) (eVar 2) (eOp2 iAdd (eVar 1) (eC (.int 1))))) aNil)))
noncomputable def D_Poly_derivative : List D → Store → Res := fnD 3 b_Poly_derivative
theorem p_Poly_derivative (B : BB K mg) {ξ : Xx} (cdv : Value) (A : Around) (outer : List Env) (s : Shared) (H : Hp) (Ex : XK) (hr : Room 7 (A.deeper (envOfC d_Poly_derivative.qual d_Poly_derivative.scope s.heap.objs.size (d_Poly_derivative.at_ (GG K).K) cdv))) :
    PSs (cxOf (L2.CX P w) P w (GG K).K mg base ["self", "place", "number"] d_Poly_derivative.qual d_Poly_derivative.scope (d_Poly_derivative.at_ (GG K).K) cdv A outer s H Ex) d_Poly_derivative.body (dS (GG K) ξ b_Poly_derivative (fun c d' _ H => Ex c d' H)) := by
  have hh : Here (GG K) P w mg base 7 (cxOf (L2.CX P w) P w (GG K).K mg base ["self", "place", "number"] d_Poly_derivative.qual d_Poly_derivative.scope (d_Poly_derivative.at_ (GG K).K) cdv A outer s H Ex) (fun c d' _ H => Ex c d' H) := here_of hr
  exact (dss_one (ds_ret (de_newC hh (mk_Polyd__initd__1 B) (da_cons (de_lc (q := false) rfl sc_Poly_derivative.nd (diq (di_enum hh.K (B.free (k55 B)) (da_cons (de_sl (sl_gL hh.K) (dv_of (de_fld hh.K (cl4 B) (i := 0) rfl (de_var 0))) (do_some de_int) do_none) da_nil))) (blkOk_by (own := [("place", 1), ("number", 2)]) (by kernel_rfl)) (fun _ _ _ _ _ => (dg_tup hh.blk.K rfl (dgs_cons (dg_name sc_Poly_derivative.nd) (dgs_cons (dg_name sc_Poly_derivative.nd) dgs_nil)))) (fun _ _ _ _ _ => dts_nil) (fun _ _ _ _ _ => (de_op (op_own hh.blk (bnB_ok (k26 B)) (c_Ratiod__muld_ B)) (de_var 2) (de_op op_iAdd (de_var 1) de_int)))) da_nil))))
theorem c_Poly_derivative (B : BB K mg) : CalR (GG K) P w mg base 8 (ma K (ga K "Poly") "derivative") 1 D_Poly_derivative := calR_of (Γ := GG K) (k := 7) (d := d_Poly_derivative) (ξ := ⟨0, .none, none⟩) (body := b_Poly_derivative) B 28 sc_Poly_derivative (p_Poly_derivative B) (fun _ _ _ _ _ _ us hl => match us, hl with | [_], _ => rfl)
noncomputable def b__law_frac : SF := (sSeq (sPar 2 3 (aCons (eOp1 gAbs (eVar 0)) (aCons (eOp1 gAbs (eVar 1)) aNil)))
    (sSeq (sWhile (eOp2 gNe (eVar 3) (eC (.int 0))) (sPar 2 3 (aCons (eVar 3) (aCons (eOp2 iModN (eVar 2) (eVar 3)) aNil))))
    (sSeq (sAsg (tgN 2) (eIf (eOp2 iGt (eVar 1) (eC (.int 0))) (eVar 2) (eOp1 iNeg (eVar 2))))
    (sRet (eTup (aCons (eOp2 iDivN (eVar 0) (eVar 2)) (aCons (eOp2 iDivN (eVar 1) (eVar 2)) aNil)))))))
noncomputable def D__law_frac : List D → Store → Res := fnD 4 b__law_frac
theorem p__law_frac (B : BB K mg) {ξ : Xx} (cdv : Value) (A : Around) (outer : List Env) (s : Shared) (H : Hp) (Ex : XK) (hr : Room 0 (A.deeper (envOfC d__law_frac.qual d__law_frac.scope s.heap.objs.size (d__law_frac.at_ (GG K).K) cdv))) :
    PSs (cxOf (L2.CX P w) P w (GG K).K mg base ["_law_up", "_law_down", "_law_one", "_law_other"] d__law_frac.qual d__law_frac.scope (d__law_frac.at_ (GG K).K) cdv A outer s H Ex) d__law_frac.body (dS (GG K) ξ b__law_frac (fun c d' _ H => Ex c d' H)) := by
  have hh : Here (GG K) P w mg base 0 (cxOf (L2.CX P w) P w (GG K).K mg base ["_law_up", "_law_down", "_law_one", "_law_other"] d__law_frac.qual d__law_frac.scope (d__law_frac.at_ (GG K).K) cdv A outer s H Ex) (fun c d' _ H => Ex c d' H) := here_of hr
  exact (dss_cons (ds_par rfl sc__law_frac.nd (da_cons (de_b1 (cr_abs) (B.free (k21 B)) (by decide +kernel) (dv_of (de_var 0))) (da_cons (de_b1 (cr_abs) (B.free (k21 B)) (by decide +kernel) (dv_of (de_var 1))) da_nil)))
    (dss_cons (ds_while (passes_of rfl) (dt_cmp (op_gNe hh.K hh.u64) (de_var 3) de_int) (dss_one (ds_par rfl sc__law_frac.nd (da_cons (de_var 3) (da_cons (de_op op_iModN (de_var 2) (de_var 3)) da_nil)))))
    (dss_cons (ds_set sc__law_frac.nd (de_if (dt_cmp op_iGt (de_var 1) de_int) (de_var 2) (de_un un_iNeg (de_var 2))))
    (dss_one (ds_ret (de_tup (da_cons (de_op op_iDivN (de_var 0) (de_var 2)) (da_cons (de_op op_iDivN (de_var 1) (de_var 2)) da_nil))))))))
theorem c__law_frac (B : BB K mg) : Cal (GG K) P w mg base 1 "_law_frac" 2 D__law_frac := cal_of (Γ := GG K) (k := 0) (d := d__law_frac) (ξ := ⟨0, .none, none⟩) (body := b__law_frac) B 30 sc__law_frac (k57 B) (p__law_frac B) (fun _ _ _ _ _ _ us hl => match us, hl with | [_, _], _ => rfl)
noncomputable def b__law_times : SF := (sRet (eCall 2 D__law_frac (aCons (eOp2 iMul (eOp2 gIx (eVar 0) (eC (.int 0))) (eOp2 gIx (eVar 1) (eC (.int 0)))) (aCons (eOp2 iMul (eOp2 gIx (eVar 0) (eC (.int 1))) (eOp2 gIx (eVar 1) (eC (.int 1)))) aNil))))
noncomputable def D__law_times : List D → Store → Res := fnD 2 b__law_times
theorem p__law_times (B : BB K mg) {ξ : Xx} (cdv : Value) (A : Around) (outer : List Env) (s : Shared) (H : Hp) (Ex : XK) (hr : Room 1 (A.deeper (envOfC d__law_times.qual d__law_times.scope s.heap.objs.size (d__law_times.at_ (GG K).K) cdv))) :
    PSs (cxOf (L2.CX P w) P w (GG K).K mg base ["_law_x", "_law_y"] d__law_times.qual d__law_times.scope (d__law_times.at_ (GG K).K) cdv A outer s H Ex) d__law_times.body (dS (GG K) ξ b__law_times (fun c d' _ H => Ex c d' H)) := by
  have hh : Here (GG K) P w mg base 1 (cxOf (L2.CX P w) P w (GG K).K mg base ["_law_x", "_law_y"] d__law_times.qual d__law_times.scope (d__law_times.at_ (GG K).K) cdv A outer s H Ex) (fun c d' _ H => Ex c d' H) := here_of hr
  exact (dss_one (ds_ret (de_call hh (c__law_frac B) (da_cons (de_op op_iMul (de_ix hh.K (dv_of (de_var 0)) de_int) (de_ix hh.K (dv_of (de_var 1)) de_int)) (da_cons (de_op op_iMul (de_ix hh.K (dv_of (de_var 0)) de_int) (de_ix hh.K (dv_of (de_var 1)) de_int)) da_nil)))))
theorem c__law_times (B : BB K mg) : Cal (GG K) P w mg base 2 "_law_times" 2 D__law_times := cal_of (Γ := GG K) (k := 1) (d := d__law_times) (ξ := ⟨0, .none, none⟩) (body := b__law_times) B 29 sc__law_times (k58 B) (p__law_times B) (fun _ _ _ _ _ _ us hl => match us, hl with | [_, _], _ => rfl)
noncomputable def b__law_plus : SF := (sRet (eCall 2 D__law_frac (aCons (eOp2 iAdd (eOp2 iMul (eOp2 gIx (eVar 0) (eC (.int 0))) (eOp2 gIx (eVar 1) (eC (.int 1)))) (eOp2 iMul (eOp2 gIx (eVar 1) (eC (.int 0))) (eOp2 gIx (eVar 0) (eC (.int 1))))) (aCons (eOp2 iMul (eOp2 gIx (eVar 0) (eC (.int 1))) (eOp2 gIx (eVar 1) (eC (.int 1)))) aNil))))
noncomputable def D__law_plus : List D → Store → Res := fnD 2 b__law_plus
theorem p__law_plus (B : BB K mg) {ξ : Xx} (cdv : Value) (A : Around) (outer : List Env) (s : Shared) (H : Hp) (Ex : XK) (hr : Room 1 (A.deeper (envOfC d__law_plus.qual d__law_plus.scope s.heap.objs.size (d__law_plus.at_ (GG K).K) cdv))) :
    PSs (cxOf (L2.CX P w) P w (GG K).K mg base ["_law_x", "_law_y"] d__law_plus.qual d__law_plus.scope (d__law_plus.at_ (GG K).K) cdv A outer s H Ex) d__law_plus.body (dS (GG K) ξ b__law_plus (fun c d' _ H => Ex c d' H)) := by
  have hh : Here (GG K) P w mg base 1 (cxOf (L2.CX P w) P w (GG K).K mg base ["_law_x", "_law_y"] d__law_plus.qual d__law_plus.scope (d__law_plus.at_ (GG K).K) cdv A outer s H Ex) (fun c d' _ H => Ex c d' H) := here_of hr
  exact (dss_one (ds_ret (de_call hh (c__law_frac B) (da_cons (de_op op_iAdd (de_op op_iMul (de_ix hh.K (dv_of (de_var 0)) de_int) (de_ix hh.K (dv_of (de_var 1)) de_int)) (de_op op_iMul (de_ix hh.K (dv_of (de_var 1)) de_int) (de_ix hh.K (dv_of (de_var 0)) de_int))) (da_cons (de_op op_iMul (de_ix hh.K (dv_of (de_var 0)) de_int) (de_ix hh.K (dv_of (de_var 1)) de_int)) da_nil)))))
theorem c__law_plus (B : BB K mg) : Cal (GG K) P w mg base 2 "_law_plus" 2 D__law_plus := cal_of (Γ := GG K) (k := 1) (d := d__law_plus) (ξ := ⟨0, .none, none⟩) (body := b__law_plus) B 32 sc__law_plus (k59 B) (p__law_plus B) (fun _ _ _ _ _ _ us hl => match us, hl with | [_, _], _ => rfl)
noncomputable def b__law_at : SF := (sSeq (sAsg (tgN 2) (eTup (aCons (eC (.int 0)) (aCons (eC (.int 1)) aNil))))
    (sSeq (sFor (itSeq (eOp1 gRev (eVar 0))) (tgN 3) (sAsg (tgN 2) (eCall 2 D__law_plus (aCons (eCall 2 D__law_times (aCons (eVar 2) (aCons (eVar 1) aNil))) (aCons (eVar 3) aNil)))))
    (sRet (eVar 2))))
noncomputable def D__law_at : List D → Store → Res := fnD 4 b__law_at
theorem p__law_at (B : BB K mg) {ξ : Xx} (cdv : Value) (A : Around) (outer : List Env) (s : Shared) (H : Hp) (Ex : XK) (hr : Room 2 (A.deeper (envOfC d__law_at.qual d__law_at.scope s.heap.objs.size (d__law_at.at_ (GG K).K) cdv))) :
    PSs (cxOf (L2.CX P w) P w (GG K).K mg base ["_law_poly", "_law_x", "_law_found", "_law_figure"] d__law_at.qual d__law_at.scope (d__law_at.at_ (GG K).K) cdv A outer s H Ex) d__law_at.body (dS (GG K) ξ b__law_at (fun c d' _ H => Ex c d' H)) := by
  have hh : Here (GG K) P w mg base 2 (cxOf (L2.CX P w) P w (GG K).K mg base ["_law_poly", "_law_x", "_law_found", "_law_figure"] d__law_at.qual d__law_at.scope (d__law_at.at_ (GG K).K) cdv A outer s H Ex) (fun c d' _ H => Ex c d' H) := here_of hr
  exact (dss_cons (ds_set sc__law_at.nd (de_tup (da_cons de_int (da_cons de_int da_nil))))
    (dss_cons (ds_for (passes_of rfl) rfl (di_seq hh.K (de_revL hh.K (dv_of (de_var 0)))) (dg_name sc__law_at.nd) (dss_one (ds_set sc__law_at.nd (de_call hh (c__law_plus B) (da_cons (de_call hh (c__law_times B) (da_cons (de_var 2) (da_cons (de_var 1) da_nil))) (da_cons (de_var 3) da_nil))))))
    (dss_one (ds_ret (de_var 2)))))
theorem c__law_at (B : BB K mg) : Cal (GG K) P w mg base 3 "_law_at" 2 D__law_at := cal_of (Γ := GG K) (k := 2) (d := d__law_at) (ξ := ⟨0, .none, none⟩) (body := b__law_at) B 31 sc__law_at (k60 B) (p__law_at B) (fun _ _ _ _ _ _ us hl => match us, hl with | [_, _], _ => rfl)
noncomputable def b__law_made : SF := (sRet (eNewC 4 1 1 [] I_Polyd__initd_ (aCons (eLc false [1] (itSeq (eVar 0)) (tgN 1) eYes (eCall 1 D__law_given (aCons (eVar 1) aNil))) aNil)))
noncomputable def D__law_made : List D → Store → Res := fnD 2 b__law_made
theorem p__law_made (B : BB K mg) {ξ : Xx} (cdv : Value) (A : Around) (outer : List Env) (s : Shared) (H : Hp) (Ex : XK) (hr : Room 7 (A.deeper (envOfC d__law_made.qual d__law_made.scope s.heap.objs.size (d__law_made.at_ (GG K).K) cdv))) :
    PSs (cxOf (L2.CX P w) P w (GG K).K mg base ["_law_poly", "_law_x"] d__law_made.qual d__law_made.scope (d__law_made.at_ (GG K).K) cdv A outer s H Ex) d__law_made.body (dS (GG K) ξ b__law_made (fun c d' _ H => Ex c d' H)) := by
  have hh : Here (GG K) P w mg base 7 (cxOf (L2.CX P w) P w (GG K).K mg base ["_law_poly", "_law_x"] d__law_made.qual d__law_made.scope (d__law_made.at_ (GG K).K) cdv A outer s H Ex) (fun c d' _ H => Ex c d' H) := here_of hr
  exact (dss_one (ds_ret (de_newC hh (mk_Polyd__initd__1 B) (da_cons (de_lc (q := false) rfl sc__law_made.nd (diq_seqT hh.K (dv_of (de_var 0))) (blkOk_by (own := [("_law_x", 1)]) (by kernel_rfl)) (fun _ _ _ _ _ => (dg_name sc__law_made.nd)) (fun _ _ _ _ _ => dts_nil) (fun _ _ _ _ _ => (de_call hh.blk (c__law_given B) (da_cons (de_var 1) da_nil)))) da_nil))))
theorem c__law_made (B : BB K mg) : Cal (GG K) P w mg base 8 "_law_made" 1 D__law_made := cal_of (Γ := GG K) (k := 7) (d := d__law_made) (ξ := ⟨0, .none, none⟩) (body := b__law_made) B 33 sc__law_made (k61 B) (p__law_made B) (fun _ _ _ _ _ _ us hl => match us, hl with | [_], _ => rfl)
noncomputable def b__law_sum : SF := (sSeq (sAsg (tgN 3) (eLc true [4] (itRange1 (aCons (eOp2 gMax (eOp1 gLen (eVar 0)) (eOp1 gLen (eVar 1))) aNil)) (tgN 4) eYes (eTup (aCons (eC (.int 0)) (aCons (eC (.int 1)) aNil)))))
    (sSeq (sFor (itRange1 (aCons (eOp1 gLen (eVar 3)) aNil)) (tgN 4) (sSeq (sAsg (tgN 5) (eIf (eOp2 iLt (eVar 4) (eOp1 gLen (eVar 0))) (eOp2 gIx (eVar 0) (eVar 4)) (eTup (aCons (eC (.int 0)) (aCons (eC (.int 1)) aNil)))))
    (sSeq (sAsg (tgN 6) (eIf (eOp2 iLt (eVar 4) (eOp1 gLen (eVar 1))) (eOp2 gIx (eVar 1) (eVar 4)) (eTup (aCons (eC (.int 0)) (aCons (eC (.int 1)) aNil)))))
    (sStore (eVar 3) (eVar 4) (eCall 2 D__law_plus (aCons (eVar 5) (aCons (eCall 2 D__law_times (aCons (eTup (aCons (eVar 2) (aCons (eC (.int 1)) aNil))) (aCons (eVar 6) aNil))) aNil)))))))
    (sRet (eCall 1 D__law_trim (aCons (eVar 3) aNil)))))
noncomputable def D__law_sum : List D → Store → Res := fnD 7 b__law_sum
theorem p__law_sum (B : BB K mg) {ξ : Xx} (cdv : Value) (A : Around) (outer : List Env) (s : Shared) (H : Hp) (Ex : XK) (hr : Room 6 (A.deeper (envOfC d__law_sum.qual d__law_sum.scope s.heap.objs.size (d__law_sum.at_ (GG K).K) cdv))) :
    PSs (cxOf (L2.CX P w) P w (GG K).K mg base ["_law_one", "_law_other", "_law_sign", "_law_found", "_law_place", "_law_x", "_law_y"] d__law_sum.qual d__law_sum.scope (d__law_sum.at_ (GG K).K) cdv A outer s H Ex) d__law_sum.body (dS (GG K) ξ b__law_sum (fun c d' _ H => Ex c d' H)) := by
  have hh : Here (GG K) P w mg base 6 (cxOf (L2.CX P w) P w (GG K).K mg base ["_law_one", "_law_other", "_law_sign", "_law_found", "_law_place", "_law_x", "_law_y"] d__law_sum.qual d__law_sum.scope (d__law_sum.at_ (GG K).K) cdv A outer s H Ex) (fun c d' _ H => Ex c d' H) := here_of hr
  exact (dss_cons (ds_lcs (q := true) rfl sc__law_sum.nd (blkOk_by (own := [("_law_place", 4)]) (by kernel_rfl)) (diq (di_range1 (da_cons (de_b2 (cr_max rfl) (B.free (k44 B)) (by decide +kernel) (de_b1 (cr_len hh.K) (B.free (k42 B)) (by decide +kernel) (dv_of (de_var 0))) (de_b1 (cr_len hh.K) (B.free (k42 B)) (by decide +kernel) (dv_of (de_var 1)))) da_nil) (B.free (k46 B)))) (fun _ _ _ _ _ => (dg_name sc__law_sum.nd)) (fun _ _ _ _ _ => dts_nil) (fun _ _ _ _ _ => (de_tup (da_cons de_int (da_cons de_int da_nil)))))
    (dss_cons (ds_for (passes_of rfl) rfl (di_range1 (da_cons (de_b1 (cr_len hh.K) (B.free (k42 B)) (by decide +kernel) (dv_of (de_var 3))) da_nil) (B.free (k46 B))) (dg_name sc__law_sum.nd) (dss_cons (ds_set sc__law_sum.nd (de_if (dt_cmp op_iLt (de_var 4) (de_b1 (cr_len hh.K) (B.free (k42 B)) (by decide +kernel) (dv_of (de_var 0)))) (de_ix hh.K (dv_of (de_var 0)) (de_var 4)) (de_tup (da_cons de_int (da_cons de_int da_nil)))))
    (dss_cons (ds_set sc__law_sum.nd (de_if (dt_cmp op_iLt (de_var 4) (de_b1 (cr_len hh.K) (B.free (k42 B)) (by decide +kernel) (dv_of (de_var 1)))) (de_ix hh.K (dv_of (de_var 1)) (de_var 4)) (de_tup (da_cons de_int (da_cons de_int da_nil)))))
    (dss_one (ds_store (de_var 3) (de_var 4) (de_call hh (c__law_plus B) (da_cons (de_var 5) (da_cons (de_call hh (c__law_times B) (da_cons (de_tup (da_cons (de_var 2) (da_cons de_int da_nil))) (da_cons (de_var 6) da_nil))) da_nil))))))))
    (dss_one (ds_ret (de_call hh (c__law_trim B) (da_cons (de_var 3) da_nil))))))
theorem c__law_sum (B : BB K mg) : Cal (GG K) P w mg base 7 "_law_sum" 3 D__law_sum := cal_of (Γ := GG K) (k := 6) (d := d__law_sum) (ξ := ⟨0, .none, none⟩) (body := b__law_sum) B 34 sc__law_sum (k62 B) (p__law_sum B) (fun _ _ _ _ _ _ us hl => match us, hl with | [_, _, _], _ => rfl)
noncomputable def b__law_product : SF := (sSeq (sAsg (tgN 2) (eLc true [3] (itRange1 (aCons (eOp2 iAdd (eOp1 gLen (eVar 0)) (eOp1 gLen (eVar 1))) aNil)) (tgN 3) eYes (eTup (aCons (eC (.int 0)) (aCons (eC (.int 1)) aNil)))))
    (sSeq (sFor (itEnum (aCons (eVar 0) aNil)) (tgT 2 (tsCons (tgN 3) (tsCons (tgN 4) tsNil))) (sFor (itEnum (aCons (eVar 1) aNil)) (tgT 2 (tsCons (tgN 5) (tsCons (tgN 6) tsNil))) (sStore (eVar 2) (eOp2 iAdd (eVar 3) (eVar 5)) (eCall 2 D__law_plus (aCons (eOp2 gIx (eVar 2) (eOp2 iAdd (eVar 3) (eVar 5))) (aCons (eCall 2 D__law_times (aCons (eVar 4) (aCons (eVar 6) aNil))) aNil))))))
    (sRet (eCall 1 D__law_trim (aCons (eVar 2) aNil)))))
noncomputable def D__law_product : List D → Store → Res := fnD 7 b__law_product
theorem p__law_product (B : BB K mg) {ξ : Xx} (cdv : Value) (A : Around) (outer : List Env) (s : Shared) (H : Hp) (Ex : XK) (hr : Room 6 (A.deeper (envOfC d__law_product.qual d__law_product.scope s.heap.objs.size (d__law_product.at_ (GG K).K) cdv))) :
    PSs (cxOf (L2.CX P w) P w (GG K).K mg base ["_law_one", "_law_other", "_law_found", "_law_place", "_law_x", "_law_further", "_law_y"] d__law_product.qual d__law_product.scope (d__law_product.at_ (GG K).K) cdv A outer s H Ex) d__law_product.body (dS (GG K) ξ b__law_product (fun c d' _ H => Ex c d' H)) := by
  have hh : Here (GG K) P w mg base 6 (cxOf (L2.CX P w) P w (GG K).K mg base ["_law_one", "_law_other", "_law_found", "_law_place", "_law_x", "_law_further", "_law_y"] d__law_product.qual d__law_product.scope (d__law_product.at_ (GG K).K) cdv A outer s H Ex) (fun c d' _ H => Ex c d' H) := here_of hr
  exact (dss_cons (ds_lcs (q := true) rfl sc__law_product.nd (blkOk_by (own := [("_law_place", 3)]) (by kernel_rfl)) (diq (di_range1 (da_cons (de_op op_iAdd (de_b1 (cr_len hh.K) (B.free (k42 B)) (by decide +kernel) (dv_of (de_var 0))) (de_b1 (cr_len hh.K) (B.free (k42 B)) (by decide +kernel) (dv_of (de_var 1)))) da_nil) (B.free (k46 B)))) (fun _ _ _ _ _ => (dg_name sc__law_product.nd)) (fun _ _ _ _ _ => dts_nil) (fun _ _ _ _ _ => (de_tup (da_cons de_int (da_cons de_int da_nil)))))
    (dss_cons (ds_for (passes_of rfl) rfl (di_enum hh.K (B.free (k55 B)) (da_cons (de_var 0) da_nil)) (dg_tup hh.K rfl (dgs_cons (dg_name sc__law_product.nd) (dgs_cons (dg_name sc__law_product.nd) dgs_nil))) (dss_one (ds_for (passes_of rfl) rfl (di_enum hh.K (B.free (k55 B)) (da_cons (de_var 1) da_nil)) (dg_tup hh.K rfl (dgs_cons (dg_name sc__law_product.nd) (dgs_cons (dg_name sc__law_product.nd) dgs_nil))) (dss_one (ds_store (de_var 2) (de_op op_iAdd (de_var 3) (de_var 5)) (de_call hh (c__law_plus B) (da_cons (de_ix hh.K (dv_of (de_var 2)) (de_op op_iAdd (de_var 3) (de_var 5))) (da_cons (de_call hh (c__law_times B) (da_cons (de_var 4) (da_cons (de_var 6) da_nil))) da_nil))))))))
    (dss_one (ds_ret (de_call hh (c__law_trim B) (da_cons (de_var 2) da_nil))))))
theorem c__law_product (B : BB K mg) : Cal (GG K) P w mg base 7 "_law_product" 2 D__law_product := cal_of (Γ := GG K) (k := 6) (d := d__law_product) (ξ := ⟨0, .none, none⟩) (body := b__law_product) B 35 sc__law_product (k63 B) (p__law_product B) (fun _ _ _ _ _ _ us hl => match us, hl with | [_, _], _ => rfl)
noncomputable def b_Ratiod__negd_ : SF := (sRet (eNew 0 2 [] I_Ratiod__initd_ (aCons (eOp1 iNeg (eOp1 (gSlot 0 1) (eVar 0))) (aCons (eOp1 (gSlot 0 0) (eVar 0)) aNil))))
noncomputable def D_Ratiod__negd_ : List D → Store → Res := fnD 1 b_Ratiod__negd_
theorem p_Ratiod__negd_ (B : BB K mg) {ξ : Xx} (cdv : Value) (A : Around) (outer : List Env) (s : Shared) (H : Hp) (Ex : XK) (hr : Room 4 (A.deeper (envOfC d_Ratiod__negd_.qual d_Ratiod__negd_.scope s.heap.objs.size (d_Ratiod__negd_.at_ (GG K).K) cdv))) :
    PSs (cxOf (L2.CX P w) P w (GG K).K mg base ["self"] d_Ratiod__negd_.qual d_Ratiod__negd_.scope (d_Ratiod__negd_.at_ (GG K).K) cdv A outer s H Ex) d_Ratiod__negd_.body (dS (GG K) ξ b_Ratiod__negd_ (fun c d' _ H => Ex c d' H)) := by
  have hh : Here (GG K) P w mg base 4 (cxOf (L2.CX P w) P w (GG K).K mg base ["self"] d_Ratiod__negd_.qual d_Ratiod__negd_.scope (d_Ratiod__negd_.at_ (GG K).K) cdv A outer s H Ex) (fun c d' _ H => Ex c d' H) := here_of hr
  exact (dss_one (ds_ret (de_new hh (mk_Ratiod__initd__2 B) (da_cons (de_un un_iNeg (de_slot hh.K (sl0 B) (st0_up B) (de_var 0))) (da_cons (de_slot hh.K (sl0 B) (st0_down B) (de_var 0)) da_nil)))))
theorem c_Ratiod__negd_ (B : BB K mg) : CalR (GG K) P w mg base 5 (ma K (ga K "Ratio") "__neg__") 1 D_Ratiod__negd_ := calR_of (Γ := GG K) (k := 4) (d := d_Ratiod__negd_) (ξ := ⟨0, .none, none⟩) (body := b_Ratiod__negd_) B 37 sc_Ratiod__negd_ (p_Ratiod__negd_ B) (fun _ _ _ _ _ _ us hl => match us, hl with | [_], _ => rfl)
noncomputable def b_Polyd__negd_ : SF := (sRet (eNewC 4 1 1 [] I_Polyd__initd_ (aCons (eLc false [1] (itSeq (eOp1 (gSlot 4 0) (eVar 0))) (tgN 1) eYes (eOp1 (gOwn1 0 D_Ratiod__negd_) (eVar 1))) aNil)))
noncomputable def D_Polyd__negd_ : List D → Store → Res := fnD 2 b_Polyd__negd_
theorem p_Polyd__negd_ (B : BB K mg) {ξ : Xx} (cdv : Value) (A : Around) (outer : List Env) (s : Shared) (H : Hp) (Ex : XK) (hr : Room 7 (A.deeper (envOfC d_Polyd__negd_.qual d_Polyd__negd_.scope s.heap.objs.size (d_Polyd__negd_.at_ (GG K).K) cdv))) :
    PSs (cxOf (L2.CX P w) P w (GG K).K mg base ["self", "number"] d_Polyd__negd_.qual d_Polyd__negd_.scope (d_Polyd__negd_.at_ (GG K).K) cdv A outer s H Ex) d_Polyd__negd_.body (dS (GG K) ξ b_Polyd__negd_ (fun c d' _ H => Ex c d' H)) := by
  have hh : Here (GG K) P w mg base 7 (cxOf (L2.CX P w) P w (GG K).K mg base ["self", "number"] d_Polyd__negd_.qual d_Polyd__negd_.scope (d_Polyd__negd_.at_ (GG K).K) cdv A outer s H Ex) (fun c d' _ H => Ex c d' H) := here_of hr
  exact (dss_one (ds_ret (de_newC hh (mk_Polyd__initd__1 B) (da_cons (de_lc (q := false) rfl sc_Polyd__negd_.nd (diq_seqT hh.K (dv_of (de_fld hh.K (cl4 B) (i := 0) rfl (de_var 0)))) (blkOk_by (own := [("number", 1)]) (by kernel_rfl)) (fun _ _ _ _ _ => (dg_name sc_Polyd__negd_.nd)) (fun _ _ _ _ _ => dts_nil) (fun _ _ _ _ _ => (de_un (un_own hh.blk (spB_ok (k64 B)).1 (spB_ok (k64 B)).2 (c_Ratiod__negd_ B)) (de_var 1)))) da_nil))))
theorem c_Polyd__negd_ (B : BB K mg) : CalR (GG K) P w mg base 8 (ma K (ga K "Poly") "__neg__") 1 D_Polyd__negd_ := calR_of (Γ := GG K) (k := 7) (d := d_Polyd__negd_) (ξ := ⟨0, .none, none⟩) (body := b_Polyd__negd_) B 36 sc_Polyd__negd_ (p_Polyd__negd_ B) (fun _ _ _ _ _ _ us hl => match us, hl with | [_], _ => rfl)
noncomputable def b_Polyd__muld_ : SF := (sSeq (sAsg (tgN 2) (eLc true [3] (itRange1 (aCons (eOp2 iAdd (eOp1 gLen (eOp1 (gSlot 4 0) (eVar 0))) (eOp1 gLen (eOp1 (gSlot 4 0) (eVar 1)))) aNil)) (tgN 3) eYes (eNew 0 2 [.int 1] I_Ratiod__initd_ (aCons (eC (.int 0)) aNil))))
    (sSeq (sFor (itEnum (aCons (eOp1 (gSlot 4 0) (eVar 0)) aNil)) (tgT 2 (tsCons (tgN 3) (tsCons (tgN 4) tsNil))) (sFor (itEnum (aCons (eOp1 (gSlot 4 0) (eVar 1)) aNil)) (tgT 2 (tsCons (tgN 5) (tsCons (tgN 6) tsNil))) (sStore (eVar 2) (eOp2 iAdd (eVar 3) (eVar 5)) (eOp2 (gOwn 0 D_Ratiod__addd_) (eOp2 gIx (eVar 2) (eOp2 iAdd (eVar 3) (eVar 5))) (eOp2 (gOwn 0 D_Ratiod__muld_) (eVar 4) (eVar 6))))))
    (sRet (eNewC 4 1 1 [] I_Polyd__initd_ (aCons (eVar 2) aNil)))))
noncomputable def D_Polyd__muld_ : List D → Store → Res := fnD 7 b_Polyd__muld_
theorem p_Polyd__muld_ (B : BB K mg) {ξ : Xx} (cdv : Value) (A : Around) (outer : List Env) (s : Shared) (H : Hp) (Ex : XK) (hr : Room 7 (A.deeper (envOfC d_Polyd__muld_.qual d_Polyd__muld_.scope s.heap.objs.size (d_Polyd__muld_.at_ (GG K).K) cdv))) :
    PSs (cxOf (L2.CX P w) P w (GG K).K mg base ["self", "other", "found", "place", "one", "further", "two"] d_Polyd__muld_.qual d_Polyd__muld_.scope (d_Polyd__muld_.at_ (GG K).K) cdv A outer s H Ex) d_Polyd__muld_.body (dS (GG K) ξ b_Polyd__muld_ (fun c d' _ H => Ex c d' H)) := by
  have hh : Here (GG K) P w mg base 7 (cxOf (L2.CX P w) P w (GG K).K mg base ["self", "other", "found", "place", "one", "further", "two"] d_Polyd__muld_.qual d_Polyd__muld_.scope (d_Polyd__muld_.at_ (GG K).K) cdv A outer s H Ex) (fun c d' _ H => Ex c d' H) := here_of hr
  exact (dss_cons (ds_lcs (q := true) rfl sc_Polyd__muld_.nd (blkOk_by (own := [("place", 3)]) (by kernel_rfl)) (diq (di_range1 (da_cons (de_op op_iAdd (de_b1 (cr_len hh.K) (B.free (k42 B)) (by decide +kernel) (dv_of (de_fld hh.K (cl4 B) (i := 0) rfl (de_var 0)))) (de_b1 (cr_len hh.K) (B.free (k42 B)) (by decide +kernel) (dv_of (de_fld hh.K (cl4 B) (i := 0) rfl (de_var 1))))) da_nil) (B.free (k46 B)))) (fun _ _ _ _ _ => (dg_name sc_Polyd__muld_.nd)) (fun _ _ _ _ _ => dts_nil) (fun _ _ _ _ _ => (de_new hh.blk (mk_Ratiod__initd__1 B) (da_cons de_int da_nil))))
    (dss_cons (ds_for (passes_of rfl) rfl (di_enum hh.K (B.free (k55 B)) (da_cons (de_fld hh.K (cl4 B) (i := 0) rfl (de_var 0)) da_nil)) (dg_tup hh.K rfl (dgs_cons (dg_name sc_Polyd__muld_.nd) (dgs_cons (dg_name sc_Polyd__muld_.nd) dgs_nil))) (dss_one (ds_for (passes_of rfl) rfl (di_enum hh.K (B.free (k55 B)) (da_cons (de_fld hh.K (cl4 B) (i := 0) rfl (de_var 1)) da_nil)) (dg_tup hh.K rfl (dgs_cons (dg_name sc_Polyd__muld_.nd) (dgs_cons (dg_name sc_Polyd__muld_.nd) dgs_nil))) (dss_one (ds_store (de_var 2) (de_op op_iAdd (de_var 3) (de_var 5)) (de_op (op_own hh (bnB_ok (k27 B)) (c_Ratiod__addd_ B)) (de_ix hh.K (dv_of (de_var 2)) (de_op op_iAdd (de_var 3) (de_var 5))) (de_op (op_own hh (bnB_ok (k26 B)) (c_Ratiod__muld_ B)) (de_var 4) (de_var 6))))))))
    (dss_one (ds_ret (de_newC hh (mk_Polyd__initd__1 B) (da_cons (de_var 2) da_nil))))))
theorem c_Polyd__muld_ (B : BB K mg) : CalR (GG K) P w mg base 8 (ma K (ga K "Poly") "__mul__") 2 D_Polyd__muld_ := calR_of (Γ := GG K) (k := 7) (d := d_Polyd__muld_) (ξ := ⟨0, .none, none⟩) (body := b_Polyd__muld_) B 38 sc_Polyd__muld_ (p_Polyd__muld_ B) (fun _ _ _ _ _ _ us hl => match us, hl with | [_, _], _ => rfl)
noncomputable def b_paired : SF := (sSeq (sAsg (tgN 2) (eOp2 gMax (eOp1 gLen (eVar 0)) (eOp1 gLen (eVar 1))))
    (sSeq (sAsg (tgN 3) (eLc false [5] (itSeq (eTup (aCons (eVar 0) (aCons (eVar 1) aNil)))) (tgN 5) eYes (eLst (aStar (eVar 5) (aStar (eLc false [4] (itRange1 (aCons (eOp2 iSub (eVar 2) (eOp1 gLen (eVar 5))) aNil)) (tgN 4) eYes (eNew 0 2 [.int 1] I_Ratiod__initd_ (aCons (eC (.int 0)) aNil))) aNil)))))
    (sRet (eLz (aCons (eOp2 gIx (eVar 3) (eC (.int 0))) (aCons (eOp2 gIx (eVar 3) (eC (.int 1))) aNil))))))
noncomputable def D_paired : List D → Store → Res := fnD 6 b_paired
theorem p_paired (B : BB K mg) {ξ : Xx} (cdv : Value) (A : Around) (outer : List Env) (s : Shared) (H : Hp) (Ex : XK) (hr : Room 4 (A.deeper (envOfC d_paired.qual d_paired.scope s.heap.objs.size (d_paired.at_ (GG K).K) cdv))) :
    PSs (cxOf (L2.CX P w) P w (GG K).K mg base ["one", "other", "many", "longer", "place", "numbers"] d_paired.qual d_paired.scope (d_paired.at_ (GG K).K) cdv A outer s H Ex) d_paired.body (dS (GG K) ξ b_paired (fun c d' _ H => Ex c d' H)) := by
  have hh : Here (GG K) P w mg base 4 (cxOf (L2.CX P w) P w (GG K).K mg base ["one", "other", "many", "longer", "place", "numbers"] d_paired.qual d_paired.scope (d_paired.at_ (GG K).K) cdv A outer s H Ex) (fun c d' _ H => Ex c d' H) := here_of hr
  exact (dss_cons (ds_set sc_paired.nd (de_b2 (cr_max rfl) (B.free (k44 B)) (by decide +kernel) (de_b1 (cr_len hh.K) (B.free (k42 B)) (by decide +kernel) (dv_of (de_var 0))) (de_b1 (cr_len hh.K) (B.free (k42 B)) (by decide +kernel) (dv_of (de_var 1)))))
    (dss_cons (ds_lcs (q := false) rfl sc_paired.nd (blkOk_by (own := [("numbers", 5)]) (by kernel_rfl)) (diq_seqT hh.K (dv_of (de_tup (da_cons (de_var 0) (da_cons (de_var 1) da_nil))))) (fun _ _ _ _ _ => (dg_name sc_paired.nd)) (fun _ _ _ _ _ => dts_nil) (fun _ _ _ _ _ => (de_lst (da_star hh.blk.K (de_var 5) (da_star hh.blk.K (de_lc (q := false) rfl sc_paired.nd (diq (di_range1 (da_cons (de_op op_iSub (de_var 2) (de_b1 (cr_len hh.blk.K) (B.free (k42 B)) (by decide +kernel) (dv_of (de_var 5)))) da_nil) (B.free (k46 B)))) (blkOk_by (own := [("place", 4)]) (by kernel_rfl)) (fun _ _ _ _ _ => (dg_name sc_paired.nd)) (fun _ _ _ _ _ => dts_nil) (fun _ _ _ _ _ => (de_new hh.blk.blk (mk_Ratiod__initd__1 B) (da_cons de_int da_nil)))) da_nil)))))
    (dss_one (ds_ret (de_listzip rfl hh.K (B.free (k31 B)) (B.free (k67 B)) (da_cons (de_ix hh.K (dv_of (de_var 3)) de_int) (da_cons (de_ix hh.K (dv_of (de_var 3)) de_int) da_nil)))))))
theorem c_paired (B : BB K mg) : Cal (GG K) P w mg base 5 "paired" 2 D_paired := cal_of (Γ := GG K) (k := 4) (d := d_paired) (ξ := ⟨0, .none, none⟩) (body := b_paired) B 40 sc_paired (k68 B) (p_paired B) (fun _ _ _ _ _ _ us hl => match us, hl with | [_, _], _ => rfl)
noncomputable def b_Ratiod__subd_ : SF := (sSeq (sAsg (tgT 2 (tsCons (tgN 2) (tsCons (tgN 3) tsNil))) (eCall 1 D_parts (aCons (eVar 1) aNil)))
    (sRet (eNew 0 2 [] I_Ratiod__initd_ (aCons (eOp2 iSub (eOp2 iMul (eOp1 (gSlot 0 1) (eVar 0)) (eVar 3)) (eOp2 iMul (eVar 2) (eOp1 (gSlot 0 0) (eVar 0)))) (aCons (eOp2 iMul (eOp1 (gSlot 0 0) (eVar 0)) (eVar 3)) aNil)))))
noncomputable def D_Ratiod__subd_ : List D → Store → Res := fnD 4 b_Ratiod__subd_
theorem p_Ratiod__subd_ (B : BB K mg) {ξ : Xx} (cdv : Value) (A : Around) (outer : List Env) (s : Shared) (H : Hp) (Ex : XK) (hr : Room 4 (A.deeper (envOfC d_Ratiod__subd_.qual d_Ratiod__subd_.scope s.heap.objs.size (d_Ratiod__subd_.at_ (GG K).K) cdv))) :
    PSs (cxOf (L2.CX P w) P w (GG K).K mg base ["self", "other", "top", "bottom"] d_Ratiod__subd_.qual d_Ratiod__subd_.scope (d_Ratiod__subd_.at_ (GG K).K) cdv A outer s H Ex) d_Ratiod__subd_.body (dS (GG K) ξ b_Ratiod__subd_ (fun c d' _ H => Ex c d' H)) := by
  have hh : Here (GG K) P w mg base 4 (cxOf (L2.CX P w) P w (GG K).K mg base ["self", "other", "top", "bottom"] d_Ratiod__subd_.qual d_Ratiod__subd_.scope (d_Ratiod__subd_.at_ (GG K).K) cdv A outer s H Ex) (fun c d' _ H => Ex c d' H) := here_of hr
  exact (dss_cons (ds_asg (de_call hh (c_parts B) (da_cons (de_var 1) da_nil)) (dg_tup hh.K rfl (dgs_cons (dg_name sc_Ratiod__subd_.nd) (dgs_cons (dg_name sc_Ratiod__subd_.nd) dgs_nil))))
    (dss_one (ds_ret (de_new hh (mk_Ratiod__initd__2 B) (da_cons (de_op op_iSub (de_op op_iMul (de_slot hh.K (sl0 B) (st0_up B) (de_var 0)) (de_var 3)) (de_op op_iMul (de_var 2) (de_slot hh.K (sl0 B) (st0_down B) (de_var 0)))) (da_cons (de_op op_iMul (de_slot hh.K (sl0 B) (st0_down B) (de_var 0)) (de_var 3)) da_nil))))))
theorem c_Ratiod__subd_ (B : BB K mg) : CalR (GG K) P w mg base 5 (ma K (ga K "Ratio") "__sub__") 2 D_Ratiod__subd_ := calR_of (Γ := GG K) (k := 4) (d := d_Ratiod__subd_) (ξ := ⟨0, .none, none⟩) (body := b_Ratiod__subd_) B 41 sc_Ratiod__subd_ (p_Ratiod__subd_ B) (fun _ _ _ _ _ _ us hl => match us, hl with | [_, _], _ => rfl)
noncomputable def b_Polyd__subd_ : SF := (sRet (eNewC 4 1 1 [] I_Polyd__initd_ (aCons (eLc false [2, 3] (itSeq (eCall 2 D_paired (aCons (eOp1 (gSlot 4 0) (eVar 0)) (aCons (eOp1 (gSlot 4 0) (eVar 1)) aNil)))) (tgT 2 (tsCons (tgN 2) (tsCons (tgN 3) tsNil))) eYes (eOp2 (gOwn 0 D_Ratiod__subd_) (eVar 2) (eVar 3))) aNil)))
noncomputable def D_Polyd__subd_ : List D → Store → Res := fnD 4 b_Polyd__subd_
theorem p_Polyd__subd_ (B : BB K mg) {ξ : Xx} (cdv : Value) (A : Around) (outer : List Env) (s : Shared) (H : Hp) (Ex : XK) (hr : Room 7 (A.deeper (envOfC d_Polyd__subd_.qual d_Polyd__subd_.scope s.heap.objs.size (d_Polyd__subd_.at_ (GG K).K) cdv))) :
    PSs (cxOf (L2.CX P w) P w (GG K).K mg base ["self", "other", "one", "two"] d_Polyd__subd_.qual d_Polyd__subd_.scope (d_Polyd__subd_.at_ (GG K).K) cdv A outer s H Ex) d_Polyd__subd_.body (dS (GG K) ξ b_Polyd__subd_ (fun c d' _ H => Ex c d' H)) := by
  have hh : Here (GG K) P w mg base 7 (cxOf (L2.CX P w) P w (GG K).K mg base ["self", "other", "one", "two"] d_Polyd__subd_.qual d_Polyd__subd_.scope (d_Polyd__subd_.at_ (GG K).K) cdv A outer s H Ex) (fun c d' _ H => Ex c d' H) := here_of hr
  exact (dss_one (ds_ret (de_newC hh (mk_Polyd__initd__1 B) (da_cons (de_lc (q := false) rfl sc_Polyd__subd_.nd (diq_seqT hh.K (dv_of (de_call hh (c_paired B) (da_cons (de_fld hh.K (cl4 B) (i := 0) rfl (de_var 0)) (da_cons (de_fld hh.K (cl4 B) (i := 0) rfl (de_var 1)) da_nil))))) (blkOk_by (own := [("one", 2), ("two", 3)]) (by kernel_rfl)) (fun _ _ _ _ _ => (dg_tup hh.blk.K rfl (dgs_cons (dg_name sc_Polyd__subd_.nd) (dgs_cons (dg_name sc_Polyd__subd_.nd) dgs_nil)))) (fun _ _ _ _ _ => dts_nil) (fun _ _ _ _ _ => (de_op (op_own hh.blk (bnB_ok (k69 B)) (c_Ratiod__subd_ B)) (de_var 2) (de_var 3)))) da_nil))))
theorem c_Polyd__subd_ (B : BB K mg) : CalR (GG K) P w mg base 8 (ma K (ga K "Poly") "__sub__") 2 D_Polyd__subd_ := calR_of (Γ := GG K) (k := 7) (d := d_Polyd__subd_) (ξ := ⟨0, .none, none⟩) (body := b_Polyd__subd_) B 39 sc_Polyd__subd_ (p_Polyd__subd_ B) (fun _ _ _ _ _ _ us hl => match us, hl with | [_, _], _ => rfl)
noncomputable def b_Polyd__addd_ : SF := (sRet (eNewC 4 1 1 [] I_Polyd__initd_ (aCons (eLc false [2, 3] (itSeq (eCall 2 D_paired (aCons (eOp1 (gSlot 4 0) (eVar 0)) (aCons (eOp1 (gSlot 4 0) (eVar 1)) aNil)))) (tgT 2 (tsCons (tgN 2) (tsCons (tgN 3) tsNil))) eYes (eOp2 (gOwn 0 D_Ratiod__addd_) (eVar 2) (eVar 3))) aNil)))
noncomputable def D_Polyd__addd_ : List D → Store → Res := fnD 4 b_Polyd__addd_
theorem p_Polyd__addd_ (B : BB K mg) {ξ : Xx} (cdv : Value) (A : Around) (outer : List Env) (s : Shared) (H : Hp) (Ex : XK) (hr : Room 7 (A.deeper (envOfC d_Polyd__addd_.qual d_Polyd__addd_.scope s.heap.objs.size (d_Polyd__addd_.at_ (GG K).K) cdv))) :
    PSs (cxOf (L2.CX P w) P w (GG K).K mg base ["self", "other", "one", "two"] d_Polyd__addd_.qual d_Polyd__addd_.scope (d_Polyd__addd_.at_ (GG K).K) cdv A outer s H Ex) d_Polyd__addd_.body (dS (GG K) ξ b_Polyd__addd_ (fun c d' _ H => Ex c d' H)) := by
  have hh : Here (GG K) P w mg base 7 (cxOf (L2.CX P w) P w (GG K).K mg base ["self", "other", "one", "two"] d_Polyd__addd_.qual d_Polyd__addd_.scope (d_Polyd__addd_.at_ (GG K).K) cdv A outer s H Ex) (fun c d' _ H => Ex c d' H) := here_of hr
  exact (dss_one (ds_ret (de_newC hh (mk_Polyd__initd__1 B) (da_cons (de_lc (q := false) rfl sc_Polyd__addd_.nd (diq_seqT hh.K (dv_of (de_call hh (c_paired B) (da_cons (de_fld hh.K (cl4 B) (i := 0) rfl (de_var 0)) (da_cons (de_fld hh.K (cl4 B) (i := 0) rfl (de_var 1)) da_nil))))) (blkOk_by (own := [("one", 2), ("two", 3)]) (by kernel_rfl)) (fun _ _ _ _ _ => (dg_tup hh.blk.K rfl (dgs_cons (dg_name sc_Polyd__addd_.nd) (dgs_cons (dg_name sc_Polyd__addd_.nd) dgs_nil)))) (fun _ _ _ _ _ => dts_nil) (fun _ _ _ _ _ => (de_op (op_own hh.blk (bnB_ok (k27 B)) (c_Ratiod__addd_ B)) (de_var 2) (de_var 3)))) da_nil))))
theorem c_Polyd__addd_ (B : BB K mg) : CalR (GG K) P w mg base 8 (ma K (ga K "Poly") "__add__") 2 D_Polyd__addd_ := calR_of (Γ := GG K) (k := 7) (d := d_Polyd__addd_) (ξ := ⟨0, .none, none⟩) (body := b_Polyd__addd_) B 42 sc_Polyd__addd_ (p_Polyd__addd_ B) (fun _ _ _ _ _ _ us hl => match us, hl with | [_, _], _ => rfl)
noncomputable def b__law_pair_right : SF := (sSeq (sPar 3 4 (aCons (eCall 1 D__law_made (aCons (eVar 0) aNil)) (aCons (eCall 1 D__law_made (aCons (eVar 1) aNil)) aNil)))
    (sSeq (sAsg (tgT 2 (tsCons (tgN 5) (tsCons (tgN 6) tsNil))) (eTup (aCons (eCall 1 D__law_trim (aCons (eVar 0) aNil)) (aCons (eCall 1 D__law_trim (aCons (eVar 1) aNil)) aNil))))
    (sSeq (sAsg (tgN 7) (eLst (aCons (eOp2 (gOwn 4 D_Polyd__addd_) (eVar 3) (eVar 4)) (aCons (eOp2 (gOwn 4 D_Polyd__subd_) (eVar 3) (eVar 4)) (aCons (eOp2 (gOwn 4 D_Polyd__muld_) (eVar 3) (eVar 4)) (aCons (eOp1 (gOwn1 4 D_Polyd__negd_) (eVar 3)) aNil))))))
    (sSeq (sAsg (tgN 8) (eLst (aCons (eCall 3 D__law_sum (aCons (eVar 5) (aCons (eVar 6) (aCons (eC (.int 1)) aNil)))) (aCons (eCall 3 D__law_sum (aCons (eVar 5) (aCons (eVar 6) (aCons (eOp1 iNeg (eC (.int 1))) aNil)))) (aCons (eCall 2 D__law_product (aCons (eVar 5) (aCons (eVar 6) aNil))) (aCons (eCall 3 D__law_sum (aCons (eLst aNil) (aCons (eVar 5) (aCons (eOp1 iNeg (eC (.int 1))) aNil)))) aNil))))))
    (sSeq (sIf (eOp2 gNe (eLc false [9] (itSeq (eVar 7)) (tgN 9) eYes (eCall 1 D__law_numbers (aCons (eVar 9) aNil))) (eVar 8)) (sRet (eC (.bl false))) sNil)
    (sSeq (sIf (eOp2 gNe (eLc false [9] (itSeq (eVar 7)) (tgN 9) eYes (eOp1 (gProp 4 D_Poly_degree) (eVar 9))) (eLc false [9] (itSeq (eVar 8)) (tgN 9) eYes (eOp2 iSub (eOp1 gLen (eVar 9)) (eC (.int 1))))) (sRet (eC (.bl false))) sNil)
    (sSeq (sIf (eOr (eOp2 gNe (eOp2 (gOwnEq [0, 4] 4 D_Polyd__eqd_) (eVar 3) (eVar 4)) (eOp2 gEq (eVar 5) (eVar 6))) (eOr (eNot (eOp2 (gOwnEq [0, 4] 4 D_Polyd__eqd_) (eVar 3) (eCall 1 D__law_made (aCons (eVar 5) aNil)))) (eOp2 (gOwnEq [0, 4] 4 D_Polyd__eqd_) (eVar 3) (eVar 5)))) (sRet (eC (.bl false))) sNil)
    (sSeq (sAsg (tgN 10) (eMeth 4 2 D_Poly_worth (eVar 3) (aCons (eCall 1 D__law_given (aCons (eVar 2) aNil)) aNil)))
    (sSeq (sIf (eOr (eNot (eOp2 (gIsi [0, 4]) (eVar 10) (eC (.cls 0)))) (eOp2 gNe (eCall 1 D__law_told (aCons (eVar 10) aNil)) (eCall 2 D__law_at (aCons (eVar 5) (aCons (eVar 2) aNil))))) (sRet (eC (.bl false))) sNil)
    (sSeq (sAsg (tgN 11) (eLc false [12] (itRange2 (aCons (eC (.int 1)) (aCons (eOp1 gLen (eVar 5)) aNil))) (tgN 12) eYes (eCall 2 D__law_times (aCons (eTup (aCons (eVar 12) (aCons (eC (.int 1)) aNil))) (aCons (eOp2 gIx (eVar 5) (eVar 12)) aNil)))))
    (sRet (eOp2 gEq (eCall 1 D__law_numbers (aCons (eMeth 4 1 D_Poly_derivative (eVar 3) aNil) aNil)) (eVar 11)))))))))))))
noncomputable def D__law_pair_right : List D → Store → Res := fnD 13 b__law_pair_right
theorem p__law_pair_right (B : BB K mg) {ξ : Xx} (cdv : Value) (A : Around) (outer : List Env) (s : Shared) (H : Hp) (Ex : XK) (hr : Room 8 (A.deeper (envOfC d__law_pair_right.qual d__law_pair_right.scope s.heap.objs.size (d__law_pair_right.at_ (GG K).K) cdv))) :
    PSs (cxOf (L2.CX P w) P w (GG K).K mg base ["_law_one", "_law_other", "_law_x", "_law_first", "_law_second", "_law_left", "_law_right", "_law_told_here", "_law_due", "_law_poly", "_law_thing", "_law_slope", "_law_place"] d__law_pair_right.qual d__law_pair_right.scope (d__law_pair_right.at_ (GG K).K) cdv A outer s H Ex) d__law_pair_right.body (dS (GG K) ξ b__law_pair_right (fun c d' _ H => Ex c d' H)) := by
  have hh : Here (GG K) P w mg base 8 (cxOf (L2.CX P w) P w (GG K).K mg base ["_law_one", "_law_other", "_law_x", "_law_first", "_law_second", "_law_left", "_law_right", "_law_told_here", "_law_due", "_law_poly", "_law_thing", "_law_slope", "_law_place"] d__law_pair_right.qual d__law_pair_right.scope (d__law_pair_right.at_ (GG K).K) cdv A outer s H Ex) (fun c d' _ H => Ex c d' H) := here_of hr
  exact (dss_cons (ds_par rfl sc__law_pair_right.nd (da_cons (de_call hh (c__law_made B) (da_cons (de_var 0) da_nil)) (da_cons (de_call hh (c__law_made B) (da_cons (de_var 1) da_nil)) da_nil)))
    (dss_cons (ds_asg (de_tup (da_cons (de_call hh (c__law_trim B) (da_cons (de_var 0) da_nil)) (da_cons (de_call hh (c__law_trim B) (da_cons (de_var 1) da_nil)) da_nil))) (dg_tup hh.K rfl (dgs_cons (dg_name sc__law_pair_right.nd) (dgs_cons (dg_name sc__law_pair_right.nd) dgs_nil))))
    (dss_cons (ds_set sc__law_pair_right.nd (de_lst (da_cons (de_op (op_own hh (bnB_ok (k71 B)) (c_Polyd__addd_ B)) (de_var 3) (de_var 4)) (da_cons (de_op (op_own hh (bnB_ok (k70 B)) (c_Polyd__subd_ B)) (de_var 3) (de_var 4)) (da_cons (de_op (op_own hh (bnB_ok (k66 B)) (c_Polyd__muld_ B)) (de_var 3) (de_var 4)) (da_cons (de_un (un_own hh (spB_ok (k65 B)).1 (spB_ok (k65 B)).2 (c_Polyd__negd_ B)) (de_var 3)) da_nil))))))
    (dss_cons (ds_set sc__law_pair_right.nd (de_lst (da_cons (de_call hh (c__law_sum B) (da_cons (de_var 5) (da_cons (de_var 6) (da_cons de_int da_nil)))) (da_cons (de_call hh (c__law_sum B) (da_cons (de_var 5) (da_cons (de_var 6) (da_cons (de_un un_iNeg de_int) da_nil)))) (da_cons (de_call hh (c__law_product B) (da_cons (de_var 5) (da_cons (de_var 6) da_nil))) (da_cons (de_call hh (c__law_sum B) (da_cons (de_lst da_nil) (da_cons (de_var 5) (da_cons (de_un un_iNeg de_int) da_nil)))) da_nil))))))
    (dss_cons (ds_if (dt_cmp (op_gNe hh.K hh.u64) (de_lc (q := false) rfl sc__law_pair_right.nd (diq_seqT hh.K (dv_of (de_var 7))) (blkOk_by (own := [("_law_poly", 9)]) (by kernel_rfl)) (fun _ _ _ _ _ => (dg_name sc__law_pair_right.nd)) (fun _ _ _ _ _ => dts_nil) (fun _ _ _ _ _ => (de_call hh.blk (c__law_numbers B) (da_cons (de_var 9) da_nil)))) (de_var 8)) (dss_one (ds_ret de_bl)) dss_nil)
    (dss_cons (ds_if (dt_cmp (op_gNe hh.K hh.u64) (de_lc (q := false) rfl sc__law_pair_right.nd (diq_seqT hh.K (dv_of (de_var 7))) (blkOk_by (own := [("_law_poly", 9)]) (by kernel_rfl)) (fun _ _ _ _ _ => (dg_name sc__law_pair_right.nd)) (fun _ _ _ _ _ => dts_nil) (fun _ _ _ _ _ => (de_propC hh.blk (cl4 B) (prB_ok (Γ := GG K) (k43 B)) (c_Poly_degree B) (de_var 9)))) (de_lc (q := false) rfl sc__law_pair_right.nd (diq_seqT hh.K (dv_of (de_var 8))) (blkOk_by (own := [("_law_poly", 9)]) (by kernel_rfl)) (fun _ _ _ _ _ => (dg_name sc__law_pair_right.nd)) (fun _ _ _ _ _ => dts_nil) (fun _ _ _ _ _ => (de_op op_iSub (de_b1 (cr_len hh.blk.K) (B.free (k42 B)) (by decide +kernel) (dv_of (de_var 9))) de_int)))) (dss_one (ds_ret de_bl)) dss_nil)
    (dss_cons (ds_if (PW.pt (dw_or (dt_cmp (op_gNe hh.K hh.u64) (de_cmp (op_ownEq hh (eqf4 B) (c_Polyd__eqd_ B)) (de_var 3) (de_var 4)) (de_cmp (op_gEq hh.K hh.u64) (de_var 5) (de_var 6))) (dw_or (dt_not (dt_cmp (op_ownEq hh (eqf4 B) (c_Polyd__eqd_ B)) (de_var 3) (de_call hh (c__law_made B) (da_cons (de_var 5) da_nil)))) (dw_or1 (dt_cmp (op_ownEq hh (eqf4 B) (c_Polyd__eqd_ B)) (de_var 3) (de_var 5)))))) (dss_one (ds_ret de_bl)) dss_nil)
    (dss_cons (ds_set sc__law_pair_right.nd (de_meth hh (.cl _ (cl4 B)) (mtB_ok (k40 B)) (c_Poly_worth B) (de_var 3) (da_cons (de_call hh (c__law_given B) (da_cons (de_var 2) da_nil)) da_nil)))
    (dss_cons (ds_if (PW.pt (dw_or (dt_not (dt_val (de_b2 (cr_isi hh.K (isf B)) (B.free (k9 B)) (by decide +kernel) (de_var 10) (de_glob hh.mg (B.cls (k23 B) rfl))))) (dw_or1 (dt_cmp (op_gNe hh.K hh.u64) (de_call hh (c__law_told B) (da_cons (de_var 10) da_nil)) (de_call hh (c__law_at B) (da_cons (de_var 5) (da_cons (de_var 2) da_nil))))))) (dss_one (ds_ret de_bl)) dss_nil)
    (dss_cons (ds_lcs (q := false) rfl sc__law_pair_right.nd (blkOk_by (own := [("_law_place", 12)]) (by kernel_rfl)) (diq (di_range2 (da_cons de_int (da_cons (de_b1 (cr_len hh.K) (B.free (k42 B)) (by decide +kernel) (dv_of (de_var 5))) da_nil)) (B.free (k46 B)))) (fun _ _ _ _ _ => (dg_name sc__law_pair_right.nd)) (fun _ _ _ _ _ => dts_nil) (fun _ _ _ _ _ => (de_call hh.blk (c__law_times B) (da_cons (de_tup (da_cons (de_var 12) (da_cons de_int da_nil))) (da_cons (de_ix hh.blk.K (dv_of (de_var 5)) (de_var 12)) da_nil)))))
    (dss_one (ds_ret (de_cmp (op_gEq hh.K hh.u64) (de_call hh (c__law_numbers B) (da_cons (de_meth0 hh (.cl _ (cl4 B)) (mtB_ok (k56 B)) (c_Poly_derivative B) (de_var 3)) da_nil)) (de_var 11))))))))))))))
theorem c__law_pair_right (B : BB K mg) : Cal (GG K) P w mg base 9 "_law_pair_right" 3 D__law_pair_right := cal_of (Γ := GG K) (k := 8) (d := d__law_pair_right) (ξ := ⟨0, .none, none⟩) (body := b__law_pair_right) B 27 sc__law_pair_right (k72 B) (p__law_pair_right B) (fun _ _ _ _ _ _ us hl => match us, hl with | [_, _, _], _ => rfl)
noncomputable def b__law_number : SF := (sSeq (sAsg (tgN 1) (eCall 2 D__law_take (aCons (eVar 0) (aCons (eC (.int 6)) aNil))))
    (sSeq (sIf (eOp2 gEq (eVar 1) (eC (.int 0))) (sRet (eCall 2 D__law_frac (aCons (eOp2 iSub (eCall 2 D__law_take (aCons (eVar 0) (aCons (eC (.int 13)) aNil))) (eC (.int 6))) (aCons (eC (.int 1)) aNil)))) sNil)
    (sSeq (sIf (eOp2 iLt (eVar 1) (eC (.int 4))) (sRet (eCall 2 D__law_frac (aCons (eOp2 iSub (eCall 2 D__law_take (aCons (eVar 0) (aCons (eC (.int 25)) aNil))) (eC (.int 12))) (aCons (eOp2 iAdd (eC (.int 1)) (eCall 2 D__law_take (aCons (eVar 0) (aCons (eC (.int 7)) aNil)))) aNil)))) sNil)
    (sSeq (sAsg (tgN 2) (eCall 2 D__law_frac (aCons (eOp2 iSub (eCall 2 D__law_take (aCons (eVar 0) (aCons (eOp2 iPow (eC (.int 10)) (eC (.int 29))) aNil))) (eOp2 iMul (eC (.int 5)) (eOp2 iPow (eC (.int 10)) (eC (.int 28))))) (aCons (eOp2 iAdd (eC (.int 1)) (eCall 2 D__law_take (aCons (eVar 0) (aCons (eOp2 iPow (eC (.int 10)) (eC (.int 29))) aNil)))) aNil))))
    (sRet (eIf (eOp2 gEq (eVar 1) (eC (.int 4))) (eVar 2) (eCall 2 D__law_frac (aCons (eCall 2 D__law_take (aCons (eVar 0) (aCons (eC (.int 3)) aNil))) (aCons (eOp2 iAdd (eC (.int 1)) (eCall 2 D__law_take (aCons (eVar 0) (aCons (eOp2 iPow (eC (.int 10)) (eC (.int 12))) aNil)))) aNil)))))))))
noncomputable def D__law_number : List D → Store → Res := fnD 3 b__law_number
theorem p__law_number (B : BB K mg) {ξ : Xx} (cdv : Value) (A : Around) (outer : List Env) (s : Shared) (H : Hp) (Ex : XK) (hr : Room 1 (A.deeper (envOfC d__law_number.qual d__law_number.scope s.heap.objs.size (d__law_number.at_ (GG K).K) cdv))) :
    PSs (cxOf (L2.CX P w) P w (GG K).K mg base ["_law_bag_here", "_law_way", "_law_great"] d__law_number.qual d__law_number.scope (d__law_number.at_ (GG K).K) cdv A outer s H Ex) d__law_number.body (dS (GG K) ξ b__law_number (fun c d' _ H => Ex c d' H)) := by
  have hh : Here (GG K) P w mg base 1 (cxOf (L2.CX P w) P w (GG K).K mg base ["_law_bag_here", "_law_way", "_law_great"] d__law_number.qual d__law_number.scope (d__law_number.at_ (GG K).K) cdv A outer s H Ex) (fun c d' _ H => Ex c d' H) := here_of hr
  exact (dss_cons (ds_set sc__law_number.nd (de_call hh (c__law_take B) (da_cons (de_var 0) (da_cons de_int da_nil))))
    (dss_cons (ds_if (dt_cmp (op_gEq hh.K hh.u64) (de_var 1) de_int) (dss_one (ds_ret (de_call hh (c__law_frac B) (da_cons (de_op op_iSub (de_call hh (c__law_take B) (da_cons (de_var 0) (da_cons de_int da_nil))) de_int) (da_cons de_int da_nil))))) dss_nil)
    (dss_cons (ds_if (dt_cmp op_iLt (de_var 1) de_int) (dss_one (ds_ret (de_call hh (c__law_frac B) (da_cons (de_op op_iSub (de_call hh (c__law_take B) (da_cons (de_var 0) (da_cons de_int da_nil))) de_int) (da_cons (de_op op_iAdd de_int (de_call hh (c__law_take B) (da_cons (de_var 0) (da_cons de_int da_nil)))) da_nil))))) dss_nil)
    (dss_cons (ds_set sc__law_number.nd (de_call hh (c__law_frac B) (da_cons (de_op op_iSub (de_call hh (c__law_take B) (da_cons (de_var 0) (da_cons (de_op op_iPow de_int de_int) da_nil))) (de_op op_iMul de_int (de_op op_iPow de_int de_int))) (da_cons (de_op op_iAdd de_int (de_call hh (c__law_take B) (da_cons (de_var 0) (da_cons (de_op op_iPow de_int de_int) da_nil)))) da_nil))))
    (dss_one (ds_ret (de_if (dt_cmp (op_gEq hh.K hh.u64) (de_var 1) de_int) (de_var 2) (de_call hh (c__law_frac B) (da_cons (de_call hh (c__law_take B) (da_cons (de_var 0) (da_cons de_int da_nil))) (da_cons (de_op op_iAdd de_int (de_call hh (c__law_take B) (da_cons (de_var 0) (da_cons (de_op op_iPow de_int de_int) da_nil)))) da_nil))))))))))
theorem c__law_number (B : BB K mg) : Cal (GG K) P w mg base 2 "_law_number" 1 D__law_number := cal_of (Γ := GG K) (k := 1) (d := d__law_number) (ξ := ⟨0, .none, none⟩) (body := b__law_number) B 43 sc__law_number (k73 B) (p__law_number B) (fun _ _ _ _ _ _ us hl => match us, hl with | [_], _ => rfl)
noncomputable def b__law_drawn : SF := (sSeq (sAsg (tgN 1) (eLc false [2] (itRange1 (aCons (eCall 2 D__law_take (aCons (eVar 0) (aCons (eC (.int 7)) aNil))) aNil)) (tgN 2) eYes (eCall 1 D__law_number (aCons (eVar 0) aNil))))
    (sRet (eOp2 gCat (eVar 1) (eOp2 gRep (eLst (aCons (eTup (aCons (eC (.int 0)) (aCons (eC (.int 1)) aNil))) aNil)) (eCall 2 D__law_take (aCons (eVar 0) (aCons (eC (.int 3)) aNil)))))))
noncomputable def D__law_drawn : List D → Store → Res := fnD 3 b__law_drawn
theorem p__law_drawn (B : BB K mg) {ξ : Xx} (cdv : Value) (A : Around) (outer : List Env) (s : Shared) (H : Hp) (Ex : XK) (hr : Room 2 (A.deeper (envOfC d__law_drawn.qual d__law_drawn.scope s.heap.objs.size (d__law_drawn.at_ (GG K).K) cdv))) :
    PSs (cxOf (L2.CX P w) P w (GG K).K mg base ["_law_bag_here", "_law_found", "_law_lap"] d__law_drawn.qual d__law_drawn.scope (d__law_drawn.at_ (GG K).K) cdv A outer s H Ex) d__law_drawn.body (dS (GG K) ξ b__law_drawn (fun c d' _ H => Ex c d' H)) := by
  have hh : Here (GG K) P w mg base 2 (cxOf (L2.CX P w) P w (GG K).K mg base ["_law_bag_here", "_law_found", "_law_lap"] d__law_drawn.qual d__law_drawn.scope (d__law_drawn.at_ (GG K).K) cdv A outer s H Ex) (fun c d' _ H => Ex c d' H) := here_of hr
  exact (dss_cons (ds_lcs (q := false) rfl sc__law_drawn.nd (blkOk_by (own := [("_law_lap", 2)]) (by kernel_rfl)) (diq (di_range1 (da_cons (de_call hh (c__law_take B) (da_cons (de_var 0) (da_cons de_int da_nil))) da_nil) (B.free (k46 B)))) (fun _ _ _ _ _ => (dg_name sc__law_drawn.nd)) (fun _ _ _ _ _ => dts_nil) (fun _ _ _ _ _ => (de_call hh.blk (c__law_number B) (da_cons (de_var 0) da_nil))))
    (dss_one (ds_ret (de_op (op_gCat hh.K) (de_var 1) (de_op (op_gRep hh.K) (de_lst (da_cons (de_tup (da_cons de_int (da_cons de_int da_nil))) da_nil)) (de_call hh (c__law_take B) (da_cons (de_var 0) (da_cons de_int da_nil))))))))
theorem c__law_drawn (B : BB K mg) : Cal (GG K) P w mg base 3 "_law_drawn" 1 D__law_drawn := cal_of (Γ := GG K) (k := 2) (d := d__law_drawn) (ξ := ⟨0, .none, none⟩) (body := b__law_drawn) B 44 sc__law_drawn (k74 B) (p__law_drawn B) (fun _ _ _ _ _ _ us hl => match us, hl with | [_], _ => rfl)
noncomputable def b__law_bag : SF := (sRet (eCell (aCons (eOp2 gMax (eC (.int 0)) (eOp2 iSub (eVar 0) (eOp2 iPow (eC (.int 10)) (eC (.int 18))))) (aCons (eOp2 iMod (eVar 0) (eC (.int 2147483629))) (aCons (eC (.int 0)) aNil)))))
noncomputable def D__law_bag : List D → Store → Res := fnD 1 b__law_bag
theorem p__law_bag (B : BB K mg) {ξ : Xx} (cdv : Value) (A : Around) (outer : List Env) (s : Shared) (H : Hp) (Ex : XK) (hr : Room 0 (A.deeper (envOfC d__law_bag.qual d__law_bag.scope s.heap.objs.size (d__law_bag.at_ (GG K).K) cdv))) :
    PSs (cxOf (L2.CX P w) P w (GG K).K mg base ["_law_cell_here"] d__law_bag.qual d__law_bag.scope (d__law_bag.at_ (GG K).K) cdv A outer s H Ex) d__law_bag.body (dS (GG K) ξ b__law_bag (fun c d' _ H => Ex c d' H)) := by
  have hh : Here (GG K) P w mg base 0 (cxOf (L2.CX P w) P w (GG K).K mg base ["_law_cell_here"] d__law_bag.qual d__law_bag.scope (d__law_bag.at_ (GG K).K) cdv A outer s H Ex) (fun c d' _ H => Ex c d' H) := here_of hr
  exact (dss_one (ds_ret (de_cell (da_cons (de_b2 (cr_max rfl) (B.free (k44 B)) (by decide +kernel) de_int (de_op op_iSub (de_var 0) (de_op op_iPow de_int de_int))) (da_cons (de_op op_iMod (de_var 0) de_int) (da_cons de_int da_nil))))))
theorem c__law_bag (B : BB K mg) : Cal (GG K) P w mg base 1 "_law_bag" 1 D__law_bag := cal_of (Γ := GG K) (k := 0) (d := d__law_bag) (ξ := ⟨0, .none, none⟩) (body := b__law_bag) B 45 sc__law_bag (k75 B) (p__law_bag B) (fun _ _ _ _ _ _ us hl => match us, hl with | [_], _ => rfl)
noncomputable def b__law_cell : SF := (sSeq (sIf (eOp2 iLt (eVar 1) (eOp1 gLen (eVar 0))) (sRet (eOp2 gIx (eVar 0) (eVar 1))) sNil)
    (sRet (eOp2 iAdd (eOp2 iMul (eC (.int 86028121)) (eVar 1)) (eC (.int 947)))))
noncomputable def D__law_cell : List D → Store → Res := fnD 2 b__law_cell
theorem p__law_cell (B : BB K mg) {ξ : Xx} (cdv : Value) (A : Around) (outer : List Env) (s : Shared) (H : Hp) (Ex : XK) (hr : Room 0 (A.deeper (envOfC d__law_cell.qual d__law_cell.scope s.heap.objs.size (d__law_cell.at_ (GG K).K) cdv))) :
    PSs (cxOf (L2.CX P w) P w (GG K).K mg base ["_law_script", "_law_index"] d__law_cell.qual d__law_cell.scope (d__law_cell.at_ (GG K).K) cdv A outer s H Ex) d__law_cell.body (dS (GG K) ξ b__law_cell (fun c d' _ H => Ex c d' H)) := by
  have hh : Here (GG K) P w mg base 0 (cxOf (L2.CX P w) P w (GG K).K mg base ["_law_script", "_law_index"] d__law_cell.qual d__law_cell.scope (d__law_cell.at_ (GG K).K) cdv A outer s H Ex) (fun c d' _ H => Ex c d' H) := here_of hr
  exact (dss_cons (ds_if (dt_cmp op_iLt (de_var 1) (de_b1 (cr_len hh.K) (B.free (k42 B)) (by decide +kernel) (dv_of (de_var 0)))) (dss_one (ds_ret (de_ix hh.K (dv_of (de_var 0)) (de_var 1)))) dss_nil)
    (dss_one (ds_ret (de_op op_iAdd (de_op op_iMul de_int (de_var 1)) de_int))))
theorem c__law_cell (B : BB K mg) : Cal (GG K) P w mg base 1 "_law_cell" 2 D__law_cell := cal_of (Γ := GG K) (k := 0) (d := d__law_cell) (ξ := ⟨0, .none, none⟩) (body := b__law_cell) B 46 sc__law_cell (k76 B) (p__law_cell B) (fun _ _ _ _ _ _ us hl => match us, hl with | [_, _], _ => rfl)
noncomputable def b_law : SF := (sSeq (sFor (itRange1 (aCons (eOp2 gMax (eC (.int 2)) (eOp2 gMin (eC (.int 6)) (eOp1 gLen (eVar 0)))) aNil)) (tgN 1) (sSeq (sAsg (tgN 2) (eCall 1 D__law_bag (aCons (eCall 2 D__law_cell (aCons (eVar 0) (aCons (eVar 1) aNil))) aNil)))
    (sSeq (sPar 3 4 (aCons (eCall 1 D__law_drawn (aCons (eVar 2) aNil)) (aCons (eCall 1 D__law_drawn (aCons (eVar 2) aNil)) aNil)))
    (sSeq (sFor (itSeq (eLst (aCons (eTup (aCons (eVar 3) (aCons (eVar 4) aNil))) (aCons (eTup (aCons (eVar 4) (aCons (eVar 3) aNil))) (aCons (eTup (aCons (eVar 3) (aCons (eOp2 gCat (eVar 3) (eLst (aCons (eTup (aCons (eC (.int 0)) (aCons (eC (.int 1)) aNil))) aNil))) aNil))) aNil))))) (tgN 5) (sIf (eNot (eCall 3 D__law_pair_right (aCons (eOp2 gIx (eVar 5) (eC (.int 0))) (aCons (eOp2 gIx (eVar 5) (eC (.int 1))) (aCons (eCall 1 D__law_number (aCons (eVar 2) aNil)) aNil))))) (sRet (eC (.bl false))) sNil))
    (sSeq (sAsg (tgN 6) (eLc true [7] (itSeq (eVar 3)) (tgN 7) eYes (eCall 1 D__law_given (aCons (eVar 7) aNil))))
    (sSeq (sAsg (tgN 8) (eNewC 4 1 1 [] I_Polyd__initd_ (aCons (eVar 6) aNil)))
    (sSeq (sIf (eOp2 (gNeT 0 2 D_Ratiod__eqd_) (eVar 6) (eLc true [7] (itSeq (eVar 3)) (tgN 7) eYes (eCall 1 D__law_given (aCons (eVar 7) aNil)))) (sRet (eC (.bl false))) sNil)
    (sSeq (sAppC (eVar 6) (eC (.int 5)))
    (sSeq (sAsg (tgN 9) (eMeth 4 1 D_Poly_numbers_c (eVar 8) aNil))
    (sSeq (sAppC (eVar 9) (eNew 0 2 [.int 1] I_Ratiod__initd_ (aCons (eC (.int 9)) aNil)))
    (sSeq (sIf (eOr (eOp2 gNe (eCall 1 D__law_numbers (aCons (eVar 8) aNil)) (eCall 1 D__law_trim (aCons (eVar 3) aNil))) (eOp2 gNe (eCall 1 D__law_numbers (aCons (eNewC 4 1 1 [] I_Polyd__initd_ (aCons (eOp1 gTupOf (eSl gSlL (eVar 6) none (some (eOp1 iNeg (eC (.int 1)))))) aNil)) aNil)) (eCall 1 D__law_trim (aCons (eVar 3) aNil)))) (sRet (eC (.bl false))) sNil)
    (sSeq (sAsg (tgN 10) (eOp2 gIx (eLst (aCons (eC .non) (aCons (eC (.int 5)) (aCons (eC (.str "12")) (aCons eDict0 (aCons (eLst (aCons (eC .non) aNil)) (aCons (eLst (aCons (eC (.int 1)) (aCons (eC (.bl true)) aNil))) (aCons (eLst (aCons (eC (.str "1")) aNil)) (aCons (eLst (aCons (eLst (aCons (eC (.int 1)) aNil)) aNil)) (aCons (eTup (aCons (eC (.int 1)) (aCons (eC .non) aNil))) aNil)))))))))) (eCall 2 D__law_take (aCons (eVar 2) (aCons (eC (.int 9)) aNil)))))
    (sIf (eOp2 (gOr gNe gNeL) (eCall 1 D__law_caught (aCons (eVar 10) aNil)) (eLst (aCons (eC (.str "poly")) (aCons (eVar 10) aNil)))) (sRet (eC (.bl false))) sNil)))))))))))))
    (sSeq (sIf (eOr (eOp2 (gOwnEq [0, 4] 4 D_Polyd__eqd_) (eNewC 4 1 1 [] I_Polyd__initd_ (aCons (eLst (aCons (eC (.int 5)) aNil)) aNil)) (eC (.int 5))) (eOr (eOp2 (gOwnEq [0, 4] 4 D_Polyd__eqd_) (eNewC 4 1 1 [] I_Polyd__initd_ (aCons (eLst (aCons (eC (.int 5)) aNil)) aNil)) (eNew 0 2 [.int 1] I_Ratiod__initd_ (aCons (eC (.int 5)) aNil))) (eOr (eOp2 (gOwnEq [0, 4] 0 D_Ratiod__eqd_) (eNew 0 2 [.int 1] I_Ratiod__initd_ (aCons (eC (.int 5)) aNil)) (eNewC 4 1 1 [] I_Polyd__initd_ (aCons (eLst (aCons (eC (.int 5)) aNil)) aNil))) (eOp2 (gOwnEq [0, 4] 4 D_Polyd__eqd_) (eNewC 4 1 1 [] I_Polyd__initd_ (aCons (eLst aNil) aNil)) (eC (.int 0)))))) (sRet (eC (.bl false))) sNil)
    (sRet (eAnd (eOp2 gEq (eOp1 (gProp 4 D_Poly_degree) (eNewC 4 1 1 [] I_Polyd__initd_ (aCons (eLst aNil) aNil))) (eOp1 iNeg (eC (.int 1)))) (eAnd (eOp2 (gOwnEq [0, 4] 4 D_Polyd__eqd_) (eNewC 4 1 1 [] I_Polyd__initd_ (aCons (eLst (aCons (eC (.int 0)) (aCons (eC (.int 0)) aNil))) aNil)) (eNewKC 4 1 1 1 (fun ds => ds) I_Polyd__initd_ (aCons (eLst aNil) aNil))) (eOp2 gEq (eCall 1 D__law_told (aCons (eMethK 4 2 1 (fun ds es => ds ++ es) D_Poly_worth (eNewC 4 1 1 [] I_Polyd__initd_ (aCons (eLst aNil) aNil)) (aCons (eC (.int 3)) aNil)) aNil)) (eTup (aCons (eC (.int 0)) (aCons (eC (.int 1)) aNil)))))))))
noncomputable def D_law : List D → Store → Res := fnD 11 b_law
theorem p_law (B : BB K mg) {ξ : Xx} (cdv : Value) (A : Around) (outer : List Env) (s : Shared) (H : Hp) (Ex : XK) (hr : Room 9 (A.deeper (envOfC d_law.qual d_law.scope s.heap.objs.size (d_law.at_ (GG K).K) cdv))) :
    PSs (cxOf (L2.CX P w) P w (GG K).K mg base ["_law_script", "_law_index", "_law_bag_here", "_law_one", "_law_other", "_law_pair", "_law_handed", "_law_x", "_law_built", "_law_told_here", "_law_odd"] d_law.qual d_law.scope (d_law.at_ (GG K).K) cdv A outer s H Ex) d_law.body (dS (GG K) ξ b_law (fun c d' _ H => Ex c d' H)) := by
  have hh : Here (GG K) P w mg base 9 (cxOf (L2.CX P w) P w (GG K).K mg base ["_law_script", "_law_index", "_law_bag_here", "_law_one", "_law_other", "_law_pair", "_law_handed", "_law_x", "_law_built", "_law_told_here", "_law_odd"] d_law.qual d_law.scope (d_law.at_ (GG K).K) cdv A outer s H Ex) (fun c d' _ H => Ex c d' H) := here_of hr
  exact (dss_cons (ds_for (passes_of rfl) rfl (di_range1 (da_cons (de_b2 (cr_max rfl) (B.free (k44 B)) (by decide +kernel) de_int (de_b2 (cr_min rfl) (B.free (k45 B)) (by decide +kernel) de_int (de_b1 (cr_len hh.K) (B.free (k42 B)) (by decide +kernel) (dv_of (de_var 0))))) da_nil) (B.free (k46 B))) (dg_name sc_law.nd) (dss_cons (ds_set sc_law.nd (de_call hh (c__law_bag B) (da_cons (de_call hh (c__law_cell B) (da_cons (de_var 0) (da_cons (de_var 1) da_nil))) da_nil)))
    (dss_cons (ds_par rfl sc_law.nd (da_cons (de_call hh (c__law_drawn B) (da_cons (de_var 2) da_nil)) (da_cons (de_call hh (c__law_drawn B) (da_cons (de_var 2) da_nil)) da_nil)))
    (dss_cons (ds_for (passes_of rfl) rfl (di_seq hh.K (de_lst (da_cons (de_tup (da_cons (de_var 3) (da_cons (de_var 4) da_nil))) (da_cons (de_tup (da_cons (de_var 4) (da_cons (de_var 3) da_nil))) (da_cons (de_tup (da_cons (de_var 3) (da_cons (de_op (op_gCat hh.K) (de_var 3) (de_lst (da_cons (de_tup (da_cons de_int (da_cons de_int da_nil))) da_nil))) da_nil))) da_nil))))) (dg_name sc_law.nd) (dss_one (ds_if (dt_not (dt_val (de_call hh (c__law_pair_right B) (da_cons (de_ix hh.K (dv_of (de_var 5)) de_int) (da_cons (de_ix hh.K (dv_of (de_var 5)) de_int) (da_cons (de_call hh (c__law_number B) (da_cons (de_var 2) da_nil)) da_nil)))))) (dss_one (ds_ret de_bl)) dss_nil)))
    (dss_cons (ds_lcs (q := true) rfl sc_law.nd (blkOk_by (own := [("_law_x", 7)]) (by kernel_rfl)) (diq_seqT hh.K (dv_of (de_var 3))) (fun _ _ _ _ _ => (dg_name sc_law.nd)) (fun _ _ _ _ _ => dts_nil) (fun _ _ _ _ _ => (de_call hh.blk (c__law_given B) (da_cons (de_var 7) da_nil))))
    (dss_cons (ds_set sc_law.nd (de_newC hh (mk_Polyd__initd__1 B) (da_cons (de_var 6) da_nil)))
    (dss_cons (ds_if (dt_cmpV (op_neT hh (eqf0 B) (by decide) (c_Ratiod__eqd_ B)) (dv_of (de_var 6)) (de_lc (q := true) rfl sc_law.nd (diq_seqT hh.K (dv_of (de_var 3))) (blkOk_by (own := [("_law_x", 7)]) (by kernel_rfl)) (fun _ _ _ _ _ => (dg_name sc_law.nd)) (fun _ _ _ _ _ => dts_nil) (fun _ _ _ _ _ => (de_call hh.blk (c__law_given B) (da_cons (de_var 7) da_nil))))) (dss_one (ds_ret de_bl)) dss_nil)
    (dss_cons (ds_appC hh.K (pe_bm PySem.F.plainAttrs_list PySem.F.slot_list_append PySem.F.type_list_append mt_append (de_var 6) (pa_cons de_int pa_nil)))
    (dss_cons (ds_set sc_law.nd (de_meth0 hh (.cl _ (cl4 B)) (mtB_ok (k51 B)) (c_Poly_numbers_c B) (de_var 8)))
    (dss_cons (ds_appC hh.K (pe_bm PySem.F.plainAttrs_list PySem.F.slot_list_append PySem.F.type_list_append mt_append (de_var 9) (pa_cons (de_new hh (mk_Ratiod__initd__1 B) (da_cons de_int da_nil)) pa_nil)))
    (dss_cons (ds_if (PW.pt (dw_or (dt_cmp (op_gNe hh.K hh.u64) (de_call hh (c__law_numbers B) (da_cons (de_var 8) da_nil)) (de_call hh (c__law_trim B) (da_cons (de_var 3) da_nil))) (dw_or1 (dt_cmp (op_gNe hh.K hh.u64) (de_call hh (c__law_numbers B) (da_cons (de_newC hh (mk_Polyd__initd__1 B) (da_cons (de_t1 (cr_tuple hh.K) (B.free (k30 B)) (by decide +kernel) (dv_of (de_sl (sl_gL hh.K) (dv_of (de_var 6)) do_none (do_some (de_un un_iNeg de_int))))) da_nil)) da_nil)) (de_call hh (c__law_trim B) (da_cons (de_var 3) da_nil)))))) (dss_one (ds_ret de_bl)) dss_nil)
    (dss_cons (ds_set sc_law.nd (de_ix hh.K (dv_of (de_lst (da_cons de_non (da_cons de_int (da_cons de_str (da_cons de_dict0 (da_cons (de_lst (da_cons de_non da_nil)) (da_cons (de_lst (da_cons de_int (da_cons de_bl da_nil))) (da_cons (de_lst (da_cons de_str da_nil)) (da_cons (de_lst (da_cons (de_lst (da_cons de_int da_nil)) da_nil)) (da_cons (de_tup (da_cons de_int (da_cons de_non da_nil))) da_nil))))))))))) (de_call hh (c__law_take B) (da_cons (de_var 2) (da_cons de_int da_nil)))))
    (dss_one (ds_if (dt_cmp (op_or (op_gNe hh.K hh.u64) (op_gNeL hh.K hh.u66)) (de_call hh (c__law_caught B) (da_cons (de_var 10) da_nil)) (de_lst (da_cons de_str (da_cons (de_var 10) da_nil)))) (dss_one (ds_ret de_bl)) dss_nil))))))))))))))
    (dss_cons (ds_if (PW.pt (dw_or (dt_cmp (op_ownEq hh (eqf4 B) (c_Polyd__eqd_ B)) (de_newC hh (mk_Polyd__initd__1 B) (da_cons (de_lst (da_cons de_int da_nil)) da_nil)) de_int) (dw_or (dt_cmp (op_ownEq hh (eqf4 B) (c_Polyd__eqd_ B)) (de_newC hh (mk_Polyd__initd__1 B) (da_cons (de_lst (da_cons de_int da_nil)) da_nil)) (de_new hh (mk_Ratiod__initd__1 B) (da_cons de_int da_nil))) (dw_or (dt_cmp (op_ownEq hh (eqf0 B) (c_Ratiod__eqd_ B)) (de_new hh (mk_Ratiod__initd__1 B) (da_cons de_int da_nil)) (de_newC hh (mk_Polyd__initd__1 B) (da_cons (de_lst (da_cons de_int da_nil)) da_nil))) (dw_or1 (dt_cmp (op_ownEq hh (eqf4 B) (c_Polyd__eqd_ B)) (de_newC hh (mk_Polyd__initd__1 B) (da_cons (de_lst da_nil) da_nil)) de_int)))))) (dss_one (ds_ret de_bl)) dss_nil)
    (dss_one (ds_ret (de_and (de_cmp (op_gEq hh.K hh.u64) (de_propC hh (cl4 B) (prB_ok (Γ := GG K) (k43 B)) (c_Poly_degree B) (de_newC hh (mk_Polyd__initd__1 B) (da_cons (de_lst da_nil) da_nil))) (de_un un_iNeg de_int)) (de_and (de_cmp (op_ownEq hh (eqf4 B) (c_Polyd__eqd_ B)) (de_newC hh (mk_Polyd__initd__1 B) (da_cons (de_lst (da_cons de_int (da_cons de_int da_nil))) da_nil)) (de_newKC (gD := fun ds => ds) (gV := fun ds => ds) hh (mkk_Polyd__initd__numbers B) (fun W ds vs r => r) (dk_cons (de_lst da_nil) dk_nil))) (de_one (de_cmp (op_gEq hh.K hh.u64) (de_call hh (c__law_told B) (da_cons (de_methK hh (.cl _ (cl4 B)) (mtB_ok (k40 B)) (kf_Poly_worth B) (fun _ _ _ _ _ r1 r2 => r1.append r2) (de_newC hh (mk_Polyd__initd__1 B) (da_cons (de_lst da_nil) da_nil)) (dk_cons de_int dk_nil)) da_nil)) (de_tup (da_cons de_int (da_cons de_int da_nil)))))))))))
theorem c_law (B : BB K mg) : Cal (GG K) P w mg base 10 "law" 1 D_law := cal_of (Γ := GG K) (k := 9) (d := d_law) (ξ := ⟨0, .none, none⟩) (body := b_law) B 0 sc_law (k77 B) (p_law B) (fun _ _ _ _ _ _ us hl => match us, hl with | [_], _ => rfl)
end
end K04
set_option Elab.async false
set_option linter.all false
set_option maxRecDepth 100000
set_option maxHeartbeats 2000000
set_option autoImplicit false
/-! Plain laws, 1: evaluation of the further words; loops. -/
namespace DL
open PySem L2
section
variable {es : List SD} {S S' : Store} {d x y : D} {ds : List D} {k : Nat} {fs : List (Str × D)}
@[simp] theorem eChain_eq {g g' : D → D → Store → Res} {a b c : EF} : eChain g g' a b c es S = (a es S).bind fun x S1 => (b es S1).bind fun y S2 => (g x y S2).nox.bind fun r S3 => match r with
  | .bl true => (c es S3).bind fun z S4 => (g' y z S4).nox
  | .bl false => .ok (.bl false) S3
  | _ => .bad := rfl
@[simp] theorem eIsiT_eq {cs : List Nat} {f : EF} {g : AF} : eIsiT cs f g es S = (f es S).bind fun x S1 => (g es S1).bind fun ds S2 => if ds.length ≤ 1000 then match isiT cs x ds with
  | some b => .ok (.bl b) S2
  | none => .bad
  else .bad := rfl
@[simp] theorem sAcc_eq {i : Nat} {a : AF} : sAcc i a es S = match a es S with
  | .ok ds S1 => if ds.length ≤ 1000000 then .next (es.set i (.acc ds)) S1 else .bad
  | .exc k fs S1 => .exc k fs es S1
  | .bad => .bad := rfl
@[simp] theorem sApp_eq {i : Nat} {f : EF} : sApp i f es S = match es[i]? with
  | some (.acc ds) => (f es S).toS es fun d S1 => if ds.length < 1000000 then .next (es.set i (.acc (ds ++ [d]))) S1 else .bad
  | _ => .bad := rfl
@[simp] theorem sAppC_eq {fo fe : EF} : sAppC fo fe es S = (fo es S).toS es fun o S1 => match o with
  | .cell c => (fe es S1).toS es fun d S2 => match S2[c]? with
    | some ds => if ds.length < 1000000 then .next es (S2.set c (ds ++ [d])) else .bad
    | none => .bad
  | _ => .bad := rfl
@[simp] theorem eNewC_eq {c n l : Nat} {dfl : List D} {F : List D → Store → ResA} {a : AF} : eNewC c n l dfl F a es S = (a es S).bind fun ds S1 => newC c n l F (ds ++ dfl) S1 := rfl
@[simp] theorem gLenO_eq {j : Nat} {den : List D → Store → Res} : gLenO j den (.obj j ds) S = match den [.obj j ds] S with
  | .ok (.int n) S' => if 0 ≤ n ∧ n < 2 ^ 63 then .ok (.int n) S' else .bad
  | _ => .bad := by
  unfold gLenO
  simp only [isObj_eq, if_true, chk_eq, List.length_cons, List.length_nil]
  all_goals
    cases den [.obj j ds] S with
    | ok d S' => cases d <;> rfl
    | exc k fs S' => rfl
    | bad => rfl
@[simp] theorem sRaise_eq {n : Nat} {f : Str} {a : EF} : sRaise n f a es S = (a es S).toS es fun d S1 => .exc n [(f, d)] es S1 := rfl
@[simp] theorem isi_str_str {cs : List Nat} {z : Str} : gIsi cs (.str z) (.ty "str") S = .ok (.bl true) S := by
  have e : tyIs "str" "str" = some true := by decide +kernel
  show (match tyIs "str" "str" with | some b => Res.ok (.bl b) S | none => .bad) = _
  rw [e]
@[simp] theorem isi_tup_tup {cs : List Nat} : gIsi cs (.tup ds) (.ty "tuple") S = .ok (.bl true) S := by
  have e : tyIs "tuple" "tuple" = some true := by decide +kernel
  show (match tyIs "tuple" "tuple" with | some b => Res.ok (.bl b) S | none => .bad) = _
  rw [e]
@[simp] theorem isi_lst_list {cs : List Nat} : gIsi cs (.lst ds) (.ty "list") S = .ok (.bl true) S := by
  have e : tyIs "list" "list" = some true := by decide +kernel
  show (match tyIs "list" "list" with | some b => Res.ok (.bl b) S | none => .bad) = _
  rw [e]
theorem isi_non_bool {cs : List Nat} : gIsi cs .non (.ty "bool") S = .ok (.bl false) S := by
  have e : tyIs "NoneType" "bool" = some false := by decide +kernel
  show (match tyIs "NoneType" "bool" with | some b => Res.ok (.bl b) S | none => .bad) = _
  rw [e]

/-! ### things that are walked -/
/-- d is a list, a tuple, a cell with the items ds -/
structure Sq (S : Store) (d : D) (ds : List D) : Prop where
  ex : ∃ t g, seqV S d = some (t, ds, g) ∧ g.ok S
theorem Sq.lst : Sq S (.lst ds) ds := ⟨false, [], rfl, Gd.ok_nil S⟩
theorem Sq.tup : Sq S (.tup ds) ds := ⟨true, [], rfl, Gd.ok_nil S⟩
theorem Sq.cell {c : Nat} (h : S[c]? = some ds) : Sq S (.cell c) ds := ⟨false, [(c, ds)], by simp only [seqV, h], gd_one h⟩
theorem Sq.cases {d : D} {ds : List D} (h : Sq S d ds) : d = .lst ds ∨ d = .tup ds ∨ ∃ c, d = .cell c ∧ S[c]? = some ds := by
  obtain ⟨t, g, e, _⟩ := h.ex
  cases d with
  | lst fs => cases e; exact .inl rfl
  | tup fs => cases e; exact .inr (.inl rfl)
  | cell c =>
    cases hc : S[c]? with
    | none => simp only [seqV, hc] at e; cases e
    | some fs =>
      simp only [seqV, hc] at e
      cases e
      exact .inr (.inr ⟨c, rfl, hc⟩)
  | _ => cases e
theorem Sq.len (h : Sq S d ds) : gLen d S = .ok (.int ds.length) S := by
  rcases h.cases with rfl | rfl | ⟨c, rfl, hc⟩
  · rfl
  · rfl
  · unfold gLen deref
    simp only [hc]
theorem Sq.ix (h : Sq S d ds) {i : Nat} (hi : ds[i]? = some x) : gIx d (.int i) S = .ok x S := by
  rcases h.cases with rfl | rfl | ⟨c, rfl, hc⟩
  · exact gIx_lst hi
  · show (match L2.atI ds (i : Int) with | some d => Res.ok d S | none => .bad) = _
    rw [atI_nat hi]
  · exact gIx_cell hc hi
theorem Sq.it (h : Sq S d ds) {f : EF} {S0 : Store} (e : f es S0 = .ok d S) : ∃ g, itSeq f es S0 = .ok ds g S ∧ g.ok S := by
  rcases h.cases with rfl | rfl | ⟨c, rfl, hc⟩
  · exact ⟨[], by simp [itSeq_eq, e], Gd.ok_nil S⟩
  · exact ⟨[], by simp [itSeq_eq, e], Gd.ok_nil S⟩
  · exact ⟨[(c, ds)], by simp [itSeq_eq, e, hc], gd_one hc⟩
theorem Sq.zip {d2 : D} {es2 : List D} (h : Sq S d ds) (h2 : Sq S d2 es2) {a : AF} {S0 : Store} (e : a es S0 = .ok [d, d2] S) : ∃ g, itZip a es S0 = .ok ((ds.zip es2).map fun p => .tup [p.1, p.2]) g S ∧ g.ok S := by
  obtain ⟨t, g, e1, k1⟩ := h.ex
  obtain ⟨t2, g2, e2, k2⟩ := h2.ex
  refine ⟨g ++ g2, by simp [itZip_eq, e, e1, e2], fun p hp => ?_⟩
  rcases List.mem_append.mp hp with q | q
  · exact k1 p q
  · exact k2 p q
theorem Sq.isl {cs : List Nat} (h : Sq S d ds) : isiT cs d [.ty "list", .ty "tuple"] = some true := by
  have e1 : tyIs "list" "list" = some true := by decide +kernel
  have e2 : tyIs "list" "tuple" = some false := by decide +kernel
  have e3 : tyIs "tuple" "list" = some false := by decide +kernel
  have e4 : tyIs "tuple" "tuple" = some true := by decide +kernel
  rcases h.cases with rfl | rfl | ⟨c, rfl, hc⟩
  · show (match tyIs "list" "list", isiT cs (.lst ds) [.ty "tuple"] with | some a, some b => some (a || b) | _, _ => none) = _
    rw [e1]
    show (match some true, (match tyIs "list" "tuple", some false with | some a, some b => some (a || b) | _, _ => none) with | some a, some b => some (a || b) | _, _ => none) = _
    rw [e2]
    rfl
  · show (match tyIs "tuple" "list", isiT cs (.tup ds) [.ty "tuple"] with | some a, some b => some (a || b) | _, _ => none) = _
    rw [e3]
    show (match some false, (match tyIs "tuple" "tuple", some false with | some a, some b => some (a || b) | _, _ => none) with | some a, some b => some (a || b) | _, _ => none) = _
    rw [e4]
    rfl
  · show (match tyIs "list" "list", isiT cs (.cell c) [.ty "tuple"] with | some a, some b => some (a || b) | _, _ => none) = _
    rw [e1]
    show (match some true, (match tyIs "list" "tuple", some false with | some a, some b => some (a || b) | _, _ => none) with | some a, some b => some (a || b) | _, _ => none) = _
    rw [e2]
    rfl
theorem Sq.app {J : Store} (h : Sq S d ds) : Sq (S ++ J) d ds := by
  rcases h.cases with rfl | rfl | ⟨c, rfl, hc⟩
  · exact .lst
  · exact .tup
  · exact .cell (by rw [List.getElem?_append_left (List.getElem?_eq_some_iff.mp hc).1]; exact hc)

/-! ### loops -/
theorem lcL_nilG {q : Bool} {g : Gd} {t : TF} {c e : EF} {acc : List D} (hg : g.ok S) : lcL q g t c e es [] S acc = if q = true then .ok (.cell S.length) (S ++ [acc]) else .ok (.lst acc) S := by
  rw [lcL, if_pos hg]
theorem lcL_consG {q : Bool} {g : Gd} {t : TF} {c e : EF} {acc : List D} {es1 : List SD} {S2 : Store} (hg : g.ok S) (ht : t d es S = some es1) (hc : c es1 S = .ok (.bl true) S) (he : e es1 S = .ok y S2) : lcL q g t c e es (d :: ds) S acc = lcL q g t c e es ds S2 (acc ++ [y]) := by
  rw [lcL, if_pos hg, ht]
  simp [hc, he]
/-- a comprehension that changes nothing -/
theorem lcL_map {α : Type} {q : Bool} {g : Gd} {t : TF} {c e : EF} (enc f : α → D) (hg : g.ok S) : ∀ (xs : List α) (acc : List D), (∀ x ∈ xs, ∃ es1, t (enc x) es S = some es1 ∧ c es1 S = .ok (.bl true) S ∧ e es1 S = .ok (f x) S) →
    lcL q g t c e es (xs.map enc) S acc = if q = true then .ok (.cell S.length) (S ++ [acc ++ xs.map f]) else .ok (.lst (acc ++ xs.map f)) S
  | [], acc, _ => by rw [List.map_nil, List.map_nil, List.append_nil, lcL_nilG hg]
  | x :: xs, acc, h => by
    obtain ⟨es1, h1, h2, h3⟩ := h x List.mem_cons_self
    rw [List.map_cons, lcL_consG hg h1 h2 h3, lcL_map enc f hg xs _ fun x hx => h x (List.mem_cons_of_mem _ hx), List.map_cons, List.append_assoc]
    rfl
/-- one that draws: P counts -/
theorem lcL_draw {α β : Type} {t : TF} {c e : EF} (enc : α → D) (f : β → D) (R : β → Prop) (P : Nat → Store → Prop) : ∀ (xs : List α) (i : Nat) (S : Store) (acc : List D), P (i + xs.length) S → (∀ x ∈ xs, ∀ j S, P (j + 1) S → ∃ es1 y S', t (enc x) es S = some es1 ∧ c es1 S = .ok (.bl true) S ∧ e es1 S = .ok (f y) S' ∧ R y ∧ P j S') →
    ∃ (ys : List β) (S' : Store), lcL false [] t c e es (xs.map enc) S acc = .ok (.lst (acc ++ ys.map f)) S' ∧ ys.length = xs.length ∧ (∀ y ∈ ys, R y) ∧ P i S'
  | [], i, S, acc, hP, _ => ⟨[], S, by simp, rfl, fun y hy => absurd hy (by simp), hP⟩
  | x :: xs, i, S, acc, hP, h => by
    obtain ⟨es1, y, S1, h1, h2, h3, h4, h5⟩ := h x List.mem_cons_self (i + xs.length) S (by simpa [Nat.add_assoc] using hP)
    obtain ⟨ys, S2, k1, k2, k3, k4⟩ := lcL_draw enc f R P xs i S1 (acc ++ [f y]) h5 fun x hx => h x (List.mem_cons_of_mem _ hx)
    refine ⟨y :: ys, S2, ?_, by simp [k2], fun z hz => ?_, k4⟩
    · rw [List.map_cons, lcL_consG (Gd.ok_nil S) h1 h2 h3, k1, List.map_cons, List.append_assoc]
      rfl
    · rcases List.mem_cons.mp hz with rfl | hz
      · exact h4
      · exact k3 z hz
/-- a for that runs through -/
theorem forL_run {α : Type} {g : Gd} {t : TF} {b : SF} (enc : α → D) (I : Nat → List SD → Store → Prop) (hg : ∀ i es S, I i es S → g.ok S) : ∀ (xs : List α) (i : Nat) (es : List SD) (S : Store), I i es S → (∀ j x es S, xs[j]? = some x → I (i + j) es S → ∃ es1 es2 S2, t (enc x) es S = some es1 ∧ b es1 S = .next es2 S2 ∧ I (i + j + 1) es2 S2) →
    ∃ es' S', forL g t b (xs.map enc) es S = .next es' S' ∧ I (i + xs.length) es' S'
  | [], i, es, S, h, _ => ⟨es, S, by rw [List.map_nil, forL, if_pos (hg _ _ _ h)], h⟩
  | x :: xs, i, es, S, h, st => by
    obtain ⟨es1, es2, S2, h1, h2, h3⟩ := st 0 x es S rfl h
    obtain ⟨es', S', k1, k2⟩ := forL_run enc I hg xs (i + 1) es2 S2 h3 fun j y es S hj hI => by
      have := st (j + 1) y es S hj (by rw [Nat.add_assoc, Nat.add_comm 1 j] at hI; exact hI)
      rw [show i + 1 + j + 1 = i + (j + 1) + 1 by omega]
      exact this
    refine ⟨es', S', ?_, by rw [List.length_cons, show i + (xs.length + 1) = i + 1 + xs.length by omega]; exact k2⟩
    rw [List.map_cons, forL, if_pos (hg _ _ _ h), h1]
    simp only [h2]
    exact k1
/-- a for that may answer: A says when, with what -/
theorem forL_ans {α : Type} {g : Gd} {t : TF} {b : SF} (enc : α → D) (I : Nat → List SD → Store → Prop) (A : Nat → Option D) (hg : ∀ i es S, I i es S → g.ok S) : ∀ (xs : List α) (i : Nat) (es : List SD) (S : Store), I i es S → (∀ j x es S, xs[j]? = some x → I (i + j) es S → ∃ es1, t (enc x) es S = some es1 ∧ match A (i + j) with
      | some d => b es1 S = .ret d S
      | none => ∃ es2 S2, b es1 S = .next es2 S2 ∧ I (i + j + 1) es2 S2) →
    (∃ j d es' S', j < xs.length ∧ A (i + j) = some d ∧ (∀ l, l < j → A (i + l) = none) ∧ I (i + j) es' S' ∧ forL g t b (xs.map enc) es S = .ret d S') ∨ ((∀ l, l < xs.length → A (i + l) = none) ∧ ∃ es' S', forL g t b (xs.map enc) es S = .next es' S' ∧ I (i + xs.length) es' S')
  | [], i, es, S, h, _ => .inr ⟨fun l hl => absurd hl (Nat.not_lt_zero _), es, S, by rw [List.map_nil, forL, if_pos (hg _ _ _ h)], h⟩
  | x :: xs, i, es, S, h, st => by
    obtain ⟨es1, h1, h2⟩ := st 0 x es S rfl h
    cases hA : A i with
    | some d =>
      rw [Nat.add_zero, hA] at h2
      refine .inl ⟨0, d, es, S, Nat.succ_pos _, hA, fun l hl => absurd hl (Nat.not_lt_zero _), h, ?_⟩
      rw [List.map_cons, forL, if_pos (hg _ _ _ h), h1]
      simp only [h2]
    | none =>
      rw [Nat.add_zero, hA] at h2
      obtain ⟨es2, S2, h2, h3⟩ := h2
      have e0 : forL g t b ((x :: xs).map enc) es S = forL g t b (xs.map enc) es2 S2 := by
        rw [List.map_cons, forL, if_pos (hg _ _ _ h), h1]
        simp only [h2]
      have none' : ∀ l, (∀ m, m < l → A (i + 1 + m) = none) → ∀ m, m < l + 1 → A (i + m) = none := fun l q m hm => by
        cases m with
        | zero => exact hA
        | succ m =>
          rw [show i + (m + 1) = i + 1 + m by omega]
          exact q m (by omega)
      rcases forL_ans enc I A hg xs (i + 1) es2 S2 h3 fun j y es S hj hI => by
        have := st (j + 1) y es S hj (by rw [Nat.add_assoc, Nat.add_comm 1 j] at hI; exact hI)
        rw [show i + 1 + j = i + (j + 1) by omega]
        exact this with ⟨j, d, es', S', k1, k2, k3, k4, k5⟩ | ⟨k1, es', S', k2, k3⟩
      · refine .inl ⟨j + 1, d, es', S', by simpa using k1, by rw [show i + (j + 1) = i + 1 + j by omega]; exact k2, none' j k3, by rw [show i + (j + 1) = i + 1 + j by omega]; exact k4, by rw [e0]; exact k5⟩
      · refine .inr ⟨by rw [List.length_cons]; exact none' _ k1, es', S', by rw [e0]; exact k2, by rw [List.length_cons, show i + (xs.length + 1) = i + 1 + xs.length by omega]; exact k3⟩
theorem range1_eval {n : Nat} {a : AF} {S1 : Store} (h : n < 4611686018427387904) (e : a es S = .ok [.int n] S1) : itRange1 a es S = .ok ((List.range n).map fun (i : Nat) => D.int i) [] S1 := by
  have p : (2 : Int) ^ 62 = 4611686018427387904 := by decide
  rw [itRange1_eq, e, ResA.bindI_ok, p]
  simp only
  rw [if_pos (by omega), Int.toNat_natCast]
theorem range_map {n : Nat} (f : Nat → D) : (List.range n).map f = (List.range n).map f := rfl
end
end DL
set_option Elab.async false
set_option linter.all false
set_option maxRecDepth 100000
set_option maxHeartbeats 2000000
set_option autoImplicit false
/-! Plain laws, 2: == of plain data, also through cells. -/
namespace DL
open PySem L2
/-- plain data of depth at most n -/
def pn : Nat → D → Bool
  | 0, _ => false
  | n + 1, d => match d with
    | .non => true
    | .int _ => true
    | .str z => PyData.canLay0 (.str z)
    | .lst ds => ds.all (pn n)
    | .tup ds => ds.all (pn n)
    | _ => false
theorem toPs_ok {n : Nat} (ih : ∀ d, pn n d = true → ∃ p, toP d = some p ∧ p.canLay0 = true ∧ p.depth ≤ n ∧ PyData.eqv p p = true) : ∀ ds : List D, ds.all (pn n) = true → ∃ ps, toPs ds = some ps ∧ PyData.canLayAll0 ps = true ∧ PyData.depthAll ps ≤ n ∧ PyData.eqvAll ps ps = true
  | [], _ => ⟨[], rfl, rfl, Nat.zero_le _, rfl⟩
  | d :: ds, h => by
    rw [List.all_cons, Bool.and_eq_true] at h
    obtain ⟨p, h1, h2, h3, h4⟩ := ih d h.1
    obtain ⟨ps, k1, k2, k3, k4⟩ := toPs_ok ih ds h.2
    refine ⟨p :: ps, by simp [toPs, h1, k1], by simp [PyData.canLayAll0, h2, k2], ?_, by simp [PyData.eqvAll, h4, k4]⟩
    simp only [PyData.depthAll]
    omega
theorem toP_ok : ∀ (n : Nat) (d : D), pn n d = true → ∃ p, toP d = some p ∧ p.canLay0 = true ∧ p.depth ≤ n ∧ PyData.eqv p p = true
  | 0, d, h => by cases h
  | n + 1, d, h => by
    cases d with
    | non => exact ⟨.none, rfl, rfl, by simp [PyData.depth], rfl⟩
    | int i => exact ⟨.int i, rfl, rfl, by simp [PyData.depth], by simp [PyData.eqv]⟩
    | str z => exact ⟨.str z, rfl, h, by simp [PyData.depth], by simp [PyData.eqv]⟩
    | lst ds =>
      obtain ⟨ps, k1, k2, k3, k4⟩ := toPs_ok (toP_ok n) ds h
      exact ⟨.list ps, by simp [toP, k1], by simpa [PyData.canLay0] using k2, by simp only [PyData.depth]; omega, by simpa [PyData.eqv] using k4⟩
    | tup ds =>
      obtain ⟨ps, k1, k2, k3, k4⟩ := toPs_ok (toP_ok n) ds h
      exact ⟨.tuple ps, by simp [toP, k1], by simpa [PyData.canLay0] using k2, by simp only [PyData.depth]; omega, by simpa [PyData.eqv] using k4⟩
    | _ => cases h
theorem thcs_id {c : Nat → D} {n : Nat} (ih : ∀ d, pn n d = true → thc c d = d) : ∀ ds : List D, ds.all (pn n) = true → thcs c ds = ds
  | [], _ => rfl
  | d :: ds, h => by
    rw [List.all_cons, Bool.and_eq_true] at h
    rw [thcs, ih d h.1, thcs_id ih ds h.2]
theorem thc_id {c : Nat → D} : ∀ (n : Nat) (d : D), pn n d = true → thc c d = d
  | 0, d, h => by cases h
  | n + 1, d, h => by
    cases d with
    | non => rfl
    | int i => rfl
    | str z => rfl
    | lst ds => rw [thc, thcs_id (thc_id n) ds h]
    | tup ds => rw [thc, thcs_id (thc_id n) ds h]
    | _ => cases h
/-- d stands for the plain data e -/
structure Pv (S : Store) (d e : D) : Prop where
  ex : thw S d = e ∧ ∃ n, n ≤ 60 ∧ pn n e = true
theorem Pv.self {S : Store} {d : D} {n : Nat} (hn : n ≤ 60) (h : pn n d = true) : Pv S d d := ⟨thc_id n d h, n, hn, h⟩
theorem Pv.cell {S : Store} {c n : Nat} {ds : List D} (hn : n ≤ 59) (hc : S[c]? = some ds) (h : ds.all (pn n) = true) : Pv S (.cell c) (.lst ds) := ⟨by
  show cellD S 6 c = _
  rw [cellD, hc]
  simp only
  rw [thcs_id (thc_id n) ds h], n + 1, by omega, h⟩
theorem eqB_same {S : Store} {x y e : D} (h : Pv S x e) (h' : Pv S y e) : eqB S x y = some true := by
  obtain ⟨h1, n, hn, hp⟩ := h.ex
  obtain ⟨h2, _⟩ := h'.ex
  obtain ⟨p, k1, k2, k3, k4⟩ := toP_ok n e hp
  have k5 : SeqAt.shaped p = true := by
    unfold SeqAt.shaped
    rw [k2, decide_eq_true (show p.depth ≤ 64 by omega)]
    rfl
  unfold eqB
  rw [h1, h2, k1]
  simp only
  rw [k5, k4]
  rfl
theorem gNe_same {S : Store} {x y e : D} (h : Pv S x e) (h' : Pv S y e) : gNe x y S = .ok (.bl false) S := by
  unfold gNe
  rw [eqB_same h h']
  rfl
theorem gEq_same {S : Store} {x y e : D} (h : Pv S x e) (h' : Pv S y e) : gEq x y S = .ok (.bl true) S := by
  unfold gEq
  rw [eqB_same h h']
theorem all_map {α : Type} {f : α → D} {n : Nat} (xs : List α) (h : ∀ x ∈ xs, pn n (f x) = true) : (xs.map f).all (pn n) = true := by
  rw [List.all_map, List.all_eq_true]
  exact h
end DL
set_option Elab.async false
set_option linter.all false
set_option maxRecDepth 100000
set_option maxHeartbeats 2000000
set_option autoImplicit false
/-! Plain laws, 3: data that encode things: ==, in, index tell what the things tell; comprehensions with a test. -/
namespace DL
open PySem L2
structure Pe {α : Type} [DecidableEq α] (R : α → Prop) (n : Nat) (f : α → D) : Prop where
  ex : ∀ x, R x → ∃ p, toP (f x) = some p ∧ p.canLay0 = true ∧ p.depth ≤ n
  th : ∀ c x, R x → thc c (f x) = f x
  eq : ∀ x y p q, R x → R y → toP (f x) = some p → toP (f y) = some q → PyData.eqv p q = decide (x = y)
section
variable {α β : Type} [DecidableEq α] [DecidableEq β] {R : α → Prop} {R2 : β → Prop} {n m : Nat} {f : α → D} {g : β → D}
theorem Pe.mono (P : Pe R n f) (h : n ≤ m) : Pe R m f := ⟨fun x hx => by
  obtain ⟨p, h1, h2, h3⟩ := P.ex x hx
  exact ⟨p, h1, h2, Nat.le_trans h3 h⟩, P.th, P.eq⟩
theorem pe_int : Pe (fun _ : Int => True) 1 D.int := ⟨fun x _ => ⟨.int x, rfl, rfl, by simp [PyData.depth]⟩, fun _ _ _ => rfl, fun x y p q _ _ h1 h2 => by
  cases h1
  cases h2
  show (x == y) = _
  rfl⟩
theorem pe_nat : Pe (fun _ : Nat => True) 1 (fun k : Nat => D.int k) := ⟨fun x _ => ⟨.int x, rfl, rfl, by simp [PyData.depth]⟩, fun _ _ _ => rfl, fun x y p q _ _ h1 h2 => by
  cases h1
  cases h2
  show ((x : Int) == (y : Int)) = _
  rw [Bool.eq_iff_iff, beq_iff_eq, decide_eq_true_iff]
  omega⟩
theorem pe_bl : Pe (fun _ : Bool => True) 1 D.bl := ⟨fun x _ => ⟨.bool x, rfl, rfl, by simp [PyData.depth]⟩, fun _ _ _ => rfl, fun x y p q _ _ h1 h2 => by
  cases h1
  cases h2
  show (x == y) = _
  rfl⟩
theorem pe_str : Pe (fun z : Str => (PyData.str z).canLay0 = true) 1 D.str := ⟨fun x h => ⟨.str x, rfl, h, by simp [PyData.depth]⟩, fun _ _ _ => rfl, fun x y p q _ _ h1 h2 => by
  cases h1
  cases h2
  show (x == y) = _
  rw [Bool.eq_iff_iff, beq_iff_eq, decide_eq_true_iff]⟩
theorem Pe.toPs (P : Pe R n f) : ∀ xs : List α, (∀ x ∈ xs, R x) → ∃ ps, DL.toPs (xs.map f) = some ps ∧ PyData.canLayAll0 ps = true ∧ PyData.depthAll ps ≤ n
  | [], _ => ⟨[], rfl, rfl, Nat.zero_le _⟩
  | x :: xs, h => by
    obtain ⟨p, h1, h2, h3⟩ := P.ex x (h x List.mem_cons_self)
    obtain ⟨ps, k1, k2, k3⟩ := P.toPs xs fun y hy => h y (List.mem_cons_of_mem _ hy)
    refine ⟨p :: ps, by simp [DL.toPs, h1, k1], by simp [PyData.canLayAll0, h2, k2], ?_⟩
    simp only [PyData.depthAll]
    omega
theorem Pe.thcs (P : Pe R n f) (c : Nat → D) : ∀ xs : List α, (∀ x ∈ xs, R x) → DL.thcs c (xs.map f) = xs.map f
  | [], _ => rfl
  | x :: xs, h => by rw [List.map_cons, DL.thcs, P.th c x (h x List.mem_cons_self), P.thcs c xs fun y hy => h y (List.mem_cons_of_mem _ hy)]
theorem Pe.eqAll (P : Pe R n f) : ∀ (xs ys : List α) ps qs, (∀ x ∈ xs, R x) → (∀ x ∈ ys, R x) → DL.toPs (xs.map f) = some ps → DL.toPs (ys.map f) = some qs → PyData.eqvAll ps qs = decide (xs = ys)
  | [], [], ps, qs, _, _, h1, h2 => by
    cases h1
    cases h2
    rfl
  | [], y :: ys, ps, qs, _, hy, h1, h2 => by
    cases h1
    obtain ⟨q, k1, _⟩ := P.ex y (hy y List.mem_cons_self)
    obtain ⟨qs', k2, _⟩ := P.toPs ys fun z hz => hy z (List.mem_cons_of_mem _ hz)
    simp [DL.toPs, k1, k2] at h2
    subst h2
    simp [PyData.eqvAll]
  | x :: xs, [], ps, qs, hx, _, h1, h2 => by
    cases h2
    obtain ⟨q, k1, _⟩ := P.ex x (hx x List.mem_cons_self)
    obtain ⟨qs', k2, _⟩ := P.toPs xs fun z hz => hx z (List.mem_cons_of_mem _ hz)
    simp [DL.toPs, k1, k2] at h1
    subst h1
    simp [PyData.eqvAll]
  | x :: xs, y :: ys, ps, qs, hx, hy, h1, h2 => by
    obtain ⟨p, k1, _⟩ := P.ex x (hx x List.mem_cons_self)
    obtain ⟨ps', k2, _⟩ := P.toPs xs fun z hz => hx z (List.mem_cons_of_mem _ hz)
    obtain ⟨q, l1, _⟩ := P.ex y (hy y List.mem_cons_self)
    obtain ⟨qs', l2, _⟩ := P.toPs ys fun z hz => hy z (List.mem_cons_of_mem _ hz)
    simp [DL.toPs, k1, k2] at h1
    simp [DL.toPs, l1, l2] at h2
    subst h1 h2
    rw [PyData.eqvAll, P.eq x y p q (hx x List.mem_cons_self) (hy y List.mem_cons_self) k1 l1, P.eqAll xs ys ps' qs' (fun z hz => hx z (List.mem_cons_of_mem _ hz)) (fun z hz => hy z (List.mem_cons_of_mem _ hz)) k2 l2]
    rw [Bool.eq_iff_iff, Bool.and_eq_true, decide_eq_true_iff, decide_eq_true_iff, decide_eq_true_iff, List.cons.injEq]
theorem Pe.lst (P : Pe R n f) : Pe (fun xs : List α => ∀ x ∈ xs, R x) (n + 1) (fun xs => .lst (xs.map f)) := ⟨fun xs h => by
  obtain ⟨ps, k1, k2, k3⟩ := P.toPs xs h
  exact ⟨.list ps, by simp [toP, k1], by simpa [PyData.canLay0] using k2, by simp only [PyData.depth]; omega⟩, fun c xs h => by rw [thc, P.thcs c xs h], fun xs ys p q hx hy h1 h2 => by
  obtain ⟨ps, k1, _⟩ := P.toPs xs hx
  obtain ⟨qs, l1, _⟩ := P.toPs ys hy
  simp [toP, k1] at h1
  simp [toP, l1] at h2
  subst h1 h2
  rw [PyData.eqv]
  exact P.eqAll xs ys ps qs hx hy k1 l1⟩
theorem Pe.tup (P : Pe R n f) : Pe (fun xs : List α => ∀ x ∈ xs, R x) (n + 1) (fun xs => .tup (xs.map f)) := ⟨fun xs h => by
  obtain ⟨ps, k1, k2, k3⟩ := P.toPs xs h
  exact ⟨.tuple ps, by simp [toP, k1], by simpa [PyData.canLay0] using k2, by simp only [PyData.depth]; omega⟩, fun c xs h => by rw [thc, P.thcs c xs h], fun xs ys p q hx hy h1 h2 => by
  obtain ⟨ps, k1, _⟩ := P.toPs xs hx
  obtain ⟨qs, l1, _⟩ := P.toPs ys hy
  simp [toP, k1] at h1
  simp [toP, l1] at h2
  subst h1 h2
  rw [PyData.eqv]
  exact P.eqAll xs ys ps qs hx hy k1 l1⟩
theorem Pe.pair (P : Pe R n f) (Q : Pe R2 n g) : Pe (fun p : α × β => R p.1 ∧ R2 p.2) (n + 1) (fun p => .tup [f p.1, g p.2]) := ⟨fun x h => by
  obtain ⟨p, h1, h2, h3⟩ := P.ex x.1 h.1
  obtain ⟨q, k1, k2, k3⟩ := Q.ex x.2 h.2
  exact ⟨.tuple [p, q], by simp [toP, DL.toPs, h1, k1], by simp [PyData.canLay0, PyData.canLayAll0, h2, k2], by simp only [PyData.depth, PyData.depthAll]; omega⟩, fun c x h => by
  rw [thc, DL.thcs, DL.thcs, DL.thcs, P.th c _ h.1, Q.th c _ h.2], fun x y p q hx hy h1 h2 => by
  obtain ⟨p1, a1, _⟩ := P.ex x.1 hx.1
  obtain ⟨p2, a2, _⟩ := Q.ex x.2 hx.2
  obtain ⟨q1, b1, _⟩ := P.ex y.1 hy.1
  obtain ⟨q2, b2, _⟩ := Q.ex y.2 hy.2
  simp [toP, DL.toPs, a1, a2] at h1
  simp [toP, DL.toPs, b1, b2] at h2
  subst h1 h2
  rw [PyData.eqv, PyData.eqvAll, PyData.eqvAll, PyData.eqvAll, P.eq _ _ _ _ hx.1 hy.1 a1 b1, Q.eq _ _ _ _ hx.2 hy.2 a2 b2, Bool.and_true]
  rw [Bool.eq_iff_iff, Bool.and_eq_true, decide_eq_true_iff, decide_eq_true_iff, decide_eq_true_iff, Prod.ext_iff]⟩
def optN : Option Nat → D
  | none => .non
  | some k => .int k
theorem pe_optN : Pe (fun _ : Option Nat => True) 1 optN := ⟨fun x _ => by
  cases x with
  | none => exact ⟨.none, rfl, rfl, by simp [PyData.depth]⟩
  | some k => exact ⟨.int k, rfl, rfl, by simp [PyData.depth]⟩, fun _ x _ => by cases x <;> rfl, fun x y p q _ _ h1 h2 => by
  cases x with
  | none =>
    cases y with
    | none => cases h1; cases h2; rfl
    | some j => cases h1; cases h2; simp [PyData.eqv]
  | some k =>
    cases y with
    | none => cases h1; cases h2; simp [PyData.eqv]
    | some j =>
      cases h1
      cases h2
      show ((k : Int) == (j : Int)) = _
      rw [Bool.eq_iff_iff, beq_iff_eq, decide_eq_true_iff, Option.some.injEq]
      omega⟩
/-! what the operations tell -/
variable {S : Store} {d e : D}
theorem shaped_of {p : PyData} (h : p.canLay0 = true) (hd : p.depth ≤ n) (hn : n ≤ 64) : SeqAt.shaped p = true := by
  unfold SeqAt.shaped
  rw [h, decide_eq_true (show p.depth ≤ 64 by omega)]
  rfl
theorem Pe.thw (P : Pe R n f) {x : α} (h : R x) : DL.thw S (f x) = f x := P.th _ x h
theorem Pe.eqB (P : Pe R n f) (hn : n ≤ 64) {x y : α} (hx : R x) (hy : R y) (h1 : DL.thw S d = f x) (h2 : DL.thw S e = f y) : DL.eqB S d e = some (decide (x = y)) := by
  obtain ⟨p, a1, a2, a3⟩ := P.ex x hx
  obtain ⟨q, b1, b2, b3⟩ := P.ex y hy
  unfold DL.eqB
  rw [h1, h2, a1, b1]
  simp only
  rw [shaped_of a2 a3 hn, shaped_of b2 b3 hn, P.eq x y p q hx hy a1 b1]
  rfl
theorem Pe.gEq (P : Pe R n f) (hn : n ≤ 64) {x y : α} (hx : R x) (hy : R y) (h1 : DL.thw S d = f x) (h2 : DL.thw S e = f y) : DL.gEq d e S = .ok (.bl (decide (x = y))) S := by
  unfold DL.gEq
  rw [P.eqB hn hx hy h1 h2]
theorem Pe.gNe (P : Pe R n f) (hn : n ≤ 64) {x y : α} (hx : R x) (hy : R y) (h1 : DL.thw S d = f x) (h2 : DL.thw S e = f y) : DL.gNe d e S = .ok (.bl (!decide (x = y))) S := by
  unfold DL.gNe
  rw [P.eqB hn hx hy h1 h2]
theorem Pe.any (P : Pe R n f) {x : α} (hx : R x) {p : PyData} (hp : toP (f x) = some p) : ∀ (ys : List α) qs, (∀ y ∈ ys, R y) → DL.toPs (ys.map f) = some qs → (qs.any fun z => PyData.eqv z p) = decide (x ∈ ys)
  | [], qs, _, h => by
    cases h
    rfl
  | y :: ys, qs, hy, h => by
    obtain ⟨q, l1, _⟩ := P.ex y (hy y List.mem_cons_self)
    obtain ⟨qs', l2, _⟩ := P.toPs ys fun z hz => hy z (List.mem_cons_of_mem _ hz)
    simp [DL.toPs, l1, l2] at h
    subst h
    rw [List.any_cons, P.eq y x q p (hy y List.mem_cons_self) hx l1 hp, P.any hx hp ys qs' (fun z hz => hy z (List.mem_cons_of_mem _ hz)) l2]
    rw [Bool.eq_iff_iff, Bool.or_eq_true, decide_eq_true_iff, decide_eq_true_iff, decide_eq_true_iff, List.mem_cons, eq_comm]
theorem Pe.find (P : Pe R n f) {x : α} (hx : R x) {p : PyData} (hp : toP (f x) = some p) : ∀ (ys : List α) qs, (∀ y ∈ ys, R y) → DL.toPs (ys.map f) = some qs → qs.findIdx? (fun z => PyData.eqv z p) = ys.findIdx? (fun y => decide (y = x))
  | [], qs, _, h => by
    cases h
    rfl
  | y :: ys, qs, hy, h => by
    obtain ⟨q, l1, _⟩ := P.ex y (hy y List.mem_cons_self)
    obtain ⟨qs', l2, _⟩ := P.toPs ys fun z hz => hy z (List.mem_cons_of_mem _ hz)
    simp [DL.toPs, l1, l2] at h
    subst h
    rw [List.findIdx?_cons, List.findIdx?_cons, P.eq y x q p (hy y List.mem_cons_self) hx l1 hp, P.find hx hp ys qs' (fun z hz => hy z (List.mem_cons_of_mem _ hz)) l2]
theorem Pe.gInP (P : Pe R n f) (hn : n ≤ 63) {neg : Bool} {x : α} {ys : List α} (hx : R x) (hy : ∀ y ∈ ys, R y) (h1 : DL.thw S d = f x) (h2 : DL.thw S e = .lst (ys.map f)) : DL.gInP neg d e S = .ok (.bl (xor neg (decide (x ∈ ys)))) S := by
  obtain ⟨p, a1, a2, a3⟩ := P.ex x hx
  obtain ⟨qs, b1, b2, b3⟩ := P.toPs ys hy
  have e1 : toP (.lst (ys.map f)) = some (.list qs) := by simp [toP, b1]
  have s2 : SeqAt.shaped (.list qs) = true := shaped_of (n := n + 1) (by simpa [PyData.canLay0] using b2) (by simp only [PyData.depth]; omega) (by omega)
  unfold DL.gInP
  rw [h1, h2, a1, e1]
  simp only
  rw [shaped_of a2 a3 (by omega), s2, P.any hx a1 ys qs hy b1]
  rfl
theorem Pe.gInP_mem (P : Pe R n f) (hn : n ≤ 63) {neg : Bool} {x : α} {ys : List α} (hx : R x) (hy : ∀ y ∈ ys, R y) (h1 : DL.thw S d = f x) (h2 : DL.thw S e = .lst (ys.map f)) (h : x ∈ ys) : DL.gInP neg d e S = .ok (.bl (!neg)) S := by
  rw [P.gInP hn hx hy h1 h2, decide_eq_true h, Bool.xor_true]
theorem Pe.gInP_not (P : Pe R n f) (hn : n ≤ 63) {neg : Bool} {x : α} {ys : List α} (hx : R x) (hy : ∀ y ∈ ys, R y) (h1 : DL.thw S d = f x) (h2 : DL.thw S e = .lst (ys.map f)) (h : x ∉ ys) : DL.gInP neg d e S = .ok (.bl neg) S := by
  rw [P.gInP hn hx hy h1 h2, decide_eq_false h, Bool.xor_false]
theorem Pe.gNe_same (P : Pe R n f) (hn : n ≤ 64) {x : α} (hx : R x) (h1 : DL.thw S d = f x) (h2 : DL.thw S e = f x) : DL.gNe d e S = .ok (.bl false) S := by
  rw [P.gNe hn hx hx h1 h2, decide_eq_true rfl]
  rfl
theorem Pe.gEq_same (P : Pe R n f) (hn : n ≤ 64) {x : α} (hx : R x) (h1 : DL.thw S d = f x) (h2 : DL.thw S e = f x) : DL.gEq d e S = .ok (.bl true) S := by
  rw [P.gEq hn hx hx h1 h2, decide_eq_true rfl]
theorem Pe.gIdx (P : Pe R n f) (hn : n ≤ 63) {x : α} {ys : List α} {j : Nat} (hx : R x) (hy : ∀ y ∈ ys, R y) (h1 : DL.thw S d = f x) (h2 : DL.thw S e = .lst (ys.map f)) (hj : ys.findIdx? (fun y => decide (y = x)) = some j) : DL.gIdx e d S = .ok (.int j) S := by
  obtain ⟨p, a1, a2, a3⟩ := P.ex x hx
  obtain ⟨qs, b1, b2, b3⟩ := P.toPs ys hy
  have e1 : toP (.lst (ys.map f)) = some (.list qs) := by simp [toP, b1]
  have s2 : SeqAt.shaped (.list qs) = true := shaped_of (n := n + 1) (by simpa [PyData.canLay0] using b2) (by simp only [PyData.depth]; omega) (by omega)
  unfold DL.gIdx
  rw [h1, h2, a1, e1]
  simp only
  rw [shaped_of a2 a3 (by omega), s2, P.find hx a1 ys qs hy b1, hj]
  rfl
/-! ### any, all -/
theorem asB_map {γ : Type} (P : γ → Bool) : ∀ (xs : List γ), asB (xs.map fun x => D.bl (P x)) = some (xs.map P)
  | [] => rfl
  | x :: xs => by
    rw [List.map_cons, asB, asB_map P xs]
    rfl
theorem gAny_map {γ : Type} {P : γ → Bool} {xs : List γ} : gAny (.lst (xs.map fun x => D.bl (P x))) S = .ok (.bl (xs.any P)) S := by
  unfold gAny deref
  simp only [asB_map]
  rw [List.any_map]
  rfl
theorem gAll_map {γ : Type} {P : γ → Bool} {xs : List γ} : gAll (.lst (xs.map fun x => D.bl (P x))) S = .ok (.bl (xs.all P)) S := by
  unfold gAll deref
  simp only [asB_map]
  rw [List.all_map]
  rfl
/-! ### comprehensions with a test -/
theorem lcL_skipG {q : Bool} {g : Gd} {t : TF} {c e : EF} {es es1 : List SD} {ds acc : List D} (hg : g.ok S) (ht : t d es S = some es1) (hc : c es1 S = .ok (.bl false) S) : lcL q g t c e es (d :: ds) S acc = lcL q g t c e es ds S acc := by
  rw [lcL, if_pos hg, ht]
  simp [hc]
theorem lcL_filt {γ : Type} {q : Bool} {g : Gd} {t : TF} {c e : EF} {es : List SD} (enc k : γ → D) (P : γ → Bool) (hg : g.ok S) : ∀ (xs : List γ) (acc : List D), (∀ x ∈ xs, ∃ es1, t (enc x) es S = some es1 ∧ c es1 S = .ok (.bl (P x)) S ∧ (P x = true → e es1 S = .ok (k x) S)) →
    lcL q g t c e es (xs.map enc) S acc = if q = true then .ok (.cell S.length) (S ++ [acc ++ (xs.filter P).map k]) else .ok (.lst (acc ++ (xs.filter P).map k)) S
  | [], acc, _ => by rw [List.map_nil, List.filter_nil, List.map_nil, List.append_nil, lcL_nilG hg]
  | x :: xs, acc, h => by
    obtain ⟨es1, h1, h2, h3⟩ := h x List.mem_cons_self
    have ih := fun acc => lcL_filt (q := q) enc k P hg xs acc fun x hx => h x (List.mem_cons_of_mem _ hx)
    cases hp : P x with
    | true =>
      rw [hp] at h2
      rw [List.map_cons, lcL_consG hg h1 h2 (h3 hp), ih, List.filter_cons_of_pos hp, List.map_cons, List.append_assoc]
      rfl
    | false =>
      rw [hp] at h2
      rw [List.map_cons, lcL_skipG hg h1 h2, ih, List.filter_cons_of_neg (by rw [hp]; exact Bool.false_ne_true)]
end
/-! ### while -/
theorem sWhile_run {c : EF} {b : SF} (I : Nat → List SD → Store → Prop) (J : List SD → Store → Prop) (k : Nat) (st : ∀ j es S, j < k → I j es S → ∃ S1 es2 S2, c es S = .ok (.bl true) S1 ∧ b es S1 = .next es2 S2 ∧ I (j + 1) es2 S2) (en : ∀ es S, I k es S → ∃ S1, c es S = .ok (.bl false) S1 ∧ J es S1) :
    ∀ {i : Nat} {es : List SD} {S : Store}, i ≤ k → I i es S → ∃ es' S', sWhile c b es S = .next es' S' ∧ J es' S' := by
  have main : ∀ (n i : Nat) (es : List SD) (S : Store), i + n = k → I i es S → ∃ m es' S', whileN c b m es S = some (.next es' S') ∧ J es' S' := by
    intro n
    induction n with
    | zero =>
      intro i es S hi h
      have hi : i = k := hi
      subst hi
      obtain ⟨S1, h1, h2⟩ := en es S h
      exact ⟨1, es, S1, by rw [whileN, h1], h2⟩
    | succ n ih =>
      intro i es S hi h
      obtain ⟨S1, es2, S2, h1, h2, h3⟩ := st i es S (by omega) h
      obtain ⟨m, es', S', k1, k2⟩ := ih (i + 1) es2 S2 (by omega) h3
      refine ⟨m + 1, es', S', ?_, k2⟩
      rw [whileN, h1]
      simp only [h2]
      exact k1
  intro i es S hi h
  obtain ⟨m, es', S', k1, k2⟩ := main (k - i) i es S (by omega) h
  exact ⟨es', S', sWhile_eq k1, k2⟩
theorem gIx_lastL {S : Store} {ds : List D} {x : D} : gIx (.lst (ds ++ [x])) (.int (-1)) S = .ok x S := by
  have e : L2.atI (ds ++ [x]) (-1) = some x := by
    unfold L2.atI ixN
    have e : (ds ++ [x]).length = ds.length + 1 := by simp
    rw [e, if_neg (by omega), if_pos (by omega)]
    have e2 : ((-1 : Int) + ((ds.length + 1 : Nat) : Int)).toNat = ds.length := by omega
    show (ds ++ [x])[((-1 : Int) + ((ds.length + 1 : Nat) : Int)).toNat]? = some x
    rw [e2, List.getElem?_append_right (Nat.le_refl _), Nat.sub_self]
    rfl
  show (match L2.atI (ds ++ [x]) (-1) with | some d => Res.ok d S | none => .bad) = _
  rw [e]
theorem eMt_ok {g : D → D → Store → Res} {fo fe : EF} {es : List SD} {S S1 S2 : Store} {d e : D} (h1 : fo es S = .ok d S1) (hl : isLs S1 d = true) (h2 : fe es S1 = .ok e S2) : eMt g fo fe es S = (g d e S2).nox := by
  unfold eMt
  rw [h1, Res.bind_ok, if_pos hl, h2, Res.bind_ok]
@[simp] theorem isLs_lst {S : Store} {ds : List D} : isLs S (.lst ds) = true := rfl
theorem isLs_cell {S : Store} {c : Nat} {ds : List D} (h : S[c]? = some ds) : isLs S (.cell c) = true := by
  unfold isLs deref
  simp only [h]
end DL
set_option Elab.async false
set_option linter.all false
set_option maxRecDepth 100000
set_option maxHeartbeats 2000000
set_option autoImplicit false
/-! Plain laws, 4: comprehensions whose state is told by an invariant. -/
namespace DL
open PySem L2
theorem lcL_runG {α : Type} {q : Bool} {g : Gd} {t : TF} {c e : EF} {es : List SD} (enc : α → D) (I : Nat → List D → Store → Prop) (hg : ∀ i acc S, I i acc S → g.ok S) : ∀ (xs : List α) (i : Nat) (acc : List D) (S : Store), I i acc S →
    (∀ j x acc S, xs[j]? = some x → I (i + j) acc S → ∃ es1 y S', t (enc x) es S = some es1 ∧ c es1 S = .ok (.bl true) S ∧ e es1 S = .ok y S' ∧ I (i + j + 1) (acc ++ [y]) S') →
    ∃ acc' S', lcL q g t c e es (xs.map enc) S acc = (if q = true then .ok (.cell S'.length) (S' ++ [acc']) else .ok (.lst acc') S') ∧ I (i + xs.length) acc' S'
  | [], i, acc, S, h, _ => ⟨acc, S, by rw [List.map_nil, lcL_nilG (hg _ _ _ h)], h⟩
  | x :: xs, i, acc, S, h, st => by
    obtain ⟨es1, y, S1, h1, h2, h3, h4⟩ := st 0 x acc S rfl h
    obtain ⟨acc', S', k1, k2⟩ := lcL_runG enc I hg xs (i + 1) (acc ++ [y]) S1 h4 fun j z acc S hj hI => by
      have := st (j + 1) z acc S hj (by rw [Nat.add_assoc, Nat.add_comm 1 j] at hI; exact hI)
      rw [show i + 1 + j + 1 = i + (j + 1) + 1 by omega]
      exact this
    refine ⟨acc', S', ?_, by rw [List.length_cons, show i + (xs.length + 1) = i + 1 + xs.length by omega]; exact k2⟩
    rw [List.map_cons, lcL_consG (hg _ _ _ h) h1 h2 h3, k1]
/-- S' is S but for the cell b, and for new cells -/
def Ext (b : Nat) (S S' : Store) : Prop := S.length ≤ S'.length ∧ ∀ j, j < S.length → j ≠ b → S'[j]? = S[j]?
theorem Ext.refl {b : Nat} {S : Store} : Ext b S S := ⟨Nat.le_refl _, fun _ _ _ => rfl⟩
theorem Ext.trans {b : Nat} {S S1 S2 : Store} (h : Ext b S S1) (k : Ext b S1 S2) : Ext b S S2 := ⟨Nat.le_trans h.1 k.1, fun j hj hb => (k.2 j (Nat.lt_of_lt_of_le hj h.1) hb).trans (h.2 j hj hb)⟩
theorem Ext.app {b : Nat} {S J : Store} : Ext b S (S ++ J) := ⟨by rw [List.length_append]; omega, fun j hj _ => List.getElem?_append_left hj⟩
theorem Ext.get {b j : Nat} {S S' : Store} {x : List D} (h : Ext b S S') (hb : j ≠ b) (e : S[j]? = some x) : S'[j]? = some x := by
  rw [h.2 j (List.getElem?_eq_some_iff.mp e).1 hb, e]
end DL
set_option Elab.async false
set_option linter.all false
set_option maxRecDepth 100000
set_option maxHeartbeats 2000000
set_option autoImplicit false
namespace K04
open PySem L2 DL
/-! ### Euclid -/
theorem natAbs_fmod_lt (a : Int) {b : Int} (h : b ≠ 0) : (a.fmod b).natAbs < b.natAbs := by
  rw [Int.fmod_eq_emod]
  have h1 := Int.emod_nonneg a h
  have h2 := Int.emod_lt a h
  by_cases hc : 0 ≤ b ∨ b ∣ a
  · rw [if_pos hc]
    omega
  · rw [if_neg hc]
    have h3 : a % b ≠ 0 := fun z => hc (.inr (Int.dvd_of_emod_eq_zero z))
    have h4 : b < 0 := by
      rcases Int.lt_or_le b 0 with q | q
      · exact q
      · exact absurd (.inl q) hc
    omega
theorem gcd_fmod (a b : Int) : Int.gcd b (a.fmod b) = Int.gcd a b := by
  rw [Int.fmod_def, Int.gcd_sub_mul_left_right, Int.gcd_comm]
theorem gcd_w2 {S : Store} : ∀ (m : Nat) (a b : Int), b.natAbs ≤ m → ∃ (n : Nat) (g : Int), g.natAbs = Int.gcd a b ∧
    whileN (eOp2 gNe (eVar 1) (eC (.int 0))) (sPar 0 1 (aCons (eVar 1) (aCons (eOp2 iModN (eVar 0) (eVar 1)) aNil))) n [.val (.int a), .val (.int b)] S = some (.next [.val (.int g), .val (.int 0)] S) := by
  intro m
  induction m with
  | zero =>
    intro a b h
    have hb : b = 0 := by omega
    subst hb
    exact ⟨1, a, by simp, by simp [whileN]⟩
  | succ m ih =>
    intro a b h
    by_cases hb : b = 0
    · subst hb
      exact ⟨1, a, by simp, by simp [whileN]⟩
    · have h1 := natAbs_fmod_lt a hb
      obtain ⟨n, g, e1, e2⟩ := ih b (a.fmod b) (by omega)
      refine ⟨n + 1, g, by rw [e1, gcd_fmod], ?_⟩
      rw [← e2]
      simp [whileN, hb, iModN_ok hb]
theorem gcd_w4 {S : Store} {u v : SD} : ∀ (m : Nat) (a b : Int), b.natAbs ≤ m → ∃ (n : Nat) (g : Int), (g.natAbs = Int.gcd a b ∧ (0 ≤ a → 0 ≤ b → 0 ≤ g)) ∧
    whileN (eOp2 gNe (eVar 3) (eC (.int 0))) (sPar 2 3 (aCons (eVar 3) (aCons (eOp2 iModN (eVar 2) (eVar 3)) aNil))) n [u, v, .val (.int a), .val (.int b)] S = some (.next [u, v, .val (.int g), .val (.int 0)] S) := by
  intro m
  induction m with
  | zero =>
    intro a b h
    have hb : b = 0 := by omega
    subst hb
    exact ⟨1, a, ⟨by simp, fun h _ => h⟩, by simp [whileN]⟩
  | succ m ih =>
    intro a b h
    by_cases hb : b = 0
    · subst hb
      exact ⟨1, a, ⟨by simp, fun h _ => h⟩, by simp [whileN]⟩
    · have h1 := natAbs_fmod_lt a hb
      obtain ⟨n, g, ⟨e1, e3⟩, e2⟩ := ih b (a.fmod b) (by omega)
      refine ⟨n + 1, g, ⟨by rw [e1, gcd_fmod], fun ha hb => e3 hb (Int.fmod_nonneg ha hb)⟩, ?_⟩
      rw [← e2]
      simp [whileN, hb, iModN_ok hb]
theorem abs_eq (g : Int) : (if g < 0 then -g else g) = (g.natAbs : Int) := by omega
theorem cd_eval {S : Store} (a b : Int) : D_common_divisor [.int a, .int b] S = .ok (.int (Int.gcd a b)) S := by
  obtain ⟨n, g, e1, e2⟩ := gcd_w2 (S := S) b.natAbs a b (Nat.le_refl _)
  unfold D_common_divisor b_common_divisor
  simp [fnD_eq, startD, sWhile_eq e2, abs_eq, e1]
/-! ### fractions -/
abbrev Q2 := Int × Int
def pc (a b : Int) : Int := if 0 < b then (Int.gcd a b : Int) else -(Int.gcd a b : Int)
def nf (a b : Int) : Q2 := (a.fdiv (pc a b), b.fdiv (pc a b))
def fr (x : Q2) : D := .tup [.int x.1, .int x.2]
def rt (x : Q2) : D := .obj 0 [.int x.2, .int x.1]
structure Fq (n : Nat) (x : Q2) : Prop where
  pos : 0 < x.2
  cop : Int.gcd x.1 x.2 = 1
  s1 : x.1.natAbs < 2 ^ n
  s2 : x.2.natAbs < 2 ^ n
theorem pc_abs (a b : Int) : (pc a b).natAbs = Int.gcd a b := by
  unfold pc
  split <;> omega
theorem pc_ne {a b : Int} (h : b ≠ 0) : pc a b ≠ 0 := by
  have := Int.gcd_pos_of_ne_zero_right a h
  have := pc_abs a b
  omega
theorem pc_small {a b : Int} (h : b ≠ 0) (hs : b.natAbs < 2 ^ 8000) : bits (pc a b) < 9000 := by
  refine bits_small ?_
  rw [pc_abs]
  exact Nat.lt_of_le_of_lt (Int.gcd_le_natAbs_right a h) hs
theorem fr_eq (x : Q2) : D.tup [.int x.1, .int x.2] = fr x := rfl
theorem frac_eval {S : Store} {a b : Int} (h : b ≠ 0) (hs : b.natAbs < 2 ^ 8000) : D__law_frac [.int a, .int b] S = .ok (fr (nf a b)) S := by
  obtain ⟨n, g, ⟨e1, e3⟩, e2⟩ := gcd_w4 (S := S) (u := .val (.int a)) (v := .val (.int b)) b.natAbs (if a < 0 then -a else a) (if b < 0 then -b else b) (by split <;> omega)
  have eg : g = (Int.gcd a b : Int) := by
    have h0 : 0 ≤ g := e3 (by split <;> omega) (by split <;> omega)
    rw [abs_eq, abs_eq] at e1
    have : Int.gcd (a.natAbs : Int) (b.natAbs : Int) = Int.gcd a b := rfl
    omega
  subst eg
  have n0 := pc_ne (a := a) h
  have n1 := pc_small (a := a) h hs
  unfold D__law_frac b__law_frac
  have key : ∀ q : Int, (if 0 < b then (Int.gcd a b : Int) else -(Int.gcd a b : Int)) = q → q ≠ 0 → bits q < 9000 → True := fun _ _ _ _ => trivial
  by_cases hb : 0 < b
  · have ep : pc a b = (Int.gcd a b : Int) := if_pos hb
    rw [ep] at n0 n1
    simp [fnD_eq, startD, sWhile_eq e2, hb, iDivN_ok n0 n1, fr, nf, ep]
  · have ep : pc a b = -(Int.gcd a b : Int) := if_neg hb
    rw [ep] at n0 n1
    simp [fnD_eq, startD, sWhile_eq e2, hb, iDivN_ok n0 n1, fr, nf, ep]
theorem isint_int {S : Store} (a : Int) : D_is_integer [.int a] S = .ok (.bl true) S := by
  unfold D_is_integer b_is_integer
  simp [fnD_eq, startD]
theorem init_eval {S : Store} {a b : Int} (h : b ≠ 0) (hs : b.natAbs < 2 ^ 8000) : I_Ratiod__initd_ [.int a, .int b] S = .ok [.int (nf a b).2, .int (nf a b).1] S := by
  have n0 := pc_ne (a := a) h
  have n1 := pc_small (a := a) h hs
  unfold I_Ratiod__initd_ b_Ratiod__initd_
  by_cases hb : 0 < b
  · have ep : pc a b = (Int.gcd a b : Int) := if_pos hb
    rw [ep] at n0 n1
    simp [initD_eq, startI, isint_int, cd_eval, h, hb, iDivN_ok n0 n1, nf, ep, isSlf, ord, sNil]
  · have ep : pc a b = -(Int.gcd a b : Int) := if_neg hb
    rw [ep] at n0 n1
    simp [initD_eq, startI, isint_int, cd_eval, h, hb, iDivN_ok n0 n1, nf, ep, isSlf, ord, sNil]
theorem new_eval {S : Store} {a b : Int} (h : b ≠ 0) (hs : b.natAbs < 2 ^ 8000) : newD 0 2 I_Ratiod__initd_ [.int a, .int b] S = .ok (rt (nf a b)) S := by
  simp [newD, init_eval h hs, rt]
theorem dvd_a (a b : Int) : (Int.gcd a b : Int) ∣ a := Int.gcd_dvd_left a b
theorem dvd_b (a b : Int) : (Int.gcd a b : Int) ∣ b := Int.gcd_dvd_right a b
theorem nf_pos {a b : Int} (h : 0 < b) : nf a b = (a / (Int.gcd a b : Int), b / (Int.gcd a b : Int)) := by
  unfold nf pc
  rw [if_pos h, Int.fdiv_eq_ediv_of_dvd (dvd_a a b), Int.fdiv_eq_ediv_of_dvd (dvd_b a b)]
theorem nf_neg {a b : Int} (h : b < 0) : nf a b = nf (-a) (-b) := by
  unfold nf pc
  rw [if_neg (by omega), if_pos (by omega), Int.gcd_neg, Int.neg_gcd, ← Int.neg_fdiv_neg a, ← Int.neg_fdiv_neg b, Int.neg_neg]
theorem nf_ok' {n : Nat} {a b : Int} (h : 0 < b) (ha : a.natAbs < 2 ^ n) (hb : b.natAbs < 2 ^ n) : Fq n (nf a b) := by
  rw [nf_pos h]
  have g0 : 0 < Int.gcd a b := Int.gcd_pos_of_ne_zero_right a (by omega)
  refine ⟨?_, Int.gcd_ediv_gcd_ediv_gcd g0, Nat.lt_of_le_of_lt (Int.natAbs_ediv_le_natAbs a _) ha, Nat.lt_of_le_of_lt (Int.natAbs_ediv_le_natAbs b _) hb⟩
  show 0 < b / (Int.gcd a b : Int)
  exact Int.ediv_pos_of_pos_of_dvd h (by omega) (dvd_b a b)
theorem nf_ok {n : Nat} {a b : Int} (h : b ≠ 0) (ha : a.natAbs < 2 ^ n) (hb : b.natAbs < 2 ^ n) : Fq n (nf a b) := by
  rcases Int.lt_or_gt_of_ne h with q | q
  · rw [nf_neg q]
    exact nf_ok' (by omega) (by omega) (by omega)
  · exact nf_ok' q ha hb
theorem nf_id {x : Q2} (h : 0 < x.2) (hc : Int.gcd x.1 x.2 = 1) : nf x.1 x.2 = x := by
  rw [nf_pos h, hc]
  simp
theorem nf_mul {x : Q2} {s : Int} (h : 0 < x.2) (hc : Int.gcd x.1 x.2 = 1) (hs : 0 < s) : nf (x.1 * s) (x.2 * s) = x := by
  have e : (Int.gcd (x.1 * s) (x.2 * s) : Int) = s := by
    rw [Int.gcd_mul_right, hc]
    omega
  rw [nf_pos (Int.mul_pos h hs), e, Int.mul_ediv_cancel _ (by omega), Int.mul_ediv_cancel _ (by omega)]
theorem nf_mulN {x : Q2} {s : Int} (h : 0 < x.2) (hc : Int.gcd x.1 x.2 = 1) (hs : 0 < s) : nf (-x.1 * s) (-x.2 * s) = x := by
  have := Int.mul_pos h hs
  rw [Int.neg_mul, Int.neg_mul, nf_neg (by omega), Int.neg_neg, Int.neg_neg]
  exact nf_mul h hc hs
theorem Fq.mono {n m : Nat} {x : Q2} (h : Fq n x) (l : n ≤ m) : Fq m x := ⟨h.pos, h.cop, Nat.lt_of_lt_of_le h.s1 (Nat.pow_le_pow_right (by decide) l), Nat.lt_of_lt_of_le h.s2 (Nat.pow_le_pow_right (by decide) l)⟩
end K04
set_option Elab.async false
set_option linter.all false
set_option maxRecDepth 100000
set_option maxHeartbeats 2000000
set_option autoImplicit false
namespace K04
open PySem L2 DL
/-! ### operations -/
def Num (y : D) (x : Q2) : Prop := y = rt x ∨ (y = .int x.1 ∧ x.2 = 1)
def pl (x z : Q2) : Q2 := nf (x.1 * z.2 + z.1 * x.2) (x.2 * z.2)
def mn (x z : Q2) : Q2 := nf (x.1 * z.2 - z.1 * x.2) (x.2 * z.2)
def ti (x z : Q2) : Q2 := nf (x.1 * z.1) (x.2 * z.2)
def ov (x z : Q2) : Q2 := nf (x.1 * z.2) (x.2 * z.1)
theorem mM {S : Store} {i j : Int} (h1 : i.natAbs < 2 ^ 8000) (h2 : j.natAbs < 2 ^ 8000) : iMul (.int i) (.int j) S = .ok (.int (i * j)) S := by
  refine iMul_ok ?_
  have := bits_small h1
  have := bits_small h2
  omega
theorem up8 {n : Nat} {i : Int} (h : i.natAbs < 2 ^ n) (l : n ≤ 8000) : i.natAbs < 2 ^ 8000 := Nat.lt_of_lt_of_le h (Nat.pow_le_pow_right (by decide) l)
theorem upn {n m : Nat} {i : Int} (h : i.natAbs < 2 ^ n) (l : n ≤ m) : i.natAbs < 2 ^ m := Nat.lt_of_lt_of_le h (Nat.pow_le_pow_right (by decide) l)
theorem mul_lt {n m : Nat} {i j : Int} (h1 : i.natAbs < 2 ^ n) (h2 : j.natAbs < 2 ^ m) : (i * j).natAbs < 2 ^ (n + m) := by
  rw [Int.natAbs_mul, Nat.pow_add]
  exact Nat.mul_lt_mul'' h1 h2
theorem add_lt {n : Nat} {i j : Int} (h1 : i.natAbs < 2 ^ n) (h2 : j.natAbs < 2 ^ n) : (i + j).natAbs < 2 ^ (n + 1) := by
  have := Int.natAbs_add_le i j
  rw [Nat.pow_succ]
  omega
theorem sub_lt {n : Nat} {i j : Int} (h1 : i.natAbs < 2 ^ n) (h2 : j.natAbs < 2 ^ n) : (i - j).natAbs < 2 ^ (n + 1) := by
  have := Int.natAbs_sub_le i j
  rw [Nat.pow_succ]
  omega
section
variable {S : Store} {n m : Nat} {x z : Q2} {y : D}
theorem pl_ok (hx : Fq n x) (hz : Fq m z) : Fq (n + m + 1) (pl x z) := by
  refine nf_ok (Int.ne_of_gt (Int.mul_pos hx.pos hz.pos)) (add_lt (mul_lt hx.s1 hz.s2) ?_) (upn (mul_lt hx.s2 hz.s2) (by omega))
  rw [Nat.add_comm]
  exact mul_lt hz.s1 hx.s2
theorem mn_ok (hx : Fq n x) (hz : Fq m z) : Fq (n + m + 1) (mn x z) := by
  refine nf_ok (Int.ne_of_gt (Int.mul_pos hx.pos hz.pos)) (sub_lt (mul_lt hx.s1 hz.s2) ?_) (upn (mul_lt hx.s2 hz.s2) (by omega))
  rw [Nat.add_comm]
  exact mul_lt hz.s1 hx.s2
theorem ti_ok (hx : Fq n x) (hz : Fq m z) : Fq (n + m) (ti x z) := nf_ok (Int.ne_of_gt (Int.mul_pos hx.pos hz.pos)) (mul_lt hx.s1 hz.s1) (mul_lt hx.s2 hz.s2)
theorem den_ne (hx : Fq n x) (hz : Fq m z) : x.2 * z.2 ≠ 0 := Int.ne_of_gt (Int.mul_pos hx.pos hz.pos)
theorem den_s (hx : Fq n x) (hz : Fq m z) (h : n + m ≤ 8000) : (x.2 * z.2).natAbs < 2 ^ 8000 := up8 (mul_lt hx.s2 hz.s2) h
theorem top_eval : D_Ratio_top [rt x] S = .ok (.int x.1) S := by
  unfold D_Ratio_top b_Ratio_top rt
  simp [fnD_eq, startD]
theorem bottom_eval : D_Ratio_bottom [rt x] S = .ok (.int x.2) S := by
  unfold D_Ratio_bottom b_Ratio_bottom rt
  simp [fnD_eq, startD]
theorem gProp_top : gProp 0 D_Ratio_top (rt x) S = .ok (.int x.1) S := by
  have := top_eval (x := x) (S := S)
  unfold rt at this ⊢
  simp [this]
theorem gProp_bot : gProp 0 D_Ratio_bottom (rt x) S = .ok (.int x.2) S := by
  have := bottom_eval (x := x) (S := S)
  unfold rt at this ⊢
  simp [this]
theorem slot_up : gSlot 0 1 (rt x) S = .ok (.int x.1) S := by simp [rt]
theorem slot_dn : gSlot 0 0 (rt x) S = .ok (.int x.2) S := by simp [rt]
theorem isi_rt : gIsi [0, 4] (rt x) (.cls 0) S = .ok (.bl true) S := by simp [rt]
theorem parts_rt : D_parts [rt x] S = .ok (fr x) S := by
  unfold D_parts b_parts
  simp [fnD_eq, startD, isi_rt, gProp_top, gProp_bot, fr]
theorem parts_int {i : Int} : D_parts [.int i] S = .ok (fr (i, 1)) S := by
  unfold D_parts b_parts
  simp [fnD_eq, startD, fr, sNil]
theorem parts_num (h : Num y x) : D_parts [y] S = .ok (fr x) S := by
  rcases h with rfl | ⟨rfl, e⟩
  · exact parts_rt
  · obtain ⟨a, b⟩ := x
    subst e
    exact parts_int
theorem told_eval : D__law_told [rt x] S = .ok (fr x) S := by
  unfold D__law_told b__law_told
  simp [fnD_eq, startD, gProp_top, gProp_bot, fr]
theorem ix0 : gIx (fr x) (.int 0) S = .ok (.int x.1) S := by simp [fr]
theorem ix1 : gIx (fr x) (.int 1) S = .ok (.int x.2) S := by simp [fr]
theorem tg2 {es : List SD} {i j : Nat} : tgT 2 (tsCons (tgN i) (tsCons (tgN j) tsNil)) (fr x) es S = some ((es.set i (.val (.int x.1))).set j (.val (.int x.2))) := by simp [fr]
theorem given_eval (hx : Fq n x) (h : n ≤ 8000) : ∃ y, Num y x ∧ D__law_given [fr x] S = .ok y S := by
  by_cases h1 : x.2 = 1
  · refine ⟨.int x.1, .inr ⟨rfl, h1⟩, ?_⟩
    unfold D__law_given b__law_given
    simp [fnD_eq, startD, ix0, ix1, h1]
  · refine ⟨rt x, .inl rfl, ?_⟩
    have e := new_eval (S := S) (a := x.1) (b := x.2) (Int.ne_of_gt hx.pos) (up8 hx.s2 h)
    rw [nf_id hx.pos hx.cop] at e
    unfold D__law_given b__law_given
    simp [fnD_eq, startD, ix0, ix1, h1, e]
theorem add_eval (hx : Fq n x) (hz : Fq m z) (hy : Num y z) (h : n + m ≤ 8000) : D_Ratiod__addd_ [rt x, y] S = .ok (rt (pl x z)) S := by
  unfold D_Ratiod__addd_ b_Ratiod__addd_
  simp [fnD_eq, startD, parts_num hy, tg2, slot_up, slot_dn, mM (up8 hx.s1 (by omega)) (up8 hz.s2 (by omega)), mM (up8 hz.s1 (by omega)) (up8 hx.s2 (by omega)), mM (up8 hx.s2 (by omega)) (up8 hz.s2 (by omega)), new_eval (den_ne hx hz) (den_s hx hz h), pl]
theorem sub_eval (hx : Fq n x) (hz : Fq m z) (hy : Num y z) (h : n + m ≤ 8000) : D_Ratiod__subd_ [rt x, y] S = .ok (rt (mn x z)) S := by
  unfold D_Ratiod__subd_ b_Ratiod__subd_
  simp [fnD_eq, startD, parts_num hy, tg2, slot_up, slot_dn, mM (up8 hx.s1 (by omega)) (up8 hz.s2 (by omega)), mM (up8 hz.s1 (by omega)) (up8 hx.s2 (by omega)), mM (up8 hx.s2 (by omega)) (up8 hz.s2 (by omega)), new_eval (den_ne hx hz) (den_s hx hz h), mn]
theorem mul_eval (hx : Fq n x) (hz : Fq m z) (hy : Num y z) (h : n + m ≤ 8000) : D_Ratiod__muld_ [rt x, y] S = .ok (rt (ti x z)) S := by
  unfold D_Ratiod__muld_ b_Ratiod__muld_
  simp [fnD_eq, startD, parts_num hy, tg2, slot_up, slot_dn, mM (up8 hx.s1 (by omega)) (up8 hz.s1 (by omega)), mM (up8 hx.s2 (by omega)) (up8 hz.s2 (by omega)), new_eval (den_ne hx hz) (den_s hx hz h), ti]
theorem neg_eval (hx : Fq n x) (h : n ≤ 8000) : D_Ratiod__negd_ [rt x] S = .ok (rt (-x.1, x.2)) S := by
  have e := new_eval (S := S) (a := -x.1) (b := x.2) (Int.ne_of_gt hx.pos) (up8 hx.s2 h)
  have e2 : nf (-x.1) x.2 = (-x.1, x.2) := nf_id (x := (-x.1, x.2)) hx.pos (by show Int.gcd (-x.1) x.2 = 1; rw [Int.neg_gcd]; exact hx.cop)
  rw [e2] at e
  unfold D_Ratiod__negd_ b_Ratiod__negd_
  simp [fnD_eq, startD, slot_up, slot_dn, e]
theorem plus_eval (hx : Fq n x) (hz : Fq m z) (h : n + m ≤ 8000) : D__law_plus [fr x, fr z] S = .ok (fr (pl x z)) S := by
  unfold D__law_plus b__law_plus
  simp [fnD_eq, startD, ix0, ix1, mM (up8 hx.s1 (by omega)) (up8 hz.s2 (by omega)), mM (up8 hz.s1 (by omega)) (up8 hx.s2 (by omega)), mM (up8 hx.s2 (by omega)) (up8 hz.s2 (by omega)), frac_eval (den_ne hx hz) (den_s hx hz h), pl]
theorem times_eval (hx : Fq n x) (hz : Fq m z) (h : n + m ≤ 8000) : D__law_times [fr x, fr z] S = .ok (fr (ti x z)) S := by
  unfold D__law_times b__law_times
  simp [fnD_eq, startD, ix0, ix1, mM (up8 hx.s1 (by omega)) (up8 hz.s1 (by omega)), mM (up8 hx.s2 (by omega)) (up8 hz.s2 (by omega)), frac_eval (den_ne hx hz) (den_s hx hz h), ti]
theorem isnum_num (h : Num y x) : D_is_number [y] S = .ok (.bl true) S := by
  unfold D_is_number b_is_number
  rcases h with rfl | ⟨rfl, _⟩
  · simp [fnD_eq, startD, isi_rt]
  · simp [fnD_eq, startD, isint_int]
theorem eq_eval (hy : Num y z) : D_Ratiod__eqd_ [rt x, y] S = .ok (.bl (decide (x.1 = z.1) && decide (x.2 = z.2))) S := by
  unfold D_Ratiod__eqd_ b_Ratiod__eqd_
  simp [fnD_eq, startD, isnum_num hy, sNil, slot_up, slot_dn, parts_num hy]
  simp [fr]
theorem ownEq_num (hy : Num y z) : gOwnEq [0, 4] 0 D_Ratiod__eqd_ (rt x) y S = .ok (.bl (decide (x.1 = z.1) && decide (x.2 = z.2))) S := by
  have e := eq_eval (S := S) (x := x) hy
  rcases hy with rfl | ⟨rfl, _⟩
  · unfold gOwnEq
    simp [rt, kind] at e ⊢
    exact e
  · unfold gOwnEq
    simp [rt, kind] at e ⊢
    exact e
theorem own_num {den : List D → Store → Res} {d : D} {S' : Store} (hy : Num y z) (e : den [rt x, y] S = .ok d S') : gOwn 0 den (rt x) y S = .ok d S' := by
  rcases hy with rfl | ⟨rfl, _⟩
  · unfold rt at e ⊢
    simp [e]
  · unfold rt at e ⊢
    simp [e]
end
end K04
set_option Elab.async false
set_option linter.all false
set_option maxRecDepth 100000
set_option maxHeartbeats 4000000
set_option autoImplicit false
namespace K04
open PySem L2 DL
/-! ### the bag -/
def Bag (S : Store) (c : Nat) (k : Int) : Prop := ∃ a b r : Int, S[c]? = some [.int a, .int b, .int r] ∧ 0 ≤ a ∧ 0 ≤ b ∧ b < 2147483648 ∧ 0 ≤ r ∧ r ≤ k
section
variable {S S1 : Store} {c : Nat} {k : Int} {n m : Nat} {x z : Q2} {y : D}
theorem Bag.mono {l : Int} (h : Bag S c k) (hl : k ≤ l) : Bag S c l := by
  obtain ⟨a, b, r, h1, h2, h3, h4, h5, h6⟩ := h
  exact ⟨a, b, r, h1, h2, h3, h4, h5, by omega⟩
theorem get_set {ds fs : List D} (h : S[c]? = some ds) : (S.set c fs)[c]? = some fs := List.getElem?_set_self (List.getElem?_eq_some_iff.mp h).1
theorem sStore_eq {fo fi fe : EF} {es : List SD} : sStore fo fi fe es S = (fe es S).toS es fun d S1 => (fo es S1).toS es fun o S2 => (fi es S2).toS es fun i S3 => match o, i with
  | .cell c, .int k => match S3[c]? with
    | some ds => match ixN ds.length k with
      | some j => .next es (S3.set c (ds.set j d))
      | none => .bad
    | none => .bad
  | _, _ => .bad := rfl
theorem ixN30 : ixN 3 0 = some 0 := by decide
theorem ixN32 : ixN 3 2 = some 2 := by decide
theorem c0 {a b r : D} (h : S[c]? = some [a, b, r]) : gIx (.cell c) (.int 0) S = .ok a S := gIx_cell (i := 0) h rfl
theorem c1 {a b r : D} (h : S[c]? = some [a, b, r]) : gIx (.cell c) (.int 1) S = .ok b S := gIx_cell (i := 1) h rfl
theorem c2 {a b r : D} (h : S[c]? = some [a, b, r]) : gIx (.cell c) (.int 2) S = .ok r S := gIx_cell (i := 2) h rfl
theorem take_eval {w : Int} (h : Bag S c k) (hk : k ≤ 1000000000) (hw : 0 < w) (hw2 : w.natAbs < 2 ^ 8000) :
    ∃ v S', D__law_take [.cell c, .int w] S = .ok (.int v) S' ∧ 0 ≤ v ∧ v < w ∧ Bag S' c (k + 1) ∧ S'.length = S.length := by
  obtain ⟨a, b, r, hc, ha, hb, hb2, hr, hr2⟩ := h
  by_cases h0 : 0 < a
  · refine ⟨a % w, S.set c [.int (a / w), .int b, .int r], ?_, Int.emod_nonneg _ (by omega), Int.emod_lt_of_pos _ hw, ⟨a / w, b, r, get_set hc, Int.ediv_nonneg ha (by omega), hb, hb2, hr, by omega⟩, List.length_set⟩
    unfold D__law_take b__law_take
    simp [fnD_eq, startD, sNil, c0 hc, h0, iMod_ok hw, iDiv_ok hw (bits_small hw2), sStore_eq, hc, ixN30]
  · let S2 : Store := S.set c [.int a, .int b, .int (r + 1)]
    have hc2 : S2[c]? = some [.int a, .int b, .int (r + 1)] := get_set hc
    let u : Int := (b + 86028121 * (r + 1) + 947) ^ 5 % 2147483647
    let v : Int := (u + 104729 * (r + 1)) ^ 3 % 2147483587
    have hu0 : 0 ≤ u := Int.emod_nonneg _ (by decide)
    have hu1 : u < 2147483647 := Int.emod_lt_of_pos _ (by decide)
    have hv0 : 0 ≤ v := Int.emod_nonneg _ (by decide)
    have p1 := iPow_ok (S := S2) (i := b + 86028121 * (r + 1) + 947) (j := 5) (by decide) (by decide) (by omega)
    have p2 := iPow_ok (S := S2) (i := u + 104729 * (r + 1)) (j := 3) (by decide) (by decide) (by omega)
    have m1 := iMul_ok (S := S2) (i := 86028121) (j := r + 1) (by
      have := bits_lt (i := r + 1) (n := 64) (by omega) (by decide)
      have := bits_lt (i := 86028121) (n := 64) (by decide) (by decide)
      omega)
    have m2 := iMul_ok (S := S2) (i := 104729) (j := r + 1) (by
      have := bits_lt (i := r + 1) (n := 64) (by omega) (by decide)
      have := bits_lt (i := 104729) (n := 64) (by decide) (by decide)
      omega)
    have q1 : iMod (.int ((b + 86028121 * (r + 1) + 947) ^ 5)) (.int 2147483647) S2 = .ok (.int u) S2 := iMod_ok (by decide)
    have q2 : iMod (.int ((u + 104729 * (r + 1)) ^ 3)) (.int 2147483587) S2 = .ok (.int v) S2 := iMod_ok (by decide)
    have q3 := iDiv_ok (S := S2) (i := v) (j := 16) (by decide) (bits_small (up8 (n := 5) (by decide) (by decide)))
    have q4 := iMod_ok (S := S2) (i := v / 16) (j := w) hw
    have p1' : iPow (.int (b + 86028121 * (r + 1) + 947)) (.int 5) S2 = .ok (.int ((b + 86028121 * (r + 1) + 947) ^ 5)) S2 := p1
    have p2' : iPow (.int (u + 104729 * (r + 1))) (.int 3) S2 = .ok (.int ((u + 104729 * (r + 1)) ^ 3)) S2 := p2
    refine ⟨v / 16 % w, S2, ?_, Int.emod_nonneg _ (by omega), Int.emod_lt_of_pos _ hw, ⟨a, b, r + 1, hc2, ha, hb, hb2, by omega, by omega⟩, List.length_set⟩
    unfold D__law_take b__law_take
    have k1 := c1 hc2
    have k2 := c2 hc2
    have s2 : S.set c [.int a, .int b, .int (r + 1)] = S2 := rfl
    clear_value S2
    clear_value u
    clear_value v
    simp [fnD_eq, startD, sNil, c0 hc, c2 hc, h0, sStore_eq, hc, ixN32, s2, k1, k2, m1, m2, p1', p2', q1, q2, q3, q4]
theorem big {i : Int} (h0 : -100000000000000000000000000000 ≤ i) (h1 : i ≤ 100000000000000000000000000000) : i.natAbs < 2 ^ 98 := by
  have e : (2 : Nat) ^ 98 = 316912650057057350374175801344 := by decide
  omega
theorem number_eval (h : Bag S c k) (hk : k ≤ 900000000) : ∃ x S', D__law_number [.cell c] S = .ok (fr x) S' ∧ Fq 98 x ∧ Bag S' c (k + 5) ∧ S'.length = S.length := by
  obtain ⟨w, S1, e1, w0, w1, B1, l1⟩ := take_eval (w := 6) h (by omega) (by decide) (up8 (n := 5) (by decide) (by decide))
  by_cases h0 : w = 0
  · subst h0
    obtain ⟨a, S2, e2, a0, a1, B2, l2⟩ := take_eval (w := 13) B1 (by omega) (by decide) (up8 (n := 5) (by decide) (by decide))
    refine ⟨nf (a - 6) 1, S2, ?_, nf_ok (by decide) (big (by omega) (by omega)) (by decide), B2.mono (by omega), by omega⟩
    unfold D__law_number b__law_number
    simp [fnD_eq, startD, sNil, e1, e2, frac_eval (S := S2) (a := a - 6) (b := 1) (by decide) (up8 (n := 5) (by decide) (by decide))]
  · by_cases h4 : w < 4
    · obtain ⟨a, S2, e2, a0, a1, B2, l2⟩ := take_eval (w := 25) B1 (by omega) (by decide) (up8 (n := 5) (by decide) (by decide))
      obtain ⟨b, S3, e3, b0, b1, B3, l3⟩ := take_eval (w := 7) B2 (by omega) (by decide) (up8 (n := 5) (by decide) (by decide))
      refine ⟨nf (a - 12) (1 + b), S3, ?_, nf_ok (by omega) (big (by omega) (by omega)) (big (by omega) (by omega)), B3.mono (by omega), by omega⟩
      unfold D__law_number b__law_number
      simp [fnD_eq, startD, sNil, e1, h0, h4, e2, e3, frac_eval (S := S3) (a := a - 12) (b := 1 + b) (by omega) (up8 (big (by omega) (by omega)) (by decide))]
    · have pw : ∀ (S : Store) (j : Int), 0 ≤ j → j ≤ 1000000 → iPow (.int 10) (.int j) S = .ok (.int (10 ^ j.toNat)) S := fun S j h1 h2 => iPow_ok h1 h2 (by decide)
      have p29 : ∀ S : Store, iPow (.int 10) (.int 29) S = .ok (.int 100000000000000000000000000000) S := fun S => pw S 29 (by decide) (by decide)
      have p28 : ∀ S : Store, iPow (.int 10) (.int 28) S = .ok (.int 10000000000000000000000000000) S := fun S => pw S 28 (by decide) (by decide)
      have p12 : ∀ S : Store, iPow (.int 10) (.int 12) S = .ok (.int 1000000000000) S := fun S => pw S 12 (by decide) (by decide)
      have m5 : ∀ S : Store, iMul (.int 5) (.int 10000000000000000000000000000) S = .ok (.int 50000000000000000000000000000) S := fun S => iMul_ok (by
        have := bits_lt (i := 5) (n := 98) (by decide) (by decide)
        have := bits_lt (i := 10000000000000000000000000000) (n := 98) (by decide) (by decide)
        omega)
      obtain ⟨a, S2, e2, a0, a1, B2, l2⟩ := take_eval (w := 100000000000000000000000000000) B1 (by omega) (by decide) (up8 (n := 98) (by decide) (by decide))
      obtain ⟨b, S3, e3, b0, b1, B3, l3⟩ := take_eval (w := 100000000000000000000000000000) B2 (by omega) (by decide) (up8 (n := 98) (by decide) (by decide))
      have ef := frac_eval (S := S3) (a := a - 50000000000000000000000000000) (b := 1 + b) (by omega) (up8 (big (by omega) (by omega)) (by decide))
      by_cases h5 : w = 4
      · refine ⟨nf (a - 50000000000000000000000000000) (1 + b), S3, ?_, nf_ok (by omega) (big (by omega) (by omega)) (big (by omega) (by omega)), B3.mono (by omega), by omega⟩
        unfold D__law_number b__law_number
        subst h5
        simp [fnD_eq, startD, sNil, e1, p29, p28, m5, e2, e3, ef]
      · obtain ⟨a', S4, e4, a0', a1', B4, l4⟩ := take_eval (w := 3) B3 (by omega) (by decide) (up8 (n := 98) (by decide) (by decide))
        obtain ⟨b', S5, e5, b0', b1', B5, l5⟩ := take_eval (w := 1000000000000) B4 (by omega) (by decide) (up8 (n := 98) (by decide) (by decide))
        have ef' := frac_eval (S := S5) (a := a') (b := 1 + b') (by omega) (up8 (big (by omega) (by omega)) (by decide))
        refine ⟨nf a' (1 + b'), S5, ?_, nf_ok (by omega) (big (by omega) (by omega)) (big (by omega) (by omega)), B5.mono (by omega), by omega⟩
        unfold D__law_number b__law_number
        simp [fnD_eq, startD, sNil, e1, h0, h4, h5, p29, p28, p12, m5, e2, e3, ef, e4, e5, ef']
end
end K04
set_option Elab.async false
set_option linter.all false
set_option maxRecDepth 100000
set_option maxHeartbeats 4000000
set_option autoImplicit false
namespace K04
open PySem L2 DL
/-! ### polynomials -/
def trim (xs : List Q2) : List Q2 := (xs.reverse.dropWhile fun x => x.1 == 0).reverse
theorem trim_nil : trim [] = [] := rfl
theorem trim_snoc0 {xs : List Q2} {x : Q2} (h : x.1 = 0) : trim (xs ++ [x]) = trim xs := by
  unfold trim
  simp [h]
theorem trim_snoc1 {xs : List Q2} {x : Q2} (h : x.1 ≠ 0) : trim (xs ++ [x]) = xs ++ [x] := by
  unfold trim
  simp [h]
theorem snoc_ind {P : List Q2 → Prop} (h0 : P []) (h1 : ∀ xs x, P xs → P (xs ++ [x])) (xs : List Q2) : P xs := by
  have : ∀ n (xs : List Q2), xs.length = n → P xs := by
    intro n
    induction n with
    | zero => intro xs h; rw [List.length_eq_zero_iff.mp h]; exact h0
    | succ n ih =>
      intro xs h
      rcases List.eq_nil_or_concat xs with q | ⟨ys, y, q⟩
      · rw [q] at h; cases h
      · rw [List.concat_eq_append] at q
        subst q
        exact h1 ys y (ih ys (by simpa using h))
  exact this _ xs rfl
theorem trim_pre (xs : List Q2) : ∃ ys, xs = trim xs ++ ys := by
  induction xs using snoc_ind with
  | h0 => exact ⟨[], rfl⟩
  | h1 xs x ih =>
    obtain ⟨ys, e⟩ := ih
    by_cases h : x.1 = 0
    · refine ⟨ys ++ [x], ?_⟩
      rw [trim_snoc0 h, ← List.append_assoc, ← e]
    · exact ⟨[], by rw [trim_snoc1 h, List.append_nil]⟩
theorem trim_len (xs : List Q2) : (trim xs).length ≤ xs.length := by
  obtain ⟨ys, e⟩ := trim_pre xs
  have := congrArg List.length e
  rw [List.length_append] at this
  omega
theorem mem_trim {xs : List Q2} {x : Q2} (h : x ∈ trim xs) : x ∈ xs := by
  obtain ⟨ys, e⟩ := trim_pre xs
  rw [e]
  exact List.mem_append_left _ h
theorem trim_idem (xs : List Q2) : trim (trim xs) = trim xs := by
  induction xs using snoc_ind with
  | h0 => rfl
  | h1 xs x ih =>
    by_cases h : x.1 = 0
    · rw [trim_snoc0 h, ih]
    · rw [trim_snoc1 h, trim_snoc1 h]
theorem trim_app0 (xs : List Q2) (n : Nat) : trim (xs ++ List.replicate n (0, 1)) = trim xs := by
  induction n with
  | zero => simp
  | succ n ih =>
    rw [List.replicate_succ', ← List.append_assoc, trim_snoc0 rfl, ih]
/-- the last figure of a trimmed list is not nought -/
theorem trim_last {xs ys : List Q2} {x : Q2} (h : trim xs = ys ++ [x]) : x.1 ≠ 0 := by
  intro z
  have e := trim_idem xs
  rw [h, trim_snoc0 z] at e
  have := trim_len ys
  rw [e, List.length_append] at this
  simp at this
  omega
section
variable {S : Store} {n m : Nat} {x z : Q2} {y : D}
theorem gNeT_nil {den : List D → Store → Res} {ds : List D} : gNeT 0 1 den (.lst ds) (.lst []) S = .ok (.bl (!ds.isEmpty)) S := by
  cases ds with
  | nil => rfl
  | cons d ds => rfl
theorem iemp {α : Type} {ds : List α} {d : α} : (ds ++ [d]).isEmpty = false := by cases ds <;> rfl
theorem map_isEmpty {α : Type} (f : α → D) (xs : List α) : (xs.map f).isEmpty = xs.isEmpty := by cases xs <;> rfl
theorem ownEq0 : gOwnEq [0, 4] 0 D_Ratiod__eqd_ (rt x) (.int 0) S = .ok (.bl (decide (x.1 = 0) && decide (x.2 = 1))) S := ownEq_num (z := (0, 1)) (.inr ⟨rfl, rfl⟩)
theorem pop_loop {a0 a1 a2 : SD} (xs : List Q2) (h : ∀ x ∈ xs, 0 < x.2 ∧ Int.gcd x.1 x.2 = 1) : ∃ m, whileN (eAnd (eOp2 (gNeT 0 1 D_Ratiod__eqd_) (eVarT 3) (eLst aNil)) (eOp2 (gOwnEq [0, 4] 0 D_Ratiod__eqd_) (eOp2 gIx (eVarT 3) (eOp1 iNeg (eC (.int 1)))) (eC (.int 0)))) (sPop 3) m [a0, a1, a2, .acc (xs.map rt)] S = some (.next [a0, a1, a2, .acc ((trim xs).map rt)] S) := by
  induction xs using snoc_ind with
  | h0 => exact ⟨1, by simp [whileN, gNeT_nil, trim_nil]⟩
  | h1 xs x ih =>
    have hx := h x (by simp)
    by_cases h0 : x.1 = 0
    · have h2 : x.2 = 1 := by
        have := hx.2
        rw [h0, Int.gcd_zero_left] at this
        omega
      obtain ⟨m, e⟩ := ih fun y hy => h y (List.mem_append_left _ hy)
      refine ⟨m + 1, ?_⟩
      rw [trim_snoc0 h0, ← e]
      simp [whileN, gNeT_nil, iemp, gIx_lastL, ownEq0, h0, h2, sPop]
    · refine ⟨1, ?_⟩
      rw [trim_snoc1 h0]
      simp [whileN, gNeT_nil, iemp, gIx_lastL, ownEq0, h0]
theorem popL_loop {a0 : SD} (xs : List Q2) : ∃ m, whileN (eAnd (eOp2 (gNeT 0 1 D_Ratiod__eqd_) (eVarT 1) (eLst aNil)) (eOp2 gEq (eOp2 gIx (eOp2 gIx (eVarT 1) (eOp1 iNeg (eC (.int 1)))) (eC (.int 0))) (eC (.int 0)))) (sPop 1) m [a0, .acc (xs.map fr)] S = some (.next [a0, .acc ((trim xs).map fr)] S) := by
  induction xs using snoc_ind with
  | h0 => exact ⟨1, by simp [whileN, gNeT_nil, trim_nil]⟩
  | h1 xs x ih =>
    by_cases h0 : x.1 = 0
    · obtain ⟨m, e⟩ := ih
      refine ⟨m + 1, ?_⟩
      rw [trim_snoc0 h0, ← e]
      simp [whileN, gNeT_nil, iemp, gIx_lastL, ix0, h0, sPop]
    · refine ⟨1, ?_⟩
      rw [trim_snoc1 h0]
      simp [whileN, gNeT_nil, iemp, gIx_lastL, ix0, h0]
/-- the law's own look: a list, or a cell -/
theorem trim_eval {d : D} {xs : List Q2} (h : Sq S d (xs.map fr)) : D__law_trim [d] S = .ok (.lst ((trim xs).map fr)) S := by
  obtain ⟨m, e⟩ := popL_loop (S := S) (a0 := .val d) xs
  have ea : aListN (eVar 0) [.val d, .no] S = .ok (xs.map fr) S := by
    unfold aListN
    rcases h.cases with rfl | rfl | ⟨c, rfl, hc⟩
    · rfl
    · rfl
    · simp [deref, hc]
  unfold D__law_trim b__law_trim
  simp [fnD_eq, startD, sAccN, ea, sWhile_eq e]
end
end K04
set_option Elab.async false
set_option linter.all false
set_option maxRecDepth 100000
set_option maxHeartbeats 4000000
set_option autoImplicit false
namespace K04
open PySem L2 DL
theorem eLc_run {q : Bool} {vs : List Nat} {it : IF} {t : TF} {c e : EF} {es : List SD} {S S1 : Store} {ds : List D} {g : Gd} {r : Res} (h1 : it es S = .ok ds g S1) (h2 : ds.length < 1000000) (h3 : noAcc es vs = true) (h4 : lcL q g t c e (wipeD es vs) ds S1 [] = r) : eLc q vs it t c e es S = r := by
  rw [eLc_eq, h1]
  simp only
  rw [if_pos ⟨h2, h3⟩, h4]
/-- a comprehension over what is told by enc -/
theorem eLc_map {α : Type} {q : Bool} {vs : List Nat} {it : IF} {t : TF} {c e : EF} {es : List SD} {S S1 : Store} {g : Gd} {xs : List α} (enc f : α → D) (h1 : it es S = .ok (xs.map enc) g S1) (hg : g.ok S1) (h2 : xs.length < 1000000) (h3 : noAcc es vs = true)
    (h : ∀ x ∈ xs, ∃ es1, t (enc x) (wipeD es vs) S1 = some es1 ∧ c es1 S1 = .ok (.bl true) S1 ∧ e es1 S1 = .ok (f x) S1) : eLc q vs it t c e es S = if q = true then .ok (.cell S1.length) (S1 ++ [xs.map f]) else .ok (.lst (xs.map f)) S1 := by
  refine eLc_run h1 (by rw [List.length_map]; exact h2) h3 ?_
  rw [lcL_map enc f hg xs [] h, List.nil_append]
def poly (xs : List Q2) : D := .obj 4 [.lst (xs.map rt)]
/-- a list of fractions, below 2^n -/
def Fqs (n : Nat) (xs : List Q2) : Prop := ∀ x ∈ xs, Fq n x
section
variable {S S' : Store} {n m : Nat} {x z : Q2} {y : D} {xs zs : List Q2}
theorem Fqs.mono (h : Fqs n xs) (l : n ≤ m) : Fqs m xs := fun x hx => (h x hx).mono l
theorem Fqs.trim (h : Fqs n xs) : Fqs n (trim xs) := fun x hx => h x (mem_trim hx)
theorem Fqs.low (h : Fqs n xs) : ∀ x ∈ xs, 0 < x.2 ∧ Int.gcd x.1 x.2 = 1 := fun x hx => ⟨(h x hx).pos, (h x hx).cop⟩
theorem isl_sq {d : D} {ds : List D} (h : Sq S d ds) : D_is_list [d] S = .ok (.bl true) S := by
  unfold D_is_list b_is_list
  simp -implicitDefEqProofs [fnD_eq, startD, h.isl]
theorem asr_num (hy : Num y x) (hx : Fq n x) (h : n ≤ 8000) : D_as_ratio [y] S = .ok (rt x) S := by
  have e := new_eval (S := S) (a := x.1) (b := x.2) (Int.ne_of_gt hx.pos) (up8 hx.s2 h)
  rw [nf_id hx.pos hx.cop] at e
  unfold D_as_ratio b_as_ratio
  simp -implicitDefEqProofs [fnD_eq, startD, isnum_num hy, parts_num hy, ix0, ix1, sNil, e]
theorem poly_init {d : D} {f : Q2 → D} (h : Sq S d (xs.map f)) (hf : ∀ x ∈ xs, Num (f x) x) (hx : Fqs n xs) (hn : n ≤ 8000) (hl : xs.length < 1000000) : I_Polyd__initd_ [d] S = .ok [.lst ((trim xs).map rt)] S := by
  obtain ⟨g, i1, i2⟩ := h.it (es := [.slf, .val d, .no, .no]) (f := eVar 1) rfl
  have c1 := eLc_map (q := false) (vs := [2]) (t := tgN 2) (c := eYes) (e := eCall 1 D_is_number (aCons (eVar 2) aNil)) f (fun _ => D.bl true) i1 i2 hl (by rfl) fun x hx => ⟨_, rfl, rfl, by simp -implicitDefEqProofs [wipeD, isnum_num (hf x hx)]⟩
  have c2 := eLc_map (q := false) (vs := [2]) (t := tgN 2) (c := eYes) (e := eCall 1 D_as_ratio (aCons (eVar 2) aNil)) f rt i1 i2 hl (by rfl) fun x hxm => ⟨_, rfl, rfl, by simp -implicitDefEqProofs [wipeD, asr_num (hf x hxm) (hx x hxm) hn]⟩
  rw [if_neg Bool.false_ne_true] at c1 c2
  have ga : gAll (.lst (xs.map fun _ => D.bl true)) S = .ok (.bl true) S := by
    rw [gAll_map (P := fun _ => true)]
    simp
  obtain ⟨m, w⟩ := pop_loop (S := S) (a0 := .slf) (a1 := .val d) (a2 := .no) xs hx.low
  generalize D.lst (xs.map fun _ => D.bl true) = bs at c1 ga
  have b : b_Polyd__initd_ [.slf, .val d, .no, .no] S = .next [.slf, .val d, .no, .acc ((trim xs).map rt)] S := by
    unfold b_Polyd__initd_
    have s1 : sIf (eOr (eNot (eCall 1 D_is_list (aCons (eVar 1) aNil))) (eNot (eOp1 gAll (eLc false [2] (itSeq (eVar 1)) (tgN 2) eYes (eCall 1 D_is_number (aCons (eVar 2) aNil)))))) (sRaise 5 "value" (eVar 1)) sNil [.slf, .val d, .no, .no] S = .next [.slf, .val d, .no, .no] S := by
      simp -implicitDefEqProofs [-eLc_eq, isl_sq h, c1, ga, sNil]
    have s2 : sAccN 3 (eLcN [2] (itSeq (eVar 1)) (tgN 2) eYes (eCall 1 D_as_ratio (aCons (eVar 2) aNil))) [.slf, .val d, .no, .no] S = .next [.slf, .val d, .no, .acc (xs.map rt)] S := by
      unfold sAccN eLcN
      rw [c2]
      rfl
    rw [sSeq_eq, s1, Fl.bind_next, sSeq_eq, s2, Fl.bind_next, sSeq_eq, sWhile_eq w, Fl.bind_next, sPass_eq]
  unfold I_Polyd__initd_ initC
  rw [show startI 4 [d] = [.slf, .val d, .no, .no] from rfl, b]
  rfl
theorem poly_new {d : D} {f : Q2 → D} (h : Sq S d (xs.map f)) (hf : ∀ x ∈ xs, Num (f x) x) (hx : Fqs n xs) (hn : n ≤ 8000) (hl : xs.length < 1000000) : newC 4 1 1 I_Polyd__initd_ [d] S = .ok (poly (trim xs)) S := by
  unfold newC
  rw [poly_init h hf hx hn hl]
  rfl
theorem rt_num (x : Q2) : Num (rt x) x := .inl rfl
theorem poly_rt {ds : List D} (hd : ds = xs.map rt) (hx : Fqs n xs) (hn : n ≤ 8000) (hl : xs.length < 1000000) : newC 4 1 1 I_Polyd__initd_ [.lst ds] S = .ok (poly (trim xs)) S := by
  subst hd
  exact poly_new .lst (fun x _ => rt_num x) hx hn hl
theorem slot_poly : gSlot 4 0 (poly xs) S = .ok (.lst (xs.map rt)) S := by simp [poly]
theorem numbers_eval : D_Poly_numbers [poly xs] S = .ok (.lst (xs.map rt)) S := by
  unfold D_Poly_numbers b_Poly_numbers
  simp -implicitDefEqProofs [fnD_eq, startD, slot_poly]
theorem numbersC_eval : D_Poly_numbers_c [poly xs] S = .ok (.cell S.length) (S ++ [xs.map rt]) := by
  unfold D_Poly_numbers_c b_Poly_numbers_c
  have e : gListC (.lst (xs.map rt)) S = .ok (.cell S.length) (S ++ [xs.map rt]) := rfl
  simp -implicitDefEqProofs [fnD_eq, startD, slot_poly, e]
theorem degree_eval : D_Poly_degree [poly xs] S = .ok (.int ((xs.length : Int) - 1)) S := by
  unfold D_Poly_degree b_Poly_degree
  simp -implicitDefEqProofs [fnD_eq, startD, slot_poly]
theorem isObj_poly : isObj 4 (poly xs) = true := rfl
theorem lawnum_eval (hl : xs.length < 1000000) : D__law_numbers [poly xs] S = .ok (.lst (xs.map fr)) S := by
  have it : itSeq (eMeth 4 1 D_Poly_numbers (eVar 0) aNil) [.val (poly xs), .no] S = .ok (xs.map rt) [] S := by
    simp -implicitDefEqProofs [isObj_poly, numbers_eval]
  have c1 := eLc_map (q := false) (vs := [1]) (t := tgN 1) (c := eYes) (e := eCall 1 D__law_told (aCons (eVar 1) aNil)) rt fr it (Gd.ok_nil S) hl (by rfl) fun x hx => ⟨_, rfl, rfl, by simp -implicitDefEqProofs [wipeD, told_eval]⟩
  rw [if_neg Bool.false_ne_true] at c1
  unfold D__law_numbers b__law_numbers
  simp -implicitDefEqProofs [-eLc_eq, fnD_eq, startD, c1]
/-! ### equality -/
theorem eqObj_rt {k : Nat} : eqO 0 D_Ratiod__eqd_ S (k + 1) (rt x) (rt z) = some (decide (x = z)) := by
  have e := eq_eval (S := S) (x := x) (rt_num z)
  have e2 : (decide (x.1 = z.1) && decide (x.2 = z.2)) = decide (x = z) := by
    by_cases h : x = z
    · subst h; simp
    · have : ¬ (x.1 = z.1 ∧ x.2 = z.2) := fun q => h (Prod.ext q.1 q.2)
      simp [h]
      exact fun a b => this ⟨a, b⟩
  rw [e2] at e
  show (if 0 = 0 ∧ 0 = 0 then eqObj 0 D_Ratiod__eqd_ S [.int x.2, .int x.1] [.int z.2, .int z.1] else none) = _
  rw [if_pos ⟨rfl, rfl⟩]
  refine eqObj_eq e rfl rfl rfl fun q => ?_
  simp only [List.cons.injEq, D.int.injEq, and_true] at q
  exact decide_eq_true (Prod.ext q.2 q.1)
theorem allO_rt {k : Nat} : ∀ (xs zs : List Q2), xs.length = zs.length → allO (eqO 0 D_Ratiod__eqd_ S (k + 1)) (xs.map rt) (zs.map rt) = some (decide (xs = zs))
  | [], [], _ => rfl
  | [], z :: zs, h => by cases h
  | x :: xs, [], h => by cases h
  | x :: xs, z :: zs, h => by
    have ih := allO_rt (k := k) xs zs (by simpa using h)
    simp only [List.map_cons, allO, eqObj_rt, ih, Option.bind_some, Option.map_some]
    congr 1
    by_cases h1 : x = z <;> by_cases h2 : xs = zs <;> simp [h1, h2]
theorem eqO_rts {k : Nat} : eqO 0 D_Ratiod__eqd_ S (k + 2) (.lst (xs.map rt)) (.lst (zs.map rt)) = some (decide (xs = zs)) := by
  show (if (xs.map rt).length = (zs.map rt).length then allO (eqO 0 D_Ratiod__eqd_ S (k + 1)) (xs.map rt) (zs.map rt) else some false) = _
  rw [List.length_map, List.length_map]
  by_cases h : xs.length = zs.length
  · rw [if_pos h, allO_rt xs zs h]
  · rw [if_neg h]
    have : xs ≠ zs := fun q => h (by rw [q])
    simp [this]
theorem gEqO_rts : gEqO 0 2 D_Ratiod__eqd_ (.lst (xs.map rt)) (.lst (zs.map rt)) S = .ok (.bl (decide (xs = zs))) S := by
  unfold gEqO
  simp only
  rw [eqO_rts]
theorem isi_poly : gIsi [0, 4] (poly xs) (.cls 4) S = .ok (.bl true) S := by simp [poly]
theorem pq_eval : D_Polyd__eqd_ [poly xs, poly zs] S = .ok (.bl (decide (xs = zs))) S := by
  unfold D_Polyd__eqd_ b_Polyd__eqd_
  simp -implicitDefEqProofs [fnD_eq, startD, isi_poly, slot_poly, gEqO_rts]
theorem ownEq_poly : gOwnEq [0, 4] 4 D_Polyd__eqd_ (poly xs) (poly zs) S = .ok (.bl (decide (xs = zs))) S := by
  have e := pq_eval (S := S) (xs := xs) (zs := zs)
  unfold gOwnEq
  simp [poly, kind] at e ⊢
  exact e
theorem pq_lst {ds : List D} : D_Polyd__eqd_ [poly xs, .lst ds] S = .ok (.bl false) S := by
  have e : gIsi [0, 4] (.lst ds) (.cls 4) S = .ok (.bl false) S := by
    unfold gIsi isi1 kind
    simp
  unfold D_Polyd__eqd_ b_Polyd__eqd_
  simp -implicitDefEqProofs [fnD_eq, startD, e]
theorem ownEq_lst {ds : List D} : gOwnEq [0, 4] 4 D_Polyd__eqd_ (poly xs) (.lst ds) S = .ok (.bl false) S := by
  have e := pq_lst (S := S) (xs := xs) (ds := ds)
  unfold gOwnEq
  simp [poly, kind] at e ⊢
  exact e
end
end K04
set_option Elab.async false
set_option linter.all false
set_option maxRecDepth 100000
set_option maxHeartbeats 4000000
set_option autoImplicit false
namespace K04
open PySem L2 DL
/-! ### figures by place -/
def gd (xs : List Q2) (i : Nat) : Q2 := xs.getD i (0, 1)
def nsum (xs zs : List Q2) : Nat := max xs.length zs.length
def zw (f : Q2 → Q2 → Q2) (xs zs : List Q2) : List Q2 := (List.range (nsum xs zs)).map fun i => f (gd xs i) (gd zs i)
theorem gd_lt {xs : List Q2} {i : Nat} (h : i < xs.length) : xs[i]? = some (gd xs i) := by
  unfold gd
  rw [List.getElem?_eq_getElem h, List.getD_eq_getElem?_getD, List.getElem?_eq_getElem h]
  rfl
theorem gd_ge {xs : List Q2} {i : Nat} (h : xs.length ≤ i) : gd xs i = (0, 1) := by
  unfold gd
  rw [List.getD_eq_getElem?_getD, List.getElem?_eq_none h]
  rfl
theorem Fqs.gd {n : Nat} {xs : List Q2} (h : Fqs n xs) (hn : 1 ≤ n) (i : Nat) : Fq n (gd xs i) := by
  by_cases hi : i < xs.length
  · exact h _ (List.mem_of_getElem? (gd_lt hi))
  · rw [gd_ge (by omega)]
    exact Fq.mono ⟨by decide, by decide, by decide, by decide⟩ hn
theorem map_gd (e : Q2 → D) (xs : List Q2) : (List.range xs.length).map (fun i => e (gd xs i)) = xs.map e := by
  refine List.ext_getElem? fun i => ?_
  rw [List.getElem?_map, List.getElem?_map]
  by_cases h : i < xs.length
  · rw [List.getElem?_range h, gd_lt h]
    rfl
  · rw [List.getElem?_eq_none (by rw [List.length_range]; omega), List.getElem?_eq_none (by omega)]
    rfl
theorem enumD_rng (e : Q2 → D) (xs : List Q2) : enumD (xs.map e) = (List.range xs.length).map fun (i : Nat) => .tup [.int i, e (gd xs i)] := by
  rw [← map_gd e xs]
  unfold enumD
  rw [List.length_map, List.length_range]
  rw [show ((List.range xs.length).map fun i => e (gd xs i)) = ((List.range xs.length).map fun i => e (gd xs i)) from rfl]
  have : (List.range xs.length).zip ((List.range xs.length).map fun i => e (gd xs i)) = (List.range xs.length).map fun i => (i, e (gd xs i)) := by
    conv => lhs; arg 1; rw [← List.map_id (List.range xs.length)]
    rw [List.zip_map']
    rfl
  rw [this, List.map_map]
  rfl
theorem pad_eq (e : Q2 → D) (xs : List Q2) (m : Nat) (h : xs.length ≤ m) : xs.map e ++ (List.range (m - xs.length)).map (fun _ => e (0, 1)) = (List.range m).map fun i => e (gd xs i) := by
  refine List.ext_getElem? fun i => ?_
  by_cases h1 : i < xs.length
  · rw [List.getElem?_append_left (by simpa using h1), List.getElem?_map, List.getElem?_map, List.getElem?_range (by omega), gd_lt h1]
    rfl
  · rw [List.getElem?_append_right (by simpa using h1), List.length_map, List.getElem?_map, List.getElem?_map]
    by_cases h2 : i < m
    · rw [List.getElem?_range (by omega), List.getElem?_range h2]
      show some (e (0, 1)) = some (e (gd xs i))
      rw [gd_ge (by omega)]
    · rw [List.getElem?_eq_none (by rw [List.length_range]; omega), List.getElem?_eq_none (by rw [List.length_range]; omega)]
      rfl
section
variable {S S' : Store} {n m : Nat} {x z : Q2} {y : D} {xs zs : List Q2}
theorem gIx_gd (e : Q2 → D) {i : Nat} (h : i < xs.length) : gIx (.lst (xs.map e)) (.int i) S = .ok (e (gd xs i)) S := gIx_lst (by rw [List.getElem?_map, gd_lt h]; rfl)
theorem sig : ((if (zs.length : Int) > (xs.length : Int) then (zs.length : Int) else (xs.length : Int)) : Int) = (nsum xs zs : Nat) := by
  unfold nsum
  split <;> omega
theorem new0 : newD 0 2 I_Ratiod__initd_ [.int 0, .int 1] S = .ok (rt (0, 1)) S := by
  have := new_eval (S := S) (a := 0) (b := 1) (by decide) (up8 (n := 5) (by decide) (by decide))
  rw [nf_id (x := (0, 1)) (by decide) (by decide)] at this
  exact this
theorem z01 : Fq 1 (0, 1) := ⟨by decide, by decide, by decide, by decide⟩
theorem paired_eval (h1 : xs.length ≤ 1000) (h2 : zs.length ≤ 1000) : D_paired [.lst (xs.map rt), .lst (zs.map rt)] S = .ok (.lst ((List.range (nsum xs zs)).map fun i => .tup [rt (gd xs i), rt (gd zs i)])) S := by
  let enc : List Q2 → D := fun q => .lst (q.map rt)
  obtain ⟨M, hM⟩ : ∃ M, M = nsum xs zs := ⟨_, rfl⟩
  have hM2 : M = max xs.length zs.length := hM
  rw [← hM]
  have l1 : xs.length ≤ M := by omega
  have l2 : zs.length ≤ M := by omega
  have lM : M ≤ 1000 := by omega
  let es : List SD := [.val (enc xs), .val (enc zs), .val (.int M), .no, .no, .no]
  have it : itSeq (eTup (aCons (eVar 0) (aCons (eVar 1) aNil))) es S = .ok ([xs, zs].map enc) [] S := by
    simp -implicitDefEqProofs [es, enc]
  have hin : ∀ q : List Q2, q.length ≤ M → eLc false [4] (itRange1 (aCons (eOp2 iSub (eVar 2) (eOp1 gLen (eVar 5))) aNil)) (tgN 4) eYes (eNew 0 2 [.int 1] I_Ratiod__initd_ (aCons (eC (.int 0)) aNil)) [.val (enc xs), .val (enc zs), .val (.int M), .no, .no, .val (enc q)] S = .ok (.lst ((List.range (M - q.length)).map fun _ => rt (0, 1))) S := fun q hq => by
    have r1 := range1_eval (n := M - q.length) (a := aCons (eOp2 iSub (eVar 2) (eOp1 gLen (eVar 5))) aNil) (es := [.val (enc xs), .val (enc zs), .val (.int M), .no, .no, .val (enc q)]) (S := S) (S1 := S) (by omega) (by
      have : ((M : Int) - (q.length : Int)) = ((M - q.length : Nat) : Int) := by omega
      simp -implicitDefEqProofs [enc, this])
    have := eLc_map (q := false) (vs := [4]) (t := tgN 4) (c := eYes) (e := eNew 0 2 [.int 1] I_Ratiod__initd_ (aCons (eC (.int 0)) aNil)) (fun (i : Nat) => D.int i) (fun _ => rt (0, 1)) r1 (Gd.ok_nil S) (by rw [List.length_range]; omega) (by rfl) fun i hi => ⟨_, rfl, rfl, by simp -implicitDefEqProofs [new0]⟩
    rw [if_neg Bool.false_ne_true] at this
    exact this
  have c1 := eLc_map (q := false) (vs := [5]) (t := tgN 5) (c := eYes) (e := eLst (aStar (eVar 5) (aStar (eLc false [4] (itRange1 (aCons (eOp2 iSub (eVar 2) (eOp1 gLen (eVar 5))) aNil)) (tgN 4) eYes (eNew 0 2 [.int 1] I_Ratiod__initd_ (aCons (eC (.int 0)) aNil))) aNil)))
    enc (fun q => .lst ((List.range M).map fun i => rt (gd q i))) it (Gd.ok_nil S) (show 2 < 1000000 by decide) (by rfl) fun q hq => by
      have lq : q.length ≤ M := by
        rcases List.mem_cons.mp hq with h | h
        · rw [h]; exact l1
        · rw [List.mem_singleton.mp h]; exact l2
      refine ⟨[.val (enc xs), .val (enc zs), .val (.int M), .no, .no, .val (enc q)], rfl, rfl, ?_⟩
      have e1 := hin q lq
      have e2 := pad_eq rt q M lq
      have l3 : ((List.range M).map fun i => rt (gd q i)).length ≤ 16777216 := by rw [List.length_map, List.length_range]; omega
      simp only [eLst_eq, aStar, e1, eVar_eq, Res.bindA_ok, List.getElem?_cons_succ, List.getElem?_cons_zero, enc, seqD, aNil_eq, ResA.bindL_ok, List.append_nil, ResA.bind_ok, e2, if_pos l3]
  rw [if_neg Bool.false_ne_true] at c1
  unfold D_paired b_paired
  have s1 : sAsg (tgN 2) (eOp2 gMax (eOp1 gLen (eVar 0)) (eOp1 gLen (eVar 1))) [.val (enc xs), .val (enc zs), .no, .no, .no, .no] S = .next es S := by
    simp -implicitDefEqProofs [enc, es]
    split <;> omega
  have st : startD 6 [.lst (xs.map rt), .lst (zs.map rt)] = [.val (enc xs), .val (enc zs), .no, .no, .no, .no] := rfl
  rw [fnD_eq, st, sSeq_eq, s1, Fl.bind_next, sSeq_eq, sAsg_eq, c1]
  have z : (((List.range M).map fun i => rt (gd xs i)).zip ((List.range M).map fun i => rt (gd zs i))).map tup2 = (List.range M).map fun i => .tup [rt (gd xs i), rt (gd zs i)] := by
    rw [List.zip_map', List.map_map]
    rfl
  have g0 : ∀ a b : D, gIx (.lst [a, b]) (.int 0) S = .ok a S := fun a b => gIx_lst (i := 0) rfl
  have g1 : ∀ a b : D, gIx (.lst [a, b]) (.int 1) S = .ok b S := fun a b => gIx_lst (i := 1) rfl
  have l4 : M ≤ 16777216 := by omega
  simp -implicitDefEqProofs [es, eLz, g0, g1, z, l4, -List.map_map]
end
end K04
set_option Elab.async false
set_option linter.all false
set_option maxRecDepth 100000
set_option maxHeartbeats 4000000
set_option autoImplicit false
namespace K04
open PySem L2 DL
def ng (x : Q2) : Q2 := (-x.1, x.2)
theorem ng_ok {n : Nat} {x : Q2} (h : Fq n x) : Fq n (ng x) := ⟨h.pos, by show Int.gcd (-x.1) x.2 = 1; rw [Int.neg_gcd]; exact h.cop, by show (-x.1).natAbs < _; rw [Int.natAbs_neg]; exact h.s1, h.s2⟩
section
variable {S S' : Store} {n m : Nat} {x z : Q2} {y : D} {xs zs : List Q2}
theorem Fqs.zw {f : Q2 → Q2 → Q2} {k : Nat} (hx : Fqs n xs) (hz : Fqs m zs) (hn : 1 ≤ n) (hm : 1 ≤ m) (h : ∀ x z, Fq n x → Fq m z → Fq k (f x z)) : Fqs k (zw f xs zs) := fun y hy => by
  obtain ⟨i, _, rfl⟩ := List.mem_map.mp hy
  exact h _ _ (hx.gd hn i) (hz.gd hm i)
theorem zw_len {f : Q2 → Q2 → Q2} : (zw f xs zs).length = nsum xs zs := by
  unfold zw
  rw [List.length_map, List.length_range]
theorem zip_op {op : SF} {e : EF} {den : List D → Store → Res} {f : Q2 → Q2 → Q2} (hx : Fqs 98 xs) (hz : Fqs 98 zs) (h1 : xs.length ≤ 1000) (h2 : zs.length ≤ 1000) (hd : ∀ x z, Fq 98 x → Fq 98 z → den [rt x, rt z] S = .ok (rt (f x z)) S) :
    eLc false [2, 3] (itSeq (eCall 2 D_paired (aCons (eOp1 (gSlot 4 0) (eVar 0)) (aCons (eOp1 (gSlot 4 0) (eVar 1)) aNil)))) (tgT 2 (tsCons (tgN 2) (tsCons (tgN 3) tsNil))) eYes (eOp2 (gOwn 0 den) (eVar 2) (eVar 3)) [.val (poly xs), .val (poly zs), .no, .no] S = .ok (.lst ((zw f xs zs).map rt)) S := by
  have it : itSeq (eCall 2 D_paired (aCons (eOp1 (gSlot 4 0) (eVar 0)) (aCons (eOp1 (gSlot 4 0) (eVar 1)) aNil))) [.val (poly xs), .val (poly zs), .no, .no] S = .ok ((List.range (nsum xs zs)).map fun i => .tup [rt (gd xs i), rt (gd zs i)]) [] S := by
    simp -implicitDefEqProofs [slot_poly, paired_eval h1 h2]
  have c1 := eLc_map (q := false) (vs := [2, 3]) (t := tgT 2 (tsCons (tgN 2) (tsCons (tgN 3) tsNil))) (c := eYes) (e := eOp2 (gOwn 0 den) (eVar 2) (eVar 3)) (fun i => D.tup [rt (gd xs i), rt (gd zs i)]) (fun i => rt (f (gd xs i) (gd zs i))) it (Gd.ok_nil S) (by
    rw [List.length_range]
    unfold nsum
    omega) (by rfl) fun i _ => ⟨[.val (poly xs), .val (poly zs), .val (rt (gd xs i)), .val (rt (gd zs i))], by simp [wipeD], rfl, by
      have := own_num (rt_num (gd zs i)) (hd (gd xs i) (gd zs i) (hx.gd (by decide) i) (hz.gd (by decide) i))
      simp -implicitDefEqProofs [this]⟩
  rw [if_neg Bool.false_ne_true] at c1
  rw [c1]
  unfold zw
  rw [List.map_map]
  rfl
theorem padd_eval (hx : Fqs 98 xs) (hz : Fqs 98 zs) (h1 : xs.length ≤ 1000) (h2 : zs.length ≤ 1000) : D_Polyd__addd_ [poly xs, poly zs] S = .ok (poly (trim (zw pl xs zs))) S := by
  have c := zip_op (S := S) (op := sPass) (e := eYes) (f := pl) (den := D_Ratiod__addd_) hx hz h1 h2 fun x z a b => add_eval a b (rt_num z) (by decide)
  have e := poly_rt (S := S) (xs := zw pl xs zs) rfl (hx.zw hz (by decide) (by decide) fun x z a b => pl_ok a b) (by decide) (by rw [zw_len]; unfold nsum; omega)
  unfold D_Polyd__addd_ b_Polyd__addd_
  generalize D.lst ((zw pl xs zs).map rt) = dd at c e
  generalize poly xs = p1 at c ⊢
  generalize poly zs = p2 at c ⊢
  simp -implicitDefEqProofs [-eLc_eq, fnD_eq, startD, c, e]
theorem psub_eval (hx : Fqs 98 xs) (hz : Fqs 98 zs) (h1 : xs.length ≤ 1000) (h2 : zs.length ≤ 1000) : D_Polyd__subd_ [poly xs, poly zs] S = .ok (poly (trim (zw mn xs zs))) S := by
  have c := zip_op (S := S) (op := sPass) (e := eYes) (f := mn) (den := D_Ratiod__subd_) hx hz h1 h2 fun x z a b => sub_eval a b (rt_num z) (by decide)
  have e := poly_rt (S := S) (xs := zw mn xs zs) rfl (hx.zw hz (by decide) (by decide) fun x z a b => mn_ok a b) (by decide) (by rw [zw_len]; unfold nsum; omega)
  unfold D_Polyd__subd_ b_Polyd__subd_
  generalize D.lst ((zw mn xs zs).map rt) = dd at c e
  generalize poly xs = p1 at c ⊢
  generalize poly zs = p2 at c ⊢
  simp -implicitDefEqProofs [-eLc_eq, fnD_eq, startD, c, e]
theorem own1_rt {den : List D → Store → Res} : gOwn1 0 den (rt x) S = den [rt x] S := by simp [rt]
theorem pneg_eval (hx : Fqs n xs) (hn : n ≤ 8000) (h1 : xs.length ≤ 1000) : D_Polyd__negd_ [poly xs] S = .ok (poly (trim (xs.map ng))) S := by
  have it : itSeq (eOp1 (gSlot 4 0) (eVar 0)) [.val (poly xs), .no] S = .ok (xs.map rt) [] S := by
    simp -implicitDefEqProofs [slot_poly]
  have c := eLc_map (q := false) (vs := [1]) (t := tgN 1) (c := eYes) (e := eOp1 (gOwn1 0 D_Ratiod__negd_) (eVar 1)) rt (fun x => rt (ng x)) it (Gd.ok_nil S) (by omega) (by rfl) fun x h => ⟨_, rfl, rfl, by
    have := neg_eval (S := S) (hx x h) hn
    simp -implicitDefEqProofs [wipeD, own1_rt, this, ng]⟩
  rw [if_neg Bool.false_ne_true] at c
  have e := poly_rt (S := S) (xs := xs.map ng) (ds := xs.map fun x => rt (ng x)) (by rw [List.map_map]; rfl) (n := n) (fun y hy => by
    obtain ⟨x, h, rfl⟩ := List.mem_map.mp hy
    exact ng_ok (hx x h)) hn (by rw [List.length_map]; omega)
  unfold D_Polyd__negd_ b_Polyd__negd_
  generalize D.lst (xs.map fun x => rt (ng x)) = dd at c e
  generalize poly xs = p1 at c ⊢
  simp -implicitDefEqProofs [-eLc_eq, fnD_eq, startD, c, e]
/-! ### products -/
def inn (i : Nat) (x : Q2) (zs acc : List Q2) : Nat → List Q2
  | 0 => acc
  | j + 1 => (inn i x zs acc j).set (i + j) (pl (gd (inn i x zs acc j) (i + j)) (ti x (gd zs j)))
def out (xs zs : List Q2) : Nat → List Q2
  | 0 => (List.range (xs.length + zs.length)).map fun _ => (0, 1)
  | i + 1 => inn i (gd xs i) zs (out xs zs i) zs.length
theorem inn_len {i j : Nat} {x : Q2} {zs acc : List Q2} : (inn i x zs acc j).length = acc.length := by
  induction j with
  | zero => rfl
  | succ j ih => rw [inn, List.length_set, ih]
theorem out_len {xs zs : List Q2} {i : Nat} : (out xs zs i).length = xs.length + zs.length := by
  induction i with
  | zero => rw [out, List.length_map, List.length_range]
  | succ i ih => rw [out, inn_len, ih]
theorem Fqs.set {xs : List Q2} {i : Nat} {x : Q2} (h : Fqs n xs) (hx : Fq n x) : Fqs n (xs.set i x) := fun y hy => by
  rcases List.mem_or_eq_of_mem_set hy with q | q
  · exact h y q
  · rw [q]; exact hx
theorem inn_ok {i j : Nat} {x : Q2} {zs acc : List Q2} (ha : Fqs n acc) (hn : 1 ≤ n) (hx : Fq 98 x) (hz : Fqs 98 zs) : Fqs (n + 197 * j) (inn i x zs acc j) := by
  induction j with
  | zero => exact ha
  | succ j ih =>
    have a := ih.gd (by omega) (i + j)
    have b := pl_ok a (ti_ok hx (hz.gd (by decide) j))
    exact (ih.mono (by omega)).set (b.mono (by omega))
theorem out_ok {xs zs : List Q2} {i : Nat} (hx : Fqs 98 xs) (hz : Fqs 98 zs) : Fqs (1 + 197 * (i * zs.length)) (out xs zs i) := by
  induction i with
  | zero =>
    intro y hy
    obtain ⟨_, _, rfl⟩ := List.mem_map.mp hy
    exact z01.mono (by omega)
  | succ i ih =>
    refine (inn_ok (j := zs.length) ih (by omega) (hx.gd (by decide) i) hz).mono ?_
    rw [Nat.add_mul, Nat.one_mul]
    omega
theorem set_self {c : Nat} {A : List D} (h : S[c]? = some A) : S.set c A = S := by
  have hc := (List.getElem?_eq_some_iff.mp h).1
  refine List.ext_getElem? fun i => ?_
  by_cases q : c = i
  · subst q
    rw [List.getElem?_set_self hc, h]
  · rw [List.getElem?_set_ne q]
theorem map_set (e : Q2 → D) {i : Nat} {v : Q2} {acc : List Q2} : (acc.map e).set i (e v) = (acc.set i v).map e := by rw [List.map_set]
theorem ixN_lt {n i : Nat} (h : i < n) : L2.ixN n (i : Int) = some i := by
  unfold L2.ixN
  rw [if_pos (by omega), if_pos (by omega), Int.toNat_natCast]
/-- the double loop, for both sides -/
theorem prod_loop {e : Q2 → D} {B : SF} {p1 p2 : D} {ia ib : IF} (hx : Fqs 98 xs) (hz : Fqs 98 zs) (hl : xs.length ≤ 6) (hl2 : zs.length ≤ 6) {c : Nat} (hc : S[c]? = some ((out xs zs 0).map e))
    (ha : ∀ (S' : Store) es, es[0]? = some (SD.val p1) → ia es S' = .ok ((List.range xs.length).map fun (i : Nat) => .tup [.int i, e (gd xs i)]) [] S') (hb : ∀ (S' : Store) es, es[1]? = some (SD.val p2) → ib es S' = .ok ((List.range zs.length).map fun (i : Nat) => .tup [.int i, e (gd zs i)]) [] S')
    (st : ∀ (S' : Store) (acc : List Q2) (i j : Nat) (x z : Q2) (n : Nat), S'[c]? = some (acc.map e) → i + j < acc.length → Fqs n acc → 1 ≤ n → Fq 98 x → Fq 98 z → n + 196 ≤ 8000 →
      B [.val p1, .val p2, .val (.cell c), .val (.int i), .val (e x), .val (.int j), .val (e z)] S' = .next [.val p1, .val p2, .val (.cell c), .val (.int i), .val (e x), .val (.int j), .val (e z)] (S'.set c ((acc.set (i + j) (pl (gd acc (i + j)) (ti x z))).map e))) :
    ∃ es', sFor ia (tgT 2 (tsCons (tgN 3) (tsCons (tgN 4) tsNil))) (sFor ib (tgT 2 (tsCons (tgN 5) (tsCons (tgN 6) tsNil))) B) [.val p1, .val p2, .val (.cell c), .no, .no, .no, .no] S = .next ([.val p1, .val p2, .val (.cell c)] ++ es') (S.set c ((out xs zs xs.length).map e)) ∧ es'.length = 4 := by
  have hcl := (List.getElem?_eq_some_iff.mp hc).1
  have inner : ∀ (i : Nat) (u5 u6 : SD), i < xs.length → ∃ v5 v6, sFor ib (tgT 2 (tsCons (tgN 5) (tsCons (tgN 6) tsNil))) B [.val p1, .val p2, .val (.cell c), .val (.int i), .val (e (gd xs i)), u5, u6] (S.set c ((out xs zs i).map e)) = .next [.val p1, .val p2, .val (.cell c), .val (.int i), .val (e (gd xs i)), v5, v6] (S.set c ((out xs zs (i + 1)).map e)) := fun i u5 u6 hi => by
    rw [sFor_eq, hb _ _ rfl]
    simp only
    obtain ⟨es', S', q1, ⟨v5, v6, q2⟩, q3⟩ := forL_run (g := []) (t := tgT 2 (tsCons (tgN 5) (tsCons (tgN 6) tsNil))) (b := B) (fun (j : Nat) => D.tup [.int j, e (gd zs j)])
      (fun j es S' => (∃ v5 v6, es = [.val p1, .val p2, .val (.cell c), .val (.int i), .val (e (gd xs i)), v5, v6]) ∧ S' = S.set c ((inn i (gd xs i) zs (out xs zs i) j).map e)) (fun _ _ S' _ => Gd.ok_nil S') (List.range zs.length) 0 _ _ ⟨⟨u5, u6, rfl⟩, rfl⟩ fun j a es S' hj q => by
        obtain ⟨⟨v5, v6, rfl⟩, rfl⟩ := q
        have hjl := (List.getElem?_eq_some_iff.mp hj).1
        rw [List.length_range] at hjl
        rw [List.getElem?_range hjl] at hj
        obtain rfl := Option.some.inj hj
        rw [Nat.zero_add]
        have ok := inn_ok (i := i) (j := j) (out_ok (i := i) hx hz) (by omega) (hx.gd (by decide) i) hz
        have m1 : i * zs.length ≤ 5 * 6 := Nat.mul_le_mul (by omega) hl2
        have := st (S.set c ((inn i (gd xs i) zs (out xs zs i) j).map e)) (inn i (gd xs i) zs (out xs zs i) j) i j (gd xs i) (gd zs j) _ (List.getElem?_set_self hcl) (by rw [inn_len, out_len]; omega) ok (by omega) (hx.gd (by decide) i) (hz.gd (by decide) j) (by omega)
        refine ⟨_, _, _, by simp, this, ⟨_, _, rfl⟩, ?_⟩
        rw [List.set_set]
        rfl
    rw [List.length_range, Nat.zero_add] at q3
    subst q2 q3
    exact ⟨v5, v6, q1⟩
  rw [sFor_eq, ha _ _ rfl]
  simp only
  obtain ⟨es', S', q1, ⟨v3, v4, v5, v6, q2⟩, q3⟩ := forL_run (g := []) (t := tgT 2 (tsCons (tgN 3) (tsCons (tgN 4) tsNil))) (b := sFor ib (tgT 2 (tsCons (tgN 5) (tsCons (tgN 6) tsNil))) B) (fun (j : Nat) => D.tup [.int j, e (gd xs j)])
    (fun i es S' => (∃ v3 v4 v5 v6, es = [.val p1, .val p2, .val (.cell c), v3, v4, v5, v6]) ∧ S' = S.set c ((out xs zs i).map e)) (fun _ _ S' _ => Gd.ok_nil S') (List.range xs.length) 0 [.val p1, .val p2, .val (.cell c), .no, .no, .no, .no] S ⟨⟨_, _, _, _, rfl⟩, (set_self hc).symm⟩ fun j a es S' hj q => by
      obtain ⟨⟨v3, v4, v5, v6, rfl⟩, rfl⟩ := q
      have hjl := (List.getElem?_eq_some_iff.mp hj).1
      rw [List.length_range] at hjl
      rw [List.getElem?_range hjl] at hj
      obtain rfl := Option.some.inj hj
      rw [Nat.zero_add]
      obtain ⟨w5, w6, e1⟩ := inner j v5 v6 hjl
      exact ⟨_, _, _, by simp, e1, ⟨_, _, _, _, rfl⟩, rfl⟩
  rw [List.length_range, Nat.zero_add] at q3
  subst q2 q3
  exact ⟨[v3, v4, v5, v6], q1, rfl⟩
end
end K04
set_option Elab.async false
set_option linter.all false
set_option maxRecDepth 100000
set_option maxHeartbeats 4000000
set_option autoImplicit false
namespace K04
open PySem L2 DL
section
variable {S S' : Store} {n m : Nat} {x z : Q2} {y : D} {xs zs : List Q2}
theorem sStore_eq' {fo fi fe : EF} {es : List SD} : sStore fo fi fe es S = (fe es S).toS es fun d S1 => (fo es S1).toS es fun o S2 => (fi es S2).toS es fun i S3 => match o, i with
  | .cell c, .int k => match S3[c]? with
    | some ds => match ixN ds.length k with
      | some j => .next es (S3.set c (ds.set j d))
      | none => .bad
    | none => .bad
  | _, _ => .bad := rfl
theorem set_app {X Y : List D} : (S ++ [X]).set S.length Y = S ++ [Y] := by
  rw [List.set_append_right _ _ (Nat.le_refl _)]
  simp
theorem get_app {X : List D} : (S ++ [X])[S.length]? = some X := by simp
/-- the program's product -/
theorem pmul_eval (hx : Fqs 98 xs) (hz : Fqs 98 zs) (hl : xs.length ≤ 6) (hl2 : zs.length ≤ 6) : ∃ J, D_Polyd__muld_ [poly xs, poly zs] S = .ok (poly (trim (out xs zs xs.length))) (S ++ J) := by
  let Z := (out xs zs 0).map rt
  refine ⟨[(out xs zs xs.length).map rt], ?_⟩
  have r1 := range1_eval (n := xs.length + zs.length) (a := aCons (eOp2 iAdd (eOp1 gLen (eOp1 (gSlot 4 0) (eVar 0))) (eOp1 gLen (eOp1 (gSlot 4 0) (eVar 1)))) aNil) (es := [.val (poly xs), .val (poly zs), .no, .no, .no, .no, .no]) (S := S) (S1 := S) (by omega) (by
    simp -implicitDefEqProofs [slot_poly])
  have c1 := eLc_map (q := true) (vs := [3]) (t := tgN 3) (c := eYes) (e := eNew 0 2 [.int 1] I_Ratiod__initd_ (aCons (eC (.int 0)) aNil)) (fun (i : Nat) => D.int i) (fun _ => rt (0, 1)) r1 (Gd.ok_nil S) (by rw [List.length_range]; omega) (by rfl) fun i hi => ⟨_, rfl, rfl, by simp -implicitDefEqProofs [new0]⟩
  rw [if_pos rfl] at c1
  have e0 : (List.range (xs.length + zs.length)).map (fun _ => rt (0, 1)) = (out xs zs 0).map rt := by
    rw [out, List.map_map]
    rfl
  rw [e0] at c1
  obtain ⟨es', l1, l2⟩ := prod_loop (S := S ++ [(out xs zs 0).map rt]) (e := rt) (p1 := poly xs) (p2 := poly zs) (c := S.length) (ia := itEnum (aCons (eOp1 (gSlot 4 0) (eVar 0)) aNil)) (ib := itEnum (aCons (eOp1 (gSlot 4 0) (eVar 1)) aNil))
    (B := sStore (eVar 2) (eOp2 iAdd (eVar 3) (eVar 5)) (eOp2 (gOwn 0 D_Ratiod__addd_) (eOp2 gIx (eVar 2) (eOp2 iAdd (eVar 3) (eVar 5))) (eOp2 (gOwn 0 D_Ratiod__muld_) (eVar 4) (eVar 6)))) hx hz hl hl2 get_app
    (fun S' es he => by
      unfold itEnum
      simp -implicitDefEqProofs [he, slot_poly, enumD_rng])
    (fun S' es he => by
      unfold itEnum
      simp -implicitDefEqProofs [he, slot_poly, enumD_rng])
    (fun S' acc i j x z n hc hij ha hn hx hz hs => by
      obtain ⟨k, hk⟩ : ∃ k, k = i + j := ⟨_, rfl⟩
      rw [← hk] at hij ⊢
      have g := ha.gd hn k
      have m1 := own_num (rt_num z) (mul_eval (S := S') hx hz (rt_num z) (by omega))
      have p1 := own_num (rt_num (ti x z)) (add_eval (S := S') g (ti_ok hx hz) (rt_num _) (by omega))
      have ij : ((i : Int) + (j : Int)) = (k : Int) := by omega
      have ix : gIx (.cell S.length) (.int (k : Int)) S' = .ok (rt (gd acc k)) S' := gIx_cell hc (by rw [List.getElem?_map, gd_lt hij]; rfl)
      have xl := ixN_lt hij
      rw [← map_set]
      generalize hv : pl (gd acc k) (ti x z) = v at p1 ⊢
      simp -implicitDefEqProofs [sStore_eq', m1, p1, ij, ix, hc, xl])
  rw [set_app] at l1
  have ok := out_ok (i := xs.length) hx hz
  have m1 : xs.length * zs.length ≤ 6 * 6 := Nat.mul_le_mul hl hl2
  have e := poly_new (S := S ++ [(out xs zs xs.length).map rt]) (d := .cell S.length) (f := rt) (xs := out xs zs xs.length) (.cell get_app) (fun x _ => rt_num x) ok (by omega) (by rw [out_len]; omega)
  unfold D_Polyd__muld_ b_Polyd__muld_
  have st : startD 7 [poly xs, poly zs] = [.val (poly xs), .val (poly zs), .no, .no, .no, .no, .no] := rfl
  have s1 : sAsg (tgN 2) (eLc true [3] (itRange1 (aCons (eOp2 iAdd (eOp1 gLen (eOp1 (gSlot 4 0) (eVar 0))) (eOp1 gLen (eOp1 (gSlot 4 0) (eVar 1)))) aNil)) (tgN 3) eYes (eNew 0 2 [.int 1] I_Ratiod__initd_ (aCons (eC (.int 0)) aNil))) [.val (poly xs), .val (poly zs), .no, .no, .no, .no, .no] S = .next [.val (poly xs), .val (poly zs), .val (.cell S.length), .no, .no, .no, .no] (S ++ [(out xs zs 0).map rt]) := by
    rw [sAsg_eq, c1]
    rfl
  rw [fnD_eq, st, sSeq_eq, s1, Fl.bind_next, sSeq_eq, l1, Fl.bind_next, sRet_eq]
  simp -implicitDefEqProofs [e]
/-- the law's product -/
theorem lmul_eval (hx : Fqs 98 xs) (hz : Fqs 98 zs) (hl : xs.length ≤ 6) (hl2 : zs.length ≤ 6) : ∃ J, D__law_product [.lst (xs.map fr), .lst (zs.map fr)] S = .ok (.lst ((trim (out xs zs xs.length)).map fr)) (S ++ J) := by
  refine ⟨[(out xs zs xs.length).map fr], ?_⟩
  have r1 := range1_eval (n := xs.length + zs.length) (a := aCons (eOp2 iAdd (eOp1 gLen (eVar 0)) (eOp1 gLen (eVar 1))) aNil) (es := [.val (.lst (xs.map fr)), .val (.lst (zs.map fr)), .no, .no, .no, .no, .no]) (S := S) (S1 := S) (by omega) (by
    simp -implicitDefEqProofs [])
  have c1 := eLc_map (q := true) (vs := [3]) (t := tgN 3) (c := eYes) (e := eTup (aCons (eC (.int 0)) (aCons (eC (.int 1)) aNil))) (fun (i : Nat) => D.int i) (fun _ => fr (0, 1)) r1 (Gd.ok_nil S) (by rw [List.length_range]; omega) (by rfl) fun i hi => ⟨_, rfl, rfl, by simp -implicitDefEqProofs [fr]⟩
  rw [if_pos rfl] at c1
  have e0 : (List.range (xs.length + zs.length)).map (fun _ => fr (0, 1)) = (out xs zs 0).map fr := by
    rw [out, List.map_map]
    rfl
  rw [e0] at c1
  obtain ⟨es', l1, l2⟩ := prod_loop (S := S ++ [(out xs zs 0).map fr]) (e := fr) (p1 := .lst (xs.map fr)) (p2 := .lst (zs.map fr)) (c := S.length) (ia := itEnum (aCons (eVar 0) aNil)) (ib := itEnum (aCons (eVar 1) aNil))
    (B := sStore (eVar 2) (eOp2 iAdd (eVar 3) (eVar 5)) (eCall 2 D__law_plus (aCons (eOp2 gIx (eVar 2) (eOp2 iAdd (eVar 3) (eVar 5))) (aCons (eCall 2 D__law_times (aCons (eVar 4) (aCons (eVar 6) aNil))) aNil)))) hx hz hl hl2 get_app
    (fun S' es he => by
      unfold itEnum
      simp -implicitDefEqProofs [he, enumD_rng])
    (fun S' es he => by
      unfold itEnum
      simp -implicitDefEqProofs [he, enumD_rng])
    (fun S' acc i j x z n hc hij ha hn hx hz hs => by
      obtain ⟨k, hk⟩ : ∃ k, k = i + j := ⟨_, rfl⟩
      rw [← hk] at hij ⊢
      have g := ha.gd hn k
      have m1 := times_eval (S := S') hx hz (by omega)
      have p1 := plus_eval (S := S') g (ti_ok hx hz) (by omega)
      have ij : ((i : Int) + (j : Int)) = (k : Int) := by omega
      have ix : gIx (.cell S.length) (.int (k : Int)) S' = .ok (fr (gd acc k)) S' := gIx_cell hc (by rw [List.getElem?_map, gd_lt hij]; rfl)
      have xl := ixN_lt hij
      rw [← map_set]
      generalize hv : pl (gd acc k) (ti x z) = v at p1 ⊢
      simp -implicitDefEqProofs [sStore_eq', m1, p1, ij, ix, hc, xl])
  rw [set_app] at l1
  have e := trim_eval (S := S ++ [(out xs zs xs.length).map fr]) (d := .cell S.length) (xs := out xs zs xs.length) (.cell get_app)
  unfold D__law_product b__law_product
  have st : startD 7 [.lst (xs.map fr), .lst (zs.map fr)] = [.val (.lst (xs.map fr)), .val (.lst (zs.map fr)), .no, .no, .no, .no, .no] := rfl
  have s1 : sAsg (tgN 2) (eLc true [3] (itRange1 (aCons (eOp2 iAdd (eOp1 gLen (eVar 0)) (eOp1 gLen (eVar 1))) aNil)) (tgN 3) eYes (eTup (aCons (eC (.int 0)) (aCons (eC (.int 1)) aNil)))) [.val (.lst (xs.map fr)), .val (.lst (zs.map fr)), .no, .no, .no, .no, .no] S = .next [.val (.lst (xs.map fr)), .val (.lst (zs.map fr)), .val (.cell S.length), .no, .no, .no, .no] (S ++ [(out xs zs 0).map fr]) := by
    rw [sAsg_eq, c1]
    rfl
  rw [fnD_eq, st, sSeq_eq, s1, Fl.bind_next, sSeq_eq, l1, Fl.bind_next, sRet_eq]
  simp -implicitDefEqProofs [e]
/-! ### values -/
def hor (x : Q2) : List Q2 → Q2 → Q2
  | [], a => a
  | z :: zs, a => hor x zs (pl (ti a x) z)
theorem hor_ok {x : Q2} (hx : Fq 98 x) : ∀ (zs : List Q2) (a : Q2) (n : Nat), Fq n a → Fqs 98 zs → Fq (n + 197 * zs.length) (hor x zs a)
  | [], a, n, ha, _ => ha.mono (by simp)
  | z :: zs, a, n, ha, h => by
    have := hor_ok hx zs (pl (ti a x) z) (n + 98 + 98 + 1) (pl_ok (ti_ok ha hx) (h z List.mem_cons_self)) fun b hb => h b (List.mem_cons_of_mem _ hb)
    exact this.mono (by rw [List.length_cons]; omega)
theorem worth_loop {x : Q2} {a0 : SD} {y : D} (hx : Fq 98 x) (hy : Num y x) : ∀ (zs : List Q2) (a : Q2) (n : Nat) (u : SD), Fq n a → Fqs 98 zs → n + 197 * zs.length ≤ 8000 →
    ∃ u', forL [] (tgN 3) (sAsg (tgN 2) (eOp2 (gOwn 0 D_Ratiod__addd_) (eOp2 (gOwn 0 D_Ratiod__muld_) (eVar 2) (eVar 1)) (eVar 3))) (zs.map rt) [a0, .val y, .val (rt a), u] S = .next [a0, .val y, .val (rt (hor x zs a)), u'] S
  | [], a, n, u, _, _, _ => ⟨u, by simp [hor]⟩
  | z :: zs, a, n, u, ha, h, hn => by
    rw [List.length_cons] at hn
    have hz := h z List.mem_cons_self
    obtain ⟨u', e⟩ := worth_loop (a0 := a0) hx hy zs (pl (ti a x) z) (n + 98 + 98 + 1) (.val (rt z)) (pl_ok (ti_ok ha hx) hz) (fun b hb => h b (List.mem_cons_of_mem _ hb)) (by omega)
    refine ⟨u', ?_⟩
    have m1 := own_num hy (mul_eval (S := S) ha hx hy (by omega))
    have p1 := own_num (rt_num z) (add_eval (S := S) (ti_ok ha hx) hz (rt_num z) (by omega))
    rw [List.map_cons, forL_cons, hor]
    simp -implicitDefEqProofs [m1, p1]
    exact e
theorem worth_eval {x : Q2} {y : D} (hx : Fq 98 x) (hy : Num y x) (hz : Fqs 98 zs) (hl : zs.length ≤ 10) : D_Poly_worth [poly zs, y] S = .ok (rt (hor x zs.reverse (0, 1))) S := by
  obtain ⟨u, e⟩ := worth_loop (S := S) (a0 := .val (poly zs)) hx hy zs.reverse (0, 1) 1 .no z01 (fun b hb => hz b (List.mem_reverse.mp hb)) (by rw [List.length_reverse]; omega)
  have it : itSeq (eOp1 gRev (eOp1 (gSlot 4 0) (eVar 0))) [.val (poly zs), .val y, .val (rt (0, 1)), .no] S = .ok (zs.reverse.map rt) [] S := by
    have g : gRev (.lst (zs.map rt)) S = .ok (.lst (zs.reverse.map rt)) S := by
      rw [List.map_reverse]
      rfl
    simp -implicitDefEqProofs [slot_poly, g]
  unfold D_Poly_worth b_Poly_worth
  have s1 : sAsg (tgN 2) (eNew 0 2 [.int 1] I_Ratiod__initd_ (aCons (eC (.int 0)) aNil)) [.val (poly zs), .val y, .no, .no] S = .next [.val (poly zs), .val y, .val (rt (0, 1)), .no] S := by
    simp -implicitDefEqProofs [new0]
  rw [fnD_eq, show startD 4 [poly zs, y] = [.val (poly zs), .val y, .no, .no] from rfl, sSeq_eq, s1, Fl.bind_next, sSeq_eq, sFor_eq, it]
  simp only
  rw [e]
  simp -implicitDefEqProofs []
theorem at_loop {x : Q2} {a0 : SD} (hx : Fq 98 x) : ∀ (zs : List Q2) (a : Q2) (n : Nat) (u : SD), Fq n a → Fqs 98 zs → n + 197 * zs.length ≤ 8000 →
    ∃ u', forL [] (tgN 3) (sAsg (tgN 2) (eCall 2 D__law_plus (aCons (eCall 2 D__law_times (aCons (eVar 2) (aCons (eVar 1) aNil))) (aCons (eVar 3) aNil)))) (zs.map fr) [a0, .val (fr x), .val (fr a), u] S = .next [a0, .val (fr x), .val (fr (hor x zs a)), u'] S
  | [], a, n, u, _, _, _ => ⟨u, by simp [hor]⟩
  | z :: zs, a, n, u, ha, h, hn => by
    rw [List.length_cons] at hn
    have hz := h z List.mem_cons_self
    obtain ⟨u', e⟩ := at_loop (a0 := a0) hx zs (pl (ti a x) z) (n + 98 + 98 + 1) (.val (fr z)) (pl_ok (ti_ok ha hx) hz) (fun b hb => h b (List.mem_cons_of_mem _ hb)) (by omega)
    refine ⟨u', ?_⟩
    have m1 := times_eval (S := S) ha hx (by omega)
    have p1 := plus_eval (S := S) (ti_ok ha hx) hz (by omega)
    rw [List.map_cons, forL_cons, hor]
    simp -implicitDefEqProofs [m1, p1]
    exact e
theorem at_eval {x : Q2} (hx : Fq 98 x) (hz : Fqs 98 zs) (hl : zs.length ≤ 10) : D__law_at [.lst (zs.map fr), fr x] S = .ok (fr (hor x zs.reverse (0, 1))) S := by
  obtain ⟨u, e⟩ := at_loop (S := S) (a0 := .val (.lst (zs.map fr))) hx zs.reverse (0, 1) 1 .no z01 (fun b hb => hz b (List.mem_reverse.mp hb)) (by rw [List.length_reverse]; omega)
  have it : itSeq (eOp1 gRev (eVar 0)) [.val (.lst (zs.map fr)), .val (fr x), .val (fr (0, 1)), .no] S = .ok (zs.reverse.map fr) [] S := by
    have g : gRev (.lst (zs.map fr)) S = .ok (.lst (zs.reverse.map fr)) S := by
      rw [List.map_reverse]
      rfl
    simp -implicitDefEqProofs [g]
  unfold D__law_at b__law_at
  have s1 : sAsg (tgN 2) (eTup (aCons (eC (.int 0)) (aCons (eC (.int 1)) aNil))) [.val (.lst (zs.map fr)), .val (fr x), .no, .no] S = .next [.val (.lst (zs.map fr)), .val (fr x), .val (fr (0, 1)), .no] S := by
    simp -implicitDefEqProofs [fr]
  rw [fnD_eq, show startD 4 [.lst (zs.map fr), fr x] = [.val (.lst (zs.map fr)), .val (fr x), .no, .no] from rfl, sSeq_eq, s1, Fl.bind_next, sSeq_eq, sFor_eq, it]
  simp only
  rw [e]
  simp -implicitDefEqProofs []
end
end K04
set_option Elab.async false
set_option linter.all false
set_option maxRecDepth 100000
set_option maxHeartbeats 4000000
set_option autoImplicit false
namespace K04
open PySem L2 DL
theorem ti_one {n : Nat} {x : Q2} (h : Fq n x) : ti (1, 1) x = x := by
  unfold ti
  rw [Int.one_mul, Int.one_mul]
  exact nf_id h.pos h.cop
theorem ti_neg {n : Nat} {x : Q2} (h : Fq n x) : ti (-1, 1) x = ng x := by
  unfold ti
  rw [Int.neg_one_mul, Int.one_mul]
  exact nf_id (x := (-x.1, x.2)) h.pos (by show Int.gcd (-x.1) x.2 = 1; rw [Int.neg_gcd]; exact h.cop)
theorem pl_ng (x z : Q2) : pl x (ng z) = mn x z := by
  unfold pl mn ng
  simp only
  rw [Int.neg_mul, ← Int.sub_eq_add_neg]
theorem pl_zero {n : Nat} {x : Q2} (h : Fq n x) : pl (0, 1) x = x := by
  unfold pl
  simp only
  rw [Int.zero_mul, Int.zero_add, Int.mul_one, Int.one_mul]
  exact nf_id h.pos h.cop
section
variable {S S' : Store} {n m : Nat} {x z : Q2} {y : D} {xs zs : List Q2}
/-- the law's sum: s times the second list is added -/
theorem sum_eval {s : Int} (hs : s = 1 ∨ s = -1) (hx : Fqs 98 xs) (hz : Fqs 98 zs) (h1 : xs.length ≤ 1000) (h2 : zs.length ≤ 1000) : ∃ J, D__law_sum [.lst (xs.map fr), .lst (zs.map fr), .int s] S = .ok (.lst ((trim (zw (fun x z => pl x (ti (s, 1) z)) xs zs)).map fr)) (S ++ J) := by
  obtain ⟨M, hM⟩ : ∃ M, M = nsum xs zs := ⟨_, rfl⟩
  have hM2 : M = max xs.length zs.length := hM
  have lM : M ≤ 1000 := by omega
  have fs : Fq 1 (s, 1) := by
    rcases hs with rfl | rfl
    · exact ⟨by decide, by decide, by decide, by decide⟩
    · exact ⟨by decide, by decide, by decide, by decide⟩
  let F : Nat → Q2 := fun j => pl (gd xs j) (ti (s, 1) (gd zs j))
  let C : Nat → List D := fun i => (List.range M).map fun j => fr (if j < i then F j else (0, 1))
  have hC : ∀ i, i < M → (C i).set i (fr (F i)) = C (i + 1) := fun i hi => by
    refine List.ext_getElem? fun j => ?_
    have hl : (C i).length = M := by simp [C]
    by_cases q : i = j
    · subst q
      rw [List.getElem?_set_self (by omega)]
      simp only [C, List.getElem?_map, List.getElem?_range hi, Option.map_some]
      rw [if_pos (by omega)]
    · rw [List.getElem?_set_ne q]
      simp only [C, List.getElem?_map]
      by_cases hj : j < M
      · rw [List.getElem?_range hj]
        simp only [Option.map_some]
        by_cases h1 : j < i
        · rw [if_pos h1, if_pos (by omega)]
        · rw [if_neg h1, if_neg (by omega)]
      · rw [List.getElem?_eq_none (by rw [List.length_range]; omega)]
        rfl
  have CM : C M = (zw (fun x z => pl x (ti (s, 1) z)) xs zs).map fr := by
    unfold zw
    rw [← hM, List.map_map]
    refine List.map_congr_left fun j hj => ?_
    rw [List.mem_range] at hj
    rw [if_pos hj]
    rfl
  let A : D := .lst (xs.map fr)
  let B : D := .lst (zs.map fr)
  refine ⟨[C M], ?_⟩
  have r1 := range1_eval (n := M) (a := aCons (eOp2 gMax (eOp1 gLen (eVar 0)) (eOp1 gLen (eVar 1))) aNil) (es := [.val A, .val B, .val (.int s), .no, .no, .no, .no]) (S := S) (S1 := S) (by omega) (by
    simp -implicitDefEqProofs [A, B]
    split <;> omega)
  have c1 := eLc_map (q := true) (vs := [4]) (t := tgN 4) (c := eYes) (e := eTup (aCons (eC (.int 0)) (aCons (eC (.int 1)) aNil))) (fun (i : Nat) => D.int i) (fun _ => fr (0, 1)) r1 (Gd.ok_nil S) (by rw [List.length_range]; omega) (by rfl) fun i hi => ⟨_, rfl, rfl, by simp -implicitDefEqProofs [fr]⟩
  rw [if_pos rfl] at c1
  have e0 : (List.range M).map (fun _ => fr (0, 1)) = C 0 := List.map_congr_left fun j hj => by rw [if_neg (by omega)]
  rw [e0] at c1
  have gl : ∀ X : List D, gLen (.cell S.length) (S ++ [X]) = .ok (.int X.length) (S ++ [X]) := fun X => Sq.len (.cell get_app)
  have lC : ∀ i, (C i).length = M := fun i => by simp [C]
  have r2 := range1_eval (n := M) (a := aCons (eOp1 gLen (eVar 3)) aNil) (es := [.val A, .val B, .val (.int s), .val (.cell S.length), .no, .no, .no]) (S := S ++ [C 0]) (S1 := S ++ [C 0]) (by omega) (by
    simp -implicitDefEqProofs [gl, lC])
  let body : SF := (sSeq (sAsg (tgN 5) (eIf (eOp2 iLt (eVar 4) (eOp1 gLen (eVar 0))) (eOp2 gIx (eVar 0) (eVar 4)) (eTup (aCons (eC (.int 0)) (aCons (eC (.int 1)) aNil)))))
    (sSeq (sAsg (tgN 6) (eIf (eOp2 iLt (eVar 4) (eOp1 gLen (eVar 1))) (eOp2 gIx (eVar 1) (eVar 4)) (eTup (aCons (eC (.int 0)) (aCons (eC (.int 1)) aNil)))))
    (sStore (eVar 3) (eVar 4) (eCall 2 D__law_plus (aCons (eVar 5) (aCons (eCall 2 D__law_times (aCons (eTup (aCons (eVar 2) (aCons (eC (.int 1)) aNil))) (aCons (eVar 6) aNil))) aNil))))))
  have pick : ∀ (qs : List Q2) (i : Nat) (S' : Store) (es : List SD) (v k : Nat), es[v]? = some (SD.val (.lst (qs.map fr))) → es[k]? = some (SD.val (.int i)) → eIf (eOp2 iLt (eVar k) (eOp1 gLen (eVar v))) (eOp2 gIx (eVar v) (eVar k)) (eTup (aCons (eC (.int 0)) (aCons (eC (.int 1)) aNil))) es S' = .ok (fr (gd qs i)) S' := fun qs i S' es v k hv hk => by
    by_cases h : i < qs.length
    · have g := gIx_gd (S := S') fr h
      have h' : (i : Int) < (qs.length : Int) := by omega
      simp -implicitDefEqProofs [hv, hk, g, h']
    · rw [gd_ge (by omega)]
      have h' : ¬ (i : Int) < (qs.length : Int) := by omega
      simp -implicitDefEqProofs [hv, hk, h, fr]
  obtain ⟨es', S', q1, ⟨v4, v5, v6, q2⟩, q3⟩ := forL_run (g := []) (t := tgN 4) (b := body) (fun (i : Nat) => D.int i)
    (fun i es S' => (∃ v4 v5 v6, es = [.val A, .val B, .val (.int s), .val (.cell S.length), v4, v5, v6]) ∧ S' = S ++ [C i]) (fun _ _ S' _ => Gd.ok_nil S') (List.range M) 0 [.val A, .val B, .val (.int s), .val (.cell S.length), .no, .no, .no] (S ++ [C 0]) ⟨⟨_, _, _, rfl⟩, rfl⟩ fun i a es S' hi q => by
      obtain ⟨⟨v4, v5, v6, rfl⟩, rfl⟩ := q
      have hil := (List.getElem?_eq_some_iff.mp hi).1
      rw [List.length_range] at hil
      rw [List.getElem?_range hil] at hi
      obtain rfl := Option.some.inj hi
      rw [Nat.zero_add]
      have a1 := pick xs i (S ++ [C i]) [.val A, .val B, .val (.int s), .val (.cell S.length), .val (.int i), v5, v6] 0 4 rfl rfl
      have a2 := pick zs i (S ++ [C i]) [.val A, .val B, .val (.int s), .val (.cell S.length), .val (.int i), .val (fr (gd xs i)), v6] 1 4 rfl rfl
      have m1 := times_eval (S := S ++ [C i]) fs (hz.gd (by decide) i) (by decide)
      have p1 := plus_eval (S := S ++ [C i]) (hx.gd (by decide) i) (ti_ok fs (hz.gd (by decide) i)) (by decide)
      have fe : D.tup [.int s, .int 1] = fr (s, 1) := rfl
      have xl : L2.ixN (C i).length (i : Int) = some i := ixN_lt (by rw [lC]; exact hil)
      refine ⟨[.val A, .val B, .val (.int s), .val (.cell S.length), .val (.int i), v5, v6], [.val A, .val B, .val (.int s), .val (.cell S.length), .val (.int i), .val (fr (gd xs i)), .val (fr (gd zs i))], _, rfl, ?_, ⟨_, _, _, rfl⟩, rfl⟩
      have s1 : sAsg (tgN 5) (eIf (eOp2 iLt (eVar 4) (eOp1 gLen (eVar 0))) (eOp2 gIx (eVar 0) (eVar 4)) (eTup (aCons (eC (.int 0)) (aCons (eC (.int 1)) aNil)))) [.val A, .val B, .val (.int s), .val (.cell S.length), .val (.int i), v5, v6] (S ++ [C i]) = .next [.val A, .val B, .val (.int s), .val (.cell S.length), .val (.int i), .val (fr (gd xs i)), v6] (S ++ [C i]) := by
        rw [sAsg_eq, a1]
        rfl
      have s2 : sAsg (tgN 6) (eIf (eOp2 iLt (eVar 4) (eOp1 gLen (eVar 1))) (eOp2 gIx (eVar 1) (eVar 4)) (eTup (aCons (eC (.int 0)) (aCons (eC (.int 1)) aNil)))) [.val A, .val B, .val (.int s), .val (.cell S.length), .val (.int i), .val (fr (gd xs i)), v6] (S ++ [C i]) = .next [.val A, .val B, .val (.int s), .val (.cell S.length), .val (.int i), .val (fr (gd xs i)), .val (fr (gd zs i))] (S ++ [C i]) := by
        rw [sAsg_eq, a2]
        rfl
      have gc := get_app (S := S) (X := C i)
      have hcs := hC i hil
      have hF : F i = pl (gd xs i) (ti (s, 1) (gd zs i)) := rfl
      rw [← hF] at p1
      have sl := set_app (S := S) (X := C i) (Y := C (i + 1))
      show (sSeq _ (sSeq _ _)) _ _ = _
      rw [sSeq_eq, s1, Fl.bind_next, sSeq_eq, s2, Fl.bind_next, sStore_eq']
      generalize F i = Fi at p1 hcs
      generalize C (i + 1) = C2 at hcs sl ⊢
      generalize C i = C1 at *
      simp -implicitDefEqProofs [fe, m1, p1, gc, xl, hcs, sl]
  rw [List.length_range, Nat.zero_add] at q3
  subst q2 q3
  have e := trim_eval (S := S ++ [C M]) (d := .cell S.length) (xs := zw (fun x z => pl x (ti (s, 1) z)) xs zs) (.cell (by rw [get_app, CM]))
  have s1 : sAsg (tgN 3) (eLc true [4] (itRange1 (aCons (eOp2 gMax (eOp1 gLen (eVar 0)) (eOp1 gLen (eVar 1))) aNil)) (tgN 4) eYes (eTup (aCons (eC (.int 0)) (aCons (eC (.int 1)) aNil)))) [.val A, .val B, .val (.int s), .no, .no, .no, .no] S = .next [.val A, .val B, .val (.int s), .val (.cell S.length), .no, .no, .no] (S ++ [C 0]) := by
    rw [sAsg_eq, c1]
    rfl
  unfold D__law_sum b__law_sum
  rw [fnD_eq, show startD 7 [.lst (xs.map fr), .lst (zs.map fr), .int s] = [.val A, .val B, .val (.int s), .no, .no, .no, .no] from rfl, sSeq_eq, s1, Fl.bind_next, sSeq_eq, sFor_eq, r2]
  simp only
  rw [show forL [] (tgN 4) _ _ _ _ = _ from q1, Fl.bind_next, sRet_eq]
  simp -implicitDefEqProofs [e]
/-! ### the derivative -/
def slope (xs : List Q2) : List Q2 := (List.range (xs.length - 1)).map fun i => ti (gd xs (i + 1)) ((i : Int) + 1, 1)
theorem ti_comm (x z : Q2) : ti x z = ti z x := by
  unfold ti
  rw [Int.mul_comm, Int.mul_comm x.2]
theorem num_ok {i : Nat} (h : i ≤ 1000) : Fq 10 ((i : Int) + 1, 1) := by
  refine ⟨by show (0 : Int) < 1; decide, by show Int.gcd _ 1 = 1; exact Int.gcd_one, ?_, by show (1 : Int).natAbs < 2 ^ 10; decide⟩
  show ((i : Int) + 1).natAbs < 2 ^ 10
  have e : (2 : Nat) ^ 10 = 1024 := by decide
  omega
theorem slope_ok (hx : Fqs 98 xs) (h1 : xs.length ≤ 1000) : Fqs 108 (slope xs) := fun y hy => by
  obtain ⟨i, hi, rfl⟩ := List.mem_map.mp hy
  rw [List.mem_range] at hi
  exact ti_ok (hx.gd (by decide) _) (num_ok (by omega))
theorem deriv_eval (hx : Fqs 98 xs) (h1 : xs.length ≤ 1000) : D_Poly_derivative [poly xs] S = .ok (poly (trim (slope xs))) S := by
  have cut : gSlL (.lst (xs.map rt)) (some 1) none S = .ok (.lst ((xs.drop 1).map rt)) S := by
    show Res.ok (.lst (cutD (xs.map rt) (some 1) none)) S = _
    congr 2
    unfold cutD
    have a1 : HT.sIx (xs.map rt).length 0 (some 1) = min 1 xs.length := by
      unfold HT.sIx
      simp
    have a2 : HT.sIx (xs.map rt).length (xs.map rt).length none = xs.length := by
      unfold HT.sIx
      simp
    rw [a1, a2]
    rcases xs with _ | ⟨x, xs⟩
    · rfl
    · rw [show min 1 (x :: xs).length = 1 by rw [List.length_cons]; omega, List.map_drop]
      refine List.take_of_length_le ?_
      rw [List.length_drop, List.length_map]
      exact Nat.le_refl _
  have ge : ∀ i, gd (xs.drop 1) i = gd xs (i + 1) := fun i => by
    unfold gd
    rw [List.getD_eq_getElem?_getD, List.getD_eq_getElem?_getD, List.getElem?_drop, Nat.add_comm 1 i]
  have it : itEnum (aCons (eSl gSlL (eOp1 (gSlot 4 0) (eVar 0)) (some (eC (.int 1))) none) aNil) [.val (poly xs), .no, .no] S = .ok ((List.range (xs.length - 1)).map fun (i : Nat) => .tup [.int i, rt (gd xs (i + 1))]) [] S := by
    have e1 : eSl gSlL (eOp1 (gSlot 4 0) (eVar 0)) (some (eC (.int 1))) none [.val (poly xs), .no, .no] S = .ok (.lst ((xs.drop 1).map rt)) S := by
      unfold eSl
      simp -implicitDefEqProofs [slot_poly, pOf, cut]
    have e2 := enumD_rng rt (xs.drop 1)
    rw [List.length_drop] at e2
    simp only [ge] at e2
    unfold itEnum
    simp only [aCons_eq, aNil_eq, e1, Res.bindA_ok, ResA.bindL_ok, ResA.bindI_ok, seqV_lst, e2]
  have c := eLc_map (q := false) (vs := [1, 2]) (t := tgT 2 (tsCons (tgN 1) (tsCons (tgN 2) tsNil))) (c := eYes) (e := eOp2 (gOwn 0 D_Ratiod__muld_) (eVar 2) (eOp2 iAdd (eVar 1) (eC (.int 1)))) (fun (i : Nat) => .tup [.int i, rt (gd xs (i + 1))]) (fun i => rt (ti (gd xs (i + 1)) ((i : Int) + 1, 1))) it (Gd.ok_nil S) (by rw [List.length_range]; omega) (by rfl) fun i hi => ⟨[.val (poly xs), .val (.int i), .val (rt (gd xs (i + 1)))], by simp [wipeD], rfl, by
    rw [List.mem_range] at hi
    have nm : Num (.int ((i : Int) + 1)) ((i : Int) + 1, 1) := .inr ⟨rfl, rfl⟩
    have := own_num nm (mul_eval (S := S) (hx.gd (by decide) (i + 1)) (num_ok (i := i) (by omega)) nm (by decide))
    simp -implicitDefEqProofs [this]⟩
  rw [if_neg Bool.false_ne_true] at c
  have e := poly_rt (S := S) (xs := slope xs) (ds := (List.range (xs.length - 1)).map fun i => rt (ti (gd xs (i + 1)) ((i : Int) + 1, 1))) (by unfold slope; rw [List.map_map]; rfl) (slope_ok hx h1) (by decide) (by unfold slope; rw [List.length_map, List.length_range]; omega)
  unfold D_Poly_derivative b_Poly_derivative
  generalize D.lst ((List.range (xs.length - 1)).map fun i => rt (ti (gd xs (i + 1)) ((i : Int) + 1, 1))) = dd at c e
  generalize poly xs = p1 at c ⊢
  simp -implicitDefEqProofs [-eLc_eq, fnD_eq, startD, c, e]
/-- the slope of a trimmed list is trimmed -/
theorem nf_ne {a b : Int} (h : 0 < b) (ha : a ≠ 0) : (nf a b).1 ≠ 0 := by
  rw [nf_pos h]
  intro q
  have q : a / (Int.gcd a b : Int) = 0 := q
  have := Int.ediv_mul_cancel (dvd_a a b)
  rw [q, Int.zero_mul] at this
  exact ha this.symm
theorem slope_trim {qs : List Q2} (hx : Fqs 98 xs) (ht : trim qs = xs) : trim (slope xs) = slope xs := by
  by_cases h : xs.length ≤ 1
  · have : slope xs = [] := by
      unfold slope
      rw [show xs.length - 1 = 0 by omega]
      rfl
    rw [this]
    rfl
  · obtain ⟨k, hk⟩ : ∃ k, xs.length = k + 2 := ⟨xs.length - 2, by omega⟩
    have e : slope xs = ((List.range k).map fun i => ti (gd xs (i + 1)) ((i : Int) + 1, 1)) ++ [ti (gd xs (k + 1)) ((k : Int) + 1, 1)] := by
      unfold slope
      rw [show xs.length - 1 = k + 1 by omega, List.range_succ, List.map_append]
      rfl
    have l : (gd xs (k + 1)).1 ≠ 0 := by
      rcases List.eq_nil_or_concat xs with q | ⟨ys, y, q⟩
      · rw [q] at hk; cases hk
      · rw [List.concat_eq_append] at q
        have ly : ys.length = k + 1 := by
          have := hk
          rw [q, List.length_append] at this
          simpa using this
        have : gd xs (k + 1) = y := by
          have := gd_lt (xs := xs) (i := k + 1) (by omega)
          rw [q, ← ly, List.getElem?_append_right (Nat.le_refl _)] at this
          rw [ly] at this
          rw [q]
          simpa using this.symm
        rw [this]
        exact trim_last (ht.trans q)
    rw [e]
    refine trim_snoc1 ?_
    have p := (hx.gd (by decide : 1 ≤ 98) (k + 1)).pos
    unfold ti
    simp only
    refine nf_ne (by omega) ?_
    exact Int.mul_ne_zero l (by omega)
end
end K04
set_option Elab.async false
set_option linter.all false
set_option maxRecDepth 100000
set_option maxHeartbeats 4000000
set_option autoImplicit false
namespace K04
open PySem L2 DL
def gv (x : Q2) : D := if x.2 = 1 then .int x.1 else rt x
theorem gv_num (x : Q2) : Num (gv x) x := by
  unfold gv
  split
  · exact .inr ⟨rfl, by assumption⟩
  · exact .inl rfl
theorem map_gd2 {β : Type} (e : Q2 → β) (xs : List Q2) : (List.range xs.length).map (fun i => e (gd xs i)) = xs.map e := by
  refine List.ext_getElem? fun i => ?_
  rw [List.getElem?_map, List.getElem?_map]
  by_cases h : i < xs.length
  · rw [List.getElem?_range h, gd_lt h]
    rfl
  · rw [List.getElem?_eq_none (by rw [List.length_range]; omega), List.getElem?_eq_none (by omega)]
    rfl
section
variable {S S' : Store} {n m : Nat} {x z : Q2} {y : D} {xs zs : List Q2}
theorem zw_one (hz : Fqs 98 zs) : zw (fun x z => pl x (ti (1, 1) z)) xs zs = zw pl xs zs := by
  refine List.map_congr_left fun i _ => ?_
  show pl (gd xs i) (ti (1, 1) (gd zs i)) = _
  rw [ti_one (hz.gd (by decide) i)]
theorem zw_neg (hz : Fqs 98 zs) : zw (fun x z => pl x (ti (-1, 1) z)) xs zs = zw mn xs zs := by
  refine List.map_congr_left fun i _ => ?_
  show pl (gd xs i) (ti (-1, 1) (gd zs i)) = _
  rw [ti_neg (hz.gd (by decide) i), pl_ng]
theorem zw_nil (hz : Fqs 98 zs) : zw (fun x z => pl x (ti (-1, 1) z)) [] zs = zs.map ng := by
  have e : nsum [] zs = zs.length := by
    unfold nsum
    simp
  rw [← map_gd2 ng zs]
  unfold zw
  rw [e]
  refine List.map_congr_left fun i _ => ?_
  show pl (gd [] i) (ti (-1, 1) (gd zs i)) = _
  rw [ti_neg (hz.gd (by decide) i), gd_ge (Nat.zero_le _)]
  exact pl_zero (ng_ok (hz.gd (by decide : 1 ≤ 98) i))
theorem gv_eval (hx : Fq n x) (h : n ≤ 8000) : D__law_given [fr x] S = .ok (gv x) S := by
  by_cases h1 : x.2 = 1
  · unfold D__law_given b__law_given gv
    simp -implicitDefEqProofs [fnD_eq, startD, ix0, ix1, h1]
  · have e := new_eval (S := S) (a := x.1) (b := x.2) (Int.ne_of_gt hx.pos) (up8 hx.s2 h)
    rw [nf_id hx.pos hx.cop] at e
    unfold D__law_given b__law_given gv
    simp -implicitDefEqProofs [fnD_eq, startD, ix0, ix1, h1, e]
theorem made_eval (hx : Fqs 98 xs) (h1 : xs.length ≤ 1000) : D__law_made [.lst (xs.map fr)] S = .ok (poly (trim xs)) S := by
  have it : itSeq (eVar 0) [.val (.lst (xs.map fr)), .no] S = .ok (xs.map fr) [] S := rfl
  have c := eLc_map (q := false) (vs := [1]) (t := tgN 1) (c := eYes) (e := eCall 1 D__law_given (aCons (eVar 1) aNil)) fr gv it (Gd.ok_nil S) (by omega) (by rfl) fun x h => ⟨_, rfl, rfl, by simp -implicitDefEqProofs [wipeD, gv_eval (hx x h) (by decide)]⟩
  rw [if_neg Bool.false_ne_true] at c
  have e := poly_new (S := S) (d := .lst (xs.map gv)) (f := gv) (xs := xs) .lst (fun x _ => gv_num x) hx (by decide) (by omega)
  unfold D__law_made b__law_made
  generalize D.lst (xs.map gv) = dd at c e
  generalize D.lst (xs.map fr) = d0 at c ⊢
  simp -implicitDefEqProofs [-eLc_eq, fnD_eq, startD, c, e]
theorem pn_fr {k : Nat} : pn (k + 2) (fr x) = true := rfl
theorem pn_frs {k : Nat} : pn (k + 3) (.lst (xs.map fr)) = true := all_map xs fun x _ => pn_fr
def peF : Pe (fun _ : Int × Int => True ∧ True) 2 (fun p => D.tup [.int p.1, .int p.2]) := pe_int.pair pe_int
theorem gEq_frs : gEq (.lst (xs.map fr)) (.lst (zs.map fr)) S = .ok (.bl (decide (xs = zs))) S := by
  have P := peF.lst
  exact P.gEq (S := S) (by decide) (x := xs) (y := zs) (fun _ _ => ⟨trivial, trivial⟩) (fun _ _ => ⟨trivial, trivial⟩) (P.thw (fun _ _ => ⟨trivial, trivial⟩)) (P.thw (fun _ _ => ⟨trivial, trivial⟩))
theorem gNe_bl {b : Bool} : gNe (.bl b) (.bl b) S = .ok (.bl false) S := by cases b <;> rfl
theorem seq_next {f g : SF} {es es' : List SD} {S S' : Store} (h : f es S = .next es' S') : sSeq f g es S = g es' S' := by rw [sSeq_eq, h, Fl.bind_next]
theorem sPar_ok {i j : Nat} {a : AF} {es : List SD} {d1 d2 : D} {S1 : Store} (h : a es S = .ok [d1, d2] S1) : sPar i j a es S = .next ((es.set i (.val d1)).set j (.val d2)) S1 := by rw [sPar_eq, h]
theorem sAsgN_ok {i : Nat} {f : EF} {es : List SD} {d : D} {S1 : Store} (h : f es S = .ok d S1) : sAsg (tgN i) f es S = .next (es.set i (.val d)) S1 := by rw [sAsg_eq, h]; rfl
theorem sIf_no {c : EF} {a : SF} {es : List SD} {S1 : Store} (h : c es S = .ok (.bl false) S1) : sIf c a sNil es S = .next es S1 := by rw [sIf_eq, h]; rfl
theorem isObj_rt : isObj 0 (rt x) = true := rfl
theorem pair_eval (hx : Fqs 98 xs) (hz : Fqs 98 zs) (h1 : xs.length ≤ 100) (h2 : zs.length ≤ 100) (t1 : (trim xs).length ≤ 6) (t2 : (trim zs).length ≤ 6) (hq : Fq 98 x) : ∃ J, D__law_pair_right [.lst (xs.map fr), .lst (zs.map fr), fr x] S = .ok (.bl true) (S ++ J) := by
  obtain ⟨l, hl⟩ : ∃ l, l = trim xs := ⟨_, rfl⟩
  obtain ⟨r, hr⟩ : ∃ r, r = trim zs := ⟨_, rfl⟩
  have fl : Fqs 98 l := by rw [hl]; exact hx.trim
  have fr' : Fqs 98 r := by rw [hr]; exact hz.trim
  have tl : trim l = l := by rw [hl]; exact trim_idem xs
  rw [← hl] at t1
  rw [← hr] at t2
  let A : D := .lst (xs.map fr)
  let B : D := .lst (zs.map fr)
  let L : D := .lst (l.map fr)
  let R : D := .lst (r.map fr)
  have m1 : ∀ S, D__law_made [A] S = .ok (poly l) S := fun S => by rw [hl]; exact made_eval hx (by omega)
  have m2 : ∀ S, D__law_made [B] S = .ok (poly r) S := fun S => by rw [hr]; exact made_eval hz (by omega)
  have k1 : ∀ S, D__law_trim [A] S = .ok L S := fun S => by show _ = Res.ok (.lst (l.map fr)) S; rw [hl]; exact trim_eval .lst
  have k2 : ∀ S, D__law_trim [B] S = .ok R S := fun S => by show _ = Res.ok (.lst (r.map fr)) S; rw [hr]; exact trim_eval .lst
  have a1 : ∀ S, D_Polyd__addd_ [poly l, poly r] S = .ok (poly (trim (zw pl l r))) S := fun S => padd_eval fl fr' (by omega) (by omega)
  have a2 : ∀ S, D_Polyd__subd_ [poly l, poly r] S = .ok (poly (trim (zw mn l r))) S := fun S => psub_eval fl fr' (by omega) (by omega)
  obtain ⟨J1, a3⟩ := pmul_eval (S := S) fl fr' t1 t2
  have a4 : ∀ S, D_Polyd__negd_ [poly l] S = .ok (poly (trim (l.map ng))) S := fun S => pneg_eval fl (by decide) (by omega)
  obtain ⟨J2, b1⟩ := sum_eval (S := S ++ J1) (s := 1) (.inl rfl) fl fr' (by omega) (by omega)
  rw [zw_one fr'] at b1
  obtain ⟨J3, b2⟩ := sum_eval (S := S ++ J1 ++ J2) (s := -1) (.inr rfl) fl fr' (by omega) (by omega)
  rw [zw_neg fr'] at b2
  obtain ⟨J4, b3⟩ := lmul_eval (S := S ++ J1 ++ J2 ++ J3) fl fr' t1 t2
  obtain ⟨J5, b4⟩ := sum_eval (S := S ++ J1 ++ J2 ++ J3 ++ J4) (s := -1) (xs := []) (zs := l) (.inr rfl) (fun _ h => absurd h (by simp)) fl (by simp) (by omega)
  rw [zw_nil fl] at b4
  obtain ⟨T, hT⟩ : ∃ T, T = S ++ J1 ++ J2 ++ J3 ++ J4 ++ J5 := ⟨_, rfl⟩
  let ps : List (List Q2) := [trim (zw pl l r), trim (zw mn l r), trim (out l r l.length), trim (l.map ng)]
  have lps : ∀ q ∈ ps, q.length < 1000000 := fun q hq => by
    have z1 : nsum l r ≤ 6 := by unfold nsum; omega
    have e : q = trim (zw pl l r) ∨ q = trim (zw mn l r) ∨ q = trim (out l r l.length) ∨ q = trim (l.map ng) := by simpa [ps] using hq
    rcases e with rfl | rfl | rfl | rfl
    · have := trim_len (zw pl l r); rw [zw_len] at this; omega
    · have := trim_len (zw mn l r); rw [zw_len] at this; omega
    · have := trim_len (out l r l.length); rw [out_len] at this; omega
    · have := trim_len (l.map ng); rw [List.length_map] at this; omega
  let V7 : D := .lst (ps.map poly)
  let V8 : D := .lst (ps.map fun q => .lst (q.map fr))
  have w := worth_eval (S := T) (zs := l) hq (gv_num x) fl (by omega)
  have g := gv_eval (S := T) hq (by decide)
  have at_ := at_eval (S := T) (zs := l) hq fl (by omega)
  have ho := hor_ok hq l.reverse (0, 1) 1 z01 (fun b hb => fl b (List.mem_reverse.mp hb))
  have de := deriv_eval (S := T) fl (by omega)
  rw [slope_trim fl tl] at de
  have sl : (slope l).length < 1000000 := by unfold slope; rw [List.length_map, List.length_range]; omega
  have ln := lawnum_eval (S := T) (xs := slope l) sl
  refine ⟨J1 ++ J2 ++ J3 ++ J4 ++ J5, ?_⟩
  have hT2 : S ++ (J1 ++ J2 ++ J3 ++ J4 ++ J5) = T := by rw [hT]; simp only [List.append_assoc]
  rw [hT2]
  unfold D__law_pair_right b__law_pair_right
  rw [fnD_eq, show startD 13 [.lst (xs.map fr), .lst (zs.map fr), fr x] = [.val A, .val B, .val (fr x), .no, .no, .no, .no, .no, .no, .no, .no, .no, .no] from rfl]
  rw [seq_next (es' := [.val A, .val B, .val (fr x), .val (poly l), .val (poly r), .no, .no, .no, .no, .no, .no, .no, .no]) (S' := S) (sPar_ok (by
    generalize A = A' at *
    generalize B = B' at *
    simp -implicitDefEqProofs [m1, m2]))]
  rw [seq_next (es' := [.val A, .val B, .val (fr x), .val (poly l), .val (poly r), .val L, .val R, .no, .no, .no, .no, .no, .no]) (S' := S) (by
    generalize A = A' at *
    generalize B = B' at *
    generalize L = L' at *
    generalize R = R' at *
    simp -implicitDefEqProofs [k1, k2])]
  rw [seq_next (es' := [.val A, .val B, .val (fr x), .val (poly l), .val (poly r), .val L, .val R, .val V7, .no, .no, .no, .no, .no]) (S' := S ++ J1) (sAsgN_ok (by
    have g1 : ∀ den : List D → Store → Res, ∀ S, gOwn 4 den (poly l) (poly r) S = den [poly l, poly r] S := fun den S => gOwn_obj
    have g2 : ∀ den : List D → Store → Res, ∀ S, gOwn1 4 den (poly l) S = den [poly l] S := fun den S => gOwn1_eq
    show _ = Res.ok (.lst [poly (trim (zw pl l r)), poly (trim (zw mn l r)), poly (trim (out l r l.length)), poly (trim (l.map ng))]) (S ++ J1)
    generalize poly (trim (zw pl l r)) = q1 at *
    generalize poly (trim (zw mn l r)) = q2 at *
    generalize poly (trim (out l r l.length)) = q3 at *
    generalize poly (trim (l.map ng)) = q4 at *
    generalize poly l = pl' at *
    generalize poly r = pr' at *
    simp -implicitDefEqProofs [g1, g2, a1, a2, a3, a4]))]
  rw [seq_next (es' := [.val A, .val B, .val (fr x), .val (poly l), .val (poly r), .val L, .val R, .val V7, .val V8, .no, .no, .no, .no]) (S' := T) (sAsgN_ok (by
    show _ = Res.ok (.lst [.lst ((trim (zw pl l r)).map fr), .lst ((trim (zw mn l r)).map fr), .lst ((trim (out l r l.length)).map fr), .lst ((trim (l.map ng)).map fr)]) T
    rw [hT]
    have e4 : D.lst (([] : List Q2).map fr) = .lst [] := rfl
    rw [e4] at b4
    generalize D.lst ((trim (zw pl l r)).map fr) = q1 at *
    generalize D.lst ((trim (zw mn l r)).map fr) = q2 at *
    generalize D.lst ((trim (out l r l.length)).map fr) = q3 at *
    generalize D.lst ((trim (l.map ng)).map fr) = q4 at *
    have b1' : D__law_sum [L, R, .int 1] (S ++ J1) = .ok q1 (S ++ J1 ++ J2) := b1
    have b2' : D__law_sum [L, R, .int (-1)] (S ++ J1 ++ J2) = .ok q2 (S ++ J1 ++ J2 ++ J3) := b2
    have b3' : D__law_product [L, R] (S ++ J1 ++ J2 ++ J3) = .ok q3 (S ++ J1 ++ J2 ++ J3 ++ J4) := b3
    have b4' : D__law_sum [.lst [], L, .int (-1)] (S ++ J1 ++ J2 ++ J3 ++ J4) = .ok q4 (S ++ J1 ++ J2 ++ J3 ++ J4 ++ J5) := b4
    clear b1 b2 b3 b4
    generalize S ++ J1 ++ J2 ++ J3 ++ J4 ++ J5 = S5 at *
    generalize S ++ J1 ++ J2 ++ J3 ++ J4 = S4 at *
    generalize S ++ J1 ++ J2 ++ J3 = S3 at *
    generalize S ++ J1 ++ J2 = S2 at *
    generalize S ++ J1 = S1 at *
    generalize L = L' at *
    generalize R = R' at *
    simp -implicitDefEqProofs [b1', b2', b3', b4']))]
  let es : List SD := [.val A, .val B, .val (fr x), .val (poly l), .val (poly r), .val L, .val R, .val V7, .val V8, .no, .no, .no, .no]
  have c1 := eLc_map (q := false) (vs := [9]) (it := itSeq (eVar 7)) (t := tgN 9) (c := eYes) (e := eCall 1 D__law_numbers (aCons (eVar 9) aNil)) (es := es) (S := T) (xs := ps) (g := []) (S1 := T) poly (fun q => .lst (q.map fr)) rfl (Gd.ok_nil T) (by simp [ps]) (by rfl) fun q hq => ⟨_, rfl, rfl, by simp -implicitDefEqProofs [wipeD, es, lawnum_eval (lps q hq)]⟩
  have c2 := eLc_map (q := false) (vs := [9]) (it := itSeq (eVar 7)) (t := tgN 9) (c := eYes) (e := eOp1 (gProp 4 D_Poly_degree) (eVar 9)) (es := es) (S := T) (xs := ps) (g := []) (S1 := T) poly (fun q => .int ((q.length : Int) - 1)) rfl (Gd.ok_nil T) (by simp [ps]) (by rfl) fun q hq => ⟨_, rfl, rfl, by
    have : gProp 4 D_Poly_degree (poly q) T = .ok (.int ((q.length : Int) - 1)) T := by rw [poly, gProp_eq]; exact degree_eval
    simp -implicitDefEqProofs [wipeD, es, this]⟩
  have c3 := eLc_map (q := false) (vs := [9]) (it := itSeq (eVar 8)) (t := tgN 9) (c := eYes) (e := eOp2 iSub (eOp1 gLen (eVar 9)) (eC (.int 1))) (es := es) (S := T) (xs := ps) (g := []) (S1 := T) (fun q => .lst (q.map fr)) (fun q => .int ((q.length : Int) - 1)) rfl (Gd.ok_nil T) (by simp [ps]) (by rfl) fun q hq => ⟨_, rfl, rfl, by
    simp -implicitDefEqProofs [wipeD, es]⟩
  rw [if_neg Bool.false_ne_true] at c1 c2 c3
  have p8 : Pv T V8 V8 := Pv.self (n := 5) (by decide) (show (ps.map fun q => D.lst (q.map fr)).all (pn 4) = true from all_map ps fun q _ => pn_frs (k := 1))
  have p9 : Pv T (.lst (ps.map fun q => D.int ((q.length : Int) - 1))) (.lst (ps.map fun q => D.int ((q.length : Int) - 1))) := Pv.self (n := 5) (by decide) (show (ps.map fun q => D.int ((q.length : Int) - 1)).all (pn 4) = true from all_map ps fun q _ => rfl)
  have n8 := gNe_same p8 p8
  have n9 := gNe_same p9 p9
  rw [seq_next (es' := es) (S' := T) (sIf_no (by
    have c1' : eLc false [9] (itSeq (eVar 7)) (tgN 9) eYes (eCall 1 D__law_numbers (aCons (eVar 9) aNil)) es T = .ok V8 T := c1
    have v8 : es[8]? = some (.val V8) := rfl
    generalize V8 = V8' at *
    clear_value es
    simp -implicitDefEqProofs [-eLc_eq, c1', v8, n8]))]
  rw [seq_next (es' := es) (S' := T) (sIf_no (by
    generalize D.lst (ps.map fun q => D.int ((q.length : Int) - 1)) = V9 at *
    clear_value es
    simp -implicitDefEqProofs [-eLc_eq, c2, c3, n9]))]
  have ml : D__law_made [L] T = .ok (poly l) T := by
    have := made_eval (S := T) fl (by omega)
    rw [tl] at this
    exact this
  rw [seq_next (es' := es) (S' := T) (sIf_no (by
    have v3 : es[3]? = some (.val (poly l)) := rfl
    have v4 : es[4]? = some (.val (poly r)) := rfl
    have v5 : es[5]? = some (.val L) := rfl
    have v6 : es[6]? = some (.val R) := rfl
    have o1 := ownEq_poly (S := T) (xs := l) (zs := r)
    have o2 := ownEq_poly (S := T) (xs := l) (zs := l)
    have o3 : gOwnEq [0, 4] 4 D_Polyd__eqd_ (poly l) L T = .ok (.bl false) T := ownEq_lst
    have q1 : gEq L R T = .ok (.bl (decide (l = r))) T := gEq_frs
    rw [show decide (l = l) = true from decide_eq_true rfl] at o2
    generalize decide (l = r) = bb at *
    generalize poly l = pl' at *
    generalize poly r = pr' at *
    clear_value es
    generalize L = L' at *
    generalize R = R' at *
    simp -implicitDefEqProofs [v3, v4, v5, v6, o1, o2, o3, q1, ml, gNe_bl]))]
  rw [seq_next (es' := [.val A, .val B, .val (fr x), .val (poly l), .val (poly r), .val L, .val R, .val V7, .val V8, .no, .val (rt (hor x l.reverse (0, 1))), .no, .no]) (S' := T) (sAsgN_ok (by
    have v3 : es[3]? = some (.val (poly l)) := rfl
    have v2 : es[2]? = some (.val (fr x)) := rfl
    have io := isObj_poly (xs := l)
    generalize poly l = pl' at *
    clear_value es
    simp -implicitDefEqProofs [v3, v2, g, w, io]))]
  rw [seq_next (es' := [.val A, .val B, .val (fr x), .val (poly l), .val (poly r), .val L, .val R, .val V7, .val V8, .no, .val (rt (hor x l.reverse (0, 1))), .no, .no]) (S' := T) (sIf_no (by
    have i1 : gIsi [0, 4] (rt (hor x l.reverse (0, 1))) (.cls 0) T = .ok (.bl true) T := isi_rt
    have t1 := told_eval (S := T) (x := hor x l.reverse (0, 1))
    have pv : Pv T (fr (hor x l.reverse (0, 1))) (fr (hor x l.reverse (0, 1))) := Pv.self (n := 5) (by decide) rfl
    have n1 := gNe_same pv pv
    have at' : D__law_at [L, fr x] T = .ok (fr (hor x l.reverse (0, 1))) T := at_
    generalize hor x l.reverse (0, 1) = hh at *
    generalize L = L' at *
    simp -implicitDefEqProofs [i1, t1, n1, at']))]
  have r2 : itRange2 (aCons (eC (.int 1)) (aCons (eOp1 gLen (eVar 5)) aNil)) [.val A, .val B, .val (fr x), .val (poly l), .val (poly r), .val L, .val R, .val V7, .val V8, .no, .val (rt (hor x l.reverse (0, 1))), .no, .no] T = .ok ((List.range (l.length - 1)).map fun (i : Nat) => D.int (1 + i)) [] T := by
    have p : (2 : Int) ^ 62 = 4611686018427387904 := by decide
    have e1 : ((l.length : Int) - 1).toNat = l.length - 1 := by omega
    have e2 : gLen L T = .ok (.int l.length) T := by
      have := Sq.len (S := T) (d := L) (ds := l.map fr) .lst
      rw [List.length_map] at this
      exact this
    have b1 : (-4611686018427387904 : Int) ≤ (l.length : Int) ∧ (l.length : Int) < 4611686018427387904 := by omega
    generalize L = L' at *
    simp -implicitDefEqProofs [e2, e1, b1]
  have c4 := eLc_map (q := false) (vs := [12]) (t := tgN 12) (c := eYes) (e := eCall 2 D__law_times (aCons (eTup (aCons (eVar 12) (aCons (eC (.int 1)) aNil))) (aCons (eOp2 gIx (eVar 5) (eVar 12)) aNil))) (fun (i : Nat) => D.int (1 + i)) (fun i => fr (ti (gd l (i + 1)) ((i : Int) + 1, 1))) r2 (Gd.ok_nil T) (by rw [List.length_range]; omega) (by rfl) fun i hi => ⟨_, rfl, rfl, by
    rw [List.mem_range] at hi
    have ix : gIx L (.int ((i + 1 : Nat) : Int)) T = .ok (fr (gd l (i + 1))) T := gIx_gd fr (by omega)
    have ee : (1 : Int) + (i : Int) = ((i + 1 : Nat) : Int) := by omega
    have e2 : D.tup [.int ((i + 1 : Nat) : Int), .int 1] = fr ((i : Int) + 1, 1) := by
      unfold fr
      simp
    have tm := times_eval (S := T) (num_ok (i := i) (by omega)) (fl.gd (by decide : 1 ≤ 98) (i + 1)) (by decide)
    rw [ti_comm] at tm
    generalize hk : i + 1 = k at *
    generalize ti (gd l k) ((i : Int) + 1, 1) = tt at *
    generalize L = L' at *
    simp -implicitDefEqProofs [wipeD, ee, ix, e2, tm]⟩
  rw [if_neg Bool.false_ne_true] at c4
  have e11 : (List.range (l.length - 1)).map (fun i => fr (ti (gd l (i + 1)) ((i : Int) + 1, 1))) = (slope l).map fr := by
    unfold slope
    rw [List.map_map]
    rfl
  rw [e11] at c4
  rw [seq_next (es' := [.val A, .val B, .val (fr x), .val (poly l), .val (poly r), .val L, .val R, .val V7, .val V8, .no, .val (rt (hor x l.reverse (0, 1))), .val (.lst ((slope l).map fr)), .no]) (S' := T) (sAsgN_ok c4)]
  have eqs := gEq_frs (S := T) (xs := slope l) (zs := slope l)
  rw [show decide (slope l = slope l) = true from decide_eq_true rfl] at eqs
  have io := isObj_poly (xs := l)
  generalize D.lst ((slope l).map fr) = V11 at *
  generalize poly l = pl' at *
  simp -implicitDefEqProofs [de, ln, io, eqs]
end
end K04
set_option Elab.async false
set_option linter.all false
set_option maxRecDepth 100000
set_option maxHeartbeats 4000000
set_option autoImplicit false
namespace K04
open PySem L2 DL
section
variable {S S1 : Store} {c : Nat} {k : Int} {n m : Nat} {x z : Q2} {y d : D} {xs zs : List Q2}
theorem Bag.same {S' : Store} (h : Bag S c k) (e : S'[c]? = S[c]?) : Bag S' c k := by
  obtain ⟨a, b, r, h1, h2⟩ := h
  exact ⟨a, b, r, by rw [e]; exact h1, h2⟩
theorem Bag.lt (h : Bag S c k) : c < S.length := by
  obtain ⟨a, b, r, h1, h2⟩ := h
  exact (List.getElem?_eq_some_iff.mp h1).1
theorem Bag.app {J : Store} (h : Bag S c k) : Bag (S ++ J) c k := h.same (List.getElem?_append_left h.lt)
theorem cell_eval (ns : List Int) {i : Nat} (hi : i ≤ 10) : ∃ v : Int, D__law_cell [.lst (ns.map D.int), .int i] S = .ok (.int v) S := by
  unfold D__law_cell b__law_cell
  by_cases h : i < ns.length
  · have e : gIx (.lst (ns.map D.int)) (.int (i : Int)) S = .ok (.int ns[i]) S := gIx_lst (by rw [List.getElem?_map, List.getElem?_eq_getElem h]; rfl)
    have h' : (i : Int) < (ns.length : Int) := by omega
    exact ⟨ns[i], by simp -implicitDefEqProofs [fnD_eq, startD, e, h]⟩
  · have em := mM (S := S) (i := 86028121) (j := (i : Int)) (up8 (n := 64) (by decide) (by decide)) (up8 (n := 64) (by omega) (by decide))
    exact ⟨86028121 * (i : Int) + 947, by simp -implicitDefEqProofs [fnD_eq, startD, h, sNil, em]⟩
theorem bag_eval (v : Int) : ∃ L, D__law_bag [.int v] S = .ok (.cell S.length) (S ++ [L]) ∧ Bag (S ++ [L]) S.length 0 := by
  have p := iPow_ok (S := S) (i := 10) (j := 18) (by decide) (by decide) (by decide)
  have m := iMod_ok (S := S) (i := v) (j := 2147483629) (by decide)
  refine ⟨[.int (if v - 1000000000000000000 > 0 then v - 1000000000000000000 else 0), .int (v % 2147483629), .int 0], ?_, ⟨if v - 1000000000000000000 > 0 then v - 1000000000000000000 else 0, v % 2147483629, 0, by simp, ?_, Int.emod_nonneg _ (by decide), ?_, by decide, by decide⟩⟩
  · unfold D__law_bag b__law_bag
    simp -implicitDefEqProofs [fnD_eq, startD, p, m]
  · split <;> omega
  · have := Int.emod_lt_of_pos v (by decide : (0 : Int) < 2147483629)
    omega
theorem rep_fr {t : Int} (h0 : 0 ≤ t) (h1 : t < 3) : ∃ j : Nat, j ≤ 2 ∧ gRep (.lst [fr (0, 1)]) (.int t) S = .ok (.lst ((List.replicate j (0, 1)).map fr)) S := by
  have ht : t = 0 ∨ t = 1 ∨ t = 2 := by omega
  have b : (2 : Int) < 2 ^ 63 ∧ (1 : Int) < 2 ^ 63 ∧ (0 : Int) < 2 ^ 63 := by decide
  rcases ht with rfl | rfl | rfl
  · exact ⟨0, by decide, by unfold gRep; simp [deref]⟩
  · exact ⟨1, by decide, by unfold gRep; simp [deref]⟩
  · exact ⟨2, by decide, by unfold gRep; simp [deref]⟩
theorem drawn_eval (B : Bag S c k) (hk : k ≤ 800000000) : ∃ (xs : List Q2) (S' : Store), D__law_drawn [.cell c] S = .ok (.lst (xs.map fr)) S' ∧ Fqs 98 xs ∧ xs.length ≤ 8 ∧ (trim xs).length ≤ 6 ∧ Bag S' c (k + 40) ∧ S'.length = S.length := by
  obtain ⟨t, S1, e1, t0, t1, B1, l1⟩ := take_eval (w := 7) B (by omega) (by decide) (up8 (n := 5) (by decide) (by decide))
  have hit := range1_eval (n := t.toNat) (a := aCons (eCall 2 D__law_take (aCons (eVar 0) (aCons (eC (.int 7)) aNil))) aNil) (es := [.val (.cell c), .no, .no]) (S := S) (S1 := S1) (by omega) (by
    have : ((t.toNat : Nat) : Int) = t := by omega
    simp -implicitDefEqProofs [e1, this])
  obtain ⟨ys, S2, e2, yl, hy, B2, l2⟩ := lcL_draw (t := tgN 2) (c := eYes) (e := eCall 1 D__law_number (aCons (eVar 0) aNil)) (es := [.val (.cell c), .no, .no]) (fun (i : Nat) => D.int i) fr (fun x => Fq 98 x) (fun i S' => Bag S' c (k + 31 - 5 * i) ∧ S'.length = S.length) (List.range t.toNat) 0 S1 [] (by
    rw [List.length_range]
    exact ⟨B1.mono (by omega), l1⟩) fun i _ j S' ⟨B', l'⟩ => by
      obtain ⟨x, S3, e3, hx, B3, l3⟩ := number_eval B' (by omega)
      exact ⟨[.val (.cell c), .no, .val (.int i)], x, S3, rfl, rfl, by simp -implicitDefEqProofs [e3], hx, B3.mono (by omega), by omega⟩
  rw [List.length_range] at yl
  rw [List.nil_append] at e2
  obtain ⟨u, S3, e3, u0, u1, B3, l3⟩ := take_eval (w := 3) B2 (by omega) (by decide) (up8 (n := 5) (by decide) (by decide))
  obtain ⟨j, hj, e4⟩ := rep_fr (S := S3) u0 u1
  have c1 := eLc_run (q := false) (vs := [2]) (t := tgN 2) (c := eYes) (e := eCall 1 D__law_number (aCons (eVar 0) aNil)) hit (by rw [List.length_map, List.length_range]; omega) (by rfl) (show lcL false [] _ _ _ (wipeD [.val (.cell c), .no, .no] [2]) _ _ _ = _ from e2)
  have cat : gCat (.lst (ys.map fr)) (.lst ((List.replicate j (0, 1)).map fr)) S3 = .ok (.lst ((ys ++ List.replicate j (0, 1)).map fr)) S3 := by
    unfold gCat
    simp only [seqV_lst]
    rw [if_pos (by rw [List.length_map, List.length_map, List.length_replicate]; omega), List.map_append]
  refine ⟨ys ++ List.replicate j (0, 1), S3, ?_, fun x hx => ?_, by rw [List.length_append, List.length_replicate]; omega, ?_, B3.mono (by omega), by omega⟩
  · unfold D__law_drawn b__law_drawn
    have fe : D.tup [.int 0, .int 1] = fr (0, 1) := rfl
    generalize D.lst ((ys ++ List.replicate j (0, 1)).map fr) = r1 at *
    generalize D.lst ((List.replicate j (0, 1)).map fr) = r2 at *
    generalize D.lst (ys.map fr) = r3 at *
    simp -implicitDefEqProofs [-eLc_eq, fnD_eq, startD, c1, e3, fe, e4, cat]
  · rcases List.mem_append.mp hx with h | h
    · exact hy x h
    · rw [List.eq_of_mem_replicate h]
      exact z01.mono (by decide)
  · rw [trim_app0]
    have := trim_len ys
    omega
/-! ### things that are no polynomials -/
theorem isi_ty {cs : List Nat} {t n : String} {b : Bool} (h : kind d = some t) (hb : tyIs t n = some b) : gIsi cs d (.ty n) S = .ok (.bl b) S := by
  unfold gIsi isi1
  rw [h]
  simp only [hb]
theorem isi_c {cs : List Nat} {t : String} {j : Nat} (h : kind d = some t) (hj : j ∈ cs) : gIsi cs d (.cls j) S = .ok (.bl false) S := by
  unfold gIsi isi1
  rw [h]
  simp only [if_pos hj]
theorem isint_odd {t : String} {b b' : Bool} (h : kind d = some t) (h1 : tyIs t "int" = some b) (h2 : tyIs t "bool" = some b') (hb : (b && !b') = false) : D_is_integer [d] S = .ok (.bl false) S := by
  unfold D_is_integer b_is_integer
  cases b <;> cases b' <;> simp_all -implicitDefEqProofs [fnD_eq, startD, isi_ty h h1, isi_ty h h2]
theorem isnum_odd {t : String} {b b' : Bool} (h : kind d = some t) (h1 : tyIs t "int" = some b) (h2 : tyIs t "bool" = some b') (hb : (b && !b') = false) : D_is_number [d] S = .ok (.bl false) S := by
  unfold D_is_number b_is_number
  simp -implicitDefEqProofs [fnD_eq, startD, isi_c h, isint_odd (S := S) h h1 h2 hb]
theorem isl_odd {t : String} (h : kind d = some t) (h1 : tyIs t "list" = some false) (h2 : tyIs t "tuple" = some false) : D_is_list [d] S = .ok (.bl false) S := by
  have e : isiT [0, 4] d [.ty "list", .ty "tuple"] = some false := by
    unfold isiT isi1
    simp only [h, h1]
    unfold isiT isi1
    simp only [h, h2]
    rfl
  unfold D_is_list b_is_list
  simp -implicitDefEqProofs [fnD_eq, startD, e]
theorem sTry_eq {ps : Mts} {b : SF} {cs : List Cl} {es : List SD} : sTry ps b cs es S = match b es S with
  | .exc k fs es1 S1 => if plain es1 = true then tryL ps k fs es1 S1 cs else .bad
  | r => r := rfl
theorem mt55 : mtD [(1, 5, false), (2, 5, false), (3, 5, false), (5, 5, true)] 5 5 = some true := rfl
theorem caught_of (h : I_Polyd__initd_ [d] S = .exc 5 [("value", d)] S) : D__law_caught [d] S = .ok (.lst [.str "poly", d]) S := by
  have e : newC 4 1 1 I_Polyd__initd_ [d] S = .exc 5 [("value", d)] S := by
    unfold newC
    rw [h]
    rfl
  unfold D__law_caught b__law_caught
  simp -implicitDefEqProofs [fnD_eq, startD, sTry_eq, e, DL.plain, tryL, mt55, noAcc, eXf, clrF]
/-- no list at all -/
theorem init_nol (h : D_is_list [d] S = .ok (.bl false) S) : I_Polyd__initd_ [d] S = .exc 5 [("value", d)] S := by
  have s1 : sIf (eOr (eNot (eCall 1 D_is_list (aCons (eVar 1) aNil))) (eNot (eOp1 gAll (eLc false [2] (itSeq (eVar 1)) (tgN 2) eYes (eCall 1 D_is_number (aCons (eVar 2) aNil)))))) (sRaise 5 "value" (eVar 1)) sNil [.slf, .val d, .no, .no] S = .exc 5 [("value", d)] [.slf, .val d, .no, .no] S := by
    simp -implicitDefEqProofs [-eLc_eq, h]
  unfold I_Polyd__initd_ initC b_Polyd__initd_
  rw [show startI 4 [d] = [.slf, .val d, .no, .no] from rfl, sSeq_eq, s1]
  rfl
/-- a list with something that is no number -/
theorem init_bad {ds : List D} {P : D → Bool} (h : Sq S d ds) (hl : ds.length < 1000000) (hp : ∀ y ∈ ds, D_is_number [y] S = .ok (.bl (P y)) S) (ha : ds.all P = false) : I_Polyd__initd_ [d] S = .exc 5 [("value", d)] S := by
  obtain ⟨g, i1, i2⟩ := h.it (es := [.slf, .val d, .no, .no]) (f := eVar 1) rfl
  rw [← List.map_id ds] at i1
  have c1 := eLc_map (q := false) (vs := [2]) (t := tgN 2) (c := eYes) (e := eCall 1 D_is_number (aCons (eVar 2) aNil)) id (fun y => D.bl (P y)) i1 i2 hl (by rfl) fun y hy => ⟨_, rfl, rfl, by simp -implicitDefEqProofs [wipeD, hp y hy]⟩
  rw [if_neg Bool.false_ne_true] at c1
  have ga : gAll (.lst (ds.map fun y => D.bl (P y))) S = .ok (.bl false) S := by
    rw [gAll_map, ha]
  generalize D.lst (ds.map fun y => D.bl (P y)) = bs at c1 ga
  have s1 : sIf (eOr (eNot (eCall 1 D_is_list (aCons (eVar 1) aNil))) (eNot (eOp1 gAll (eLc false [2] (itSeq (eVar 1)) (tgN 2) eYes (eCall 1 D_is_number (aCons (eVar 2) aNil)))))) (sRaise 5 "value" (eVar 1)) sNil [.slf, .val d, .no, .no] S = .exc 5 [("value", d)] [.slf, .val d, .no, .no] S := by
    simp -implicitDefEqProofs [-eLc_eq, isl_sq h, c1, ga]
  unfold I_Polyd__initd_ initC b_Polyd__initd_
  rw [show startI 4 [d] = [.slf, .val d, .no, .no] from rfl, sSeq_eq, s1]
  rfl
def odds : List D := [.non, .int 5, .str "12", .dct [] [], .lst [.non], .lst [.int 1, .bl true], .lst [.str "1"], .lst [.lst [.int 1]], .tup [.int 1, .non]]
theorem odds_eval {i : Int} (h0 : 0 ≤ i) (h1 : i < 9) : ∃ d, gIx (.lst odds) (.int i) S = .ok d S ∧ D__law_caught [d] S = .ok (.lst [.str "poly", d]) S ∧ gOr gNe gNeL (.lst [.str "poly", d]) (.lst [.str "poly", d]) S = .ok (.bl false) S := by
  have kn : D_is_number [.non] S = .ok (.bl false) S := isnum_odd (t := "NoneType") (b := false) (b' := false) rfl (by decide +kernel) (by decide +kernel) rfl
  have ki : D_is_number [.int 1] S = .ok (.bl true) S := isnum_num (x := (1, 1)) (.inr ⟨rfl, rfl⟩)
  have kb : D_is_number [.bl true] S = .ok (.bl false) S := isnum_odd (t := "bool") (b := true) (b' := true) rfl (by decide +kernel) (by decide +kernel) rfl
  have ks : D_is_number [.str "1"] S = .ok (.bl false) S := isnum_odd (t := "str") (b := false) (b' := false) rfl (by decide +kernel) (by decide +kernel) rfl
  have kl : D_is_number [.lst [.int 1]] S = .ok (.bl false) S := isnum_odd (t := "list") (b := false) (b' := false) rfl (by decide +kernel) (by decide +kernel) rfl
  let P : D → Bool := fun d => match d with | .int _ => true | _ => false
  have hi : i = 0 ∨ i = 1 ∨ i = 2 ∨ i = 3 ∨ i = 4 ∨ i = 5 ∨ i = 6 ∨ i = 7 ∨ i = 8 := by omega
  rcases hi with rfl | rfl | rfl | rfl | rfl | rfl | rfl | rfl | rfl
  · exact ⟨_, gIx_lst (i := 0) rfl, caught_of (init_nol (isl_odd (t := "NoneType") rfl (by decide +kernel) (by decide +kernel))), by kernel_rfl⟩
  · exact ⟨_, gIx_lst (i := 1) rfl, caught_of (init_nol (isl_odd (t := "int") rfl (by decide +kernel) (by decide +kernel))), by kernel_rfl⟩
  · exact ⟨_, gIx_lst (i := 2) rfl, caught_of (init_nol (isl_odd (t := "str") rfl (by decide +kernel) (by decide +kernel))), by kernel_rfl⟩
  · exact ⟨_, gIx_lst (i := 3) rfl, caught_of (init_nol (isl_odd (t := "dict") rfl (by decide +kernel) (by decide +kernel))), by kernel_rfl⟩
  · exact ⟨_, gIx_lst (i := 4) rfl, caught_of (init_bad (P := P) .lst (by decide) (fun y hy => by rw [List.mem_singleton.mp hy]; exact kn) rfl), by kernel_rfl⟩
  · exact ⟨_, gIx_lst (i := 5) rfl, caught_of (init_bad (P := P) .lst (by decide) (fun y hy => by
      rcases List.mem_cons.mp hy with h | h
      · rw [h]; exact ki
      · rw [List.mem_singleton.mp h]; exact kb) rfl), by kernel_rfl⟩
  · exact ⟨_, gIx_lst (i := 6) rfl, caught_of (init_bad (P := P) .lst (by decide) (fun y hy => by rw [List.mem_singleton.mp hy]; exact ks) rfl), by kernel_rfl⟩
  · exact ⟨_, gIx_lst (i := 7) rfl, caught_of (init_bad (P := P) .lst (by decide) (fun y hy => by rw [List.mem_singleton.mp hy]; exact kl) rfl), by kernel_rfl⟩
  · exact ⟨_, gIx_lst (i := 8) rfl, caught_of (init_bad (P := P) .tup (by decide) (fun y hy => by
      rcases List.mem_cons.mp hy with h | h
      · rw [h]; exact ki
      · rw [List.mem_singleton.mp h]; exact kn) rfl), by kernel_rfl⟩
end
end K04
set_option Elab.async false
set_option linter.all false
set_option maxRecDepth 100000
set_option maxHeartbeats 4000000
set_option autoImplicit false
namespace K04
open PySem L2 DL
noncomputable def st1 : SF := sAsg (tgN 2) (eCall 1 D__law_bag (aCons (eCall 2 D__law_cell (aCons (eVar 0) (aCons (eVar 1) aNil))) aNil))
noncomputable def st2 : SF := sPar 3 4 (aCons (eCall 1 D__law_drawn (aCons (eVar 2) aNil)) (aCons (eCall 1 D__law_drawn (aCons (eVar 2) aNil)) aNil))
noncomputable def st3b : SF := sIf (eNot (eCall 3 D__law_pair_right (aCons (eOp2 gIx (eVar 5) (eC (.int 0))) (aCons (eOp2 gIx (eVar 5) (eC (.int 1))) (aCons (eCall 1 D__law_number (aCons (eVar 2) aNil)) aNil))))) (sRet (eC (.bl false))) sNil
noncomputable def st3 : SF := sFor (itSeq (eLst (aCons (eTup (aCons (eVar 3) (aCons (eVar 4) aNil))) (aCons (eTup (aCons (eVar 4) (aCons (eVar 3) aNil))) (aCons (eTup (aCons (eVar 3) (aCons (eOp2 gCat (eVar 3) (eLst (aCons (eTup (aCons (eC (.int 0)) (aCons (eC (.int 1)) aNil))) aNil))) aNil))) aNil))))) (tgN 5) st3b
noncomputable def st4 : SF := sAsg (tgN 6) (eLc true [7] (itSeq (eVar 3)) (tgN 7) eYes (eCall 1 D__law_given (aCons (eVar 7) aNil)))
noncomputable def st5 : SF := sAsg (tgN 8) (eNewC 4 1 1 [] I_Polyd__initd_ (aCons (eVar 6) aNil))
noncomputable def st6 : SF := sIf (eOp2 (gNeT 0 2 D_Ratiod__eqd_) (eVar 6) (eLc true [7] (itSeq (eVar 3)) (tgN 7) eYes (eCall 1 D__law_given (aCons (eVar 7) aNil)))) (sRet (eC (.bl false))) sNil
noncomputable def st7 : SF := sAppC (eVar 6) (eC (.int 5))
noncomputable def st8 : SF := sAsg (tgN 9) (eMeth 4 1 D_Poly_numbers_c (eVar 8) aNil)
noncomputable def st9 : SF := sAppC (eVar 9) (eNew 0 2 [.int 1] I_Ratiod__initd_ (aCons (eC (.int 9)) aNil))
noncomputable def st10 : SF := sIf (eOr (eOp2 gNe (eCall 1 D__law_numbers (aCons (eVar 8) aNil)) (eCall 1 D__law_trim (aCons (eVar 3) aNil))) (eOp2 gNe (eCall 1 D__law_numbers (aCons (eNewC 4 1 1 [] I_Polyd__initd_ (aCons (eOp1 gTupOf (eSl gSlL (eVar 6) none (some (eOp1 iNeg (eC (.int 1)))))) aNil)) aNil)) (eCall 1 D__law_trim (aCons (eVar 3) aNil)))) (sRet (eC (.bl false))) sNil
noncomputable def st11 : SF := sAsg (tgN 10) (eOp2 gIx (eLst (aCons (eC .non) (aCons (eC (.int 5)) (aCons (eC (.str "12")) (aCons eDict0 (aCons (eLst (aCons (eC .non) aNil)) (aCons (eLst (aCons (eC (.int 1)) (aCons (eC (.bl true)) aNil))) (aCons (eLst (aCons (eC (.str "1")) aNil)) (aCons (eLst (aCons (eLst (aCons (eC (.int 1)) aNil)) aNil)) (aCons (eTup (aCons (eC (.int 1)) (aCons (eC .non) aNil))) aNil)))))))))) (eCall 2 D__law_take (aCons (eVar 2) (aCons (eC (.int 9)) aNil))))
noncomputable def st12 : SF := sIf (eOp2 (gOr gNe gNeL) (eCall 1 D__law_caught (aCons (eVar 10) aNil)) (eLst (aCons (eC (.str "poly")) (aCons (eVar 10) aNil)))) (sRet (eC (.bl false))) sNil
noncomputable def stB : SF := sSeq st1 (sSeq st2 (sSeq st3 (sSeq st4 (sSeq st5 (sSeq st6 (sSeq st7 (sSeq st8 (sSeq st9 (sSeq st10 (sSeq st11 st12))))))))))
noncomputable def stT : SF := sSeq (sIf (eOr (eOp2 (gOwnEq [0, 4] 4 D_Polyd__eqd_) (eNewC 4 1 1 [] I_Polyd__initd_ (aCons (eLst (aCons (eC (.int 5)) aNil)) aNil)) (eC (.int 5))) (eOr (eOp2 (gOwnEq [0, 4] 4 D_Polyd__eqd_) (eNewC 4 1 1 [] I_Polyd__initd_ (aCons (eLst (aCons (eC (.int 5)) aNil)) aNil)) (eNew 0 2 [.int 1] I_Ratiod__initd_ (aCons (eC (.int 5)) aNil))) (eOr (eOp2 (gOwnEq [0, 4] 0 D_Ratiod__eqd_) (eNew 0 2 [.int 1] I_Ratiod__initd_ (aCons (eC (.int 5)) aNil)) (eNewC 4 1 1 [] I_Polyd__initd_ (aCons (eLst (aCons (eC (.int 5)) aNil)) aNil))) (eOp2 (gOwnEq [0, 4] 4 D_Polyd__eqd_) (eNewC 4 1 1 [] I_Polyd__initd_ (aCons (eLst aNil) aNil)) (eC (.int 0)))))) (sRet (eC (.bl false))) sNil) (sRet (eAnd (eOp2 gEq (eOp1 (gProp 4 D_Poly_degree) (eNewC 4 1 1 [] I_Polyd__initd_ (aCons (eLst aNil) aNil))) (eOp1 iNeg (eC (.int 1)))) (eAnd (eOp2 (gOwnEq [0, 4] 4 D_Polyd__eqd_) (eNewC 4 1 1 [] I_Polyd__initd_ (aCons (eLst (aCons (eC (.int 0)) (aCons (eC (.int 0)) aNil))) aNil)) (eNewKC 4 1 1 1 (fun ds => ds) I_Polyd__initd_ (aCons (eLst aNil) aNil))) (eOp2 gEq (eCall 1 D__law_told (aCons (eMethK 4 2 1 (fun ds es => ds ++ es) D_Poly_worth (eNewC 4 1 1 [] I_Polyd__initd_ (aCons (eLst aNil) aNil)) (aCons (eC (.int 3)) aNil)) aNil)) (eTup (aCons (eC (.int 0)) (aCons (eC (.int 1)) aNil)))))))
theorem b_law_eq : b_law = sSeq (sFor (itRange1 (aCons (eOp2 gMax (eC (.int 2)) (eOp2 gMin (eC (.int 6)) (eOp1 gLen (eVar 0)))) aNil)) (tgN 1) stB) stT := rfl
section
variable {S S1 : Store} {c : Nat} {k : Int} {n m : Nat} {x z : Q2} {y d : D} {xs zs : List Q2}
theorem fnD_ret {N : Nat} {body : SF} {ds : List D} {S S' : Store} {d : D} (h : body (startD N ds) S = .ret d S') : fnD N body ds S = .ok d S' := by rw [fnD_eq, h]
/-- one pair of the three -/
theorem pr_eval (B : Bag S c k) (hk : k ≤ 800000000) (hx : Fqs 98 xs) (hz : Fqs 98 zs) (h1 : xs.length ≤ 100) (h2 : zs.length ≤ 100) (t1 : (trim xs).length ≤ 6) (t2 : (trim zs).length ≤ 6) {a0 a1 a3 a4 a6 a7 a8 a9 a10 : SD} :
    ∃ S', st3b [a0, a1, .val (.cell c), a3, a4, .val (.tup [.lst (xs.map fr), .lst (zs.map fr)]), a6, a7, a8, a9, a10] S = .next [a0, a1, .val (.cell c), a3, a4, .val (.tup [.lst (xs.map fr), .lst (zs.map fr)]), a6, a7, a8, a9, a10] S' ∧ Bag S' c (k + 5) := by
  obtain ⟨x, S1, e1, hq, B1, l1⟩ := number_eval B (by omega)
  obtain ⟨J, e2⟩ := pair_eval (S := S1) hx hz h1 h2 t1 t2 hq
  refine ⟨S1 ++ J, ?_, B1.app⟩
  unfold st3b
  generalize D.lst (xs.map fr) = X at *
  generalize D.lst (zs.map fr) = Z at *
  simp -implicitDefEqProofs [e1, e2, sNil]
theorem eqO_gv {k : Nat} : eqO 0 D_Ratiod__eqd_ S (k + 1) (gv x) (gv x) = some true := by
  unfold gv
  split
  · show some (x.1 == x.1) = _
    simp
  · rw [eqObj_rt]
    simp
theorem allO_gv {k : Nat} : ∀ xs : List Q2, allO (eqO 0 D_Ratiod__eqd_ S (k + 1)) (xs.map gv) (xs.map gv) = some true
  | [] => rfl
  | x :: xs => by
    simp only [List.map_cons, allO, eqO_gv, allO_gv xs, Option.bind_some, Option.map_some]
    rfl
theorem neT_gv {a b : Nat} (ha : S[a]? = some (xs.map gv)) (hb : S[b]? = some (xs.map gv)) : gNeT 0 2 D_Ratiod__eqd_ (.cell a) (.cell b) S = .ok (.bl false) S := by
  have e : eqO 0 D_Ratiod__eqd_ S 2 (.lst (xs.map gv)) (.lst (xs.map gv)) = some true := by
    show (if (xs.map gv).length = (xs.map gv).length then allO (eqO 0 D_Ratiod__eqd_ S 1) (xs.map gv) (xs.map gv) else some false) = _
    rw [if_pos rfl, allO_gv]
  unfold gNeT deref
  simp only [ha, hb, e]
  rfl
theorem cut_last {X : List D} {v : D} (h : S[m]? = some (X ++ [v])) : gSlL (.cell m) none (some (-1)) S = .ok (.lst X) S := by
  unfold gSlL deref
  simp only [h]
  congr 2
  unfold cutD HT.sIx
  simp
  rw [show (-1 + ((X.length : Int) + 1)).toNat = X.length by omega]
  simp
theorem o_eval (ns : List Int) {i : Nat} (hi : i ≤ 10) {u2 u3 u4 u5 u6 u8 u9 u10 : SD} : ∃ v2 v3 v4 v5 v6 v8 v9 v10 S', stB [.val (.lst (ns.map D.int)), .val (.int i), u2, u3, u4, u5, u6, .no, u8, u9, u10] S = .next [.val (.lst (ns.map D.int)), .val (.int i), v2, v3, v4, v5, v6, .no, v8, v9, v10] S' := by
  obtain ⟨v, e1⟩ := cell_eval (S := S) ns hi
  obtain ⟨L, e2, B0⟩ := bag_eval (S := S) v
  obtain ⟨c, hc⟩ : ∃ c, c = S.length := ⟨_, rfl⟩
  rw [← hc] at e2 B0
  generalize S ++ [L] = S0 at e2 B0
  obtain ⟨xs, S1, e3, hx, xl, xt, B1, l1⟩ := drawn_eval B0 (by omega)
  obtain ⟨zs, S2, e4, hz, zl, zt, B2, l2⟩ := drawn_eval B1 (by omega)
  have hx0 : Fqs 98 (xs ++ [(0, 1)]) := fun x hx' => by
    rcases List.mem_append.mp hx' with q | q
    · exact hx x q
    · rw [List.mem_singleton.mp q]; exact z01.mono (by decide)
  have xt0 : (trim (xs ++ [(0, 1)])).length ≤ 6 := by rw [trim_snoc0 rfl]; exact xt
  let N : SD := .val (.lst (ns.map D.int))
  let I : SD := .val (.int i)
  let A : D := .lst (xs.map fr)
  let B : D := .lst (zs.map fr)
  let A0 : D := .lst ((xs ++ [(0, 1)]).map fr)
  obtain ⟨S3, p1, B3⟩ := pr_eval (a0 := N) (a1 := I) (a3 := .val A) (a4 := .val B) (a6 := u6) (a7 := .no) (a8 := u8) (a9 := u9) (a10 := u10) B2 (by omega) hx hz (by omega) (by omega) xt zt
  obtain ⟨S4, p2, B4⟩ := pr_eval (a0 := N) (a1 := I) (a3 := .val A) (a4 := .val B) (a6 := u6) (a7 := .no) (a8 := u8) (a9 := u9) (a10 := u10) B3 (by omega) hz hx (by omega) (by omega) zt xt
  obtain ⟨S5, p3, B5⟩ := pr_eval (a0 := N) (a1 := I) (a3 := .val A) (a4 := .val B) (a6 := u6) (a7 := .no) (a8 := u8) (a9 := u9) (a10 := u10) B4 (by omega) hx hx0 (by omega) (by rw [List.length_append]; simp; omega) xt xt0
  -- cells: handed, the same again, told
  obtain ⟨a, ha⟩ : ∃ a, a = S5.length := ⟨_, rfl⟩
  let S6 : Store := S5 ++ [xs.map gv]
  let S7 : Store := S6 ++ [xs.map gv]
  let S8 : Store := S7.set a (xs.map gv ++ [.int 5])
  let S9 : Store := S8 ++ [(trim xs).map rt]
  let S10 : Store := S9.set S8.length ((trim xs).map rt ++ [rt (9, 1)])
  have c5 := B5.lt
  have g6 : S6[a]? = some (xs.map gv) := by rw [ha]; exact get_app
  have l6 : S6.length = a + 1 := by rw [ha]; simp [S6]
  have l7 : S7.length = a + 2 := by simp only [S7, List.length_append, l6]; rfl
  have g7 : S7[a]? = some (xs.map gv) := by
    show (S6 ++ _)[a]? = _
    rw [List.getElem?_append_left (by omega)]
    exact g6
  have g7' : S7[a + 1]? = some (xs.map gv) := by rw [← l6]; exact get_app
  have l8 : S8.length = a + 2 := by simp only [S8, List.length_set, l7]
  have g8 : S8[a]? = some (xs.map gv ++ [.int 5]) := List.getElem?_set_self (by omega)
  have g9 : S9[S8.length]? = some ((trim xs).map rt) := get_app
  have g10 : S10[a]? = some (xs.map gv ++ [.int 5]) := by
    show (S9.set _ _)[a]? = _
    rw [List.getElem?_set_ne (by omega)]
    show (S8 ++ _)[a]? = _
    rw [List.getElem?_append_left (by omega)]
    exact g8
  have BS : Bag S10 c (0 + 40 + 40 + 5 + 5 + 5) := by
    refine B5.same ?_
    show (S9.set _ _)[c]? = _
    rw [List.getElem?_set_ne (by omega)]
    show (S8 ++ _)[c]? = _
    rw [List.getElem?_append_left (by omega)]
    show (S7.set _ _)[c]? = _
    rw [List.getElem?_set_ne (by omega)]
    show ((S5 ++ _) ++ _)[c]? = _
    rw [List.append_assoc, List.getElem?_append_left c5]
  obtain ⟨t, S11, e9, t0, t1, B11, l11⟩ := take_eval (w := 9) BS (by omega) (by decide) (up8 (n := 5) (by decide) (by decide))
  obtain ⟨d, o1, o2, o3⟩ := odds_eval (S := S11) t0 t1
  have n6 := poly_new (S := S6) (d := .cell a) (f := gv) (xs := xs) (.cell g6) (fun x _ => gv_num x) hx (by decide) (by omega)
  have n10 := poly_new (S := S10) (d := .tup (xs.map gv)) (f := gv) (xs := xs) .tup (fun x _ => gv_num x) hx (by decide) (by omega)
  have tl := trim_len xs
  have ln := lawnum_eval (S := S10) (xs := trim xs) (by omega)
  have nc := numbersC_eval (S := S8) (xs := trim xs)
  have te := trim_eval (S := S10) (d := A) (xs := xs) .lst
  have ne : gNe (.lst ((trim xs).map fr)) (.lst ((trim xs).map fr)) S10 = .ok (.bl false) S10 := by
    have p : Pv S10 (.lst ((trim xs).map fr)) (.lst ((trim xs).map fr)) := Pv.self (n := 4) (by decide) (pn_frs (k := 1))
    exact gNe_same p p
  have cl := cut_last g10
  have r9 : newD 0 2 I_Ratiod__initd_ [.int 9, .int 1] S9 = .ok (rt (9, 1)) S9 := by
    rw [new_eval (by decide) (up8 (n := 5) (by decide) (by decide)), show nf 9 1 = (9, 1) from by decide]
  have mkc : ∀ (S' : Store) (es : List SD), es[3]? = some (.val A) → noAcc es [7] = true → (wipeD es [7])[7]? ≠ none → eLc true [7] (itSeq (eVar 3)) (tgN 7) eYes (eCall 1 D__law_given (aCons (eVar 7) aNil)) es S' = .ok (.cell S'.length) (S' ++ [xs.map gv]) := fun S' es h3 hn h7 => by
    have it : itSeq (eVar 3) es S' = .ok (xs.map fr) [] S' := by
      simp -implicitDefEqProofs [h3, A]
    have c := eLc_map (q := true) (vs := [7]) (t := tgN 7) (c := eYes) (e := eCall 1 D__law_given (aCons (eVar 7) aNil)) fr gv it (Gd.ok_nil S') (by omega) hn fun x h => ⟨_, rfl, rfl, by
      have hl : 7 < (wipeD es [7]).length := by
        rcases Nat.lt_or_ge 7 (wipeD es [7]).length with q | q
        · exact q
        · exact absurd (List.getElem?_eq_none q) h7
      have : ((wipeD es [7]).set 7 (.val (fr x)))[7]? = some (.val (fr x)) := List.getElem?_set_self hl
      simp -implicitDefEqProofs only [eCall_eq, aCons_eq, eVar_eq, this, aNil_eq, Res.bindA_ok, ResA.bindL_ok, ResA.bind_ok, chk_eq, List.length_cons, List.length_nil, if_true, gv_eval (hx x h) (by decide)]⟩
    rw [if_pos rfl] at c
    exact c
  have io := isObj_poly (xs := trim xs)
  have E0 : D.dct [] [] = D.dct [] [] := rfl
  refine ⟨.val (.cell c), .val A, .val B, .val (.tup [A, A0]), .val (.cell a), .val (poly (trim xs)), .val (.cell S8.length), .val d, S11, ?_⟩
  unfold stB
  rw [seq_next (es' := [N, I, .val (.cell c), u3, u4, u5, u6, .no, u8, u9, u10]) (S' := S0) (by
    unfold st1
    simp -implicitDefEqProofs [e1, e2, N, I])]
  rw [seq_next (es' := [N, I, .val (.cell c), .val A, .val B, u5, u6, .no, u8, u9, u10]) (S' := S2) (by
    unfold st2
    refine sPar_ok (d1 := A) (d2 := B) (S1 := S2) ?_
    have e3' : D__law_drawn [.cell c] S0 = .ok A S1 := e3
    have e4' : D__law_drawn [.cell c] S1 = .ok B S2 := e4
    simp -implicitDefEqProofs [e3', e4'])]
  rw [seq_next (es' := [N, I, .val (.cell c), .val A, .val B, .val (.tup [A, A0]), u6, .no, u8, u9, u10]) (S' := S5) (by
    unfold st3
    have cat : gCat A (.lst [fr (0, 1)]) S2 = .ok A0 S2 := by
      show gCat (.lst (xs.map fr)) (.lst [fr (0, 1)]) S2 = .ok (.lst ((xs ++ [(0, 1)]).map fr)) S2
      unfold gCat
      simp only [seqV_lst]
      rw [if_pos (by rw [List.length_map]; simp; omega), List.map_append]
      rfl
    have p1' : st3b [N, I, .val (.cell c), .val A, .val B, .val (.tup [A, B]), u6, .no, u8, u9, u10] S2 = .next [N, I, .val (.cell c), .val A, .val B, .val (.tup [A, B]), u6, .no, u8, u9, u10] S3 := p1
    have p2' : st3b [N, I, .val (.cell c), .val A, .val B, .val (.tup [B, A]), u6, .no, u8, u9, u10] S3 = .next [N, I, .val (.cell c), .val A, .val B, .val (.tup [B, A]), u6, .no, u8, u9, u10] S4 := p2
    have p3' : st3b [N, I, .val (.cell c), .val A, .val B, .val (.tup [A, A0]), u6, .no, u8, u9, u10] S4 = .next [N, I, .val (.cell c), .val A, .val B, .val (.tup [A, A0]), u6, .no, u8, u9, u10] S5 := p3
    have fe : D.tup [.int 0, .int 1] = fr (0, 1) := rfl
    clear p1 p2 p3 e3 e4 te n6 n10
    clear_value A B A0 N I
    simp -implicitDefEqProofs [fe, cat, forL_cons, p1', p2', p3'])]
  rw [seq_next (es' := [N, I, .val (.cell c), .val A, .val B, .val (.tup [A, A0]), .val (.cell a), .no, u8, u9, u10]) (S' := S6) (by
    unfold st4
    have := mkc S5 [N, I, .val (.cell c), .val A, .val B, .val (.tup [A, A0]), u6, .no, u8, u9, u10] rfl rfl (by simp [wipeD])
    rw [← ha] at this
    rw [sAsgN_ok this]
    rfl)]
  rw [seq_next (es' := [N, I, .val (.cell c), .val A, .val B, .val (.tup [A, A0]), .val (.cell a), .no, .val (poly (trim xs)), u9, u10]) (S' := S6) (by
    unfold st5
    generalize poly (trim xs) = P at *
    clear_value S6
    simp -implicitDefEqProofs [n6])]
  rw [seq_next (es' := [N, I, .val (.cell c), .val A, .val B, .val (.tup [A, A0]), .val (.cell a), .no, .val (poly (trim xs)), u9, u10]) (S' := S7) (by
    unfold st6
    have := mkc S6 [N, I, .val (.cell c), .val A, .val B, .val (.tup [A, A0]), .val (.cell a), .no, .val (poly (trim xs)), u9, u10] rfl rfl (by simp [wipeD])
    have this : eLc true [7] (itSeq (eVar 3)) (tgN 7) eYes (eCall 1 D__law_given (aCons (eVar 7) aNil)) [N, I, .val (.cell c), .val A, .val B, .val (.tup [A, A0]), .val (.cell a), .no, .val (poly (trim xs)), u9, u10] S6 = .ok (.cell S6.length) S7 := this
    rw [l6] at this
    have nt := neT_gv (S := S7) g7 g7'
    generalize poly (trim xs) = P at *
    clear_value A B A0 N I S6 S7
    simp -implicitDefEqProofs [-eLc_eq, this, nt, sNil])]
  rw [seq_next (es' := [N, I, .val (.cell c), .val A, .val B, .val (.tup [A, A0]), .val (.cell a), .no, .val (poly (trim xs)), u9, u10]) (S' := S8) (by
    unfold st7
    have lx : (xs.map gv).length < 1000000 := by rw [List.length_map]; omega
    show _ = Fl.next _ (S7.set a (xs.map gv ++ [.int 5]))
    generalize xs.map gv = G at g7 lx ⊢
    simp -implicitDefEqProofs [g7, lx])]
  rw [seq_next (es' := [N, I, .val (.cell c), .val A, .val B, .val (.tup [A, A0]), .val (.cell a), .no, .val (poly (trim xs)), .val (.cell S8.length), u10]) (S' := S9) (by
    unfold st8
    have nc' : D_Poly_numbers_c [poly (trim xs)] S8 = .ok (.cell S8.length) S9 := nc
    generalize poly (trim xs) = P at *
    clear_value S8 S9
    simp -implicitDefEqProofs [io, nc'])]
  rw [seq_next (es' := [N, I, .val (.cell c), .val A, .val B, .val (.tup [A, A0]), .val (.cell a), .no, .val (poly (trim xs)), .val (.cell S8.length), u10]) (S' := S10) (by
    unfold st9
    have lx : ((trim xs).map rt).length < 1000000 := by rw [List.length_map]; omega
    show _ = Fl.next _ (S9.set S8.length ((trim xs).map rt ++ [rt (9, 1)]))
    generalize (trim xs).map rt = G at g9 lx ⊢
    clear_value S9
    simp -implicitDefEqProofs [r9, g9, lx])]
  rw [seq_next (es' := [N, I, .val (.cell c), .val A, .val B, .val (.tup [A, A0]), .val (.cell a), .no, .val (poly (trim xs)), .val (.cell S8.length), u10]) (S' := S10) (by
    unfold st10
    have sl : eSl gSlL (eVar 6) none (some (eOp1 iNeg (eC (.int 1)))) [N, I, .val (.cell c), .val A, .val B, .val (.tup [A, A0]), .val (.cell a), .no, .val (poly (trim xs)), .val (.cell S8.length), u10] S10 = .ok (.lst (xs.map gv)) S10 := by
      unfold eSl
      simp -implicitDefEqProofs [pOf, cl]
    generalize poly (trim xs) = P at *
    generalize D.lst ((trim xs).map fr) = T at *
    clear_value A B A0 N I S8 S10
    simp -implicitDefEqProofs [ln, te, ne, sl, n10, sNil])]
  rw [seq_next (es' := [N, I, .val (.cell c), .val A, .val B, .val (.tup [A, A0]), .val (.cell a), .no, .val (poly (trim xs)), .val (.cell S8.length), .val d]) (S' := S11) (by
    unfold st11
    unfold odds at o1
    clear_value S10
    simp -implicitDefEqProofs [e9, eDict0, o1])]
  unfold st12
  generalize poly (trim xs) = P at *
  clear_value A B A0 S8
  simp -implicitDefEqProofs [o2, o3, sNil, N, I]
theorem o_loop (ns : List Int) : ∀ (is : List Nat) (S : Store) (u1 u2 u3 u4 u5 u6 u8 u9 u10 : SD), (∀ i ∈ is, i ≤ 10) → ∃ es S', forL [] (tgN 1) stB (is.map fun (i : Nat) => D.int i) [.val (.lst (ns.map D.int)), u1, u2, u3, u4, u5, u6, .no, u8, u9, u10] S = .next es S'
  | [], S, u1, u2, u3, u4, u5, u6, u8, u9, u10, _ => ⟨_, S, by rw [List.map_nil, forL_nil]⟩
  | i :: is, S, u1, u2, u3, u4, u5, u6, u8, u9, u10, h => by
    obtain ⟨v2, v3, v4, v5, v6, v8, v9, v10, S1, e⟩ := o_eval (S := S) ns (h i (List.mem_cons_self ..)) (u2 := u2) (u3 := u3) (u4 := u4) (u5 := u5) (u6 := u6) (u8 := u8) (u9 := u9) (u10 := u10)
    obtain ⟨es, S2, e2⟩ := o_loop ns is S1 (.val (.int i)) v2 v3 v4 v5 v6 v8 v9 v10 fun j hj => h j (List.mem_cons_of_mem _ hj)
    refine ⟨es, S2, ?_⟩
    rw [List.map_cons, forL_cons]
    simp only [tgN_eq, List.set_cons_succ, List.set_cons_zero, e]
    exact e2
/-! ### the end -/
theorem tt_le (l : Int) : 0 ≤ (if (if l < 6 then l else 6) > 2 then (if l < 6 then l else 6) else 2) ∧ (if (if l < 6 then l else 6) > 2 then (if l < 6 then l else 6) else 2) ≤ 6 := by
  by_cases h : l < 6
  · rw [if_pos h]
    by_cases h2 : l > 2
    · rw [if_pos h2]
      omega
    · rw [if_neg h2]
      omega
  · rw [if_neg h, if_pos (by decide)]
    omega
theorem t_eval {es : List SD} : stT es S = .ret (.bl true) S := by
  have f5 : Fqs 98 [((5 : Int), (1 : Int))] := fun x hx => by rw [List.mem_singleton.mp hx]; exact ⟨by decide, by decide, by decide, by decide⟩
  have f0 : Fqs 98 [((0 : Int), (1 : Int)), (0, 1)] := fun x hx => by
    have : x = (0, 1) := by simpa using hx
    rw [this]; exact ⟨by decide, by decide, by decide, by decide⟩
  have p5 := poly_new (S := S) (d := .lst [.int 5]) (f := fun x => .int x.1) (xs := [(5, 1)]) .lst (fun x hx => by rw [List.mem_singleton.mp hx]; exact .inr ⟨rfl, rfl⟩) f5 (by decide) (by decide)
  have p0 := poly_new (S := S) (d := .lst []) (f := fun x => .int x.1) (xs := []) .lst (fun x hx => absurd hx (by simp)) (n := 98) (fun x hx => absurd hx (by simp)) (by decide) (by decide)
  have p00 := poly_new (S := S) (d := .lst [.int 0, .int 0]) (f := fun x => .int x.1) (xs := [(0, 1), (0, 1)]) .lst (fun x hx => by
    have : x = (0, 1) := by simpa using hx
    rw [this]; exact .inr ⟨rfl, rfl⟩) f0 (by decide) (by decide)
  rw [show trim [((5 : Int), (1 : Int))] = [(5, 1)] from by decide] at p5
  rw [show trim [] = [] from rfl] at p0
  rw [show trim [((0 : Int), (1 : Int)), (0, 1)] = [] from by decide] at p00
  have r5 : newD 0 2 I_Ratiod__initd_ [.int 5, .int 1] S = .ok (rt (5, 1)) S := by
    rw [new_eval (by decide) (up8 (n := 5) (by decide) (by decide)), show nf 5 1 = (5, 1) from by decide]
  have q1 : ∀ (xs : List Q2) (d : D) (t : String), kind d = some t → D_Polyd__eqd_ [poly xs, d] S = .ok (.bl false) S := fun xs d t h => by
    unfold D_Polyd__eqd_ b_Polyd__eqd_
    have e : gIsi [0, 4] d (.cls 4) S = .ok (.bl false) S := isi_c h (by decide)
    simp -implicitDefEqProofs [fnD_eq, startD, e]
  have q2 : ∀ (xs : List Q2) (i : Int), gOwnEq [0, 4] 4 D_Polyd__eqd_ (poly xs) (.int i) S = .ok (.bl false) S := fun xs i => by
    have := q1 xs (.int i) "int" rfl
    unfold gOwnEq
    simp [poly, kind] at this ⊢
    exact this
  have q3 : gOwnEq [0, 4] 4 D_Polyd__eqd_ (poly [(5, 1)]) (rt (5, 1)) S = .ok (.bl false) S := by
    have : D_Polyd__eqd_ [poly [(5, 1)], rt (5, 1)] S = .ok (.bl false) S := by
      unfold D_Polyd__eqd_ b_Polyd__eqd_
      have e : gIsi [0, 4] (rt (5, 1)) (.cls 4) S = .ok (.bl false) S := by simp [rt]
      simp -implicitDefEqProofs [fnD_eq, startD, e]
    unfold gOwnEq
    simp [poly, rt, kind] at this ⊢
    exact this
  have q4 : gOwnEq [0, 4] 0 D_Ratiod__eqd_ (rt (5, 1)) (poly [(5, 1)]) S = .ok (.bl false) S := by
    have i1 : gIsi [0, 4] (poly [(5, 1)]) (.cls 0) S = .ok (.bl false) S := by simp [poly]
    have i2 : gIsi [0, 4] (poly [(5, 1)]) (.ty "int") S = .ok (.bl false) S := isi_obj_ty (by decide) (by decide)
    have n1 : D_is_integer [poly [(5, 1)]] S = .ok (.bl false) S := by
      unfold D_is_integer b_is_integer
      simp -implicitDefEqProofs [fnD_eq, startD, i2]
    have n2 : D_is_number [poly [(5, 1)]] S = .ok (.bl false) S := by
      unfold D_is_number b_is_number
      simp -implicitDefEqProofs [fnD_eq, startD, i1, n1]
    have : D_Ratiod__eqd_ [rt (5, 1), poly [(5, 1)]] S = .ok (.bl false) S := by
      unfold D_Ratiod__eqd_ b_Ratiod__eqd_
      simp -implicitDefEqProofs [fnD_eq, startD, n2]
    unfold gOwnEq
    simp [poly, rt, kind] at this ⊢
    exact this
  have q5 := ownEq_poly (S := S) (xs := []) (zs := [])
  rw [show decide (([] : List Q2) = []) = true from rfl] at q5
  have d0 := degree_eval (S := S) (xs := [])
  have dg : gProp 4 D_Poly_degree (poly []) S = .ok (.int (-1)) S := by
    rw [poly, gProp_eq]
    exact d0
  have w := worth_eval (S := S) (x := (3, 1)) (y := .int 3) (zs := []) ⟨by decide, by decide, by decide, by decide⟩ (.inr ⟨rfl, rfl⟩) (fun x hx => absurd hx (by simp)) (by decide)
  rw [show hor (3, 1) ([] : List Q2).reverse (0, 1) = (0, 1) from rfl] at w
  have tl := told_eval (S := S) (x := (0, 1))
  have fe : D.tup [.int 0, .int 1] = fr (0, 1) := rfl
  have eq0 : gEq (fr (0, 1)) (fr (0, 1)) S = .ok (.bl true) S := by kernel_rfl
  have io := isObj_poly (xs := [])
  unfold stT
  have q25 := q2 [(5, 1)] 5
  have q20 := q2 [] 0
  generalize poly [(5, 1)] = P5 at *
  generalize poly [] = P0 at *
  simp -implicitDefEqProofs [p5, p0, p00, r5, q25, q20, q3, q4, q5, dg, w, tl, fe, eq0, io, sNil, eNewKC]
theorem plain (ns : List Int) (h : ns.length ≤ 63) (hz : ∀ z ∈ ns, PySem.Builtin.Int.intBits z ≤ 1048576) : ∃ S, D_law [.lst (ns.map DL.D.int)] [] = .ok (.bl true) S := by
  obtain ⟨t0, t1⟩ := tt_le (ns.length : Int)
  generalize ht : (if (if (ns.length : Int) < 6 then (ns.length : Int) else 6) > 2 then (if (ns.length : Int) < 6 then (ns.length : Int) else 6) else 2) = t at t0 t1
  obtain ⟨es, S', e⟩ := o_loop ns (List.range t.toNat) [] .no .no .no .no .no .no .no .no .no (fun i hi => by
    have := List.mem_range.mp hi
    omega)
  refine ⟨S', fnD_ret ?_⟩
  rw [b_law_eq]
  have e0 : startD 11 [.lst (ns.map D.int)] = [.val (.lst (ns.map D.int)), .no, .no, .no, .no, .no, .no, .no, .no, .no, .no] := rfl
  rw [e0]
  have hr := range1_eval (n := t.toNat) (S := []) (S1 := []) (a := aCons (eOp2 gMax (eC (.int 2)) (eOp2 gMin (eC (.int 6)) (eOp1 gLen (eVar 0)))) aNil) (es := [.val (.lst (ns.map D.int)), .no, .no, .no, .no, .no, .no, .no, .no, .no, .no]) (by omega) (by
    have : ((t.toNat : Nat) : Int) = t := by omega
    rw [this, ← ht]
    simp)
  refine (seq_next (es' := es) (S' := S') ?_).trans t_eval
  rw [sFor_eq, hr]
  exact e
end
end K04
set_option Elab.async false
set_option linter.all false
set_option maxRecDepth 100000
set_option maxHeartbeats 2000000
set_option autoImplicit false
namespace K04
open PySem PySem.Spec PyProof.Rows L2 He DL
section
abbrev RR : PySem.W.OpenRow := PySem.W.OpenLaw.row PySem.Challenge.rw_rowpicks_k04_polynomials_reckoned
def exK (K : PySem.W.Frag) : Bool := (cks K).all fun b => b
abbrev hk : PySem.W.Hook := hookE fns exK
def ob (s : PySem.W.SharedT) : AlA := obsEG fns exK (HandSHeadRun.getT s)
theorem ob_eq (s : PySem.W.SharedT) : ob s = hk.obs s.abs := obsEG_eq (HandSHeadRun.getT_eq s)
def nms0 : List PySem.Str := ["_wall", "PickError", "InvalidNumber", "InvalidText", "InvalidPoly", "ByZero", "MOST_SIGNS", "DIGITS", "is_integer", "common_divisor", "parts", "number_in", "Ratio", "is_number", "as_ratio", "is_list", "Poly", "paired", "_law_cell", "_law_bag", "_law_take", "_law_frac", "_law_plus", "_law_times", "_law_told", "_law_given", "_law_number", "_law_trim", "_law_product", "_law_sum"]
def nms1 : List PySem.Str := ["_law_at", "_law_made", "_law_numbers", "_law_drawn", "_law_pair_right", "_law_caught"]
def nms : List PySem.Str := nms0 ++ nms1
theorem run (w : World) : HandSHeadRun.RunEq RR (PySem.W.view RR.prog [40]) hk ob 9000 nms w := by
  intro os
  kernel_rfl
theorem says {P : Program} {w : World} {K : PySem.W.Frag} {h : Heap} {mg : Str → Option Value} {fa : Addr} (X : K.In h) (G : h.Ns mainGlobals mg) (hfa : mg ("law" : Str) = some (.ref fa)) (c : SaysA fns exK K) :
    ∃ fd : FuncData, (∀ (s : Shared) (v : Value), BindsTo s fd ⟨[v], []⟩ [("_law_script", v)]) ∧ ∀ base : Heap, K.In base → base.Ns mainGlobals mg → FnOk P w K mg base (L2.CX P w) 10 fa fd ["_law_script"] (spD ⟨K, clf K, atf⟩ 1 D_law) := by
  have B : BB K mg := ⟨fun b hb => List.all_eq_true.mp c.more b hb, c.def_, ⟨h, X, G⟩⟩
  obtain ⟨fd, F⟩ := B.def_ d_law (List.mem_of_getElem? (i := 0) rfl)
  have ef : fa = ga K "law" := by
    have e := hfa.symm.trans (B.glo (k77 B))
    cases e
    rfl
  subst ef
  have F' : FunD K d_law.name d_law.qual d_law.params d_law.body d_law.scope [] [] (d_law.at_ K) fd := F
  have b := FunD.bindsA (ps := ["_law_script"]) F' fun _ _ _ _ _ _ us hl => match us, hl with | [_], _ => rfl
  exact ⟨fd, fun s v => b s [v] rfl, fun base _ _ => fnk_of (Γ := GG K) (d := d_law) (ξ := ⟨0, .none, none⟩) F sc_law rfl rfl (p_law B)⟩
end
end K04
open PySem PySem.W PySem.Calls PyProof.Rows
set_option maxHeartbeats 0 in
theorem PySem.Challenge.cw_rowpicks_k04_polynomials_reckoned_holds : PySem.Challenge.rw_rowpicks_k04_polynomials_reckoned.Holds := by
  w_on; o_law
  refine HandSHeadRun.head_any (r := OpenLaw.row PySem.Challenge.rw_rowpicks_k04_polynomials_reckoned) (q := view (OpenLaw.row PySem.Challenge.rw_rowpicks_k04_polynomials_reckoned).prog [40]) (H := K04.hk) (ob := K04.ob) (M := 9000) (loose := K04.nms) (d := HandSHeadRun.topDef (OpenLaw.row PySem.Challenge.rw_rowpicks_k04_polynomials_reckoned).prog 40) (kwd := []) K04.ob_eq
    (by kernel_rfl) (fun s => by kernel_rfl) K04.run (by kernel_rfl) (by kernel_rfl) (by kernel_rfl) (by rfl) (by first | assumption | decide +kernel) (by decide +kernel) ⟨rfl, rfl, rfl, rfl, rfl, by decide +kernel⟩ ?hw ?hc
  case hw => w_witness2
  case hc =>
    refine DL.walk_dl (l := PySem.Challenge.rw_rowpicks_k04_polynomials_reckoned) (n := 63) (k := 10) (x := "_law_script") rfl (by decide) (by kernel_rfl) ⟨rfl, by decide, by decide⟩ ?F
    intro w mg fa h Y G hmg0
    obtain ⟨K, KX, c⟩ := Y
    have hmg : mg ("law" : PySem.Str) = some (.ref fa) := by
      have e : (HandSHeadRun.topDef (OpenLaw.row PySem.Challenge.rw_rowpicks_k04_polynomials_reckoned).prog 40).name = ("law" : PySem.Str) := by kernel_rfl
      rw [← e]
      exact hmg0
    obtain ⟨fd, hb, hF⟩ := K04.says (P := (PySem.Challenge.rw_rowpicks_k04_polynomials_reckoned).prog) (w := w) KX G hmg c
    exact ⟨K, fd, K04.clf K, K04.atf, K04.D_law, KX, hb, fun ns hl hz => K04.plain ns hl hz, hF⟩
