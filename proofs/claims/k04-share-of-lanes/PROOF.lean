import PyProof.Rows.All
import Wide.All
import OpenK.AllK
import Wide.FinOn
import HandS.ForMost
import HandS.ForExc
import HandS.IsInst
import HandS.HeadHook3
import HandS.MakeKwOnly
import HandS.CallSlots
import HandS.Small
import HandS.StrMore
import KE.KCallOwn
import HandS.TryOnly
import HandS.SlotsOwn
import HandS.ClsMeth
import HandS.HeadNt
import HandS.Strs
import HandS.ExcInit
import KE.KExcSuper
import HandS.ExcField
import HandS.ExcIs
import KE.KExcIs
import HandS.Comp
import HandS.IterVal
import HandS.OwnIter
import HandS.Style
import KE.KDictDisplayH
import HandS.TupLen
import HandS.TryMany
import HandS.GenList
import HandS.Text
import HandS.FStr
import HandS.Bytes
import KE.KStrBytes
import KE.KBytesDec
import HandS.Wide
import HandS.More
import KE.KOpsOwn
import HandS.RaiseMore
import PySem.Challenge.RW_lanesdealt_k04_share_of_lanes
set_option Elab.async false
set_option linter.all false
set_option maxRecDepth 100000
set_option maxHeartbeats 4000000
/-! Mo1: values and heaps of a plain model; how they lie in the abstract heap of the hand layer; readings made of runs of the model. -/
namespace Mo
open PySem L2

inductive MV where
  | non | bl (b : Bool) | int (i : Int) | str (x : Str) | byt (b : Array UInt8)
  | tup (xs : List MV) | ktp (xs : List MV) | frl (xs : List MV) | ref (i : Nat) | glo (s : String) | ty (n : String) | exa (a d k : Nat)
  deriving Inhabited

/-- objects of the model's heap -/
inductive MO where
  | lst (xs : List MV)
  | dk (kvs : List (Key × MV)) | dt (kvs : List (List Key × MV))
  | ins (c : String) (fs : List (Str × MV))
  | xd (c : String) (fs : List (Str × MV))
  | dx (hs : List Key → Int) (ks : List (List Key))
  deriving Inhabited
abbrev MH := List MO
abbrev Lo := List (Option MV)
/-- an exception: its class, its own fields -/
structure MX where
  c : String
  fs : List (Str × MV)
inductive Rz (α : Type) where
  | ok (v : α) (h : MH) | err (e : MX) (h : MH) | no
def Rz.bnd {α β : Type} (r : Rz α) (k : α → MH → Rz β) : Rz β := match r with
  | .ok v h => k v h
  | .err e h => .err e h
  | .no => .no
abbrev MR := Rz MV
inductive SR where
  | nx (s : Lo) (h : MH) | rt (v : MV) (h : MH) | bk (s : Lo) (h : MH) | ct (s : Lo) (h : MH) | err (e : MX) (s : Lo) (h : MH) | no
abbrev ME := Lo → MH → Rz MV
abbrev MEs := Lo → MH → Rz (List MV)
abbrev MB := Lo → MH → Rz Bool
abbrev MS := Lo → MH → SR
abbrev MF := List MV → MH → Rz MV

/-- a list that is read and never written: the script, a list of the module -/
def FrL (K : PySem.W.Frag) (H : Hp) (a : Addr) (xs : List V) : Prop :=
  (∃ o, H a = some (.frz o (.lst xs))) ∨
    ∃ (o : Obj) (its : Array Value) (n : Nat), K.lookup a = some o ∧ o.cls = .type "list" ∧ o.dict = none ∧ o.data = .seq its n ∧ its.size ≤ sizeLine ∧ Vals xs its.toList
theorem FrL.sq {K : PySem.W.Frag} {H : Hp} {a : Addr} {xs : List V} (h : FrL K H a xs) : SqL K H a xs := by
  rcases h with h | h
  · exact .inl (.inr h)
  · exact .inr h
/-- a tuple of the text's top -/
def KtT (K : PySem.W.Frag) (a : Addr) (xs : List V) : Prop :=
  (∃ (o : Obj) (its : Array Value) (n : Nat), K.lookup a = some o ∧ o.cls = .type "tuple" ∧ o.data = .seq its n ∧ its.size ≤ sizeLine ∧ Vals xs its.toList) ∧ ∃ o : Obj, K.lookup a = some o ∧ o.cls = .type "tuple" ∧ o.dict = none
theorem KtT.sq {K : PySem.W.Frag} {H : Hp} {a : Addr} {xs : List V} (h : KtT K a xs) : SqT K H a xs := .inr h.1
mutual
def VR (K : PySem.W.Frag) (G : String → Option V) (ρ : List Addr) (H : Hp) : MV → V → Prop
  | .non, v => v = .non
  | .bl b, v => v = .bl b
  | .int i, v => v = .int i
  | .str x, v => v = .str x
  | .byt b, v => v = .byt b
  | .tup xs, v => ∃ a vs, v = .ref a ∧ H a = some (.tup vs) ∧ VRs K G ρ H xs vs
  | .ktp xs, v => ∃ a vs, v = .ref a ∧ KtT K a vs ∧ VRs K G ρ H xs vs
  | .frl xs, v => ∃ a vs, v = .ref a ∧ FrL K H a vs ∧ VRs K G ρ H xs vs
  | .ref i, v => ∃ a, v = .ref a ∧ ρ[i]? = some a
  | .glo s, v => G s = some v ∧ ∃ C, v = .ref C
  | .ty n, v => v = .ty n
  | .exa a d k, v => v = .ref a ∧ ρ[k]? = some d
def VRs (K : PySem.W.Frag) (G : String → Option V) (ρ : List Addr) (H : Hp) : List MV → List V → Prop
  | [], vs => vs = []
  | x :: xs, vs => ∃ v r, vs = v :: r ∧ VR K G ρ H x v ∧ VRs K G ρ H xs r
end
/-- keyed values -/
def KRs (K : PySem.W.Frag) (G : String → Option V) (ρ : List Addr) (H : Hp) {κ κ' : Type} (j : κ → κ') : List (κ × MV) → List (κ' × V) → Prop
  | [], vs => vs = []
  | x :: xs, vs => ∃ v r, vs = (j x.1, v) :: r ∧ VR K G ρ H x.2 v ∧ KRs K G ρ H j xs r
abbrev FRs (K : PySem.W.Frag) (G : String → Option V) (ρ : List Addr) (H : Hp) : List (Str × MV) → List (Str × V) → Prop := KRs K G ρ H id
/-- a dict whose values are all True; its keys may be tuples of the text's top; hs: the hashes -/
def dxP (hs : List Key → Int) (a : Addr) (xs : List (List Key × Addr)) (h : Heap) : Prop := (a == sysModules) = false ∧ xs.length ≤ sizeLine ∧ (xs.map (·.1)).Nodup ∧
  ∃ o es ep, h.get? a = some o ∧ o.ExactDict ∧ o.data = .dict es ep ∧ es.toList = xs.map fun x => ⟨hs x.1, .ref x.2, .bool true⟩
/-- a tuple that may be a key: tracked, or of the text's top -/
def KeyAt (K : PySem.W.Frag) (H : Hp) (b : Addr) (ks : List Key) : Prop := H b = some (.tup (ks.map kV)) ∨ KtT K b (ks.map kV)
def OR (K : PySem.W.Frag) (G : String → Option V) (ρ : List Addr) (H : Hp) (a : Addr) : MO → Prop
  | .lst xs => ∃ vs, H a = some (.lst vs) ∧ VRs K G ρ H xs vs
  | .dk kvs => ∃ vs, H a = some (.dK vs) ∧ KRs K G ρ H id kvs vs
  | .dt kvs => ∃ vs, H a = some (.dT vs) ∧ KRs K G ρ H id kvs vs
  | .ins c fs => ∃ C dx vs, G c = some (.ref C) ∧ H a = some (.ins C dx vs) ∧ FRs K G ρ H fs vs
  | .xd _ fs => ∃ vs, H a = some (.xd vs) ∧ FRs K G ρ H fs vs
  | .dx hs ks => ∃ xs, H a = some (.ext (dxP hs a xs)) ∧ xs.map (·.1) = ks ∧ ∀ x ∈ xs, KeyAt K H x.2 x.1
structure Ext (K : PySem.W.Frag) (ρ : List Addr) (H : Hp) (ρ' : List Addr) (H' : Hp) : Prop where
  pre : ∃ t, ρ' = ρ ++ t
  tup : ∀ a vs, H a = some (.tup vs) → H' a = some (.tup vs)
  frl : ∀ a vs, FrL K H a vs → FrL K H' a vs
structure HR (K : PySem.W.Frag) (G : String → Option V) (ρ : List Addr) (H : Hp) (mh : MH) : Prop where
  len : ρ.length = mh.length
  nd : ρ.Nodup
  obj : ∀ (i : Nat) (o : MO), mh[i]? = some o → ∃ a, ρ[i]? = some a ∧ OR K G ρ H a o
def SRl (K : PySem.W.Frag) (G : String → Option V) (ρ : List Addr) (H : Hp) (sm : Lo) (σ : St) : Prop :=
  sm.length = σ.length ∧ ∀ (i : Nat) (x : MV), sm[i]? = some (some x) → ∃ v, σ[i]? = some (some v) ∧ VR K G ρ H x v
structure Rl (K : PySem.W.Frag) (G : String → Option V) (ρ : List Addr) (H : Hp) (sm : Lo) (σ : St) (mh : MH) : Prop where
  hr : HR K G ρ H mh
  sr : SRl K G ρ H sm σ
def ER (K : PySem.W.Frag) (G : String → Option V) (ρ : List Addr) (H : Hp) (e : MX) (cls : Value) (d : Option Addr) : Prop :=
  ∃ C a vs, G e.c = some (.ref C) ∧ cls = .ref C ∧ d = some a ∧ a ∉ ρ ∧ H a = some (.xd vs) ∧ FRs K G ρ H e.fs vs

/-! ### monotone -/
theorem Ext.refl {K : PySem.W.Frag} {ρ : List Addr} {H : Hp} : Ext K ρ H ρ H := ⟨⟨[], by simp⟩, fun _ _ h => h, fun _ _ h => h⟩
theorem Ext.trans {K : PySem.W.Frag} {ρ ρ1 ρ2 : List Addr} {H H1 H2 : Hp} (a : Ext K ρ H ρ1 H1) (b : Ext K ρ1 H1 ρ2 H2) : Ext K ρ H ρ2 H2 := by
  obtain ⟨⟨t, e⟩, f, g⟩ := a
  obtain ⟨⟨u, e'⟩, f', g'⟩ := b
  exact ⟨⟨t ++ u, by rw [e', e, List.append_assoc]⟩, fun a vs h => f' a vs (f a vs h), fun a vs h => g' a vs (g a vs h)⟩
theorem Ext.at {K : PySem.W.Frag} {ρ ρ1 : List Addr} {H H1 : Hp} (x : Ext K ρ H ρ1 H1) {i : Nat} {a : Addr} (h : ρ[i]? = some a) : ρ1[i]? = some a := by
  obtain ⟨⟨t, e⟩, _, _⟩ := x
  rw [e]
  exact (List.getElem?_append_left (List.getElem?_eq_some_iff.mp h).1).trans h
section
variable {K : PySem.W.Frag} {G : String → Option V} {ρ ρ1 : List Addr} {H H1 : Hp}
mutual
theorem VR.ext (x : Ext K ρ H ρ1 H1) : ∀ {m : MV} {v : V}, VR K G ρ H m v → VR K G ρ1 H1 m v
  | .non, _, h => by simpa [VR] using h
  | .bl _, _, h => by simpa [VR] using h
  | .int _, _, h => by simpa [VR] using h
  | .str _, _, h => by simpa [VR] using h
  | .byt _, _, h => by simpa [VR] using h
  | .glo _, _, h => by simpa [VR] using h
  | .ty _, _, h => by simpa [VR] using h
  | .exa _ _ _, _, h => by
    simp only [VR] at h ⊢
    exact ⟨h.1, x.at h.2⟩
  | .ref _, _, h => by
    simp only [VR] at h ⊢
    obtain ⟨a, e, q⟩ := h
    exact ⟨a, e, x.at q⟩
  | .tup xs, _, h => by
    simp only [VR] at h ⊢
    obtain ⟨a, vs, e, q, r⟩ := h
    exact ⟨a, vs, e, x.tup a vs q, VRs.ext x r⟩
  | .ktp xs, _, h => by
    simp only [VR] at h ⊢
    obtain ⟨a, vs, e, q, r⟩ := h
    exact ⟨a, vs, e, q, VRs.ext x r⟩
  | .frl xs, _, h => by
    simp only [VR] at h ⊢
    obtain ⟨a, vs, e, q, r⟩ := h
    exact ⟨a, vs, e, x.frl _ _ q, VRs.ext x r⟩
theorem VRs.ext (x : Ext K ρ H ρ1 H1) : ∀ {ms : List MV} {vs : List V}, VRs K G ρ H ms vs → VRs K G ρ1 H1 ms vs
  | [], _, h => by simpa [VRs] using h
  | m :: ms, _, h => by
    simp only [VRs] at h ⊢
    obtain ⟨v, r, e, q, t⟩ := h
    exact ⟨v, r, e, VR.ext x q, VRs.ext x t⟩
end
theorem KRs.ext {κ κ' : Type} {j : κ → κ'} (x : Ext K ρ H ρ1 H1) : ∀ {ms : List (κ × MV)} {vs : List (κ' × V)}, KRs K G ρ H j ms vs → KRs K G ρ1 H1 j ms vs
  | [], _, h => h
  | m :: ms, _, h => by
    obtain ⟨v, r, e, q, t⟩ := h
    exact ⟨v, r, e, VR.ext x q, KRs.ext x t⟩
theorem SRl.ext {sm : Lo} {σ : St} (x : Ext K ρ H ρ1 H1) (h : SRl K G ρ H sm σ) : SRl K G ρ1 H1 sm σ :=
  ⟨h.1, fun i m e => let ⟨v, a, b⟩ := h.2 i m e; ⟨v, a, b.ext x⟩⟩
end

/-! ### readings out of runs -/
section
variable (K : PySem.W.Frag) (G : String → Option V)
/-- what is wanted of a run's result -/
def RO {α : Type} (W : WX) (σ : St) (P : α → List Addr → Hp → Prop) (ρ : List Addr) (H : Hp) : Rz α → Prop
  | .ok v mh1 => ∀ ρ1 H1, Ext K ρ H ρ1 H1 → HR K G ρ1 H1 mh1 → P v ρ1 H1
  | .err e mh1 => ∀ ρ1 H1 cls d, Ext K ρ H ρ1 H1 → HR K G ρ1 H1 mh1 → ER K G ρ1 H1 e cls d → W cls d σ H1
  | .no => False
abbrev PV (Q : VK) : MV → List Addr → Hp → Prop := fun v ρ1 H1 => ∀ v1, VR K G ρ1 H1 v v1 → Q v1 H1
abbrev PB (Q : Bool → Hp → Prop) : Bool → List Addr → Hp → Prop := fun b _ H1 => Q b H1
abbrev PVs (Q : List V → Hp → Prop) : List MV → List Addr → Hp → Prop := fun v ρ1 H1 => ∀ v1, VRs K G ρ1 H1 v v1 → Q v1 H1
/-- an expression's run as a reading; W: what is wanted of an exception -/
def RE (W : WX) (m : ME) : TE := fun σ H Q => ∃ ρ sm mh, Rl K G ρ H sm σ mh ∧ RO K G W σ (PV K G Q) ρ H (m sm mh)
def RT (W : WX) (m : MB) : TT := fun σ H Q => ∃ ρ sm mh, Rl K G ρ H sm σ mh ∧ RO K G W σ (PB Q) ρ H (m sm mh)
def RA (W : WX) (m : MEs) : TA := fun σ H Q => ∃ ρ sm mh, Rl K G ρ H sm σ mh ∧ RO K G W σ (PVs K G Q) ρ H (m sm mh)
def RSE (W : WX) (D : Ends) (ρ : List Addr) (H : Hp) (r : SR) : Prop :=
  match r with
  | .nx sm1 mh1 => ∀ ρ1 H1 σ1, Ext K ρ H ρ1 H1 → HR K G ρ1 H1 mh1 → SRl K G ρ1 H1 sm1 σ1 → D.nx σ1 H1
  | .bk sm1 mh1 => ∀ ρ1 H1 σ1, Ext K ρ H ρ1 H1 → HR K G ρ1 H1 mh1 → SRl K G ρ1 H1 sm1 σ1 → D.bk σ1 H1
  | .ct sm1 mh1 => ∀ ρ1 H1 σ1, Ext K ρ H ρ1 H1 → HR K G ρ1 H1 mh1 → SRl K G ρ1 H1 sm1 σ1 → D.ct σ1 H1
  | .rt v mh1 => ∀ ρ1 H1 v1, Ext K ρ H ρ1 H1 → HR K G ρ1 H1 mh1 → VR K G ρ1 H1 v v1 → D.rt v1 H1
  | .err e sm1 mh1 => ∀ ρ1 H1 σ1 cls d, Ext K ρ H ρ1 H1 → HR K G ρ1 H1 mh1 → SRl K G ρ1 H1 sm1 σ1 → ER K G ρ1 H1 e cls d → W cls d σ1 H1
  | .no => False
def RS (W : WX) (m : MS) : TS := fun D σ H => ∃ ρ sm mh, Rl K G ρ H sm σ mh ∧ RSE K G W D ρ H (m sm mh)
/-- a def's promise from its function -/
def SpM (n : Nat) (f : MF) : Sp := fun vs H Q E => ∃ ρ xs mh, HR K G ρ H mh ∧ VRs K G ρ H xs vs ∧ vs.length = n ∧ RO K G (fun cls d _ H => E cls d H) [] (PV K G Q) ρ H (f xs mh)
end
theorem RSE.mono {K : PySem.W.Frag} {G : String → Option V} {W : WX} {D : Ends} {ρ ρ1 : List Addr} {H H1 : Hp} {r : SR} (x : Ext K ρ H ρ1 H1) (h : RSE K G W D ρ H r) : RSE K G W D ρ1 H1 r := by
  cases r with
  | nx s m => exact fun ρ2 H2 σ1 e a b => h ρ2 H2 σ1 (x.trans e) a b
  | bk s m => exact fun ρ2 H2 σ1 e a b => h ρ2 H2 σ1 (x.trans e) a b
  | ct s m => exact fun ρ2 H2 σ1 e a b => h ρ2 H2 σ1 (x.trans e) a b
  | rt v m => exact fun ρ2 H2 σ1 e a b => h ρ2 H2 σ1 (x.trans e) a b
  | err v s m => exact fun ρ2 H2 σ1 c d e a b => h ρ2 H2 σ1 c d (x.trans e) a b
  | no => exact h

/-! ### from a reading to a wider one -/
section
variable {X : Cx} {e : Expr} {es : List Expr} {st : Stmt} {sts : List Stmt}
theorem pe_imp {t t' : TE} (h : PE X e t) (i : ∀ σ H Q, t' σ H Q → t σ H Q) : PE X e t' := ⟨fun pins s σ H Q I q => h.run pins s σ H Q I (i σ H Q q)⟩
theorem pe_alt {t t' : TE} (h : PE X e t) (h' : PE X e t') : PE X e (fun σ H Q => t σ H Q ∨ t' σ H Q) :=
  ⟨fun pins s σ H Q I q => q.elim (fun q => h.run pins s σ H Q I q) fun q => h'.run pins s σ H Q I q⟩
theorem pt_imp {t t' : TT} (h : PT X e t) (i : ∀ σ H Q, t' σ H Q → t σ H Q) : PT X e t' := ⟨fun pins s σ H Q I q => h.run pins s σ H Q I (i σ H Q q)⟩
theorem pa_imp {t t' : TA} (h : PA X es t) (i : ∀ σ H Q, t' σ H Q → t σ H Q) : PA X es t' := ⟨fun pos pins s σ H Q I q => h.run pos pins s σ H Q I (i σ H Q q)⟩
theorem ps_imp {t t' : TS} (h : PS X st t) (i : ∀ D σ H, t' D σ H → t D σ H) : PS X st t' := ⟨fun pins s σ H D I q => h.run pins s σ H D I (i D σ H q)⟩
theorem pss_imp {t t' : TS} (h : PSs X sts t) (i : ∀ D σ H, t' D σ H → t D σ H) : PSs X sts t' := ⟨fun pins s σ H D I q => h.run pins s σ H D I (i D σ H q)⟩
end

/-! ### running a part -/
section
variable {K : PySem.W.Frag} {G : String → Option V} {W : WX} {ρ : List Addr} {H : Hp} {sm : Lo} {σ : St} {mh : MH}
theorem Rl.at {ρ1 : List Addr} {H1 : Hp} {mh1 : MH} (r : Rl K G ρ H sm σ mh) (x : Ext K ρ H ρ1 H1) (h : HR K G ρ1 H1 mh1) : Rl K G ρ1 H1 sm σ mh1 := ⟨h, r.sr.ext x⟩
theorem RO.mono {α : Type} {P P1 : α → List Addr → Hp → Prop} {ρ1 : List Addr} {H1 : Hp} {r : Rz α} (h : RO K G W σ P ρ H r) (x : Ext K ρ H ρ1 H1) (hp : ∀ v ρ H, P v ρ H → P1 v ρ H) : RO K G W σ P1 ρ1 H1 r := by
  cases r with
  | ok v m => exact fun ρ2 H2 e a => hp _ _ _ (h ρ2 H2 (x.trans e) a)
  | err v m => exact fun ρ2 H2 c d e a b => h ρ2 H2 c d (x.trans e) a b
  | no => exact h
theorem RO.ext {α : Type} {P : α → List Addr → Hp → Prop} {ρ1 : List Addr} {H1 : Hp} {r : Rz α} (h : RO K G W σ P ρ H r) (x : Ext K ρ H ρ1 H1) : RO K G W σ P ρ1 H1 r := h.mono x fun _ _ _ z => z
/-- first a part, then the rest -/
theorem RO.bnd {α β : Type} {P : β → List Addr → Hp → Prop} {a : Rz α} {k : α → MH → Rz β} (h : RO K G W σ P ρ H (a.bnd k)) :
    RO K G W σ (fun v ρ1 H1 => ∃ mh1, Ext K ρ H ρ1 H1 ∧ HR K G ρ1 H1 mh1 ∧ RO K G W σ P ρ1 H1 (k v mh1)) ρ H a := by
  cases a with
  | ok v m => exact fun ρ1 H1 x hr => ⟨m, x, hr, RO.ext h x⟩
  | err e m => exact h
  | no => exact h
theorem RO.ok {α : Type} {P : α → List Addr → Hp → Prop} {v : α} {mh1 : MH} (h : RO K G W σ P ρ H (.ok v mh1)) (hr : HR K G ρ H mh1) : P v ρ H := h ρ H Ext.refl hr
/-- a part of an expression as a reading -/
theorem re_bnd {β : Type} {P : β → List Addr → Hp → Prop} {m : ME} {k : MV → MH → Rz β} {Q : VK} (r : Rl K G ρ H sm σ mh) (h : RO K G W σ P ρ H ((m sm mh).bnd k))
    (hq : ∀ v ρ1 H1 mh1 x, Ext K ρ H ρ1 H1 → Rl K G ρ1 H1 sm σ mh1 → VR K G ρ1 H1 v x → RO K G W σ P ρ1 H1 (k v mh1) → Q x H1) : RE K G W m σ H Q :=
  ⟨ρ, sm, mh, r, h.bnd.mono Ext.refl fun v ρ1 H1 ⟨mh1, x, hr, z⟩ x1 rv => hq v ρ1 H1 mh1 x1 x (r.at x hr) rv z⟩
theorem rt_bnd {β : Type} {P : β → List Addr → Hp → Prop} {m : MB} {k : Bool → MH → Rz β} {Q : Bool → Hp → Prop} (r : Rl K G ρ H sm σ mh) (h : RO K G W σ P ρ H ((m sm mh).bnd k))
    (hq : ∀ v ρ1 H1 mh1, Ext K ρ H ρ1 H1 → Rl K G ρ1 H1 sm σ mh1 → RO K G W σ P ρ1 H1 (k v mh1) → Q v H1) : RT K G W m σ H Q :=
  ⟨ρ, sm, mh, r, h.bnd.mono Ext.refl fun v ρ1 H1 ⟨mh1, x, hr, z⟩ => hq v ρ1 H1 mh1 x (r.at x hr) z⟩
theorem ra_bnd {β : Type} {P : β → List Addr → Hp → Prop} {m : MEs} {k : List MV → MH → Rz β} {Q : List V → Hp → Prop} (r : Rl K G ρ H sm σ mh) (h : RO K G W σ P ρ H ((m sm mh).bnd k))
    (hq : ∀ v ρ1 H1 mh1 x, Ext K ρ H ρ1 H1 → Rl K G ρ1 H1 sm σ mh1 → VRs K G ρ1 H1 v x → RO K G W σ P ρ1 H1 (k v mh1) → Q x H1) : RA K G W m σ H Q :=
  ⟨ρ, sm, mh, r, h.bnd.mono Ext.refl fun v ρ1 H1 ⟨mh1, x, hr, z⟩ x1 rv => hq v ρ1 H1 mh1 x1 x (r.at x hr) rv z⟩
/-- the last part -/
theorem re_last {P : MV → List Addr → Hp → Prop} {m : ME} {Q : VK} (r : Rl K G ρ H sm σ mh) (h : RO K G W σ P ρ H (m sm mh))
    (hq : ∀ v ρ1 H1 x, P v ρ1 H1 → VR K G ρ1 H1 v x → Q x H1) : RE K G W m σ H Q := ⟨ρ, sm, mh, r, h.mono Ext.refl fun v ρ1 H1 z x rv => hq v ρ1 H1 x z rv⟩
end
end Mo
/-! Mo2: equality, membership, truth, operators: the model's functions and the rules. -/
namespace Mo
open PySem L2

/-! ### lists of related values -/
section
variable {K : PySem.W.Frag} {G : String → Option V} {ρ : List Addr} {H : Hp}
theorem VRs.length : ∀ {xs : List MV} {vs : List V}, VRs K G ρ H xs vs → xs.length = vs.length
  | [], _, h => by simp only [VRs] at h; subst h; rfl
  | x :: xs, _, h => by
    simp only [VRs] at h
    obtain ⟨v, r, rfl, _, t⟩ := h
    simp [VRs.length t]
theorem VRs.get : ∀ {xs : List MV} {vs : List V} {i : Nat} {x : MV}, VRs K G ρ H xs vs → xs[i]? = some x → ∃ v, vs[i]? = some v ∧ VR K G ρ H x v
  | [], _, _, _, _, e => by simp at e
  | y :: xs, _, 0, x, h, e => by
    simp only [VRs] at h
    obtain ⟨v, r, rfl, q, t⟩ := h
    simp at e
    subst e
    exact ⟨v, rfl, q⟩
  | y :: xs, _, i + 1, x, h, e => by
    simp only [VRs] at h
    obtain ⟨v, r, rfl, q, t⟩ := h
    simp at e
    obtain ⟨w, a, b⟩ := VRs.get (i := i) t e
    exact ⟨w, by simpa using a, b⟩
theorem VRs.get' : ∀ {xs : List MV} {vs : List V} {i : Nat} {v : V}, VRs K G ρ H xs vs → vs[i]? = some v → ∃ x, xs[i]? = some x ∧ VR K G ρ H x v := fun {xs vs i v} h e => by
  have hl := h.length
  have hi : i < xs.length := by rw [hl]; exact (List.getElem?_eq_some_iff.mp e).1
  obtain ⟨w, a, b⟩ := h.get (i := i) (x := xs[i]) (by simp [hi])
  rw [e] at a; cases a
  exact ⟨_, by simp [hi], b⟩
theorem VRs.nil : VRs K G ρ H [] [] := by simp [VRs]
theorem VRs.cons {x : MV} {v : V} {xs : List MV} {vs : List V} (a : VR K G ρ H x v) (b : VRs K G ρ H xs vs) : VRs K G ρ H (x :: xs) (v :: vs) := by
  simp only [VRs]; exact ⟨v, vs, rfl, a, b⟩
theorem VRs.append : ∀ {xs ys : List MV} {vs ws : List V}, VRs K G ρ H xs vs → VRs K G ρ H ys ws → VRs K G ρ H (xs ++ ys) (vs ++ ws)
  | [], _, _, _, h, k => by simp only [VRs] at h; subst h; simpa using k
  | x :: xs, _, _, _, h, k => by
    simp only [VRs] at h
    obtain ⟨v, r, rfl, q, t⟩ := h
    exact VRs.cons q (VRs.append t k)
theorem VRs.set {y : MV} {w : V} (r : VR K G ρ H y w) : ∀ {xs : List MV} {vs : List V} (i : Nat), VRs K G ρ H xs vs → VRs K G ρ H (xs.set i y) (vs.set i w)
  | [], _, _, h => by simp only [VRs] at h; subst h; exact VRs.nil
  | x :: xs, _, 0, h => by
    simp only [VRs] at h
    obtain ⟨v, s, rfl, q, t⟩ := h
    exact VRs.cons r t
  | x :: xs, _, i + 1, h => by
    simp only [VRs] at h
    obtain ⟨v, s, rfl, q, t⟩ := h
    exact VRs.cons q (VRs.set r i t)
theorem VRs.take : ∀ {xs : List MV} {vs : List V} (n : Nat), VRs K G ρ H xs vs → VRs K G ρ H (xs.take n) (vs.take n)
  | _, _, 0, h => by simp [VRs]
  | [], _, _ + 1, h => by simp only [VRs] at h; subst h; exact VRs.nil
  | x :: xs, _, n + 1, h => by
    simp only [VRs] at h
    obtain ⟨v, s, rfl, q, t⟩ := h
    exact VRs.cons q (VRs.take n t)
theorem VRs.drop : ∀ {xs : List MV} {vs : List V} (n : Nat), VRs K G ρ H xs vs → VRs K G ρ H (xs.drop n) (vs.drop n)
  | _, _, 0, h => by simpa using h
  | [], _, _ + 1, h => by simp only [VRs] at h; subst h; exact VRs.nil
  | x :: xs, _, n + 1, h => by
    simp only [VRs] at h
    obtain ⟨v, s, rfl, q, t⟩ := h
    simpa using VRs.drop n t
theorem VRs.reverse : ∀ {xs : List MV} {vs : List V}, VRs K G ρ H xs vs → VRs K G ρ H xs.reverse vs.reverse
  | [], _, h => by simp only [VRs] at h; subst h; exact VRs.nil
  | x :: xs, _, h => by
    simp only [VRs] at h
    obtain ⟨v, s, rfl, q, t⟩ := h
    rw [List.reverse_cons, List.reverse_cons]
    exact VRs.append (VRs.reverse t) (VRs.cons q VRs.nil)
end

/-! ### the heap: reading, writing, a new object -/
section
variable {K : PySem.W.Frag} {G : String → Option V} {ρ : List Addr} {H : Hp} {mh : MH}
/-- what of H an object of the model is -/
def Plain (u : HO) : Prop := (∀ vs, u ≠ .tup vs) ∧ ∀ b w, u ≠ .frz b w
theorem OR.there {a : Addr} {o : MO} (h : OR K G ρ H a o) : ∃ u, H a = some u ∧ Plain u := by
  cases o with
  | lst xs => obtain ⟨vs, e, _⟩ := h; exact ⟨_, e, by simp [Plain], by simp⟩
  | dk xs => obtain ⟨vs, e, _⟩ := h; exact ⟨_, e, by simp [Plain], by simp⟩
  | dt xs => obtain ⟨vs, e, _⟩ := h; exact ⟨_, e, by simp [Plain], by simp⟩
  | ins c fs => obtain ⟨C, dx, vs, _, e, _⟩ := h; exact ⟨_, e, by simp [Plain], by simp⟩
  | xd c fs => obtain ⟨vs, e, _⟩ := h; exact ⟨_, e, by simp [Plain], by simp⟩
  | dx hs ks => obtain ⟨xs, e, _⟩ := h; exact ⟨_, e, by simp [Plain], by simp⟩
/-- a known object changes: values' relations stay -/
theorem ext_write {a : Addr} {o u : HO} (hu : H a = some u) (ht : Plain u) : Ext K ρ H ρ (L2.upd H a o) := by
  refine ⟨⟨[], by simp⟩, fun b vs h => ?_, fun b vs h => ?_⟩
  · by_cases e : a = b
    · subst e; rw [hu] at h; cases h; exact absurd rfl (ht.1 vs)
    · rw [L2.upd_ne (Ne.symm e)]; exact h
  · rcases h with ⟨q, h⟩ | h
    · by_cases e : a = b
      · subst e; rw [hu] at h; cases h; exact absurd rfl (ht.2 q _)
      · exact .inl ⟨q, by rw [L2.upd_ne (Ne.symm e)]; exact h⟩
    · exact .inr h
theorem ext_new {a : Addr} {o : HO} {t : List Addr} (hn : H a = none) : Ext K ρ H (ρ ++ t) (L2.upd H a o) := by
  refine ⟨⟨t, rfl⟩, fun b vs h => ?_, fun b vs h => ?_⟩
  · rw [L2.upd_ne (ne_of_none h hn)]; exact h
  · rcases h with ⟨q, h⟩ | h
    · exact .inl ⟨q, by rw [L2.upd_ne (ne_of_none h hn)]; exact h⟩
    · exact .inr h
theorem ext_new0 {a : Addr} {o : HO} (hn : H a = none) : Ext K ρ H ρ (L2.upd H a o) := by
  have := ext_new (K := K) (ρ := ρ) (t := []) (o := o) hn
  simpa using this
/-- an object stands where it stood behind a step that leaves its address as it was -/
theorem OR.keep {ρ1 : List Addr} {H1 : Hp} {a : Addr} {o : MO} (x : Ext K ρ H ρ1 H1) (e : ∀ u, H a = some u → H1 a = some u) (h : OR K G ρ H a o) : OR K G ρ1 H1 a o := by
  cases o with
  | lst xs => obtain ⟨vs, q, r⟩ := h; exact ⟨vs, e _ q, r.ext x⟩
  | dk xs => obtain ⟨vs, q, r⟩ := h; exact ⟨vs, e _ q, r.ext x⟩
  | dt xs => obtain ⟨vs, q, r⟩ := h; exact ⟨vs, e _ q, r.ext x⟩
  | ins c fs => obtain ⟨C, dx, vs, g, q, r⟩ := h; exact ⟨C, dx, vs, g, e _ q, r.ext x⟩
  | xd c fs => obtain ⟨vs, q, r⟩ := h; exact ⟨vs, e _ q, r.ext x⟩
  | dx hs ks => obtain ⟨xs, q, r, t⟩ := h; exact ⟨xs, e _ q, r, fun y hy => (t y hy).imp_left (x.tup _ _)⟩
theorem HR.nd_ne (h : HR K G ρ H mh) {i j : Nat} {a b : Addr} (hi : ρ[i]? = some a) (hj : ρ[j]? = some b) (n : i ≠ j) : a ≠ b := fun e => by
  subst e
  obtain ⟨h1, e1⟩ := List.getElem?_eq_some_iff.mp hi
  obtain ⟨h2, e2⟩ := List.getElem?_eq_some_iff.mp hj
  exact n ((List.getElem_inj h.nd).mp (e1.trans e2.symm))
theorem HR.get (h : HR K G ρ H mh) {i : Nat} {o : MO} {a : Addr} (e : mh[i]? = some o) (ha : ρ[i]? = some a) : OR K G ρ H a o := by
  obtain ⟨b, hb, q⟩ := h.obj i o e
  rw [ha] at hb; cases hb
  exact q
/-- object i is written -/
theorem HR.write {i : Nat} {o o1 : MO} {a : Addr} {u : HO} (h : HR K G ρ H mh) (ho : mh[i]? = some o) (ha : ρ[i]? = some a)
    (new : OR K G ρ (L2.upd H a u) a o1) : HR K G ρ (L2.upd H a u) (mh.set i o1) ∧ Ext K ρ H ρ (L2.upd H a u) := by
  obtain ⟨w, hw, ht⟩ := (h.get ho ha).there
  have x : Ext K ρ H ρ (L2.upd H a u) := ext_write hw ht
  refine ⟨⟨by rw [List.length_set]; exact h.len, h.nd, fun j q e => ?_⟩, x⟩
  by_cases hj : i = j
  · subst hj
    have hi : i < mh.length := (List.getElem?_eq_some_iff.mp ho).1
    rw [List.getElem?_set_self hi] at e
    cases e
    exact ⟨a, ha, new⟩
  · rw [List.getElem?_set_ne hj] at e
    obtain ⟨b, hb, r⟩ := h.obj j q e
    refine ⟨b, hb, r.keep x fun v hv => ?_⟩
    rw [L2.upd_ne (Ne.symm (h.nd_ne ha hb hj))]
    exact hv
theorem HR.notin (h : HR K G ρ H mh) {a : Addr} (hn : H a = none) : a ∉ ρ := fun hm => by
  obtain ⟨i, hi, e⟩ := List.mem_iff_getElem.mp hm
  have hi' : i < mh.length := by rw [← h.len]; exact hi
  obtain ⟨b, hb, r⟩ := h.obj i mh[i] (by simp [hi'])
  have : b = a := by
    rw [List.getElem?_eq_getElem hi, e] at hb
    exact (Option.some.inj hb).symm
  subst this
  obtain ⟨u, hu, _⟩ := r.there
  rw [hn] at hu; cases hu
/-- a new object -/
theorem HR.new {a : Addr} {u : HO} {o : MO} (h : HR K G ρ H mh) (hn : H a = none) (new : OR K G (ρ ++ [a]) (L2.upd H a u) a o) :
    HR K G (ρ ++ [a]) (L2.upd H a u) (mh ++ [o]) ∧ Ext K ρ H (ρ ++ [a]) (L2.upd H a u) := by
  have x : Ext K ρ H (ρ ++ [a]) (L2.upd H a u) := ext_new hn
  have hk := h.notin hn
  refine ⟨⟨by simp [h.len], ?_, fun j q e => ?_⟩, x⟩
  · rw [List.nodup_append]
    exact ⟨h.nd, by simp, fun b hb c hc e => by simp at hc; subst hc; subst e; exact hk hb⟩
  · by_cases hj : j < mh.length
    · rw [List.getElem?_append_left hj] at e
      obtain ⟨b, hb, r⟩ := h.obj j q e
      refine ⟨b, x.at hb, r.keep x fun v hv => ?_⟩
      rw [L2.upd_ne (ne_of_none hv hn)]
      exact hv
    · have e' : j = mh.length ∧ q = o := by
        rw [List.getElem?_append_right (by omega)] at e
        have hz : j - mh.length = 0 := by
          have := (List.getElem?_eq_some_iff.mp e).1
          simp at this
          omega
        rw [hz] at e
        simp at e
        exact ⟨by omega, e.symm⟩
      obtain ⟨rfl, rfl⟩ := e'
      exact ⟨a, by rw [← h.len]; simp, new⟩
end
end Mo
/-! Mo3: equality and membership of data, operators. -/
namespace Mo
open PySem L2

/-! ### equality over the abstract heap -/
inductive EqW (K : PySem.W.Frag) (H : Hp) : Nat → V → V → Bool → Prop
  | flat {n x y} : flatV x = true → flatV y = true → EqW K H n x y (eqV x y)
  | same {n a} : EqW K H n (.ref a) (.ref a) true
  | lst {n a b xs ys} (e : Nat → Bool) : SqL K H a xs → SqL K H b ys → xs.length = ys.length →
      (∀ j x y, xs[j]? = some x → ys[j]? = some y → EqW K H n x y (e j)) → EqW K H (n + 1) (.ref a) (.ref b) ((List.range xs.length).all e)
  | lstL {n a b xs ys} : SqL K H a xs → SqL K H b ys → xs.length ≠ ys.length → EqW K H (n + 1) (.ref a) (.ref b) false
  | tup {n a b xs ys} (e : Nat → Bool) : SqT K H a xs → SqT K H b ys →
      (∀ j x y, xs[j]? = some x → ys[j]? = some y → EqW K H n x y (e j)) → EqW K H (n + 1) (.ref a) (.ref b) ((List.range (min xs.length ys.length)).all e && xs.length == ys.length)
  | flatT {n a x xs} : flatV x = true → SqT K H a xs → EqW K H n x (.ref a) false
  | tupF {n a x xs} : flatV x = true → SqT K H a xs → EqW K H n (.ref a) x false
  | flatL {n a x xs} : flatV x = true → SqL K H a xs → EqW K H n x (.ref a) false
  | lstF {n a x xs} : flatV x = true → SqL K H a xs → EqW K H n (.ref a) x false
  | lstT {n a b xs ys} : SqL K H a xs → SqT K H b ys → EqW K H n (.ref a) (.ref b) false
  | tupL {n a b xs ys} : SqT K H a xs → SqL K H b ys → EqW K H n (.ref a) (.ref b) false
section
variable {X : Cx} {pins : List (Addr × Obj)} {σ : St} {H : Hp} {s : Shared}
theorem Inv.lt_apart (I : Inv X pins σ H s) {a : Addr} {xs ys : List V} (h : SqL X.K H a xs) (h' : SqT X.K H a ys) : False := by
  obtain ⟨is, r1, p1, _⟩ := I.list h
  obtain ⟨js, r2, p2, _⟩ := I.tuple h'
  exact SeqAt.ne_of_list_tuple p1.isList p2 rfl
theorem eqV_refl : ∀ {x : V}, flatV x = true → eqV x x = true
  | .non, _ => rfl
  | .bl b, _ => by simp [eqV]
  | .int b, _ => by simp [eqV]
  | .str b, _ => by simp [eqV]
  | .byt b, h => by simp [flatV] at h
  | .flt b, h => by simp [flatV] at h
  | .ref b, h => by simp [flatV] at h
  | .ty b, h => by simp [flatV] at h
theorem EqW.refl_true (I : Inv X pins σ H s) {n : Nat} {x y : V} {b : Bool} (h : EqW X.K H n x y b) : x = y → b = true := by
  induction h with
  | flat fx fy => rintro rfl; exact eqV_refl fx
  | same => intro _; rfl
  | lst e ha hb hl he ih =>
    intro q
    cases q
    have := I.list_inj ha hb
    subst this
    rw [List.all_eq_true]
    intro j hj
    have hj' := List.mem_range.mp hj
    exact ih j _ _ (List.getElem?_eq_getElem hj') (List.getElem?_eq_getElem hj') rfl
  | lstL ha hb hl => intro q; cases q; exact absurd (by rw [I.list_inj ha hb]) hl
  | tup e ha hb he ih =>
    intro q
    cases q
    have := I.tuple_inj ha hb
    subst this
    rw [Bool.and_eq_true, List.all_eq_true]
    refine ⟨fun j hj => ?_, by simp⟩
    have hj' := List.mem_range.mp hj
    have hj2 : j < List.length _ := Nat.lt_of_lt_of_le hj' (Nat.min_le_left _ _)
    exact ih j _ _ (List.getElem?_eq_getElem hj2) (List.getElem?_eq_getElem hj2) rfl
  | flatT fx ha => intro q; cases q; simp [flatV] at fx
  | tupF fx ha => intro q; cases q; simp [flatV] at fx
  | flatL fx ha => intro q; cases q; simp [flatV] at fx
  | lstF fx ha => intro q; cases q; simp [flatV] at fx
  | lstT ha hb => intro q; cases q; exact (Inv.lt_apart I ha hb).elim
  | tupL ha hb => intro q; cases q; exact (Inv.lt_apart I hb ha).elim
theorem EqW.at (I : Inv X pins σ H s) {n : Nat} {x y : V} {b : Bool} (h : EqW X.K H n x y b) : ∀ {A : Around} {u v : Value}, A.units + n < cLine → RelV x u → RelV y v → SeqAt.EqAt A s u v b := by
  induction h with
  | flat fx fy => exact fun _ rx ry => eqAt_V rx ry fx fy
  | same => intro A u v _ rx ry; cases rx; cases ry; exact SeqAt.EqAt.same _
  | @lst n a b xs ys e ha hb hl he ih =>
    intro A u v hu rx ry
    by_cases hne : a = b
    · rw [(EqW.lst e ha hb hl he).refl_true I (by rw [hne])]
      subst hne
      cases rx; cases ry
      exact SeqAt.EqAt.same _
    cases rx; cases ry
    obtain ⟨is, r1, p1, _⟩ := I.list ha
    obtain ⟨js, r2, p2, _⟩ := I.list hb
    have l1 := r1.length
    have l2 := r2.length
    have q := SeqAt.RcAt.lists (A := A) (e := e) p1.isList p2.isList (by simp; omega) (by omega) (fun j h1 h2 => by
      simp only [List.size_toArray] at h1 h2
      have a1 : _[j]? = some _ := List.getElem?_eq_getElem (l := _) (i := j) (by rw [l1]; exact h1)
      have a2 : _[j]? = some _ := List.getElem?_eq_getElem (l := _) (i := j) (by rw [l2]; exact h2)
      obtain ⟨w1, b1, c1⟩ := r1.get a1
      obtain ⟨w2, b2, c2⟩ := r2.get a2
      have d1 : is[j] = w1 := by rw [List.getElem?_eq_getElem h1] at b1; exact Option.some.inj b1
      have d2 : js[j] = w2 := by rw [List.getElem?_eq_getElem h2] at b2; exact Option.some.inj b2
      simp only [List.getElem_toArray]
      rw [d1, d2]
      exact ih j _ _ a1 a2 (by show A.units + 1 + _ < cLine; omega) c1 c2)
    rw [show is.toArray.size = _ from by simp; exact l1.symm] at q
    exact SeqAt.EqAt.of_refs hne q
  | lstL ha hb hl =>
    intro A u v hu rx ry
    cases rx; cases ry
    obtain ⟨is, r1, p1, _⟩ := I.list ha
    obtain ⟨js, r2, p2, _⟩ := I.list hb
    have l1 := r1.length
    have l2 := r2.length
    refine SeqAt.EqAt.of_refs (fun e => ?_) (SeqAt.RcAt.lists_lengths p1.isList p2.isList (by simp; omega) (by omega))
    subst e
    rw [I.list_inj ha hb] at hl
    exact hl rfl
  | @tup n a b xs ys e ha hb he ih =>
    intro A u v hu rx ry
    by_cases hne : a = b
    · rw [(EqW.tup e ha hb he).refl_true I (by rw [hne])]
      subst hne
      cases rx; cases ry
      exact SeqAt.EqAt.same _
    cases rx; cases ry
    obtain ⟨is, r1, p1, _⟩ := I.tuple ha
    obtain ⟨js, r2, p2, _⟩ := I.tuple hb
    have l1 := r1.length
    have l2 := r2.length
    have q := SeqAt.RcAt.tuples (A := A) (e := e) p1 p2 (by omega) (fun j h1 h2 => by
      simp only [List.size_toArray] at h1 h2
      have a1 : _[j]? = some _ := List.getElem?_eq_getElem (l := _) (i := j) (by rw [l1]; exact h1)
      have a2 : _[j]? = some _ := List.getElem?_eq_getElem (l := _) (i := j) (by rw [l2]; exact h2)
      obtain ⟨w1, b1, c1⟩ := r1.get a1
      obtain ⟨w2, b2, c2⟩ := r2.get a2
      have d1 : is[j] = w1 := by rw [List.getElem?_eq_getElem h1] at b1; exact Option.some.inj b1
      have d2 : js[j] = w2 := by rw [List.getElem?_eq_getElem h2] at b2; exact Option.some.inj b2
      simp only [List.getElem_toArray]
      rw [d1, d2]
      exact ih j _ _ a1 a2 (by show A.units + 1 + _ < cLine; omega) c1 c2)
    rw [show is.toArray.size = _ from by simp; exact l1.symm, show js.toArray.size = _ from by simp; exact l2.symm] at q
    exact SeqAt.EqAt.of_refs hne q
  | @flatT n a x xs fx ha =>
    intro A u v hu rx ry
    cases ry
    obtain ⟨js, r2, p2, _⟩ := I.tuple ha
    have hu' : A.units < cLine := by omega
    cases x with
    | non => cases rx; exact SeqAt.EqAt.none_tuple p2 hu'
    | bl b => cases rx; exact SeqAt.EqAt.bool_tuple _ p2 hu'
    | int i => obtain ⟨t, rfl⟩ := rx; exact SeqAt.EqAt.int_tuple _ _ p2 hu'
    | str i => obtain ⟨t, rfl⟩ := rx; exact SeqAt.EqAt.str_tuple _ _ p2 hu'
    | _ => simp [flatV] at fx
  | @tupF n a x xs fx ha =>
    intro A u v hu ry rx
    cases ry
    obtain ⟨js, r2, p2, _⟩ := I.tuple ha
    have hu' : A.units < cLine := by omega
    cases x with
    | non => cases rx; exact SeqAt.EqAt.tuple_none p2 hu'
    | bl b => cases rx; exact SeqAt.EqAt.tuple_bool _ p2 hu'
    | int i => obtain ⟨t, rfl⟩ := rx; exact SeqAt.EqAt.tuple_int _ _ p2 hu'
    | str i => obtain ⟨t, rfl⟩ := rx; exact SeqAt.EqAt.tuple_str _ _ p2 hu'
    | _ => simp [flatV] at fx
  | @flatL n a x xs fx ha =>
    intro A u v hu rx ry
    cases ry
    obtain ⟨js, r2, p2, _⟩ := I.list ha
    have hu' : A.units < cLine := by omega
    cases x with
    | non => cases rx; exact SeqAt.EqAt.none_list p2.isList hu'
    | bl b => cases rx; exact SeqAt.EqAt.bool_list _ p2.isList hu'
    | int i => obtain ⟨t, rfl⟩ := rx; exact SeqAt.EqAt.int_list _ _ p2.isList hu'
    | str i => obtain ⟨t, rfl⟩ := rx; exact SeqAt.EqAt.str_list _ _ p2.isList hu'
    | _ => simp [flatV] at fx
  | @lstF n a x xs fx ha =>
    intro A u v hu ry rx
    cases ry
    obtain ⟨js, r2, p2, _⟩ := I.list ha
    have hu' : A.units < cLine := by omega
    cases x with
    | non => cases rx; exact SeqAt.EqAt.list_none p2.isList hu'
    | bl b => cases rx; exact SeqAt.EqAt.list_bool _ p2.isList hu'
    | int i => obtain ⟨t, rfl⟩ := rx; exact SeqAt.EqAt.list_int _ _ p2.isList hu'
    | str i => obtain ⟨t, rfl⟩ := rx; exact SeqAt.EqAt.list_str _ _ p2.isList hu'
    | _ => simp [flatV] at fx
  | lstT ha hb =>
    intro A u v hu rx ry
    cases rx; cases ry
    obtain ⟨is, r1, p1, _⟩ := I.list ha
    obtain ⟨js, r2, p2, _⟩ := I.tuple hb
    exact SeqAt.EqAt.list_tuple p1.isList p2 (by omega)
  | tupL ha hb =>
    intro A u v hu rx ry
    cases rx; cases ry
    obtain ⟨is, r1, p1, _⟩ := I.tuple ha
    obtain ⟨js, r2, p2, _⟩ := I.list hb
    exact SeqAt.EqAt.tuple_list p1 p2.isList (by omega)
/-! ### == and != of two values, whatever they are -/
inductive RcW (K : PySem.W.Frag) (H : Hp) : Nat → V → V → Bool → Prop
  | sc {n x y} : scal x y = true → RcW K H n x y (decide (x = y))
  | lst {n a b xs ys} (e : Nat → Bool) : SqL K H a xs → SqL K H b ys → xs.length = ys.length →
      (∀ j x y, xs[j]? = some x → ys[j]? = some y → EqW K H n x y (e j)) → RcW K H (n + 1) (.ref a) (.ref b) ((List.range xs.length).all e)
  | lstL {n a b xs ys} : SqL K H a xs → SqL K H b ys → xs.length ≠ ys.length → RcW K H (n + 1) (.ref a) (.ref b) false
  | tup {n a b xs ys} (e : Nat → Bool) : SqT K H a xs → SqT K H b ys →
      (∀ j x y, xs[j]? = some x → ys[j]? = some y → EqW K H n x y (e j)) → RcW K H (n + 1) (.ref a) (.ref b) ((List.range (min xs.length ys.length)).all e && xs.length == ys.length)
  | flatT {n a x xs} : flatV x = true → SqT K H a xs → RcW K H n x (.ref a) false
  | tupF {n a x xs} : flatV x = true → SqT K H a xs → RcW K H n (.ref a) x false
  | flatL {n a x xs} : flatV x = true → SqL K H a xs → RcW K H n x (.ref a) false
  | lstF {n a x xs} : flatV x = true → SqL K H a xs → RcW K H n (.ref a) x false
  | lstT {n a b xs ys} : SqL K H a xs → SqT K H b ys → RcW K H n (.ref a) (.ref b) false
  | tupL {n a b xs ys} : SqT K H a xs → SqL K H b ys → RcW K H n (.ref a) (.ref b) false
theorem kids {n : Nat} {xs ys : List V} {is js : List Value} {e : Nat → Bool} (I : Inv X pins σ H s) (r1 : Vals xs is) (r2 : Vals ys js) (he : ∀ j x y, xs[j]? = some x → ys[j]? = some y → EqW X.K H n x y (e j)) {A : Around} (hu : A.units + n < cLine) :
    ∀ j (h1 : j < is.toArray.size) (h2 : j < js.toArray.size), SeqAt.EqAt A s is.toArray[j] js.toArray[j] (e j) := fun j h1 h2 => by
  have l1 := r1.length
  have l2 := r2.length
  simp only [List.size_toArray] at h1 h2
  have a1 : xs[j]? = some _ := List.getElem?_eq_getElem (l := _) (i := j) (by rw [l1]; exact h1)
  have a2 : ys[j]? = some _ := List.getElem?_eq_getElem (l := _) (i := j) (by rw [l2]; exact h2)
  obtain ⟨w1, b1, c1⟩ := r1.get a1
  obtain ⟨w2, b2, c2⟩ := r2.get a2
  have d1 : is[j] = w1 := by rw [List.getElem?_eq_getElem h1] at b1; exact Option.some.inj b1
  have d2 : js[j] = w2 := by rw [List.getElem?_eq_getElem h2] at b2; exact Option.some.inj b2
  simp only [List.getElem_toArray]
  rw [d1, d2]
  exact (he j _ _ a1 a2).at I hu c1 c2
theorem RcW.eqne (I : Inv X pins σ H s) {n : Nat} {x y : V} {b : Bool} (h : RcW X.K H n x y b) {u v : Value} (hu : X.A.units + n < cLine) (rx : RelV x u) (ry : RelV y v) :
    (scal x y = true ∧ b = decide (x = y)) ∨ (SeqAt.RcAt X.A s u v b ∧ SeqAt.RcNeAt X.A s u v (!b)) := by
  cases h with
  | sc h => exact .inl ⟨h, rfl⟩
  | lst e ha hb hl he =>
    cases rx; cases ry
    obtain ⟨is, r1, p1, _⟩ := I.list ha
    obtain ⟨js, r2, p2, _⟩ := I.list hb
    have l1 := r1.length
    have l2 := r2.length
    have k := kids I r1 r2 he (A := X.A.in1) (by show X.A.units + 1 + _ < cLine; omega)
    have z : is.toArray.size = js.toArray.size := by simp; omega
    have q := SeqAt.RcAt.lists (e := e) p1.isList p2.isList z (by omega) k
    have q2 := SeqAt.RcNeAt.lists (e := e) p1.isList p2.isList z (by omega) k
    rw [show is.toArray.size = _ from by simp; exact l1.symm] at q q2
    exact .inr ⟨q, q2⟩
  | lstL ha hb hl =>
    cases rx; cases ry
    obtain ⟨is, r1, p1, _⟩ := I.list ha
    obtain ⟨js, r2, p2, _⟩ := I.list hb
    have l1 := r1.length
    have l2 := r2.length
    have z : (is.toArray.size != js.toArray.size) = true := by simp; omega
    exact .inr ⟨SeqAt.RcAt.lists_lengths p1.isList p2.isList z (by omega), SeqAt.RcNeAt.lists_lengths p1.isList p2.isList z (by omega)⟩
  | tup e ha hb he =>
    cases rx; cases ry
    obtain ⟨is, r1, p1, _⟩ := I.tuple ha
    obtain ⟨js, r2, p2, _⟩ := I.tuple hb
    have l1 := r1.length
    have l2 := r2.length
    have k := kids I r1 r2 he (A := X.A.in1) (by show X.A.units + 1 + _ < cLine; omega)
    have q := SeqAt.RcAt.tuples (e := e) p1 p2 (by omega) k
    have q2 := SeqAt.RcNeAt.tuples (e := e) p1 p2 (by omega) k
    rw [show is.toArray.size = _ from by simp; exact l1.symm, show js.toArray.size = _ from by simp; exact l2.symm] at q q2
    exact .inr ⟨q, q2⟩
  | @flatT _ a x xs fx ha =>
    cases ry
    obtain ⟨js, r2, p2, _⟩ := I.tuple ha
    have hu' : X.A.units < cLine := by omega
    refine .inr ?_
    cases x with
    | non => cases rx; exact ⟨SeqAt.RcAt.none_tuple p2 hu', SeqAt.RcNeAt.none_tuple p2 hu'⟩
    | bl b => cases rx; exact ⟨SeqAt.RcAt.bool_tuple _ p2 hu', SeqAt.RcNeAt.bool_tuple _ p2 hu'⟩
    | int i => obtain ⟨t, rfl⟩ := rx; exact ⟨SeqAt.RcAt.int_tuple _ _ p2 hu', SeqAt.RcNeAt.int_tuple _ _ p2 hu'⟩
    | str i => obtain ⟨t, rfl⟩ := rx; exact ⟨SeqAt.RcAt.str_tuple _ _ p2 hu', SeqAt.RcNeAt.str_tuple _ _ p2 hu'⟩
    | _ => simp [flatV] at fx
  | @tupF _ a x xs fx ha =>
    cases rx
    obtain ⟨js, r2, p2, _⟩ := I.tuple ha
    have hu' : X.A.units < cLine := by omega
    refine .inr ?_
    cases y with
    | non => cases ry; exact ⟨SeqAt.RcAt.tuple_none p2 hu', SeqAt.RcNeAt.tuple_none p2 hu'⟩
    | bl b => cases ry; exact ⟨SeqAt.RcAt.tuple_bool _ p2 hu', SeqAt.RcNeAt.tuple_bool _ p2 hu'⟩
    | int i => obtain ⟨t, rfl⟩ := ry; exact ⟨SeqAt.RcAt.tuple_int _ _ p2 hu', SeqAt.RcNeAt.tuple_int _ _ p2 hu'⟩
    | str i => obtain ⟨t, rfl⟩ := ry; exact ⟨SeqAt.RcAt.tuple_str _ _ p2 hu', SeqAt.RcNeAt.tuple_str _ _ p2 hu'⟩
    | _ => simp [flatV] at fx
  | @flatL _ a x xs fx ha =>
    cases ry
    obtain ⟨js, r2, p2, _⟩ := I.list ha
    have hu' : X.A.units < cLine := by omega
    refine .inr ?_
    cases x with
    | non => cases rx; exact ⟨SeqAt.RcAt.none_list p2.isList hu', SeqAt.RcNeAt.none_list p2.isList hu'⟩
    | bl b => cases rx; exact ⟨SeqAt.RcAt.bool_list _ p2.isList hu', SeqAt.RcNeAt.bool_list _ p2.isList hu'⟩
    | int i => obtain ⟨t, rfl⟩ := rx; exact ⟨SeqAt.RcAt.int_list _ _ p2.isList hu', SeqAt.RcNeAt.int_list _ _ p2.isList hu'⟩
    | str i => obtain ⟨t, rfl⟩ := rx; exact ⟨SeqAt.RcAt.str_list _ _ p2.isList hu', SeqAt.RcNeAt.str_list _ _ p2.isList hu'⟩
    | _ => simp [flatV] at fx
  | @lstF _ a x xs fx ha =>
    cases rx
    obtain ⟨js, r2, p2, _⟩ := I.list ha
    have hu' : X.A.units < cLine := by omega
    refine .inr ?_
    cases y with
    | non => cases ry; exact ⟨SeqAt.RcAt.list_none p2.isList hu', SeqAt.RcNeAt.list_none p2.isList hu'⟩
    | bl b => cases ry; exact ⟨SeqAt.RcAt.list_bool _ p2.isList hu', SeqAt.RcNeAt.list_bool _ p2.isList hu'⟩
    | int i => obtain ⟨t, rfl⟩ := ry; exact ⟨SeqAt.RcAt.list_int _ _ p2.isList hu', SeqAt.RcNeAt.list_int _ _ p2.isList hu'⟩
    | str i => obtain ⟨t, rfl⟩ := ry; exact ⟨SeqAt.RcAt.list_str _ _ p2.isList hu', SeqAt.RcNeAt.list_str _ _ p2.isList hu'⟩
    | _ => simp [flatV] at fx
  | lstT ha hb =>
    cases rx; cases ry
    obtain ⟨is, r1, p1, _⟩ := I.list ha
    obtain ⟨js, r2, p2, _⟩ := I.tuple hb
    exact .inr ⟨SeqAt.RcAt.list_tuple p1.isList p2 (by omega), SeqAt.RcNeAt.list_tuple p1.isList p2 (by omega)⟩
  | tupL ha hb =>
    cases rx; cases ry
    obtain ⟨is, r1, p1, _⟩ := I.tuple ha
    obtain ⟨js, r2, p2, _⟩ := I.list hb
    exact .inr ⟨SeqAt.RcAt.tuple_list p1 p2.isList (by omega), SeqAt.RcNeAt.tuple_list p1 p2.isList (by omega)⟩
end
section
variable {X : Cx}
def DEP : Nat := 8
def rEqM (K : PySem.W.Frag) : R2 := fun x y H Q => ∃ b, RcW K H DEP x y b ∧ Q (.bl b) H
def rNeM (K : PySem.W.Frag) : R2 := fun x y H Q => ∃ b, RcW K H DEP x y b ∧ Q (.bl (!b)) H
theorem op_eqM (hu : X.A.units + 64 < cLine) : OpR X (compareOp .Eq) (rEqM X.K) := by
  intro pins s σ H x y v u Q I rx ry h
  obtain ⟨b, d, q⟩ := h
  rcases d.eqne I (by unfold DEP; omega) rx ry with ⟨h1, rfl⟩ | ⟨h1, _⟩
  · exact op_eq pins s σ H x y v u Q I rx ry ⟨h1, q⟩
  · exact h1 _ _ _ _ ⟨.bl b, H, I, rfl, q⟩
theorem op_neM (hu : X.A.units + 64 < cLine) : OpR X (compareOp .NotEq) (rNeM X.K) := by
  intro pins s σ H x y v u Q I rx ry h
  obtain ⟨b, d, q⟩ := h
  rcases d.eqne I (by unfold DEP; omega) rx ry with ⟨h1, rfl⟩ | ⟨_, h1⟩
  · exact op_ne pins s σ H x y v u Q I rx ry ⟨h1, q⟩
  · exact h1 _ _ _ _ ⟨.bl (!b), H, I, rfl, q⟩
end

/-! ### the model's == -/
def flM : MV → Bool
  | .non => true | .bl _ => true | .int _ => true | .str _ => true | _ => false
def asT : MV → Option (List MV)
  | .tup xs => some xs | .ktp xs => some xs | _ => none
def isT : MV → Bool
  | .tup _ => true | .ktp _ => true | _ => false
def eqF : MV → MV → Bool
  | .non, .non => true
  | .bl a, .bl b => a == b
  | .bl a, .int b => (if a then 1 else 0) == b
  | .int a, .bl b => a == (if b then 1 else 0)
  | .int a, .int b => a == b
  | .str a, .str b => a == b
  | _, _ => false
/-- item by item; lists of unlike lengths differ -/
def eqs (f : MV → MV → Option Bool) : List MV → List MV → Option Bool
  | [], [] => some true
  | x :: xs, y :: ys => match f x y, eqs f xs ys with
    | some a, some b => some (a && b)
    | _, _ => none
  | _, _ => some false
def lstAt (h : MH) : MV → Option (List MV)
  | .ref i => match h[i]? with
    | some (.lst xs) => some xs
    | _ => none
  | _ => none
def sameR : MV → MV → Bool
  | .ref i, .ref j => decide (i = j)
  | _, _ => false
/-- the ways of == that are not flat -/
def mEqS (f : MV → MV → Option Bool) (h : MH) (x y : MV) : Option Bool :=
  match asT x, asT y, lstAt h x, lstAt h y with
  | some xs, some ys, _, _ => eqs f xs ys
  | _, _, some xs, some ys => if xs.length = ys.length then eqs f xs ys else some false
  | some _, _, _, some _ => some false
  | _, some _, some _, _ => some false
  | some _, _, _, _ => if flM y then some false else none
  | _, some _, _, _ => if flM x then some false else none
  | _, _, some _, _ => if flM y then some false else none
  | _, _, _, some _ => if flM x then some false else none
  | _, _, _, _ => none
def mEq : Nat → MH → MV → MV → Option Bool
  | n, h, x, y => if flM x && flM y then some (eqF x y) else match n with
    | 0 => none
    | n + 1 => if sameR x y then some true else mEqS (mEq n h) h x y
def scM : MV → MV → Bool
  | .bl _, .int _ => false
  | .int _, .bl _ => false
  | x, y => flM x && flM y
/-- == at the top: no look at identity -/
def mRc (h : MH) (x y : MV) : Option Bool := match x, y with
  | .byt a, .byt b => some (decide (a = b))
  | x, y => if scM x y then some (eqF x y) else mEqS (mEq 7 h) h x y

section
variable {K : PySem.W.Frag} {G : String → Option V} {ρ : List Addr} {H : Hp} {mh : MH}
theorem flM_V {x : MV} {v : V} (h : VR K G ρ H x v) (f : flM x = true) : flatV v = true ∧ ∀ {y : MV} {w : V}, VR K G ρ H y w → flM y = true → eqV v w = eqF x y := by
  cases x with
  | non => simp only [VR] at h; subst h; refine ⟨rfl, fun {y w} hy fy => ?_⟩; cases y <;> simp [flM] at fy <;> simp only [VR] at hy <;> subst hy <;> rfl
  | bl b => simp only [VR] at h; subst h; refine ⟨rfl, fun {y w} hy fy => ?_⟩; cases y <;> simp [flM] at fy <;> simp only [VR] at hy <;> subst hy <;> rfl
  | int b => simp only [VR] at h; subst h; refine ⟨rfl, fun {y w} hy fy => ?_⟩; cases y <;> simp [flM] at fy <;> simp only [VR] at hy <;> subst hy <;> rfl
  | str b => simp only [VR] at h; subst h; refine ⟨rfl, fun {y w} hy fy => ?_⟩; cases y <;> simp [flM] at fy <;> simp only [VR] at hy <;> subst hy <;> rfl
  | _ => simp [flM] at f
theorem flM_eq {x : MV} (f : flM x = true) : (VR K G ρ H x = fun v => v = (match x with | .bl b => V.bl b | .int i => V.int i | .str s => V.str s | _ => V.non)) := by
  funext v
  cases x <;> simp [flM] at f <;> simp [VR]
theorem HR.lst (hr : HR K G ρ H mh) {i : Nat} {xs : List MV} {v : V} (e : mh[i]? = some (.lst xs)) (r : VR K G ρ H (.ref i) v) : ∃ a vs, v = .ref a ∧ ρ[i]? = some a ∧ H a = some (.lst vs) ∧ VRs K G ρ H xs vs := by
  simp only [VR] at r
  obtain ⟨a, rfl, ha⟩ := r
  obtain ⟨vs, h1, h2⟩ := hr.get e ha
  exact ⟨a, vs, rfl, ha, h1, h2⟩
theorem VR.tup {x : MV} {xs : List MV} {v : V} (e : asT x = some xs) (r : VR K G ρ H x v) : ∃ a vs, v = .ref a ∧ SqT K H a vs ∧ VRs K G ρ H xs vs := by
  cases x <;> simp [asT] at e
  · subst e
    simp only [VR] at r
    obtain ⟨a, vs, e1, h1, h2⟩ := r
    exact ⟨a, vs, e1, SqT.of h1, h2⟩
  · subst e
    simp only [VR] at r
    obtain ⟨a, vs, e1, h1, h2⟩ := r
    exact ⟨a, vs, e1, h1.sq, h2⟩
theorem HR.lst' (hr : HR K G ρ H mh) {x : MV} {xs : List MV} {v : V} (e : lstAt mh x = some xs) (r : VR K G ρ H x v) : ∃ a vs, v = .ref a ∧ SqL K H a vs ∧ VRs K G ρ H xs vs := by
  unfold lstAt at e
  split at e
  · split at e
    · rename_i q
      cases e
      obtain ⟨a, vs, e1, _, h1, h2⟩ := hr.lst q r
      exact ⟨a, vs, e1, SqL.of h1, h2⟩
    · cases e
  · cases e
theorem eqs_sound {f : MV → MV → Option Bool} {P : V → V → Bool → Prop} (hf : ∀ {x y v w b}, f x y = some b → VR K G ρ H x v → VR K G ρ H y w → P v w b) :
    ∀ {xs ys : List MV} {vs ws : List V} {b : Bool}, eqs f xs ys = some b → VRs K G ρ H xs vs → VRs K G ρ H ys ws →
      ∃ e : Nat → Bool, (∀ j x y, vs[j]? = some x → ws[j]? = some y → P x y (e j)) ∧ b = ((List.range (min vs.length ws.length)).all e && vs.length == ws.length) ∧ (vs.length = ws.length → b = (List.range vs.length).all e)
  | [], [], _, _, b, h, r1, r2 => by
    simp only [VRs] at r1 r2; subst r1 r2
    simp [eqs] at h; subst h
    exact ⟨fun _ => true, fun j x y e => by simp at e, by simp, by simp⟩
  | [], y :: ys, _, _, b, h, r1, r2 => by
    simp only [VRs] at r1 r2; subst r1
    obtain ⟨w, s, rfl, q, t⟩ := r2
    simp [eqs] at h; subst h
    exact ⟨fun _ => true, fun j x y e => by simp at e, by simp, by simp⟩
  | x :: xs, [], _, _, b, h, r1, r2 => by
    simp only [VRs] at r1 r2; subst r2
    obtain ⟨w, s, rfl, q, t⟩ := r1
    simp [eqs] at h; subst h
    exact ⟨fun _ => true, fun j x y _ e => by simp at e, by simp, by simp⟩
  | x :: xs, y :: ys, _, _, b, h, r1, r2 => by
    simp only [VRs] at r1 r2
    obtain ⟨v, vs, rfl, q1, t1⟩ := r1
    obtain ⟨w, ws, rfl, q2, t2⟩ := r2
    simp only [eqs] at h
    cases h1 : f x y with
    | none => rw [h1] at h; simp at h
    | some a =>
      cases h2 : eqs f xs ys with
      | none => rw [h1, h2] at h; simp at h
      | some c =>
        rw [h1, h2] at h
        simp at h
        obtain ⟨e, he, hb, hb2⟩ := eqs_sound hf h2 t1 t2
        have key : ∀ n, (List.range (n + 1)).all (fun j => match j with | 0 => a | j + 1 => e j) = (a && (List.range n).all e) := by
          intro n
          rw [List.range_succ_eq_map, List.all_cons, List.all_map]
          rfl
        refine ⟨fun j => match j with | 0 => a | j + 1 => e j, fun j x' y' e1 e2 => ?_, ?_, fun hl => ?_⟩
        · cases j with
          | zero =>
            simp at e1 e2; subst e1 e2
            exact hf h1 q1 q2
          | succ j =>
            simp at e1 e2
            exact he j _ _ e1 e2
        · rw [List.length_cons, List.length_cons, Nat.add_min_add_right, key, ← h, hb]
          simp [Bool.and_assoc]
        · rw [List.length_cons, key, ← h, hb2 (by simpa using hl)]
theorem mEqS_sound (hr : HR K G ρ H mh) {n : Nat} {f : MV → MV → Option Bool} (hf : ∀ {x y v w b}, f x y = some b → VR K G ρ H x v → VR K G ρ H y w → EqW K H n v w b) {x y : MV} {v w : V} {b : Bool}
    (h : mEqS f mh x y = some b) (rx : VR K G ρ H x v) (ry : VR K G ρ H y w) : RcW K H (n + 1) v w b ∧ EqW K H (n + 1) v w b := by
  unfold mEqS at h
  split at h
  · obtain ⟨a, vs, rfl, h1, r1⟩ := VR.tup (x := x) (by assumption) rx
    obtain ⟨c, ws, rfl, h2, r2⟩ := VR.tup (x := y) (by assumption) ry
    obtain ⟨e, he, hb, _⟩ := eqs_sound (P := fun x y b => EqW K H n x y b) (fun h a b => hf h a b) h r1 r2
    rw [hb]
    exact ⟨.tup e h1 h2 he, .tup e h1 h2 he⟩
  · obtain ⟨a, vs, rfl, h1, r1⟩ := hr.lst' (x := x) (by assumption) rx
    obtain ⟨c, ws, rfl, h2, r2⟩ := hr.lst' (x := y) (by assumption) ry
    have l1 := r1.length
    have l2 := r2.length
    split at h
    · obtain ⟨e, he, _, hb⟩ := eqs_sound (P := fun x y b => EqW K H n x y b) (fun h a b => hf h a b) h r1 r2
      rw [hb (by omega)]
      exact ⟨.lst e h1 h2 (by omega) he, .lst e h1 h2 (by omega) he⟩
    · cases h
      exact ⟨.lstL h1 h2 (by omega), .lstL h1 h2 (by omega)⟩
  · obtain ⟨a, vs, rfl, h1, r1⟩ := VR.tup (x := x) (by assumption) rx
    obtain ⟨c, ws, rfl, h2, r2⟩ := hr.lst' (x := y) (by assumption) ry
    cases h
    exact ⟨.tupL h1 h2, .tupL h1 h2⟩
  · obtain ⟨a, vs, rfl, h1, r1⟩ := VR.tup (x := y) (by assumption) ry
    obtain ⟨c, ws, rfl, h2, r2⟩ := hr.lst' (x := x) (by assumption) rx
    cases h
    exact ⟨.lstT h2 h1, .lstT h2 h1⟩
  · obtain ⟨a, vs, rfl, h1, r1⟩ := VR.tup (x := x) (by assumption) rx
    split at h
    · rename_i f2
      cases h
      exact ⟨.tupF (flM_V ry f2).1 h1, .tupF (flM_V ry f2).1 h1⟩
    · cases h
  · obtain ⟨a, vs, rfl, h1, r1⟩ := VR.tup (x := y) (by assumption) ry
    split at h
    · rename_i f2
      cases h
      exact ⟨.flatT (flM_V rx f2).1 h1, .flatT (flM_V rx f2).1 h1⟩
    · cases h
  · obtain ⟨a, vs, rfl, h1, r1⟩ := hr.lst' (x := x) (by assumption) rx
    split at h
    · rename_i f2
      cases h
      exact ⟨.lstF (flM_V ry f2).1 h1, .lstF (flM_V ry f2).1 h1⟩
    · cases h
  · obtain ⟨a, vs, rfl, h1, r1⟩ := hr.lst' (x := y) (by assumption) ry
    split at h
    · rename_i f2
      cases h
      exact ⟨.flatL (flM_V rx f2).1 h1, .flatL (flM_V rx f2).1 h1⟩
    · cases h
  · cases h
theorem mEq_sound (hr : HR K G ρ H mh) : ∀ {n : Nat} {x y : MV} {v w : V} {b : Bool}, mEq n mh x y = some b → VR K G ρ H x v → VR K G ρ H y w → EqW K H n v w b := by
  intro n
  induction n with
  | zero =>
    intro x y v w b h rx ry
    unfold mEq at h
    by_cases f : (flM x && flM y) = true
    · rw [if_pos f] at h
      rw [Bool.and_eq_true] at f
      obtain ⟨f1, e1⟩ := flM_V rx f.1
      rw [← Option.some.inj h, ← e1 ry f.2]
      exact .flat f1 (flM_V ry f.2).1
    · rw [if_neg f] at h; simp at h
  | succ n ih =>
    intro x y v w b h rx ry
    unfold mEq at h
    by_cases f : (flM x && flM y) = true
    · rw [if_pos f] at h
      rw [Bool.and_eq_true] at f
      obtain ⟨f1, e1⟩ := flM_V rx f.1
      rw [← Option.some.inj h, ← e1 ry f.2]
      exact .flat f1 (flM_V ry f.2).1
    · rw [if_neg f] at h
      dsimp only at h
      split at h
      · rename_i hs
        cases h
        cases x <;> cases y <;> simp [sameR] at hs
        subst hs
        simp only [VR] at rx ry
        obtain ⟨a, rfl, ha⟩ := rx
        obtain ⟨c, rfl, hc⟩ := ry
        rw [ha] at hc; cases hc
        exact .same
      · exact (mEqS_sound hr (fun h a b => ih h a b) h rx ry).2
theorem mRc_sound (hr : HR K G ρ H mh) {x y : MV} {v w : V} {b : Bool} (h : mRc mh x y = some b) (rx : VR K G ρ H x v) (ry : VR K G ρ H y w) : RcW K H DEP v w b := by
  unfold mRc at h
  split at h
  · simp only [VR] at rx ry; subst rx ry
    cases h
    rename_i p q
    have : decide (p = q) = decide (V.byt p = V.byt q) := by simp
    rw [this]
    exact .sc rfl
  · split at h
    · rename_i f
      cases h
      have hh : scal v w = true ∧ eqF x y = decide (v = w) := by
        cases x <;> simp [scM, flM] at f <;> cases y <;> simp [scM, flM] at f <;> simp only [VR] at rx ry <;> subst rx ry <;> first
          | exact ⟨rfl, by simp [eqF, Bool.beq_eq_decide_eq]⟩
          | exact ⟨rfl, by simp [eqF]⟩
      rw [hh.2]
      exact .sc hh.1
    · exact (mEqS_sound hr (fun h a b => mEq_sound hr h a b) h rx ry).1
end
end Mo
/-! Mo4: expressions: combinators of the model and their rules. -/
namespace Mo
open PySem L2

abbrev SZ : Nat := 16777216
theorem SZ_eq : sizeLine = SZ := sizeLine_eq
abbrev OV := Option (MV × MH)
def lift : OV → Rz MV
  | some (v, h) => .ok v h
  | none => .no
def eC (v : MV) : ME := fun _ h => .ok v h
def eV (i : Nat) : ME := fun s h => match s[i]? with
  | some (some v) => .ok v h
  | _ => .no
def e1 (f : MV → MH → OV) (a : ME) : ME := fun s h => (a s h).bnd fun x h1 => lift (f x h1)
def e2 (f : MV → MV → MH → OV) (a b : ME) : ME := fun s h => (a s h).bnd fun x h1 => (b s h1).bnd fun y h2 => lift (f x y h2)
def eA (f : List MV → MH → OV) (as : MEs) : ME := fun s h => (as s h).bnd fun xs h1 => lift (f xs h1)
def eM (f : MV → List MV → MH → OV) (a : ME) (as : MEs) : ME := fun s h => (a s h).bnd fun x h1 => (as s h1).bnd fun xs h2 => lift (f x xs h2)
def aNil : MEs := fun _ h => .ok [] h
def aCons (a : ME) (r : MEs) : MEs := fun s h => (a s h).bnd fun x h1 => (r s h1).bnd fun xs h2 => .ok (x :: xs) h2
def eIf (c : MB) (a b : ME) : ME := fun s h => (c s h).bnd fun k h1 => if k = true then a s h1 else b s h1
def asB (v : MV) : Option Bool := match v with | .bl b => some b | _ => none
def bB (a : ME) : MB := fun s h => (a s h).bnd fun x h1 => match asB x with
  | some b => .ok b h1
  | none => .no
def tru (h : MH) : MV → Option Bool
  | .non => some false
  | .bl b => some b
  | .int i => some (i != 0)
  | .str x => if x.length ≤ SZ then some ((x.length : Int) != 0) else none
  | .ref i => match h[i]? with
    | some (.lst xs) => some (!xs.isEmpty)
    | some (.dk kvs) => some (!kvs.isEmpty)
    | _ => none
  | .tup xs => some (!xs.isEmpty)
  | .ktp xs => some (!xs.isEmpty)
  | _ => none
def bT (a : ME) : MB := fun s h => (a s h).bnd fun x h1 => match tru h1 x with
  | some b => .ok b h1
  | none => .no
def bAnd (a b : MB) : MB := fun s h => (a s h).bnd fun k h1 => if k = true then b s h1 else .ok false h1
def bOr (a b : MB) : MB := fun s h => (a s h).bnd fun k h1 => if k = true then .ok true h1 else b s h1
def bNot (a : MB) : MB := fun s h => (a s h).bnd fun k h1 => .ok (!k) h1
def eAnd (a b : ME) : ME := fun s h => (a s h).bnd fun x h1 => match asB x with
  | some k => if k = true then b s h1 else .ok (.bl false) h1
  | none => .no
def eOr (a b : ME) : ME := fun s h => (a s h).bnd fun x h1 => match asB x with
  | some k => if k = true then .ok (.bl true) h1 else b s h1
  | none => .no
def eNot (a : ME) : ME := fun s h => (a s h).bnd fun x h1 => match asB x with
  | some k => .ok (.bl (!k)) h1
  | none => .no

section
variable {X : Cx} {G : String → Option V} {W : WX} {a b c : Expr} {ma mb mc : ME} {pos : Pos} {σ : St} {H : Hp} {Q : VK} {ρ : List Addr} {mh : MH}
/-- the value of an operation on values -/
theorem ro_lift {P : MV → List Addr → Hp → Prop} {o : OV} (h : RO X.K G W σ P ρ H (lift o)) : ∃ v h1, o = some (v, h1) ∧ ∀ ρ1 H1, Ext X.K ρ H ρ1 H1 → HR X.K G ρ1 H1 h1 → P v ρ1 H1 := by
  cases o with
  | none => exact False.elim h
  | some p => exact ⟨p.1, p.2, rfl, h⟩

theorem m_var {i : Nat} {x : Str} (h : PE X (.Name x pos) (tVar i)) : PE X (.Name x pos) (RE X.K G W (eV i)) := pe_imp h fun σ H Q ⟨ρ, sm, mh, r, q⟩ => by
  unfold eV at q
  cases e : sm[i]? with
  | none => rw [e] at q; exact False.elim q
  | some o =>
    cases o with
    | none => rw [e] at q; exact False.elim q
    | some v =>
      rw [e] at q
      obtain ⟨w, h1, h2⟩ := r.sr.2 i v e
      exact ⟨w, h1, q.ok r.hr w h2⟩
theorem m_const {v : MV} {w : V} (h : PE X a (tC w)) (hv : ∀ ρ H, VR X.K G ρ H v w) : PE X a (RE X.K G W (eC v)) := pe_imp h fun σ H Q ⟨ρ, sm, mh, r, q⟩ => q.ok r.hr w (hv ρ H)
theorem m_int {i : Int} {j} : PE X (.Constant (.int i) j pos) (RE X.K G W (eC (.int i))) := m_const pe_int fun _ _ => by simp [VR]
theorem m_bl {i : Bool} {j} : PE X (.Constant (.bool i) j pos) (RE X.K G W (eC (.bl i))) := m_const pe_bl fun _ _ => by simp [VR]
theorem m_non {j} : PE X (.Constant .none j pos) (RE X.K G W (eC .non)) := m_const pe_non fun _ _ => by simp [VR]
theorem m_str {x : Str} {j} : PE X (.Constant (.str x) j pos) (RE X.K G W (eC (.str x))) := m_const pe_str fun _ _ => by simp [VR]

/-! ### two values -/
def R2S (K : PySem.W.Frag) (G : String → Option V) (r : R2) (f : MV → MV → MH → OV) : Prop :=
  ∀ {ρ : List Addr} {H : Hp} {mh mh1 : MH} {x y z : MV} {v w : V} {Q : VK}, HR K G ρ H mh → VR K G ρ H x v → VR K G ρ H y w → f x y mh = some (z, mh1) →
    (∀ ρ1 H1, Ext K ρ H ρ1 H1 → HR K G ρ1 H1 mh1 → ∀ v1, VR K G ρ1 H1 z v1 → Q v1 H1) → r v w H Q
theorem op_re {r : R2} {f : MV → MV → MH → OV} (hs : R2S X.K G r f) (σ : St) (H : Hp) (Q : VK) (h : RE X.K G W (e2 f ma mb) σ H Q) : tOp r (RE X.K G W ma) (RE X.K G W mb) σ H Q := by
  obtain ⟨ρ, sm, mh, r0, q⟩ := h
  refine re_bnd r0 q fun x ρ1 H1 mh1 v x1 r1 rv q1 => ?_
  refine re_bnd r1 q1 fun y ρ2 H2 mh2 w x2 r2 rw' q2 => ?_
  obtain ⟨z, h1, e, k⟩ := ro_lift q2
  exact hs r2.hr (rv.ext x2) rw' e k
theorem m_op {op : Operator} {r : R2} {f : MV → MV → MH → OV} (ho : OpR X (binaryOp op) r) (hs : R2S X.K G r f) (ha : PE X a (RE X.K G W ma)) (hb : PE X b (RE X.K G W mb)) : PE X (.BinOp a op b pos) (RE X.K G W (e2 f ma mb)) :=
  pe_imp (pe_op ho ha hb) (op_re hs)
theorem m_cmp {op : CmpOp} {r : R2} {f : MV → MV → MH → OV} (ho : OpR X (compareOp op) r) (hs : R2S X.K G r f) (ha : PE X a (RE X.K G W ma)) (hb : PE X b (RE X.K G W mb)) (hm : behindInMarks op b = false) : PE X (.Compare a [op] [b] pos) (RE X.K G W (e2 f ma mb)) :=
  pe_imp (pe_cmpR ho ha hb hm) (op_re hs)
theorem bB_re {m : ME} (σ : St) (H : Hp) (Q : Bool → Hp → Prop) (h : RT X.K G W (bB m) σ H Q) : RE X.K G W m σ H fun x H' => ∃ k, x = .bl k ∧ Q k H' := by
  obtain ⟨ρ, sm, mh, r0, q⟩ := h
  refine re_bnd r0 q fun x ρ1 H1 mh1 v x1 r1 rv q1 => ?_
  cases x with
  | bl k => simp only [VR] at rv; exact ⟨k, rv, RO.ok (P := PB Q) q1 r1.hr⟩
  | _ => exact False.elim q1
theorem m_cmpT {op : CmpOp} {r : R2} {f : MV → MV → MH → OV} (ho : OpR X (compareOp op) r) (hs : R2S X.K G r f) (ha : PE X a (RE X.K G W ma)) (hb : PE X b (RE X.K G W mb)) (hm : behindInMarks op b = false) : PT X (.Compare a [op] [b] pos) (RT X.K G W (bB (e2 f ma mb))) := by
  refine pt_imp (pt_cmpR ho ha hb hm) fun σ H Q h => ?_
  have h' := bB_re σ H Q h
  exact op_re hs σ H _ h'
/-- any other expression as a test -/
theorem m_truth {m : ME} (ha : PE X a (RE X.K G W m)) (he : ∀ whole, isTrue a X.env whole = (do let v ← whole; standAt a.pos; holding [v] (truthy v))) : PT X a (RT X.K G W (bT m)) := by
  refine pt_imp (pt_truth ha he) fun σ H Q ⟨ρ, sm, mh, r0, q⟩ => ?_
  refine re_bnd r0 q fun x ρ1 H1 mh1 v x1 r1 rv q1 => ?_
  cases e : tru mh1 x with
  | none => rw [e] at q1; exact False.elim q1
  | some k =>

    rw [e] at q1
    refine ⟨k, ?_, RO.ok (P := PB Q) q1 r1.hr⟩
    cases x with
    | non => simp only [VR] at rv; subst rv; simp [tru] at e; exact e
    | bl b => simp only [VR] at rv; subst rv; simp [tru] at e; exact e.symm
    | int i => simp only [VR] at rv; subst rv; simp only [tru, Option.some.injEq] at e; exact e.symm
    | str y =>
      simp only [VR] at rv; subst rv
      simp only [tru] at e
      split at e
      · rename_i hy
        exact ⟨by rw [SZ_eq]; exact hy, (Option.some.inj e).symm⟩
      · simp at e
    | tup xs =>
      obtain ⟨p, vs, rfl, h1, h2⟩ := rv.tup rfl
      simp only [tru, Option.some.injEq] at e
      refine .inr (.inl ⟨vs, h1, ?_⟩)
      rw [← e]
      have := h2.length
      cases xs <;> cases vs <;> simp at this <;> rfl
    | ktp xs =>
      obtain ⟨p, vs, rfl, h1, h2⟩ := rv.tup rfl
      simp only [tru, Option.some.injEq] at e
      refine .inr (.inl ⟨vs, h1, ?_⟩)
      rw [← e]
      have := h2.length
      cases xs <;> cases vs <;> simp at this <;> rfl
    | ref i =>
      simp only [tru] at e
      split at e
      · rename_i xs q2
        obtain ⟨p, vs, rfl, _, h1, h2⟩ := r1.hr.lst q2 rv
        refine .inl ⟨vs, SqL.of h1, ?_⟩
        rw [← Option.some.inj e]
        have := h2.length
        cases xs <;> cases vs <;> simp at this <;> rfl
      · rename_i kvs q2
        simp only [VR] at rv
        obtain ⟨p, rfl, hp⟩ := rv
        obtain ⟨vs, h1, h2⟩ := r1.hr.get q2 hp
        refine .inr (.inr ⟨vs, h1, ?_⟩)
        rw [← Option.some.inj e]
        cases kvs with
        | nil => simp only [KRs] at h2; subst h2; rfl
        | cons p r => simp only [KRs] at h2; obtain ⟨_, _, rfl, _⟩ := h2; rfl
      · simp at e
    | _ => simp [tru] at e
/-! ### and, or, not -/
theorem rt_if {ta tb : MB} {op : Bool} : True := trivial
variable {tA tB : MB} {rest : List Expr}
theorem m_and1 (ha : PT X a (RT X.K G W tA)) : PW X (.BoolOp .And [a] pos) (RT X.K G W tA) := pw_and1 ha
theorem m_or1 (ha : PT X a (RT X.K G W tA)) : PW X (.BoolOp .Or [a] pos) (RT X.K G W tA) := pw_or1 ha
theorem pw_imp {e : Expr} {t t' : TT} (h : PW X e t) (i : ∀ σ H Q, t' σ H Q → t σ H Q) : PW X e t' := ⟨fun wh pins s σ H Q I q => h.run wh pins s σ H Q I (i σ H Q q)⟩
theorem m_and (ha : PT X a (RT X.K G W tA)) (hb : PW X (.BoolOp .And (b :: rest) pos) (RT X.K G W tB)) : PW X (.BoolOp .And (a :: b :: rest) pos) (RT X.K G W (bAnd tA tB)) := by
  refine pw_imp (pw_and ha hb) fun σ H Q ⟨ρ, sm, mh, r0, q⟩ => ?_
  refine rt_bnd r0 q fun k ρ1 H1 mh1 x1 r1 q1 => ?_
  cases k with
  | true => rw [if_pos rfl] at q1 ⊢; exact ⟨_, _, _, r1, q1⟩
  | false => rw [if_neg Bool.false_ne_true] at q1 ⊢; exact RO.ok (P := PB Q) q1 r1.hr
theorem m_or (ha : PT X a (RT X.K G W tA)) (hb : PW X (.BoolOp .Or (b :: rest) pos) (RT X.K G W tB)) : PW X (.BoolOp .Or (a :: b :: rest) pos) (RT X.K G W (bOr tA tB)) := by
  refine pw_imp (pw_or ha hb) fun σ H Q ⟨ρ, sm, mh, r0, q⟩ => ?_
  refine rt_bnd r0 q fun k ρ1 H1 mh1 x1 r1 q1 => ?_
  cases k with
  | true => rw [if_pos rfl] at q1 ⊢; exact RO.ok (P := PB Q) q1 r1.hr
  | false => rw [if_neg Bool.false_ne_true] at q1 ⊢; exact ⟨_, _, _, r1, q1⟩
theorem m_not (ha : PT X a (RT X.K G W tA)) : PT X (.UnaryOp .Not a pos) (RT X.K G W (bNot tA)) := by
  refine pt_imp (pt_not ha) fun σ H Q ⟨ρ, sm, mh, r0, q⟩ => ?_
  exact rt_bnd r0 q fun k ρ1 H1 mh1 x1 r1 q1 => RO.ok (P := PB Q) q1 r1.hr
theorem m_eone {op} {m : ME} (h : PE X a (RE X.K G W m)) : PE X (.BoolOp op [a] pos) (RE X.K G W m) := pe_one h
theorem m_eand (ha : PE X a (RE X.K G W ma)) (hb : PE X (.BoolOp .And (b :: rest) pos) (RE X.K G W mb)) : PE X (.BoolOp .And (a :: b :: rest) pos) (RE X.K G W (eAnd ma mb)) := by
  refine pe_imp (pe_and ha hb) fun σ H Q ⟨ρ, sm, mh, r0, q⟩ => ?_
  refine re_bnd r0 q fun x ρ1 H1 mh1 v x1 r1 rv q1 => ?_
  cases x with
  | bl k =>
    simp only [VR] at rv
    refine ⟨k, rv, ?_⟩
    cases k with
    | true => rw [if_pos rfl]; exact ⟨_, _, _, r1, q1⟩
    | false => rw [if_neg Bool.false_ne_true]; exact RO.ok (P := PV X.K G Q) q1 r1.hr _ (by simp [VR])
  | _ => exact False.elim q1
theorem m_eor (ha : PE X a (RE X.K G W ma)) (hb : PE X (.BoolOp .Or (b :: rest) pos) (RE X.K G W mb)) : PE X (.BoolOp .Or (a :: b :: rest) pos) (RE X.K G W (eOr ma mb)) := by
  refine pe_imp (pe_or ha hb) fun σ H Q ⟨ρ, sm, mh, r0, q⟩ => ?_
  refine re_bnd r0 q fun x ρ1 H1 mh1 v x1 r1 rv q1 => ?_
  cases x with
  | bl k =>
    simp only [VR] at rv
    refine ⟨k, rv, ?_⟩
    cases k with
    | true => rw [if_pos rfl]; exact RO.ok (P := PV X.K G Q) q1 r1.hr _ (by simp [VR])
    | false => rw [if_neg Bool.false_ne_true]; exact ⟨_, _, _, r1, q1⟩
  | _ => exact False.elim q1
theorem m_enot (ha : PE X a (RE X.K G W ma)) : PE X (.UnaryOp .Not a pos) (RE X.K G W (eNot ma)) := by
  refine pe_imp (pe_not ha) fun σ H Q ⟨ρ, sm, mh, r0, q⟩ => ?_
  refine re_bnd r0 q fun x ρ1 H1 mh1 v x1 r1 rv q1 => ?_
  cases x with
  | bl k =>
    simp only [VR] at rv
    exact ⟨k, rv, RO.ok (P := PV X.K G Q) q1 r1.hr _ (by simp [VR])⟩
  | _ => exact False.elim q1
theorem m_ifExp {mt : MB} (hc : PT X c (RT X.K G W mt)) (ha : PE X a (RE X.K G W ma)) (hb : PE X b (RE X.K G W mb)) : PE X (.IfExp c a b pos) (RE X.K G W (eIf mt ma mb)) := by
  refine pe_imp (pe_ifExp hc ha hb) fun σ H Q ⟨ρ, sm, mh, r0, q⟩ => ?_
  refine rt_bnd r0 q fun k ρ1 H1 mh1 x1 r1 q1 => ?_
  cases k with
  | true => rw [if_pos rfl] at q1 ⊢; exact ⟨_, _, _, r1, q1⟩
  | false => rw [if_neg Bool.false_ne_true] at q1 ⊢; exact ⟨_, _, _, r1, q1⟩
end

/-! ### arguments -/
section
variable {X : Cx} {G : String → Option V} {W : WX} {e : Expr} {es : List Expr} {m : ME} {ms : MEs} {pos : Pos}
theorem m_anil : PA X [] (RA X.K G W aNil) := pa_imp pa_nil fun σ H Q ⟨ρ, sm, mh, r, q⟩ => RO.ok (P := PVs X.K G Q) q r.hr _ VRs.nil
theorem m_acons (ha : PE X e (RE X.K G W m)) (hr : PA X es (RA X.K G W ms)) (hs : starEach (e :: es) X.env = (false, eval e X.env) :: starEach es X.env := by rfl) : PA X (e :: es) (RA X.K G W (aCons m ms)) := by
  refine pa_imp (pa_cons ha hr hs) fun σ H Q ⟨ρ, sm, mh, r0, q⟩ => ?_
  refine re_bnd r0 q fun x ρ1 H1 mh1 v x1 r1 rv q1 => ?_
  exact ra_bnd r1 q1 fun xs ρ2 H2 mh2 vs x2 r2 rvs q2 => RO.ok (P := PVs X.K G Q) q2 r2.hr _ (VRs.cons (rv.ext x2) rvs)
end

/-! ### new lists, tuples -/
def fLst (xs : List MV) (h : MH) : OV := if xs.length ≤ SZ then some (.ref h.length, h ++ [.lst xs]) else none
def fTup (xs : List MV) (h : MH) : OV := if xs.length ≤ SZ then some (.tup xs, h) else none
section
variable {X : Cx} {G : String → Option V} {W : WX} {e : Expr} {es : List Expr} {m : ME} {ms : MEs} {pos : Pos} {ρ : List Addr} {H : Hp} {mh : MH}
/-- a new list -/
theorem new_lst {K : PySem.W.Frag} {xs : List MV} {vs : List V} {p : Addr} (hr : HR K G ρ H mh) (r : VRs K G ρ H xs vs) (hp : H p = none) :
    HR K G (ρ ++ [p]) (upd H p (.lst vs)) (mh ++ [.lst xs]) ∧ Ext K ρ H (ρ ++ [p]) (upd H p (.lst vs)) ∧ VR K G (ρ ++ [p]) (upd H p (.lst vs)) (.ref mh.length) (.ref p) := by
  have x : Ext K ρ H (ρ ++ [p]) (upd H p (.lst vs)) := ext_new hp
  obtain ⟨h1, h2⟩ := hr.new (u := .lst vs) (o := .lst xs) hp ⟨vs, upd_same, r.ext x⟩
  exact ⟨h1, h2, by simp only [VR]; exact ⟨p, rfl, by rw [← hr.len]; simp⟩⟩
theorem m_lst (h : PA X es (RA X.K G W ms)) : PE X (.List es pos) (RE X.K G W (eA fLst ms)) := by
  refine pe_imp (pe_lst h) fun σ H Q ⟨ρ, sm, mh, r0, q⟩ => ?_
  refine ra_bnd r0 q fun xs ρ1 H1 mh1 vs x1 r1 rvs q1 => ?_
  obtain ⟨z, h1, e, k⟩ := ro_lift q1
  unfold fLst at e
  split at e
  · rename_i hl
    obtain ⟨rfl, rfl⟩ := Prod.mk.inj (Option.some.inj e)
    refine ⟨by rw [SZ_eq, ← rvs.length]; exact hl, fun p hp => ?_⟩
    obtain ⟨a1, a2, a3⟩ := new_lst r1.hr rvs hp
    exact k _ _ a2 a1 _ a3
  · cases e
theorem new_tup {K : PySem.W.Frag} {xs : List MV} {vs : List V} {p : Addr} (hr : HR K G ρ H mh) (r : VRs K G ρ H xs vs) (hp : H p = none) :
    HR K G ρ (upd H p (.tup vs)) mh ∧ Ext K ρ H ρ (upd H p (.tup vs)) ∧ VR K G ρ (upd H p (.tup vs)) (.tup xs) (.ref p) := by
  have x : Ext K ρ H ρ (upd H p (.tup vs)) := ext_new0 hp
  refine ⟨⟨hr.len, hr.nd, fun i o e => ?_⟩, x, by simp only [VR]; exact ⟨p, vs, rfl, upd_same, r.ext x⟩⟩
  obtain ⟨a, ha, q⟩ := hr.obj i o e
  refine ⟨a, ha, q.keep x fun u hu => ?_⟩
  rw [upd_ne (ne_of_none hu hp)]
  exact hu
theorem m_tup {x1} (h : PA X es (RA X.K G W ms)) : PE X (.Tuple es x1 pos) (RE X.K G W (eA fTup ms)) := by
  refine pe_imp (pe_tup h) fun σ H Q ⟨ρ, sm, mh, r0, q⟩ => ?_
  refine ra_bnd r0 q fun xs ρ1 H1 mh1 vs x1 r1 rvs q1 => ?_
  obtain ⟨z, h1, e, k⟩ := ro_lift q1
  unfold fTup at e
  split at e
  · rename_i hl
    obtain ⟨rfl, rfl⟩ := Prod.mk.inj (Option.some.inj e)
    refine ⟨by rw [SZ_eq, ← rvs.length]; exact hl, fun p hp => ?_⟩
    obtain ⟨a1, a2, a3⟩ := new_tup r1.hr rvs hp
    exact k _ _ a2 a1 _ a3
  · cases e
end
end Mo
/-! Mo5: operators on values. -/
namespace Mo
open PySem L2

/-! ### x in a list or tuple of data -/
section
variable {X : Cx}
def InW (K : PySem.W.Frag) (x y : V) (H : Hp) (r : Bool) : Prop := ∃ (p : Addr) (ys : List V) (bs : List Bool), y = .ref p ∧ (SqL K H p ys ∨ SqT K H p ys) ∧ bs.length = ys.length ∧
  (∀ (j : Nat) (y : V) (b : Bool), ys[j]? = some y → bs[j]? = some b → EqW K H 7 y x b) ∧ r = bs.any id
def rInM (K : PySem.W.Frag) (neg : Bool) : R2 := fun x y H Q => ∃ r, InW K x y H r ∧ Q (.bl (if neg then !r else r)) H
open Classical in
noncomputable def evU (ys : List V) (bs : List Bool) (u : Value) : Bool := decide (∃ (j : Nat) (y : V), ys[j]? = some y ∧ RelV y u ∧ bs[j]? = some true)
open Classical in
theorem any_evU {ys : List V} {bs : List Bool} {is : List Value} (r : Vals ys is) (hl : bs.length = ys.length) : is.any (evU ys bs) = bs.any id := by
  have l := r.length
  rw [Bool.eq_iff_iff, List.any_eq_true, List.any_eq_true]
  constructor
  · rintro ⟨u, hu, h⟩
    obtain ⟨j, y, h1, h2, h3⟩ := of_decide_eq_true h
    exact ⟨true, List.mem_of_getElem? h3, rfl⟩
  · rintro ⟨b, hb, h⟩
    have hb' : b = true := h
    subst hb'
    obtain ⟨j, hj, e⟩ := List.mem_iff_getElem.mp hb
    have h1 : ys[j]? = some ys[j] := List.getElem?_eq_getElem (by omega)
    obtain ⟨u, h2, h3⟩ := r.get h1
    exact ⟨u, List.mem_of_getElem? h2, decide_eq_true ⟨j, _, h1, h3, by rw [List.getElem?_eq_getElem hj, e]⟩⟩
open Classical in
theorem evU_at {pins : List (Addr × Obj)} {σ : St} {H : Hp} {s : Shared} {x : V} {v : Value} {ys : List V} {bs : List Bool} {is : List Value} (I : Inv X pins σ H s) (rx : RelV x v) (r : Vals ys is) (hl : bs.length = ys.length)
    (he : ∀ (j : Nat) (y : V) (b : Bool), ys[j]? = some y → bs[j]? = some b → EqW X.K H 7 y x b) {A : Around} (hu : A.units + 7 < cLine) : ∀ u ∈ is, SeqAt.EqAt A s u v (evU ys bs u) := fun u hm => by
  by_cases h : ∃ (j : Nat) (y : V), ys[j]? = some y ∧ RelV y u ∧ bs[j]? = some true
  · have e : evU ys bs u = true := decide_eq_true h
    rw [e]
    obtain ⟨j, y, h1, h2, h3⟩ := h
    exact (he j y true h1 h3).at I hu h2 rx
  · have e : evU ys bs u = false := decide_eq_false h
    rw [e]
    obtain ⟨j, hj, q⟩ := List.mem_iff_getElem.mp hm
    have l := r.length
    have h1 : ys[j]? = some ys[j] := List.getElem?_eq_getElem (by omega)
    obtain ⟨w, h2, h3⟩ := r.get h1
    rw [List.getElem?_eq_getElem hj, q] at h2
    cases h2
    have h4 : bs[j]? = some bs[j] := List.getElem?_eq_getElem (by omega)
    have h5 : bs[j] = false := by
      cases q : bs[j] with
      | false => rfl
      | true => exact absurd ⟨j, _, h1, h3, by rw [h4, q]⟩ h
    rw [h5] at h4
    exact (he j _ false h1 h4).at I hu h3 rx
theorem op_inM (hu : X.A.units + 64 < cLine) : OpR X (compareOp .In) (rInM X.K false) := by
  intro pins s σ H x y v u Q I rx ry h
  obtain ⟨r, ⟨p, ys, bs, rfl, hq, hl, he, rfl⟩, q⟩ := h
  cases ry
  rcases hq with hq | hq
  · obtain ⟨its, r, pl, hz⟩ := I.list hq
    refine SeqAt.in_listAt (evU ys bs) pl.isList (fun w hw => evU_at I rx r hl he (by show X.A.units + 1 + 7 < cLine; omega) w (by simpa using hw)) ⟨.bl _, H, I, rfl, ?_⟩
    rw [show its.toArray.any (evU ys bs) = its.any (evU ys bs) by simp, any_evU r hl]
    exact q
  · obtain ⟨its, r, pl, hz⟩ := I.tuple hq
    refine SeqAt.in_tupleAt (evU ys bs) pl (fun w hw => evU_at I rx r hl he (by show X.A.units + 1 + 7 < cLine; omega) w (by simpa using hw)) ⟨.bl _, H, I, rfl, ?_⟩
    rw [show its.toArray.any (evU ys bs) = its.any (evU ys bs) by simp, any_evU r hl]
    exact q
theorem op_notInM (hu : X.A.units + 64 < cLine) : OpR X (compareOp .NotIn) (rInM X.K true) := by
  intro pins s σ H x y v u Q I rx ry h
  obtain ⟨r, ⟨p, ys, bs, rfl, hq, hl, he, rfl⟩, q⟩ := h
  cases ry
  rcases hq with hq | hq
  · obtain ⟨its, r, pl, hz⟩ := I.list hq
    refine SeqAt.notIn_listAt (evU ys bs) pl.isList (fun w hw => evU_at I rx r hl he (by show X.A.units + 1 + 7 < cLine; omega) w (by simpa using hw)) ⟨.bl _, H, I, rfl, ?_⟩
    rw [show its.toArray.any (evU ys bs) = its.any (evU ys bs) by simp, any_evU r hl]
    exact q
  · obtain ⟨its, r, pl, hz⟩ := I.tuple hq
    refine SeqAt.notIn_tupleAt (evU ys bs) pl (fun w hw => evU_at I rx r hl he (by show X.A.units + 1 + 7 < cLine; omega) w (by simpa using hw)) ⟨.bl _, H, I, rfl, ?_⟩
    rw [show its.toArray.any (evU ys bs) = its.any (evU ys bs) by simp, any_evU r hl]
    exact q
end
/-- the items' answers -/
def insM (f : MV → Option Bool) : List MV → Option (List Bool)
  | [] => some []
  | y :: ys => match f y, insM f ys with
    | some b, some bs => some (b :: bs)
    | _, _ => none
def seqOf (h : MH) : MV → Option (List MV)
  | .ref i => match h[i]? with
    | some (.lst xs) => some xs
    | _ => none
  | .tup xs => some xs
  | .ktp xs => some xs
  | .frl xs => some xs
  | _ => none
def mIn (h : MH) (x y : MV) : Option Bool := match y with
  | .str z => match x with
    | .str c => match c.cps with
      | ⟨[n]⟩ => some (decide (n ∈ z.cps.toList))
      | _ => none
    | _ => none
  | y => match seqOf h y with
    | some ys => (insM (fun y => mEq 7 h y x) ys).map fun bs => bs.any id
    | none => none
section
variable {K : PySem.W.Frag} {G : String → Option V} {ρ : List Addr} {H : Hp} {mh : MH}
theorem seq_V (hr : HR K G ρ H mh) {y : MV} {v : V} {ys : List MV} (e : seqOf mh y = some ys) (r : VR K G ρ H y v) : ∃ p vs, v = .ref p ∧ (SqL K H p vs ∨ SqT K H p vs) ∧ VRs K G ρ H ys vs := by
  unfold seqOf at e
  split at e
  · split at e
    · rename_i q
      cases e
      obtain ⟨a, vs, rfl, _, h1, h2⟩ := hr.lst q r
      exact ⟨a, vs, rfl, .inl (SqL.of h1), h2⟩
    · cases e
  · cases e
    obtain ⟨a, vs, rfl, h1, h2⟩ := r.tup rfl
    exact ⟨a, vs, rfl, .inr h1, h2⟩
  · cases e
    obtain ⟨a, vs, rfl, h1, h2⟩ := r.tup rfl
    exact ⟨a, vs, rfl, .inr h1, h2⟩
  · cases e
    simp only [VR] at r
    obtain ⟨a, vs, rfl, h1, h2⟩ := r
    exact ⟨a, vs, rfl, .inl h1.sq, h2⟩
  · cases e
theorem insM_sound {f : MV → Option Bool} {P : V → Bool → Prop} (hf : ∀ {y v b}, f y = some b → VR K G ρ H y v → P v b) : ∀ {ys : List MV} {vs : List V} {bs : List Bool}, insM f ys = some bs → VRs K G ρ H ys vs →
    bs.length = vs.length ∧ ∀ (j : Nat) (y : V) (b : Bool), vs[j]? = some y → bs[j]? = some b → P y b
  | [], _, _, h, r => by simp only [VRs] at r; subst r; cases h; exact ⟨rfl, fun j y b e => by simp at e⟩
  | y :: ys, _, bs, h, r => by
    simp only [VRs] at r
    obtain ⟨v, vs, rfl, q, t⟩ := r
    simp only [insM] at h
    cases h1 : f y with
    | none => rw [h1] at h; simp at h
    | some a =>
      cases h2 : insM f ys with
      | none => rw [h1, h2] at h; simp at h
      | some cs =>
        rw [h1, h2] at h
        cases h
        obtain ⟨i1, i2⟩ := insM_sound hf h2 t
        refine ⟨by simp [i1], fun j y' b e1 e2 => ?_⟩
        cases j with
        | zero => simp at e1 e2; subst e1 e2; exact hf h1 q
        | succ j => simp at e1 e2; exact i2 j _ _ e1 e2
end

/-! ### functions on values -/
def ob (b : Option Bool) (h : MH) : OV := b.map fun b => (.bl b, h)
def fAdd (x y : MV) (h : MH) : OV := match x, y with
  | .int i, .int j => some (.int (i + j), h)
  | .str a, .str b => if a.length + b.length ≤ SZ then some (.str (a ++ b), h) else none
  | .ref i, .ref j => match h[i]?, h[j]? with
    | some (.lst xs), some (.lst ys) => if xs.length + ys.length ≤ SZ then some (.ref h.length, h ++ [.lst (xs ++ ys)]) else none
    | _, _ => none
  | _, _ => none
def fSub (x y : MV) (h : MH) : OV := match x, y with
  | .int i, .int j => some (.int (i - j), h)
  | _, _ => none
def fMul (x y : MV) (h : MH) : OV := match x, y with
  | .int i, .int j => if (-(2 ^ 64) < i ∧ i < 2 ^ 64) ∨ (-(2 ^ 64) < j ∧ j < 2 ^ 64) then some (.int (i * j), h) else none
  | _, _ => none
def fMod (x y : MV) (h : MH) : OV := match x, y with
  | .int i, .int j => if 0 < j then some (.int (i % j), h) else none
  | _, _ => none
def fDiv (x y : MV) (h : MH) : OV := match x, y with
  | .int i, .int j => if 0 < j ∧ j < 1073741824 then some (.int (i / j), h) else none
  | _, _ => none
def fPow (x y : MV) (h : MH) : OV := match x, y with
  | .int i, .int j => if 0 ≤ j ∧ j ≤ 1000000 ∧ i.natAbs < 2 ^ 64 then some (.int (i ^ j.toNat), h) else none
  | _, _ => none
def fNeg (x : MV) (h : MH) : OV := match x with
  | .int i => some (.int (-i), h)
  | _ => none
def fEq (x y : MV) (h : MH) : OV := ob (mRc h x y) h
def fNe (x y : MV) (h : MH) : OV := ob ((mRc h x y).map not) h
def fIn (x y : MV) (h : MH) : OV := ob (mIn h x y) h
def fNotIn (x y : MV) (h : MH) : OV := ob ((mIn h x y).map not) h
def fCmp (p : Int → Int → Bool) (x y : MV) (h : MH) : OV := match x, y with
  | .int i, .int j => some (.bl (p i j), h)
  | _, _ => none
abbrev fLt := fCmp fun i j => decide (i < j)
abbrev fLe := fCmp fun i j => decide (i ≤ j)
abbrev fGt := fCmp fun i j => decide (j < i)
abbrev fGe := fCmp fun i j => decide (j ≤ i)
def isN : MV → Bool | .non => true | _ => false
def fIsN (x y : MV) (h : MH) : OV := match y with
  | .non => some (.bl (isN x), h)
  | _ => none
def fNotN (x y : MV) (h : MH) : OV := match y with
  | .non => some (.bl (!isN x), h)
  | _ => none

section
variable {X : Cx} {G : String → Option V}
theorem s_add : R2S X.K G (fun x y H Q => (rI0 fun i j => .int (i + j)) x y H Q ∨ (fun x y H Q => ∃ i j, x = .str i ∧ y = .str j ∧ i.length + j.length ≤ sizeLine ∧ Q (.str (i ++ j)) H : R2) x y H Q ∨ rCat x y H Q) fAdd := by
  intro ρ H mh mh1 x y z v w Q hr rx ry e k
  unfold fAdd at e
  split at e
  · simp only [VR] at rx ry; subst rx ry; cases e
    exact .inl ⟨_, _, rfl, rfl, k _ _ Ext.refl hr _ (by simp [VR])⟩
  · split at e
    · simp only [VR] at rx ry; subst rx ry; cases e
      rename_i hz
      exact .inr (.inl ⟨_, _, rfl, rfl, by rw [SZ_eq]; exact hz, k _ _ Ext.refl hr _ (by simp [VR])⟩)
    · cases e
  · split at e
    · split at e
      · rename_i e1 e2 hz
        cases e
        obtain ⟨a, vs, rfl, _, h1, r1⟩ := hr.lst e1 rx
        obtain ⟨b, ws, rfl, _, h2, r2⟩ := hr.lst e2 ry
        refine .inr (.inr ⟨_, _, _, _, rfl, rfl, h1, h2, by rw [SZ_eq, ← r1.length, ← r2.length]; exact hz, fun p hp => ?_⟩)
        obtain ⟨a1, a2, a3⟩ := new_lst hr (r1.append r2) hp
        exact k _ _ a2 a1 _ a3
      · cases e
    · cases e
  · cases e
theorem o_add : OpR X (binaryOp .Add) (fun x y H Q => (rI0 fun i j => .int (i + j)) x y H Q ∨ (fun x y H Q => ∃ i j, x = .str i ∧ y = .str j ∧ i.length + j.length ≤ sizeLine ∧ Q (.str (i ++ j)) H : R2) x y H Q ∨ rCat x y H Q) := op_add.or (op_add_str.or op_cat)
theorem s_ints {C : Int → Int → Prop} {g : Int → Int → Int} {f : MV → MV → MH → OV} (hf : ∀ x y h z h1, f x y h = some (z, h1) → ∃ i j, x = .int i ∧ y = .int j ∧ C i j ∧ z = .int (g i j) ∧ h1 = h) : R2S X.K G (rI C fun i j => .int (g i j)) f := by
  intro ρ H mh mh1 x y z v w Q hr rx ry e k
  obtain ⟨i, j, rfl, rfl, hc, rfl, rfl⟩ := hf _ _ _ _ _ e
  simp only [VR] at rx ry; subst rx ry
  exact ⟨_, _, rfl, rfl, hc, k _ _ Ext.refl hr _ (by simp [VR])⟩
theorem s_sub : R2S X.K G (rI0 fun i j => .int (i - j)) fSub := by
  intro ρ H mh mh1 x y z v w Q hr rx ry e k
  unfold fSub at e
  split at e
  · simp only [VR] at rx ry; subst rx ry; cases e
    exact ⟨_, _, rfl, rfl, k _ _ Ext.refl hr _ (by simp [VR])⟩
  · cases e
theorem s_mul : R2S X.K G (rI CMul fun i j => .int (i * j)) fMul := s_ints fun x y h z h1 e => by
  unfold fMul at e
  split at e
  · split at e
    · rename_i hc; cases e; exact ⟨_, _, rfl, rfl, hc, rfl, rfl⟩
    · cases e
  · cases e
theorem s_mod : R2S X.K G (rI (fun _ j => 0 < j) fun i j => .int (i % j)) fMod := s_ints fun x y h z h1 e => by
  unfold fMod at e
  split at e
  · split at e
    · rename_i hc; cases e; exact ⟨_, _, rfl, rfl, hc, rfl, rfl⟩
    · cases e
  · cases e
theorem s_div : R2S X.K G (rI CDiv fun i j => .int (i / j)) fDiv := s_ints fun x y h z h1 e => by
  unfold fDiv at e
  split at e
  · split at e
    · rename_i hc; cases e; exact ⟨_, _, rfl, rfl, hc, rfl, rfl⟩
    · cases e
  · cases e
theorem s_pow : R2S X.K G (rI CPow fun i j => .int (i ^ j.toNat)) fPow := s_ints fun x y h z h1 e => by
  unfold fPow at e
  split at e
  · split at e
    · rename_i hc; cases e; exact ⟨_, _, rfl, rfl, hc, rfl, rfl⟩
    · cases e
  · cases e
theorem s_cmp {p : Int → Int → Bool} : R2S X.K G (rI0 fun i j => .bl (p i j)) (fCmp p) := by
  intro ρ H mh mh1 x y z v w Q hr rx ry e k
  unfold fCmp at e
  split at e
  · simp only [VR] at rx ry; subst rx ry; cases e
    exact ⟨_, _, rfl, rfl, k _ _ Ext.refl hr _ (by simp [VR])⟩
  · cases e
theorem s_eq : R2S X.K G (rEqM X.K) fEq := by
  intro ρ H mh mh1 x y z v w Q hr rx ry e k
  unfold fEq ob at e
  cases h : mRc mh x y with
  | none => rw [h] at e; cases e
  | some b =>
    rw [h] at e; cases e
    exact ⟨b, mRc_sound hr h rx ry, k _ _ Ext.refl hr _ (by simp [VR])⟩
theorem s_ne : R2S X.K G (rNeM X.K) fNe := by
  intro ρ H mh mh1 x y z v w Q hr rx ry e k
  unfold fNe ob at e
  cases h : mRc mh x y with
  | none => rw [h] at e; cases e
  | some b =>
    rw [h] at e; cases e
    exact ⟨b, mRc_sound hr h rx ry, k _ _ Ext.refl hr _ (by simp [VR])⟩
theorem mIn_sound {K : PySem.W.Frag} {ρ : List Addr} {H : Hp} {mh : MH} {x y : MV} {v w : V} {b : Bool} (hr : HR K G ρ H mh) (e : mIn mh x y = some b) (rx : VR K G ρ H x v) (ry : VR K G ρ H y w) :
    (∃ (c : Nat) (z : Str), v = .str ⟨#[c]⟩ ∧ w = .str z ∧ b = decide (c ∈ z.cps.toList)) ∨ InW K v w H b := by
  unfold mIn at e
  split at e
  · split at e
    · split at e
      · rename_i z0 c n hn
        cases e
        simp only [VR] at rx ry
        subst ry
        refine .inl ⟨n, _, ?_, rfl, rfl⟩
        rw [rx]
        cases z0 with
        | mk cps =>
          have hn' : cps = #[n] := hn
          rw [hn']
      · cases e
    · cases e
  · split at e
    · rename_i ys hs
      cases hi : insM (fun y => mEq 7 mh y x) ys with
      | none => rw [hi] at e; cases e
      | some bs =>
        rw [hi] at e; cases e
        obtain ⟨p, vs, rfl, hq, r⟩ := seq_V hr hs ry
        obtain ⟨l, he⟩ := insM_sound (P := fun y b => EqW K H 7 y v b) (fun h r => mEq_sound hr h r rx) hi r
        exact .inr ⟨p, vs, bs, rfl, hq, l, he, rfl⟩
    · cases e
abbrev rInA (K : PySem.W.Frag) (neg : Bool) : R2 := fun x y H Q => (∃ (c : Nat) (z : Str), x = .str ⟨#[c]⟩ ∧ y = .str z ∧ Q (.bl (if neg then !decide (c ∈ z.cps.toList) else decide (c ∈ z.cps.toList))) H) ∨ rInM K neg x y H Q
theorem o_in (hu : X.A.units + 64 < cLine) : OpR X (compareOp .In) (rInA X.K false) := op_in_sign.or (op_inM hu)
theorem o_notIn (hu : X.A.units + 64 < cLine) : OpR X (compareOp .NotIn) (rInA X.K true) := op_notIn_sign.or (op_notInM hu)
theorem s_in : R2S X.K G (rInA X.K false) fIn := by
  intro ρ H mh mh1 x y z v w Q hr rx ry e k
  unfold fIn ob at e
  cases h : mIn mh x y with
  | none => rw [h] at e; cases e
  | some b =>
    rw [h] at e; cases e
    rcases mIn_sound hr h rx ry with ⟨c, z, rfl, rfl, rfl⟩ | q
    · exact .inl ⟨c, z, rfl, rfl, k _ _ Ext.refl hr _ (by simp [VR])⟩
    · exact .inr ⟨b, q, k _ _ Ext.refl hr _ (by simp [VR])⟩
theorem s_notIn : R2S X.K G (rInA X.K true) fNotIn := by
  intro ρ H mh mh1 x y z v w Q hr rx ry e k
  unfold fNotIn ob at e
  cases h : mIn mh x y with
  | none => rw [h] at e; cases e
  | some b =>
    rw [h] at e; cases e
    rcases mIn_sound hr h rx ry with ⟨c, z, rfl, rfl, rfl⟩ | q
    · exact .inl ⟨c, z, rfl, rfl, k _ _ Ext.refl hr _ (by simp [VR])⟩
    · exact .inr ⟨b, q, k _ _ Ext.refl hr _ (by simp [VR])⟩
theorem isN_V {K : PySem.W.Frag} {ρ : List Addr} {H : Hp} {x : MV} {v : V} (rx : VR K G ρ H x v) : isN x = decide (v = .non) := by
  cases x with
  | non => simp only [VR] at rx; subst rx; rfl
  | glo s => simp only [VR] at rx; obtain ⟨_, _, rfl⟩ := rx; simp [isN]
  | tup xs => obtain ⟨a, vs, rfl, _⟩ := rx.tup rfl; simp [isN]
  | ktp xs => obtain ⟨a, vs, rfl, _⟩ := rx.tup rfl; simp [isN]
  | frl xs => simp only [VR] at rx; obtain ⟨a, vs, rfl, _⟩ := rx; simp [isN]
  | ref i => simp only [VR] at rx; obtain ⟨a, rfl, _⟩ := rx; simp [isN]
  | bl _ => simp only [VR] at rx; subst rx; simp [isN]
  | int _ => simp only [VR] at rx; subst rx; simp [isN]
  | str _ => simp only [VR] at rx; subst rx; simp [isN]
  | byt _ => simp only [VR] at rx; subst rx; simp [isN]
  | ty _ => simp only [VR] at rx; subst rx; simp [isN]
  | exa _ _ _ => simp only [VR] at rx; obtain ⟨rfl, _⟩ := rx; simp [isN]
theorem s_isN : R2S X.K G (fun x y H Q => y = .non ∧ Q (.bl (decide (x = .non))) H) fIsN := by
  intro ρ H mh mh1 x y z v w Q hr rx ry e k
  unfold fIsN at e
  split at e
  · cases e
    simp only [VR] at ry
    refine ⟨ry, ?_⟩
    rw [← isN_V rx]
    exact k _ _ Ext.refl hr _ (by simp [VR])
  · cases e
theorem s_notN : R2S X.K G (fun x y H Q => y = .non ∧ Q (.bl (!decide (x = .non))) H) fNotN := by
  intro ρ H mh mh1 x y z v w Q hr rx ry e k
  unfold fNotN at e
  split at e
  · cases e
    simp only [VR] at ry
    refine ⟨ry, ?_⟩
    rw [← isN_V rx]
    exact k _ _ Ext.refl hr _ (by simp [VR])
  · cases e
end
end Mo
/-! Mo6: subscripts, slices, built-ins, calls of the text's own defs. -/
namespace Mo
open PySem L2

/-! ### dicts of the model -/
def keyM : MV → Option Key
  | .int i => some (.inl i)
  | .str x => some (.inr x)
  | _ => none
def keysM : List MV → Option (List Key)
  | [] => some []
  | x :: xs => match keyM x, keysM xs with
    | some k, some ks => some (k :: ks)
    | _, _ => none
def valM {κ : Type} [DecidableEq κ] (kvs : List (κ × MV)) (k : κ) : Option MV := (kvs.find? fun kv => decide (kv.1 = k)).map (·.2)
def putM {κ : Type} [DecidableEq κ] (kvs : List (κ × MV)) (k : κ) (v : MV) : List (κ × MV) :=
  if (kvs.any fun kv => decide (kv.1 = k)) = true then kvs.map (fun kv => if kv.1 = k then (kv.1, v) else kv) else kvs ++ [(k, v)]
section
variable {K : PySem.W.Frag} {G : String → Option V} {ρ : List Addr} {H : Hp} {mh : MH}
theorem keyM_V {x : MV} {v : V} {k : Key} (e : keyM x = some k) (r : VR K G ρ H x v) : v = kV k := by
  cases x <;> simp [keyM] at e <;> subst e <;> simp only [VR] at r <;> exact r
theorem keysM_V : ∀ {xs : List MV} {vs : List V} {ks : List Key}, keysM xs = some ks → VRs K G ρ H xs vs → vs = ks.map kV
  | [], _, _, e, r => by simp only [VRs] at r; subst r; cases e; rfl
  | x :: xs, _, ks, e, r => by
    simp only [VRs] at r
    obtain ⟨v, vs, rfl, q, t⟩ := r
    simp only [keysM] at e
    cases h1 : keyM x with
    | none => rw [h1] at e; simp at e
    | some a =>
      cases h2 : keysM xs with
      | none => rw [h1, h2] at e; simp at e
      | some b =>
        rw [h1, h2] at e; cases e
        rw [keyM_V h1 q, keysM_V h2 t]
        rfl
theorem KRs.length {κ : Type} : ∀ {xs : List (κ × MV)} {vs : List (κ × V)}, KRs K G ρ H id xs vs → xs.length = vs.length
  | [], _, h => by simp only [KRs] at h; subst h; rfl
  | x :: xs, _, h => by
    simp only [KRs] at h
    obtain ⟨v, r, rfl, _, t⟩ := h
    simp [KRs.length t]
theorem valM_V {κ : Type} [DecidableEq κ] {k : κ} : ∀ {xs : List (κ × MV)} {vs : List (κ × V)}, KRs K G ρ H id xs vs →
    (∀ x, valM xs k = some x → ∃ v, valV vs k = some v ∧ VR K G ρ H x v) ∧ (valM xs k = none → valV vs k = none)
  | [], _, h => by simp only [KRs] at h; subst h; exact ⟨fun x e => by simp [valM] at e, fun _ => rfl⟩
  | x :: xs, _, h => by
    simp only [KRs] at h
    obtain ⟨v, r, rfl, q, t⟩ := h
    obtain ⟨i1, i2⟩ := valM_V (k := k) t
    by_cases e : x.1 = k
    · have e1 : valM (x :: xs) k = some x.2 := by simp [valM, List.find?_cons, e]
      have e2 : valV ((id x.1, v) :: r) k = some v := valV_pos e
      rw [e1, e2]
      exact ⟨fun y h => by cases h; exact ⟨v, rfl, q⟩, fun h => by cases h⟩
    · have e1 : valM (x :: xs) k = valM xs k := by simp [valM, List.find?_cons, e]
      have e2 : valV ((id x.1, v) :: r) k = valV r k := valV_neg e
      rw [e1, e2]
      exact ⟨i1, i2⟩
theorem any_V {κ : Type} [DecidableEq κ] {k : κ} : ∀ {xs : List (κ × MV)} {vs : List (κ × V)}, KRs K G ρ H id xs vs → (xs.any fun kv => decide (kv.1 = k)) = (vs.any fun kv => decide (kv.1 = k))
  | [], _, h => by simp only [KRs] at h; subst h; rfl
  | x :: xs, _, h => by
    simp only [KRs] at h
    obtain ⟨v, r, rfl, q, t⟩ := h
    rw [List.any_cons, List.any_cons, any_V t]
    rfl
theorem map_V {κ : Type} [DecidableEq κ] {k : κ} {y : MV} {w : V} (hy : VR K G ρ H y w) : ∀ {xs : List (κ × MV)} {vs : List (κ × V)}, KRs K G ρ H id xs vs →
    KRs K G ρ H id (xs.map (fun kv => if kv.1 = k then (kv.1, y) else kv)) (vs.map (fun kv => if kv.1 = k then (kv.1, w) else kv))
  | [], _, h => by simp only [KRs] at h; subst h; rfl
  | x :: xs, _, h => by
    simp only [KRs] at h
    obtain ⟨v, r, rfl, q, t⟩ := h
    rw [List.map_cons, List.map_cons]
    refine ⟨if x.1 = k then w else v, _, ?_, ?_, map_V hy t⟩
    · by_cases e : x.1 = k
      · have e' : (id x.1, v).1 = k := e
        rw [if_pos e', if_pos e, if_pos e]
        first | done | rfl
      · have e' : ¬ (id x.1, v).1 = k := e
        rw [if_neg e', if_neg e, if_neg e]
        first | done | rfl
    · by_cases e : x.1 = k
      · rw [if_pos e, if_pos e]; exact hy
      · rw [if_neg e, if_neg e]; exact q
theorem KRs.append {κ κ' : Type} {j : κ → κ'} : ∀ {xs ys : List (κ × MV)} {vs ws : List (κ' × V)}, KRs K G ρ H j xs vs → KRs K G ρ H j ys ws → KRs K G ρ H j (xs ++ ys) (vs ++ ws)
  | [], _, _, _, h, k => by simp only [KRs] at h; subst h; exact k
  | x :: xs, _, _, _, h, k => by
    simp only [KRs] at h
    obtain ⟨v, r, rfl, q, t⟩ := h
    exact ⟨v, _, rfl, q, KRs.append t k⟩
theorem putM_V {κ : Type} [DecidableEq κ] {k : κ} {y : MV} {w : V} {xs : List (κ × MV)} {vs : List (κ × V)} (h : KRs K G ρ H id xs vs) (hy : VR K G ρ H y w) : KRs K G ρ H id (putM xs k y) (putK vs k w) := by
  unfold putM putK
  rw [any_V h]
  by_cases e : (vs.any fun kv => decide (kv.1 = k)) = true
  · rw [if_pos e, if_pos e]; exact map_V hy h
  · rw [if_neg e, if_neg e]; exact h.append ⟨w, [], rfl, hy, rfl⟩
theorem HR.dk (hr : HR K G ρ H mh) {i : Nat} {xs : List (Key × MV)} {v : V} (e : mh[i]? = some (.dk xs)) (r : VR K G ρ H (.ref i) v) : ∃ a vs, v = .ref a ∧ ρ[i]? = some a ∧ H a = some (.dK vs) ∧ KRs K G ρ H id xs vs := by
  simp only [VR] at r
  obtain ⟨a, rfl, ha⟩ := r
  obtain ⟨vs, h1, h2⟩ := hr.get e ha
  exact ⟨a, vs, rfl, ha, h1, h2⟩
theorem HR.dt (hr : HR K G ρ H mh) {i : Nat} {xs : List (List Key × MV)} {v : V} (e : mh[i]? = some (.dt xs)) (r : VR K G ρ H (.ref i) v) : ∃ a vs, v = .ref a ∧ ρ[i]? = some a ∧ H a = some (.dT vs) ∧ KRs K G ρ H id xs vs := by
  simp only [VR] at r
  obtain ⟨a, rfl, ha⟩ := r
  obtain ⟨vs, h1, h2⟩ := hr.get e ha
  exact ⟨a, vs, rfl, ha, h1, h2⟩
end

/-! ### x[i] -/
def fIx (x y : MV) (h : MH) : OV := match y with
  | .int i => match x with
    | .str z => if z.length ≤ SZ then (atI z.cps.toList i).map fun c => (.str ⟨#[c]⟩, h) else none
    | x => match seqOf h x with
      | some xs => (atI xs i).map fun v => (v, h)
      | none => none
  | _ => none
theorem atI_V {K : PySem.W.Frag} {G : String → Option V} {ρ : List Addr} {H : Hp} {xs : List MV} {vs : List V} {i : Int} {z : MV} (r : VRs K G ρ H xs vs) (e : atI xs i = some z) : ∃ v, atI vs i = some v ∧ VR K G ρ H z v := by
  unfold atI at e ⊢
  rw [← r.length]
  cases h : ixN xs.length i with
  | none => rw [h] at e; simp at e
  | some j => rw [h] at e; exact r.get e
section
variable {X : Cx} {G : String → Option V} {W : WX} {a b c : Expr} {ma mb mc : ME} {pos : Pos}
theorem s_ix : R2S X.K G (rIx X.K) fIx := by
  intro ρ H mh mh1 x y z v w Q hr rx ry e k
  unfold fIx at e
  split at e
  · rename_i i
    simp only [VR] at ry; subst ry
    split at e
    · rename_i z0
      simp only [VR] at rx; subst rx
      split at e
      · rename_i hz
        cases h : atI z0.cps.toList i with
        | none => rw [h] at e; cases e
        | some c =>
          rw [h] at e; cases e
          exact .inr (.inr ⟨_, _, c, rfl, rfl, by rw [SZ_eq]; exact hz, h, k _ _ Ext.refl hr _ (by simp [VR])⟩)
      · cases e
    · split at e
      · rename_i xs hs
        cases h : atI xs i with
        | none => rw [h] at e; cases e
        | some u =>
          rw [h] at e; cases e
          obtain ⟨p, vs, rfl, hq, r⟩ := seq_V hr hs rx
          obtain ⟨u1, h1, h2⟩ := atI_V r h
          rcases hq with hq | hq
          · exact .inl ⟨p, vs, i, u1, rfl, rfl, hq, h1, k _ _ Ext.refl hr _ h2⟩
          · exact .inr (.inl ⟨p, vs, i, u1, rfl, rfl, hq, h1, k _ _ Ext.refl hr _ h2⟩)
      · cases e
  · cases e
theorem m_ix (ha : PE X a (RE X.K G W ma)) (hb : PE X b (RE X.K G W mb)) (hs : PlainIx b) : PE X (.Subscript a b pos) (RE X.K G W (e2 fIx ma mb)) := pe_imp (pe_ix ix_seq ha hb hs) (op_re s_ix)
end
/-- what a dict holds -/
def dGet (h : MH) (x y : MV) : Option (Option MV) := match x with
  | .ref i => match h[i]? with
    | some (.dk kvs) => (keyM y).map fun k => valM kvs k
    | some (.dt kvs) => match y with
      | .tup ys => (keysM ys).map fun k => valM kvs k
      | _ => none
    | _ => none
  | _ => none
def fDGet (x y : MV) (h : MH) : OV := match dGet h x y with
  | some (some v) => some (v, h)
  | _ => none
def fDIn (y x : MV) (h : MH) : OV := match dGet h x y with
  | some o => some (.bl o.isSome, h)
  | _ => none
def fDNotIn (y x : MV) (h : MH) : OV := match dGet h x y with
  | some o => some (.bl (!o.isSome), h)
  | _ => none
section
variable {X : Cx} {G : String → Option V} {W : WX} {a b c : Expr} {ma mb mc : ME} {pos : Pos}
theorem dGet_V {K : PySem.W.Frag} {ρ : List Addr} {H : Hp} {mh : MH} {x y : MV} {v w : V} {o : Option MV} (hr : HR K G ρ H mh) (e : dGet mh x y = some o) (rx : VR K G ρ H x v) (ry : VR K G ρ H y w) :
    ∃ a r, v = .ref a ∧ DGet H a w r ∧ (∀ z, o = some z → ∃ u, r = some u ∧ VR K G ρ H z u) ∧ (o = none → r = none) := by
  unfold dGet at e
  split at e
  · split at e
    · rename_i kvs h1
      obtain ⟨a, vs, rfl, _, h2, h3⟩ := hr.dk h1 rx
      cases h4 : keyM y with
      | none => rw [h4] at e; cases e
      | some k =>
        rw [h4] at e; cases e
        obtain ⟨q1, q2⟩ := valM_V (k := k) h3
        have := keyM_V h4 ry
        subst this
        exact ⟨a, _, rfl, DGet.k h2, q1, q2⟩
    · rename_i kvs h1
      obtain ⟨a, vs, rfl, _, h2, h3⟩ := hr.dt h1 rx
      split at e
      · rename_i ys
        cases h4 : keysM ys with
        | none => rw [h4] at e; cases e
        | some k =>
          rw [h4] at e; cases e
          obtain ⟨q1, q2⟩ := valM_V (k := k) h3
          simp only [VR] at ry
          obtain ⟨b, ws, rfl, h5, h6⟩ := ry
          have h7 := keysM_V h4 h6
          subst h7
          exact ⟨a, _, rfl, DGet.t h2 h5, q1, q2⟩
      · cases e
    · cases e
  · cases e
end
end Mo
/-! Mo7: built-ins, calls, statements, loops, defs. -/
namespace Mo
open PySem L2

/-! ### built-ins by values -/
def CallS (K : PySem.W.Frag) (G : String → Option V) (r : List V → Hp → VK → Prop) (f : List MV → MH → OV) : Prop :=
  ∀ {ρ : List Addr} {H : Hp} {mh mh1 : MH} {xs : List MV} {z : MV} {vs : List V} {Q : VK}, HR K G ρ H mh → VRs K G ρ H xs vs → f xs mh = some (z, mh1) →
    (∀ ρ1 H1, Ext K ρ H ρ1 H1 → HR K G ρ1 H1 mh1 → ∀ v1, VR K G ρ1 H1 z v1 → Q v1 H1) → r vs H Q
theorem VRs.one {K : PySem.W.Frag} {G : String → Option V} {ρ : List Addr} {H : Hp} {x : MV} {vs : List V} (h : VRs K G ρ H [x] vs) : ∃ v, vs = [v] ∧ VR K G ρ H x v := by
  simp only [VRs] at h
  obtain ⟨v, r, rfl, q, rfl⟩ := h
  exact ⟨v, rfl, q⟩
theorem VRs.two {K : PySem.W.Frag} {G : String → Option V} {ρ : List Addr} {H : Hp} {x y : MV} {vs : List V} (h : VRs K G ρ H [x, y] vs) : ∃ v w, vs = [v, w] ∧ VR K G ρ H x v ∧ VR K G ρ H y w := by
  simp only [VRs] at h
  obtain ⟨v, r, rfl, q, w, r', rfl, q', rfl⟩ := h
  exact ⟨v, w, rfl, q, q'⟩
section
variable {X : Cx} {G : String → Option V} {W : WX} {e : Expr} {es : List Expr} {ms : MEs} {x : Str} {p pos : Pos} {id T : String} {r : List V → Hp → VK → Prop} {f : List MV → MH → OV}
theorem cb_re (hs : CallS X.K G r f) (σ : St) (H : Hp) (Q : VK) (h : RE X.K G W (eA f ms) σ H Q) : tCB r (RA X.K G W ms) σ H Q := by
  obtain ⟨ρ, sm, mh, r0, q⟩ := h
  refine ra_bnd r0 q fun xs ρ1 H1 mh1 vs x1 r1 rvs q1 => ?_
  obtain ⟨z, h1, e, k⟩ := ro_lift q1
  exact hs r1.hr rvs e k
theorem m_callB (hc : CallR X (.builtin id) r) (hs : CallS X.K G r f) (hg : Gl X x) (hm : X.mg x = none) (hv : bootBuiltins x = some (.builtin id)) (ha : PA X (e :: es) (RA X.K G W ms)) (hn : x ≠ "__name__" := by decide) (hdb : (x == ("__debug__" : Str)) = false := by decide)
    (he : starEach (e :: es) X.env = (false, eval e X.env) :: starEach es X.env := by rfl) (hpl : (backTo pos (starEach es X.env)).any (·.1) = false := by rfl) : PE X (.Call (.Name x p) (e :: es) [] pos) (RE X.K G W (eA f ms)) :=
  pe_imp (pe_callB hc hg hm hv ha hn hdb he hpl) (cb_re hs)
theorem m_callTy (hc : CallR X (.type T) r) (hs : CallS X.K G r f) (hg : Gl X x) (hm : X.mg x = none) (hv : bootBuiltins x = some (.type T)) (ha : PA X (e :: es) (RA X.K G W ms)) (hn : x ≠ "__name__" := by decide) (hdb : (x == ("__debug__" : Str)) = false := by decide)
    (he : starEach (e :: es) X.env = (false, eval e X.env) :: starEach es X.env := by rfl) (hpl : (backTo pos (starEach es X.env)).any (·.1) = false := by rfl) : PE X (.Call (.Name x p) (e :: es) [] pos) (RE X.K G W (eA f ms)) :=
  pe_imp (pe_callTy hc hg hm hv ha hn hdb he hpl) (cb_re hs)
theorem CallR.or {fv : Value} {r r' : List V → Hp → VK → Prop} (h : CallR X fv r) (h' : CallR X fv r') : CallR X fv (fun xs H Q => r xs H Q ∨ r' xs H Q) := by
  intro pins s σ H xs us Q I rs q
  rcases q with q | q
  · exact h pins s σ H xs us Q I rs q
  · exact h' pins s σ H xs us Q I rs q
end
def fLen (xs : List MV) (h : MH) : OV := match xs with
  | [.str z] => if z.length ≤ SZ then some (.int z.length, h) else none
  | [.ref i] => match h[i]? with
    | some (.lst ys) => some (.int ys.length, h)
    | some (.dk ys) => some (.int ys.length, h)
    | _ => none
  | [.tup ys] => some (.int ys.length, h)
  | [.ktp ys] => some (.int ys.length, h)
  | [.frl ys] => some (.int ys.length, h)
  | _ => none
def fInt (xs : List MV) (h : MH) : OV := match xs with
  | [.int i] => some (.int i, h)
  | [.bl b] => some (.int (if b then 1 else 0), h)
  | _ => none
def fAbs (xs : List MV) (h : MH) : OV := match xs with
  | [.int i] => some (.int (if i < 0 then -i else i), h)
  | _ => none
section
variable {X : Cx} {G : String → Option V}
abbrev rLenA (K : PySem.W.Frag) : List V → Hp → VK → Prop := fun xs H Q => (∃ x n, xs = [x] ∧ LenV K x H n ∧ Q (.int n) H) ∨ ∃ a kvs, xs = [V.ref a] ∧ H a = some (.dK kvs) ∧ Q (.int kvs.length) H
theorem c_len : CallR X (.builtin "len") (rLenA X.K) := call_len.or call_lenD
theorem s_len : CallS X.K G (rLenA X.K) fLen := by
  intro ρ H mh mh1 xs z vs Q hr rvs e k
  unfold fLen at e
  split at e
  · obtain ⟨v, rfl, rv⟩ := rvs.one
    simp only [VR] at rv; subst rv
    split at e
    · rename_i hz
      cases e
      exact .inl ⟨_, _, rfl, ⟨by rw [SZ_eq]; exact hz, rfl⟩, k _ _ Ext.refl hr _ (by simp [VR])⟩
    · cases e
  · obtain ⟨v, rfl, rv⟩ := rvs.one
    split at e
    · rename_i q
      cases e
      obtain ⟨a, ws, rfl, _, h1, h2⟩ := hr.lst q rv
      exact .inl ⟨_, _, rfl, .inl ⟨_, SqL.of h1, h2.length⟩, k _ _ Ext.refl hr _ (by simp [VR])⟩
    · rename_i q
      cases e
      obtain ⟨a, ws, rfl, _, h1, h2⟩ := hr.dk q rv
      refine .inr ⟨_, _, rfl, h1, k _ _ Ext.refl hr _ ?_⟩
      simp only [VR]; rw [h2.length]
    · cases e
  · obtain ⟨v, rfl, rv⟩ := rvs.one
    cases e
    obtain ⟨a, ws, rfl, h1, h2⟩ := rv.tup rfl
    exact .inl ⟨_, _, rfl, .inr ⟨_, h1, h2.length⟩, k _ _ Ext.refl hr _ (by simp [VR])⟩
  · obtain ⟨v, rfl, rv⟩ := rvs.one
    cases e
    obtain ⟨a, ws, rfl, h1, h2⟩ := rv.tup rfl
    exact .inl ⟨_, _, rfl, .inr ⟨_, h1, h2.length⟩, k _ _ Ext.refl hr _ (by simp [VR])⟩
  · obtain ⟨v, rfl, rv⟩ := rvs.one
    cases e
    simp only [VR] at rv
    obtain ⟨a, ws, rfl, h1, h2⟩ := rv
    exact .inl ⟨_, _, rfl, .inl ⟨_, h1.sq, h2.length⟩, k _ _ Ext.refl hr _ (by simp [VR])⟩
  · cases e
theorem s_int : CallS X.K G (fun xs H Q => (∃ i, xs = [.int i] ∧ Q (.int i) H) ∨ ∃ k, xs = [.bl k] ∧ Q (.int (if k then 1 else 0)) H) fInt := by
  intro ρ H mh mh1 xs z vs Q hr rvs e k
  unfold fInt at e
  split at e
  · obtain ⟨v, rfl, rv⟩ := rvs.one
    simp only [VR] at rv; subst rv
    cases e
    exact .inl ⟨_, rfl, k _ _ Ext.refl hr _ (by simp [VR])⟩
  · obtain ⟨v, rfl, rv⟩ := rvs.one
    simp only [VR] at rv; subst rv
    cases e
    exact .inr ⟨_, rfl, k _ _ Ext.refl hr _ (by simp [VR])⟩
  · cases e
theorem s_abs : CallS X.K G (fun xs H Q => ∃ i, xs = [.int i] ∧ Q (.int (if i < 0 then -i else i)) H) fAbs := by
  intro ρ H mh mh1 xs z vs Q hr rvs e k
  unfold fAbs at e
  split at e
  · obtain ⟨v, rfl, rv⟩ := rvs.one
    simp only [VR] at rv; subst rv
    cases e
    exact ⟨_, rfl, k _ _ Ext.refl hr _ (by simp [VR])⟩
  · cases e
end
/-! ### isinstance -/
/-- a value's type as the tables name it -/
def tyM (h : MH) : MV → Option MV
  | .non => some (.ty "NoneType")
  | .bl _ => some (.ty "bool")
  | .int _ => some (.ty "int")
  | .str _ => some (.ty "str")
  | .byt _ => some (.ty "bytes")
  | .tup _ => some (.ty "tuple")
  | .ktp _ => some (.ty "tuple")
  | .ref i => match h[i]? with
    | some (.lst _) => some (.ty "list")
    | some (.dk _) => some (.ty "dict")
    | some (.dt _) => some (.ty "dict")
    | some (.ins c _) => some (.glo c)
    | _ => none
  | _ => none
/-- the built-in types among themselves -/
def tabB (a b : String) : Option Bool := if a = b then some true else if a = "bool" ∧ b = "int" then some true else
  if ["NoneType", "bool", "int", "str", "bytes", "tuple", "list", "dict"].contains a ∧ ["bool", "int", "str", "bytes", "tuple", "list", "dict"].contains b then some false else none
/-- own : of own classes -/
abbrev Own := Bool × String → Bool × String → Option Bool
def isiM (own : Own) (t c : MV) : Option Bool := match t, c with
  | .ty a, .ty b => tabB a b
  | .ty a, .glo b => own (false, a) (true, b)
  | .glo a, .glo b => own (true, a) (true, b)
  | .glo a, .ty b => own (true, a) (false, b)
  | _, _ => none
def fIsi (own : Own) (xs : List MV) (h : MH) : OV := match xs with
  | [x, c] => match tyM h x with
    | some t => ob (isiM own t c) h
    | none => none
  | _ => none
/-- a class's value in the fragment -/
def clsV (G : String → Option V) : MV → Option Value
  | .ty a => some (.type a)
  | .glo s => match G s with
    | some (.ref C) => some (.ref C)
    | _ => none
  | _ => none
structure IsiOk (K : PySem.W.Frag) (G : String → Option V) (own : Own) : Prop where
  gref : ∀ s v, G s = some v → ∃ C, v = .ref C
  ok : ∀ t c b tv cv, isiM own t c = some b → clsV G t = some tv → clsV G c = some cv → PySem.W.kitOne K tv cv = some b
  ins : ∀ s C c b, G s = some (.ref C) → isiM own (.glo s) c = some b → Cls K C ∧ PySem.W.findIn K (.ref C) "__class__" = some (some (.builtin "object.__class__")) ∧
    PySem.W.specialIn K (.builtin "object.__class__") "__get__" = some (some (.builtin "getset_descriptor.__get__")) ∧ PySem.W.takesIn K (.builtin "object.__class__") = some true ∧ PySem.W.mroIn K C (.type "object") = some true
section
variable {X : Cx} {G : String → Option V}
theorem cls_V {K : PySem.W.Frag} {own : Own} (T : IsiOk K G own) {ρ : List Addr} {H : Hp} {c : MV} {w : V} (hc : (∃ n, c = .ty n) ∨ ∃ s, c = .glo s) (r : VR K G ρ H c w) : ∃ cv, clsV G c = some cv ∧ ClsV w cv := by
  rcases hc with ⟨n, rfl⟩ | ⟨s, rfl⟩
  · simp only [VR] at r; subst r; exact ⟨_, rfl, .ty n⟩
  · simp only [VR] at r
    obtain ⟨C, rfl⟩ := T.gref s w r.1
    exact ⟨.ref C, by simp [clsV, r.1], .own C⟩
theorem isiM_cls {own : Own} {t c : MV} {b : Bool} (h : isiM own t c = some b) : (∃ n, c = .ty n) ∨ ∃ s, c = .glo s := by
  cases c with
  | ty n => exact .inl ⟨n, rfl⟩
  | glo s => exact .inr ⟨s, rfl⟩
  | _ => cases t <;> simp [isiM] at h
theorem ty_V {K : PySem.W.Frag} {own : Own} (T : IsiOk K G own) {ρ : List Addr} {H : Hp} {mh : MH} {x t c : MV} {v : V} {b : Bool} (hr : HR K G ρ H mh) (e : tyM mh x = some t) (rv : VR K G ρ H x v) (hb : isiM own t c = some b) :
    ∃ tv, clsV G t = some tv ∧ TyX K H v tv := by
  unfold tyM at e
  split at e
  · cases e; simp only [VR] at rv; subst rv; exact ⟨_, rfl, .base .non⟩
  · cases e; simp only [VR] at rv; subst rv; exact ⟨_, rfl, .base (.bl _)⟩
  · cases e; simp only [VR] at rv; subst rv; exact ⟨_, rfl, .base (.int _)⟩
  · cases e; simp only [VR] at rv; subst rv; exact ⟨_, rfl, .base (.str _)⟩
  · cases e; simp only [VR] at rv; subst rv; exact ⟨_, rfl, .byt _⟩
  · cases e; simp only [VR] at rv; obtain ⟨a, vs, rfl, h1, _⟩ := rv; exact ⟨_, rfl, .base (.tup h1)⟩
  · cases e; simp only [VR] at rv; obtain ⟨a, vs, rfl, h1, _⟩ := rv; obtain ⟨_, o, e1, e2, _⟩ := h1; exact ⟨_, rfl, .kTuple e1 e2⟩
  · split at e
    · rename_i q; cases e; obtain ⟨a, ws, rfl, _, h1, h2⟩ := hr.lst q rv; exact ⟨_, rfl, .base (.lst h1)⟩
    · rename_i q; cases e; obtain ⟨a, ws, rfl, _, h1, h2⟩ := hr.dk q rv; exact ⟨_, rfl, .base (.dK h1)⟩
    · rename_i q; cases e; obtain ⟨a, ws, rfl, _, h1, h2⟩ := hr.dt q rv; exact ⟨_, rfl, .base (.dT h1)⟩
    · rename_i q; cases e
      simp only [VR] at rv
      obtain ⟨a, rfl, ha⟩ := rv
      obtain ⟨C, dx, vs, h1, h2, _⟩ := hr.get q ha
      obtain ⟨i1, i2, i3, i4, i5⟩ := T.ins _ C c b h1 hb
      exact ⟨.ref C, by simp [clsV, h1], .base (.ins h2 i1 i2 i3 i4 i5)⟩
    · cases e
  · cases e
theorem s_isi {own : Own} (T : IsiOk X.K G own) : CallS X.K G (rIsi X.K) (fIsi own) := by
  intro ρ H mh mh1 xs z vs Q hr rvs e k
  unfold fIsi at e
  split at e
  · rename_i x c
    obtain ⟨v, w, rfl, rv, rw'⟩ := rvs.two
    cases h1 : tyM mh x with
    | none => rw [h1] at e; cases e
    | some t =>
      rw [h1] at e
      cases h2 : isiM own t c with
      | none => simp only [h2] at e; cases e
      | some b =>
        simp only [h2] at e; cases e
        obtain ⟨cv, c1, c2⟩ := cls_V T (isiM_cls h2) rw'
        obtain ⟨tv, t1, t2⟩ := ty_V T hr h1 rv h2
        exact ⟨v, w, tv, cv, b, rfl, c2, t2, T.ok t c b tv cv h2 t1 c1, k _ _ Ext.refl hr _ (by simp [VR])⟩
  · cases e
end

/-! ### the text's own defs -/
def call (n : Nat) (f : MF) (ms : MEs) : ME := fun s h => (ms s h).bnd fun xs h1 => if xs.length = n then f xs h1 else .no
theorem ro_any {α : Type} {K : PySem.W.Frag} {G : String → Option V} {W : WX} {σ : St} {P : α → List Addr → Hp → Prop} {ρ : List Addr} {H : Hp} {r : Rz α} (h : RO K G W σ P ρ H r) : RO K G (fun cls d _ H => W cls d σ H) [] P ρ H r := by
  cases r with
  | ok v m => exact h
  | err e m => exact h
  | no => exact h
section
variable {X : Cx} {G : String → Option V} {W : WX} {e : Expr} {es : List Expr} {ms : MEs} {x : Str} {p pos : Pos} {k n : Nat} {fa : Addr} {fd : FuncData} {ps : List Str} {f : MF}
theorem call_re {σ : St} {H : Hp} {Q : VK} (h : RE X.K G W (call n f ms) σ H Q) : RA X.K G W ms σ H fun vs H1 => SpM X.K G n f vs H1 Q (WE W σ) := by
  obtain ⟨ρ, sm, mh, r0, q⟩ := h
  refine ra_bnd r0 q fun xs ρ1 H1 mh1 vs x1 r1 rvs q1 => ?_
  by_cases hl : xs.length = n
  · rw [if_pos hl] at q1
    exact ⟨ρ1, xs, mh1, r1.hr, rvs, by rw [← rvs.length]; exact hl, ro_any q1⟩
  · rw [if_neg hl] at q1; exact False.elim q1
theorem m_call (F : FnOk X.prog X.w X.K X.mg X.base (L2.CX X.prog X.w) k fa fd ps (SpM X.K G n f)) (hr : Room k X.A) (hg : Gl X x) (hm : X.mg x = some (.ref fa)) (hk : PySem.W.keepIn X.K (.ref fa) = true) (hb : Binds X.K fd ps []) (tk : Takes X W)
    (ha : PA X (e :: es) (RA X.K G W ms)) (hdb : (x == ("__debug__" : Str)) = false := by decide) (he : starEach (e :: es) X.env = (false, eval e X.env) :: starEach es X.env := by rfl) (hpl : (backTo pos (starEach es X.env)).any (·.1) = false := by rfl) :
    PE X (.Call (.Name x p) (e :: es) [] pos) (RE X.K G W (call n f ms)) :=
  pe_imp (pe_callS F hr hg hm hk hb (fun σ => passAt tk σ) ha hdb he hpl) fun _ _ _ h => call_re h
end

/-! ### statements -/
def Rz.bnS {α : Type} (r : Rz α) (s : Lo) (k : α → MH → SR) : SR := match r with
  | .ok v h => k v h
  | .err e h => .err e s h
  | .no => .no
def sNx : MS := fun s h => .nx s h
def sSeq (a b : MS) : MS := fun s h => match a s h with
  | .nx s1 h1 => b s1 h1
  | r => r
abbrev MG := MV → Lo → Option Lo
def gN (i : Nat) : MG := fun v s => some (s.set i (some v))
def setAll : List Nat → List MV → Lo → Option Lo
  | [], [], s => some s
  | i :: is, v :: vs, s => setAll is vs (s.set i (some v))
  | _, _, _ => none
def gT (is : List Nat) : MG := fun v s => (asT v).bind fun xs => setAll is xs s
def sAsg (e : ME) (g : MG) : MS := fun s h => (e s h).bnS s fun v h1 => match g v s with
  | some s1 => .nx s1 h1
  | none => .no
def sExp (e : ME) : MS := fun s h => (e s h).bnS s fun _ h1 => .nx s h1
def sRet (e : ME) : MS := fun s h => (e s h).bnS s fun v h1 => .rt v h1
def sRetN : MS := fun _ h => .rt .non h
def sIf (c : MB) (a b : MS) : MS := fun s h => (c s h).bnS s fun k h1 => if k = true then a s h1 else b s h1
def sBrk : MS := fun s h => .bk s h
def sCnt : MS := fun s h => .ct s h
section
variable {K : PySem.W.Frag} {G : String → Option V} {W : WX} {D : Ends} {ρ : List Addr} {H : Hp} {sm : Lo} {σ : St} {mh : MH}
theorem res_bnd {m : ME} {k : MV → MH → SR} {Q : VK} (r : Rl K G ρ H sm σ mh) (h : RSE K G W D ρ H ((m sm mh).bnS sm k))
    (hq : ∀ v ρ1 H1 mh1 x, Ext K ρ H ρ1 H1 → Rl K G ρ1 H1 sm σ mh1 → VR K G ρ1 H1 v x → RSE K G W D ρ1 H1 (k v mh1) → Q x H1) : RE K G W m σ H Q := by
  refine ⟨ρ, sm, mh, r, ?_⟩
  cases e : m sm mh with
  | ok v m1 => rw [e] at h; exact fun ρ1 H1 x hr w rv => hq v ρ1 H1 m1 w x (r.at x hr) rv (h.mono x)
  | err v m1 => rw [e] at h; exact fun ρ1 H1 cls d x hr er => h ρ1 H1 σ cls d x hr (r.sr.ext x) er
  | no => rw [e] at h; exact h
theorem rts_bnd {m : MB} {k : Bool → MH → SR} {Q : Bool → Hp → Prop} (r : Rl K G ρ H sm σ mh) (h : RSE K G W D ρ H ((m sm mh).bnS sm k))
    (hq : ∀ v ρ1 H1 mh1, Ext K ρ H ρ1 H1 → Rl K G ρ1 H1 sm σ mh1 → RSE K G W D ρ1 H1 (k v mh1) → Q v H1) : RT K G W m σ H Q := by
  refine ⟨ρ, sm, mh, r, ?_⟩
  cases e : m sm mh with
  | ok v m1 => rw [e] at h; exact fun ρ1 H1 x hr => hq v ρ1 H1 m1 x (r.at x hr) (h.mono x)
  | err v m1 => rw [e] at h; exact fun ρ1 H1 cls d x hr er => h ρ1 H1 σ cls d x hr (r.sr.ext x) er
  | no => rw [e] at h; exact h
theorem ras_bnd {m : MEs} {k : List MV → MH → SR} {Q : List V → Hp → Prop} (r : Rl K G ρ H sm σ mh) (h : RSE K G W D ρ H ((m sm mh).bnS sm k))
    (hq : ∀ v ρ1 H1 mh1 x, Ext K ρ H ρ1 H1 → Rl K G ρ1 H1 sm σ mh1 → VRs K G ρ1 H1 v x → RSE K G W D ρ1 H1 (k v mh1) → Q x H1) : RA K G W m σ H Q := by
  refine ⟨ρ, sm, mh, r, ?_⟩
  cases e : m sm mh with
  | ok v m1 => rw [e] at h; exact fun ρ1 H1 x hr w rv => hq v ρ1 H1 m1 w x (r.at x hr) rv (h.mono x)
  | err v m1 => rw [e] at h; exact fun ρ1 H1 cls d x hr er => h ρ1 H1 σ cls d x hr (r.sr.ext x) er
  | no => rw [e] at h; exact h
theorem RSE.nx {s1 : Lo} {m1 : MH} {σ1 : St} (h : RSE K G W D ρ H (.nx s1 m1)) (hr : HR K G ρ H m1) (sr : SRl K G ρ H s1 σ1) : D.nx σ1 H := h ρ H σ1 Ext.refl hr sr
theorem RSE.rt {v : MV} {m1 : MH} {w : V} (h : RSE K G W D ρ H (.rt v m1)) (hr : HR K G ρ H m1) (rv : VR K G ρ H v w) : D.rt w H := h ρ H w Ext.refl hr rv
theorem SRl.set {i : Nat} {x : MV} {v : V} (h : SRl K G ρ H sm σ) (r : VR K G ρ H x v) : SRl K G ρ H (sm.set i (some x)) (σ.set i (some v)) := by
  refine ⟨by simp [h.1], fun j y e => ?_⟩
  by_cases hj : i = j
  · subst hj
    by_cases hl : i < sm.length
    · rw [List.getElem?_set_self hl] at e
      cases e
      exact ⟨v, List.getElem?_set_self (by rw [← h.1]; exact hl), r⟩
    · rw [List.getElem?_eq_none (by simp; omega)] at e; cases e
  · rw [List.getElem?_set_ne hj] at e
    obtain ⟨w, a, b⟩ := h.2 j y e
    exact ⟨w, by rw [List.getElem?_set_ne hj]; exact a, b⟩
end
/-- a target: the model's and the layer's -/
def GS (K : PySem.W.Frag) (G : String → Option V) (t : TG) (g : MG) : Prop :=
  ∀ {ρ : List Addr} {H : Hp} {sm s1 : Lo} {σ : St} {x : MV} {v : V} {mh : MH} {Q : St → Hp → Prop}, HR K G ρ H mh → SRl K G ρ H sm σ → VR K G ρ H x v → g x sm = some s1 → (∀ σ1, SRl K G ρ H s1 σ1 → Q σ1 H) → t v σ H Q
def GSs (K : PySem.W.Frag) (G : String → Option V) (t : TGs) (is : List Nat) : Prop :=
  ∀ {ρ : List Addr} {H : Hp} {sm s1 : Lo} {σ : St} {xs : List MV} {vs : List V} {mh : MH} {Q : St → Hp → Prop}, HR K G ρ H mh → SRl K G ρ H sm σ → VRs K G ρ H xs vs → setAll is xs sm = some s1 → (∀ σ1, SRl K G ρ H s1 σ1 → Q σ1 H) → t vs σ H Q
section
variable {K : PySem.W.Frag} {G : String → Option V}
theorem gs_name {i : Nat} : GS K G (gName i) (gN i) := by
  intro ρ H sm s1 σ x v mh Q hr sr rv e k
  cases e
  exact k _ (sr.set rv)
theorem gss_nil : GSs K G gNil [] := by
  intro ρ H sm s1 σ xs vs mh Q hr sr rvs e k
  cases xs with
  | nil => simp only [VRs] at rvs; subst rvs; cases e; exact ⟨rfl, k _ sr⟩
  | cons x xs => cases e
theorem gss_cons {i : Nat} {is : List Nat} {u : TGs} (h : GSs K G u is) : GSs K G (gCons (gName i) u) (i :: is) := by
  intro ρ H sm s1 σ xs vs mh Q hr sr rvs e k
  cases xs with
  | nil => cases e
  | cons x xs =>
    simp only [VRs] at rvs
    obtain ⟨v, r, rfl, q, t⟩ := rvs
    exact ⟨v, r, rfl, h hr (sr.set q) t e k⟩
theorem setAll_len : ∀ {is : List Nat} {xs : List MV} {s s1 : Lo}, setAll is xs s = some s1 → xs.length = is.length
  | [], [], _, _, _ => rfl
  | i :: is, x :: xs, s, s1, h => by simp [setAll_len (is := is) (xs := xs) h]
  | [], _ :: _, _, _, h => by cases h
  | _ :: _, [], _, _, h => by cases h
theorem gs_tup {is : List Nat} {u : TGs} (h : GSs K G u is) : GS K G (gTup K is.length u) (gT is) := by
  intro ρ H sm s1 σ x v mh Q hr sr rv e k
  unfold gT at e
  cases e1 : asT x with
  | none => rw [e1] at e; cases e
  | some xs =>
    rw [e1] at e
    have e' : setAll is xs sm = some s1 := e
    obtain ⟨a, vs, rfl, h1, h2⟩ := rv.tup e1
    exact ⟨a, vs, rfl, h1, by rw [← h2.length, setAll_len e'], h hr sr h2 e' k⟩
end
section
variable {X : Cx} {G : String → Option V} {W : WX} {st : Stmt} {rest : List Stmt} {a b : MS} {e : Expr} {m : ME} {pos : Pos}
theorem m_snil : PSs X [] (RS X.K G W sNx) := pss_imp pss_nil fun D σ H ⟨ρ, sm, mh, r, q⟩ => RSE.nx (σ1 := σ) q r.hr r.sr
theorem m_scons (h1 : PS X st (RS X.K G W a)) (h2 : PSs X rest (RS X.K G W b)) : PSs X (st :: rest) (RS X.K G W (sSeq a b)) := by
  refine pss_imp (pss_cons h1 h2) fun D σ H ⟨ρ, sm, mh, r, q⟩ => ⟨ρ, sm, mh, r, ?_⟩
  unfold sSeq at q
  cases e : a sm mh with
  | nx s m => rw [e] at q; exact fun ρ1 H1 σ1 x hr sr => ⟨ρ1, s, m, ⟨hr, sr⟩, RSE.mono x q⟩
  | rt v m => rw [e] at q; exact q
  | bk s m => rw [e] at q; exact q
  | ct s m => rw [e] at q; exact q
  | err v s m => rw [e] at q; exact q
  | no => rw [e] at q; exact q
theorem m_sone (h1 : PS X st (RS X.K G W a)) : PSs X [st] (RS X.K G W a) := pss_one h1
theorem m_pass : PS X (.Pass pos) (RS X.K G W sNx) := ps_imp ps_pass fun D σ H ⟨ρ, sm, mh, r, q⟩ => RSE.nx (σ1 := σ) q r.hr r.sr
theorem m_break : PS X (.Break pos) (RS X.K G W sBrk) := ps_imp ps_break fun D σ H ⟨ρ, sm, mh, r, q⟩ => q ρ H σ Ext.refl r.hr r.sr
theorem m_cont : PS X (.Continue pos) (RS X.K G W sCnt) := ps_imp ps_continue fun D σ H ⟨ρ, sm, mh, r, q⟩ => q ρ H σ Ext.refl r.hr r.sr
theorem m_doc {x j pos pos'} : PS X (.Expr (.Constant (.str x) j pos) pos') (RS X.K G W sNx) := ps_imp ps_doc fun D σ H ⟨ρ, sm, mh, r, q⟩ => RSE.nx (σ1 := σ) q r.hr r.sr
theorem m_expr (he : PE X e (RE X.K G W m)) (hs : swapsWith e none pos.line X.env = pure false := by rfl) : PS X (.Expr e pos) (RS X.K G W (sExp m)) :=
  ps_imp (ps_expr he hs) fun D σ H ⟨ρ, sm, mh, r, q⟩ => res_bnd r q fun v ρ1 H1 mh1 x x1 r1 rv q1 => RSE.nx (σ1 := σ) q1 r1.hr r1.sr
theorem m_ret (he : PE X e (RE X.K G W m)) : PS X (.Return (some e) pos) (RS X.K G W (sRet m)) :=
  ps_imp (ps_ret he) fun D σ H ⟨ρ, sm, mh, r, q⟩ => res_bnd r q fun v ρ1 H1 mh1 x x1 r1 rv q1 => RSE.rt q1 r1.hr rv
theorem m_retN : PS X (.Return none pos) (RS X.K G W sRetN) := ps_imp ps_retN fun D σ H ⟨ρ, sm, mh, r, q⟩ => RSE.rt q r.hr (by simp [VR])
theorem m_if {c : Expr} {as bs : List Stmt} {mc : MB} (hc : PT X c (RT X.K G W mc)) (ha : PSs X as (RS X.K G W a)) (hb : PSs X bs (RS X.K G W b)) : PS X (.If c as bs pos) (RS X.K G W (sIf mc a b)) := by
  refine ps_imp (ps_if hc ha hb) fun D σ H ⟨ρ, sm, mh, r, q⟩ => rts_bnd r q fun k ρ1 H1 mh1 x1 r1 q1 => ?_
  cases k with
  | true => rw [if_pos rfl] at q1 ⊢; exact ⟨_, _, _, r1, q1⟩
  | false => rw [if_neg Bool.false_ne_true] at q1 ⊢; exact ⟨_, _, _, r1, q1⟩
theorem asg_re {te : TE} {t : TG} {g : MG} (hg : GS X.K G t g) (i : ∀ σ H Q, RE X.K G W m σ H Q → te σ H Q) (D : Ends) (σ : St) (H : Hp) (h : RS X.K G W (sAsg m g) D σ H) : tAsg te t D σ H := by
  obtain ⟨ρ, sm, mh, r, q⟩ := h
  refine i σ H _ (res_bnd r q fun v ρ1 H1 mh1 x x1 r1 rv q1 => ?_)
  cases e : g v sm with
  | none => rw [e] at q1; exact False.elim q1
  | some s1 =>
    rw [e] at q1
    exact hg r1.hr r1.sr rv e fun σ1 sr => RSE.nx (σ1 := σ1) q1 r1.hr sr
theorem m_set {i : Nat} {x : Str} {pos' : Pos} (hN : X.N.Nodup) (hi : X.N[i]? = some x) (hx : L2.Loc X.env.scope x) (he : PE X e (RE X.K G W m)) (hs : swapsWith e (some (.Name x pos')) pos.line X.env = pure false := by rfl) (hf : X.fn x = true ∨ X.env.scope.names.lookup x = some .local := by first | exact .inl rfl | exact .inr rfl | assumption) :
    PS X (.Assign [.Name x pos'] e pos) (RS X.K G W (sAsg m (gN i))) := ps_imp (ps_set hN hi hx he hs hf) fun D σ H h => asg_re gs_name (fun _ _ _ q => q) D σ H h
theorem m_asg {tg : Expr} {t : TG} {g : MG} (he : PE X e (RE X.K G W m)) (hg : PG X tg t) (hgs : GS X.K G t g) (hs : swapsWithSole [tg] e pos.line X.env = pure false := by rfl) (hw : swappedStores [tg] e X.env = pure none := by rfl)
    (h1 : (assignEach [tg] X.env).map (·.2) = [assign tg X.env] := by rfl) : PS X (.Assign [tg] e pos) (RS X.K G W (sAsg m g)) := ps_imp (ps_asg he hg hs hw h1) fun D σ H h => asg_re hgs (fun _ _ _ q => q) D σ H h
end

/-! ### a def -/
def mDef (n : Nat) (b : MS) : MF := fun xs h => match b (xs.map some ++ List.replicate (n - xs.length) none) h with
  | .nx _ h1 => .ok .non h1
  | .rt v h1 => .ok v h1
  | .err e _ h1 => .err e h1
  | _ => .no
section
variable {P : Program} {w : World} {K : PySem.W.Frag} {mg : Str → Option Value} {base : Heap} {G : String → Option V}
theorem VRs.at {ρ : List Addr} {H : Hp} {xs : List MV} {vs : List V} (r : VRs K G ρ H xs vs) {n : Nat} : SRl K G ρ H (xs.map some ++ List.replicate (n - xs.length) none) (vs.map some ++ List.replicate (n - vs.length) none) := by
  have hl := r.length
  refine ⟨by simp [hl], fun i x e => ?_⟩
  by_cases hi : i < xs.length
  · rw [List.getElem?_append_left (by simpa using hi), List.getElem?_map] at e
    cases e1 : xs[i]? with
    | none => rw [e1] at e; cases e
    | some y =>
      rw [e1] at e
      cases e
      obtain ⟨v, h1, h2⟩ := r.get e1
      exact ⟨v, by rw [List.getElem?_append_left (by rw [List.length_map]; omega), List.getElem?_map, h1]; rfl, h2⟩
  · rw [List.getElem?_append_right (by simpa using hi)] at e
    have := List.mem_of_getElem? e
    simp at this
theorem fn_m {x qual : Str} {st : Stmt} {f : Addr} {fd : FuncData} {N ps : List Str} {k : Nat} {b : MS} (F : Fun K x qual st f fd) (S : FnScope N ps (defScope st))
    (hb : ∀ (cdv : Value) (A : Around) (outer : List Env) (s : Shared) (H : Hp) (E : XK), Room k (A.deeper (PyProof.Rows.envOfC qual (defScope st) s.heap.objs.size f cdv)) →
      PSs (cxOf (L2.CX P w) P w K mg base N qual (defScope st) f cdv A outer s H E) (defBody st) (RS K G (fun cls d _ H => E cls d H) b)) :
    FnOk P w K mg base (L2.CX P w) (k + 1) f fd ps (SpM K G ps.length (mDef N.length b)) := by
  refine F.okX S (fun vs H Q E h => h.choose_spec.choose_spec.choose_spec.2.2.1) (fun cdv A outer s H vs Q E hr h => ⟨_, hb cdv A outer s H E hr, ?_⟩)
  obtain ⟨ρ, xs, mh, h1, h2, h3, h4⟩ := h
  refine ⟨ρ, _, mh, ⟨h1, h2.at (n := N.length)⟩, ?_⟩
  unfold mDef at h4
  cases e : b (xs.map some ++ List.replicate (N.length - xs.length) none) mh with
  | nx s m => rw [e] at h4; exact fun ρ1 H1 σ1 x hr sr => h4 ρ1 H1 x hr _ (by simp [VR])
  | rt v m => rw [e] at h4; exact fun ρ1 H1 v1 x hr rv => h4 ρ1 H1 x hr v1 rv
  | bk s m => rw [e] at h4; exact False.elim h4
  | ct s m => rw [e] at h4; exact False.elim h4
  | err v s m => rw [e] at h4; exact fun ρ1 H1 σ1 cls d x hr sr er => h4 ρ1 H1 cls d x hr er
  | no => rw [e] at h4; exact h4
end
end Mo
/-! Mo8: loops; the law's end. -/
namespace Mo
open PySem L2

abbrev Itm := Nat → MH → Option (Option MV)
def forG (get : Itm) (g : MG) (b : MS) : Nat → Nat → MS
  | 0, _, _, _ => .no
  | n + 1, i, s, h => match get i h with
    | none => .no
    | some none => .nx s h
    | some (some x) => match g x s with
      | none => .no
      | some s1 => match b s1 h with
        | .nx s2 h2 => forG get g b n (i + 1) s2 h2
        | .ct s2 h2 => forG get g b n (i + 1) s2 h2
        | .bk s2 h2 => .nx s2 h2
        | r => r
def whileG (c : MB) (b : MS) : Nat → MS
  | 0, _, _ => .no
  | n + 1, s, h => (c s h).bnS s fun k h1 => if k = true then (match b s h1 with
      | .nx s2 h2 => whileG c b n s2 h2
      | .ct s2 h2 => whileG c b n s2 h2
      | .bk s2 h2 => .nx s2 h2
      | r => r) else .nx s h1
/-- what an iterator gives, as the model has it -/
structure ItS (K : PySem.W.Frag) (G : String → Option V) (ρ0 : List Addr) (H0 : Hp) (J : It) (get : Itm) : Prop where
  stop : ∀ {i ρ H mh}, Ext K ρ0 H0 ρ H → HR K G ρ H mh → get i mh = some none → J.stop i H
  go : ∀ {i ρ H mh x}, Ext K ρ0 H0 ρ H → HR K G ρ H mh → get i mh = some (some x) → J.go i H
  yld : ∀ {i ρ H mh x y H'}, Ext K ρ0 H0 ρ H → HR K G ρ H mh → get i mh = some (some x) → J.yld i H y H' → ∃ ρ', Ext K ρ H ρ' H' ∧ HR K G ρ' H' mh ∧ VR K G ρ' H' x y
section
variable {K : PySem.W.Frag} {G : String → Option V} {W : WX}
theorem for_sim {ρ0 ρ : List Addr} {H0 H : Hp} {J : It} {get : Itm} {t : TG} {g : MG} {b : MS} {D : Ends} {n : Nat} {sm : Lo} {σ : St} {mh : MH} (T : ItS K G ρ0 H0 J get) (hg : GS K G t g) (x0 : Ext K ρ0 H0 ρ H) (r0 : Rl K G ρ H sm σ mh)
    (h : RSE K G W D ρ H (forG get g b n 0 sm mh)) :
    ∃ W' : Nat → Nat → St → Hp → Prop, (∃ m, W' 0 m σ H) ∧ ∀ i m σ H, W' i m σ H →
      (J.stop i H ∧ D.nx σ H) ∨ (J.go i H ∧ ∃ N : St → Hp → Prop, (∀ σ' H', N σ' H' → ∃ m', m' < m ∧ W' (i + 1) m' σ' H') ∧ ∀ x H', J.yld i H x H' → t x σ H' fun σ2 H2 => RS K G W b { D with nx := N, ct := N, bk := D.nx } σ2 H2) := by
  refine ⟨fun i m σ H => ∃ ρ sm mh, Ext K ρ0 H0 ρ H ∧ Rl K G ρ H sm σ mh ∧ RSE K G W D ρ H (forG get g b m i sm mh), ⟨n, ρ, sm, mh, x0, r0, h⟩, ?_⟩
  rintro i m σ H ⟨ρ, sm, mh, x, r, q⟩
  cases m with
  | zero => exact False.elim q
  | succ m =>
    unfold forG at q
    cases e : get i mh with
    | none => rw [e] at q; exact False.elim q
    | some o =>
      rw [e] at q
      cases o with
      | none => exact .inl ⟨T.stop x r.hr e, RSE.nx (σ1 := σ) q r.hr r.sr⟩
      | some v =>
        refine .inr ⟨T.go x r.hr e, fun σ' H' => ∃ ρ sm mh, Ext K ρ0 H0 ρ H' ∧ Rl K G ρ H' sm σ' mh ∧ RSE K G W D ρ H' (forG get g b m (i + 1) sm mh), fun σ' H' z => ⟨m, Nat.lt_succ_self _, z⟩, fun y H' hy => ?_⟩
        obtain ⟨ρ', x', hr', rv⟩ := T.yld x r.hr e hy
        dsimp only at q
        cases e2 : g v sm with
        | none => rw [e2] at q; exact False.elim q
        | some s1 =>
          rw [e2] at q
          refine hg hr' (r.sr.ext x') rv e2 fun σ1 sr1 => ⟨ρ', s1, mh, ⟨hr', sr1⟩, ?_⟩
          dsimp only at q
          cases e3 : b s1 mh with
          | nx s2 h2 => rw [e3] at q; exact fun ρ1 H1 σ2 x1 hr1 sr2 => ⟨ρ1, s2, h2, (x.trans x').trans x1, ⟨hr1, sr2⟩, (RSE.mono (x'.trans x1) q)⟩
          | ct s2 h2 => rw [e3] at q; exact fun ρ1 H1 σ2 x1 hr1 sr2 => ⟨ρ1, s2, h2, (x.trans x').trans x1, ⟨hr1, sr2⟩, (RSE.mono (x'.trans x1) q)⟩
          | bk s2 h2 => rw [e3] at q; exact fun ρ1 H1 σ2 x1 hr1 sr2 => q ρ1 H1 σ2 (x'.trans x1) hr1 sr2
          | rt v2 h2 => rw [e3] at q; exact fun ρ1 H1 σ2 x1 hr1 sr2 => q ρ1 H1 σ2 (x'.trans x1) hr1 sr2
          | err v2 s2 h2 => rw [e3] at q; exact fun ρ1 H1 σ2 c d x1 hr1 sr2 er => q ρ1 H1 σ2 c d (x'.trans x1) hr1 sr2 er
          | no => rw [e3] at q; exact False.elim q
theorem while_sim {ρ : List Addr} {H : Hp} {c : MB} {b : MS} {D : Ends} {n : Nat} {sm : Lo} {σ : St} {mh : MH} (r0 : Rl K G ρ H sm σ mh) (h : RSE K G W D ρ H (whileG c b n sm mh)) : tWhile (RT K G W c) (RS K G W b) D σ H := by
  refine ⟨fun m σ H => ∃ ρ sm mh, Rl K G ρ H sm σ mh ∧ RSE K G W D ρ H (whileG c b m sm mh), ⟨n, ρ, sm, mh, r0, h⟩, ?_⟩
  rintro m σ H ⟨ρ, sm, mh, r, q⟩
  cases m with
  | zero => exact False.elim q
  | succ m =>
    unfold whileG at q
    refine rts_bnd r q fun k ρ1 H1 mh1 x1 r1 q1 => ?_
    cases k with
    | false =>
      rw [if_neg Bool.false_ne_true] at q1 ⊢
      exact RSE.nx (σ1 := σ) q1 r1.hr r1.sr
    | true =>
      rw [if_pos rfl] at q1 ⊢
      refine ⟨fun σ' H' => ∃ ρ sm mh, Rl K G ρ H' sm σ' mh ∧ RSE K G W D ρ H' (whileG c b m sm mh), fun σ' H' z => ⟨m, Nat.lt_succ_self _, z⟩, ρ1, sm, mh1, r1, ?_⟩
      cases e3 : b sm mh1 with
      | nx s2 h2 => rw [e3] at q1; exact fun ρ1 H1 σ2 x1 hr1 sr2 => ⟨ρ1, s2, h2, ⟨hr1, sr2⟩, (RSE.mono x1 q1)⟩
      | ct s2 h2 => rw [e3] at q1; exact fun ρ1 H1 σ2 x1 hr1 sr2 => ⟨ρ1, s2, h2, ⟨hr1, sr2⟩, (RSE.mono x1 q1)⟩
      | bk s2 h2 => rw [e3] at q1; exact q1
      | rt v2 h2 => rw [e3] at q1; exact q1
      | err v2 s2 h2 => rw [e3] at q1; exact q1
      | no => rw [e3] at q1; exact False.elim q1
end

/-! ### what is walked -/
def getSeq (v : MV) : Itm := fun i h => (seqOf h v).map fun xs => xs[i]?
def getL (xs : List MV) : Itm := fun i _ => some xs[i]?
def getR (lo : Int) (n : Nat) : Itm := fun i _ => some (if i < n then some (.int (lo + i)) else none)
section
variable {K : PySem.W.Frag} {G : String → Option V} {ρ0 : List Addr} {H0 : Hp}
theorem its_list {v : MV} {a : Addr} (hv : VR K G ρ0 H0 v (.ref a)) (hn : asT v = none) : ItS K G ρ0 H0 (Itl K a) (getSeq v) := by
  have key : ∀ {ρ H mh xs}, Ext K ρ0 H0 ρ H → HR K G ρ H mh → seqOf mh v = some xs → ∃ vs, SqL K H a vs ∧ VRs K G ρ H xs vs := fun {ρ H mh xs} x hr e => by
    cases v with
    | ref i =>
      simp only [seqOf] at e
      split at e
      · rename_i q
        cases e
        obtain ⟨b, vs, e1, _, h1, h2⟩ := hr.lst q (hv.ext x)
        cases e1
        exact ⟨vs, SqL.of h1, h2⟩
      · cases e
    | frl ys =>
      simp only [seqOf] at e; cases e
      have := hv.ext x
      simp only [VR] at this
      obtain ⟨b, vs, e1, h1, h2⟩ := this
      cases e1
      exact ⟨vs, h1.sq, h2⟩
    | tup _ => simp [asT] at hn
    | ktp _ => simp [asT] at hn
    | _ => simp [seqOf] at e
  have get : ∀ {i mh o}, getSeq v i mh = some o → ∃ xs, seqOf mh v = some xs ∧ xs[i]? = o := fun {i mh o} e => by
    unfold getSeq at e
    cases h : seqOf mh v with
    | none => rw [h] at e; cases e
    | some xs => rw [h] at e; exact ⟨xs, rfl, Option.some.inj e⟩
  refine ⟨fun {i ρ H mh} x hr e => ?_, fun {i ρ H mh z} x hr e => ?_, fun {i ρ H mh z y H'} x hr e hy => ?_⟩
  · obtain ⟨xs, e1, e2⟩ := get e
    obtain ⟨vs, h1, h2⟩ := key x hr e1
    exact ⟨vs, h1, by rw [← h2.length]; exact List.getElem?_eq_none_iff.mp e2⟩
  · obtain ⟨xs, e1, e2⟩ := get e
    obtain ⟨vs, h1, h2⟩ := key x hr e1
    obtain ⟨u, h3, _⟩ := h2.get e2
    exact ⟨vs, u, h1, h3⟩
  · obtain ⟨xs, e1, e2⟩ := get e
    obtain ⟨vs, h1, h2⟩ := key x hr e1
    obtain ⟨u, h3, h4⟩ := h2.get e2
    obtain ⟨rfl, h5⟩ := hy
    have := h5 vs h1
    rw [h3] at this; cases this
    exact ⟨ρ, Ext.refl, hr, h4⟩
theorem its_tup {v : MV} {a : Addr} {xs : List MV} (hv : VR K G ρ0 H0 v (.ref a)) (hn : asT v = some xs) : ItS K G ρ0 H0 (Itt K a) (getL xs) := by
  have key : ∀ {ρ H}, Ext K ρ0 H0 ρ H → ∃ vs, SqT K H a vs ∧ VRs K G ρ H xs vs := fun {ρ H} x => by
    obtain ⟨b, vs, e, h1, h2⟩ := (hv.ext x).tup hn
    cases e
    exact ⟨vs, h1, h2⟩
  refine ⟨fun {i ρ H mh} x hr e => ?_, fun {i ρ H mh z} x hr e => ?_, fun {i ρ H mh z y H'} x hr e hy => ?_⟩
  · obtain ⟨vs, h1, h2⟩ := key x
    exact ⟨vs, h1, by rw [← h2.length]; exact List.getElem?_eq_none_iff.mp (Option.some.inj e)⟩
  · obtain ⟨vs, h1, h2⟩ := key x
    obtain ⟨u, h3, _⟩ := h2.get (Option.some.inj e)
    exact ⟨vs, u, h1, h3⟩
  · obtain ⟨vs, h1, h2⟩ := key x
    obtain ⟨u, h3, h4⟩ := h2.get (Option.some.inj e)
    obtain ⟨rfl, h5⟩ := hy
    have := h5 vs h1
    rw [h3] at this; cases this
    exact ⟨ρ, Ext.refl, hr, h4⟩
theorem its_rng {lo : Int} {n : Nat} : ItS K G ρ0 H0 (Itr lo n) (getR lo n) := by
  refine ⟨fun {i ρ H mh} x hr e => ?_, fun {i ρ H mh z} x hr e => ?_, fun {i ρ H mh z y H'} x hr e hy => ?_⟩
  · unfold getR at e
    split at e
    · cases e
    · rename_i h; exact Nat.le_of_not_lt h
  · unfold getR at e
    split at e
    · rename_i h; exact h
    · cases e
  · unfold getR at e
    split at e
    · cases e
      obtain ⟨rfl, rfl⟩ := hy
      exact ⟨ρ, Ext.refl, hr, by simp [VR]⟩
    · cases e
def chars (z : Str) : List MV := z.cps.toList.map fun c => .str ⟨#[c]⟩
theorem its_str {z : Str} : ItS K G ρ0 H0 (Its z) (getL (chars z)) := by
  have ln : (chars z).length = z.cps.size := by simp [chars]
  refine ⟨fun {i ρ H mh} x hr e => ?_, fun {i ρ H mh u} x hr e => ?_, fun {i ρ H mh u y H'} x hr e hy => ?_⟩
  · have h := List.getElem?_eq_none_iff.mp (Option.some.inj e)
    rw [ln] at h; exact h
  · have h := (List.getElem?_eq_some_iff.mp (Option.some.inj e)).1
    rw [ln] at h; exact h
  · have e' := Option.some.inj e
    obtain ⟨rfl, c, h1, rfl⟩ := hy
    refine ⟨ρ, Ext.refl, hr, ?_⟩
    unfold chars at e'
    rw [List.getElem?_map, Array.getElem?_toList, h1] at e'
    cases e'
    simp [VR]
end

/-! ### for -/
def sFor (it : ME) (g : MG) (b : MS) : MS := fun s h => (it s h).bnS s fun v h1 => match v with
  | .str z => forG (getL (chars z)) g b (z.length + 1) 0 s h1
  | v => match asT v with
    | some xs => forG (getL xs) g b (xs.length + 1) 0 s h1
    | none => match seqOf h1 v with
      | some xs => forG (getSeq v) g b (xs.length + 1) 0 s h1
      | none => .no
def rng1 (xs : List MV) : Option (Int × Nat) := match xs with
  | [.int j] => if -(2 ^ 62) ≤ j ∧ j < 2 ^ 62 then some (0, j.toNat) else none
  | _ => none
def rng2 (xs : List MV) : Option (Int × Nat) := match xs with
  | [.int i, .int j] => if -(2 ^ 62) ≤ i ∧ i < 2 ^ 62 ∧ -(2 ^ 62) ≤ j ∧ j < 2 ^ 62 then some (i, (j - i).toNat) else none
  | _ => none
def sForR (rg : List MV → Option (Int × Nat)) (as : MEs) (g : MG) (b : MS) : MS := fun s h => (as s h).bnS s fun xs h1 => match rg xs with
  | some (lo, n) => forG (getR lo n) g b (n + 1) 0 s h1
  | none => .no
def sWhile (n : Nat) (c : MB) (b : MS) : MS := whileG c b n
section
variable {X : Cx} {G : String → Option V} {W : WX} {tg iter a b' : Expr} {body : List Stmt} {m : ME} {ms : MEs} {t : TG} {g : MG} {b : MS} {mc : MB} {pos p cpos : Pos}
theorem ps_alt {st : Stmt} {t t' : TS} (h : PS X st t) (h' : PS X st t') : PS X st (fun D σ H => t D σ H ∨ t' D σ H) :=
  ⟨fun pins s σ H D I q => q.elim (fun q => h.run pins s σ H D I q) fun q => h'.run pins s σ H D I q⟩
theorem m_for (hp : PassesOwn (model X.prog X.w) X.A X.env X.xe) (hc : X.calm = true) (hi : PE X iter (RE X.K G W m)) (hg : PG X tg t) (hgs : GS X.K G t g) (hb : PSs X body (RS X.K G W b))
    (hs : ∀ x, foldedSetIterable iter X.env x = pure x := by intro _; rfl) : PS X (.For tg iter body [] pos) (RS X.K G W (sFor m g b)) := by
  refine ps_imp (ps_alt (ps_for hp hc (pi_list hi) hg hb hs) (ps_alt (ps_for hp hc (pi_tup hi) hg hb hs) (ps_for hp hc (pi_str hi) hg hb hs))) fun D σ H ⟨ρ, sm, mh, r, q⟩ => ?_
  unfold sFor at q
  cases e : m sm mh with
  | no => rw [e] at q; exact False.elim q
  | err v m1 =>
    rw [e] at q
    refine .inl ⟨ρ, sm, mh, r, ?_⟩
    rw [e]
    exact fun ρ1 H1 cls d x hr er => q ρ1 H1 σ cls d x hr (r.sr.ext x) er
  | ok v m1 =>
    have run : ∀ {Q : VK}, (∀ ρ1 H1 w, Ext X.K ρ H ρ1 H1 → Rl X.K G ρ1 H1 sm σ m1 → VR X.K G ρ1 H1 v w → Q w H1) → RE X.K G W m σ H Q := fun {Q} k => by
      refine ⟨ρ, sm, mh, r, ?_⟩
      rw [e]
      exact fun ρ1 H1 x hr w rv => k ρ1 H1 w x (r.at x hr) rv
    rw [e] at q
    dsimp only [Rz.bnS] at q
    split at q
    · rename_i z
      refine .inr (.inr (run fun ρ1 H1 w x1 r1 rv => ?_))
      simp only [VR] at rv
      subst rv
      exact ⟨z, rfl, for_sim its_str hgs (Ext.refl (ρ := ρ1)) r1 (RSE.mono x1 q)⟩
    · split at q
      · rename_i xs hx
        refine .inr (.inl (run fun ρ1 H1 w x1 r1 rv => ?_))
        obtain ⟨a, vs, rfl, h1, h2⟩ := rv.tup hx
        exact ⟨a, rfl, ⟨vs, h1⟩, for_sim (its_tup rv hx) hgs (Ext.refl (ρ := ρ1)) r1 (RSE.mono x1 q)⟩
      · rename_i hx
        split at q
        · rename_i xs hq
          refine .inl (run fun ρ1 H1 w x1 r1 rv => ?_)
          obtain ⟨a, vs, rfl, h1, h2⟩ := seq_V r1.hr hq rv
          refine ⟨a, rfl, ?_, for_sim (its_list rv hx) hgs (Ext.refl (ρ := ρ1)) r1 (RSE.mono x1 q)⟩
          rcases h1 with h1 | h1
          · exact ⟨vs, h1⟩
          · have z : ∃ vs, SqL X.K H1 a vs := by
              cases v with
              | ref i =>
                simp only [seqOf] at hq
                split at hq
                · rename_i q2
                  obtain ⟨b, ws, e1, _, h3, _⟩ := r1.hr.lst q2 rv
                  cases e1
                  exact ⟨ws, SqL.of h3⟩
                · cases hq
              | frl ys =>
                simp only [VR] at rv
                obtain ⟨b, ws, e1, h3, _⟩ := rv
                cases e1
                exact ⟨ws, h3.sq⟩
              | tup _ => simp [asT] at hx
              | ktp _ => simp [asT] at hx
              | _ => simp [seqOf] at hq
            exact z
        · exact False.elim q
theorem m_forR1 (hp : PassesOwn (model X.prog X.w) X.A X.env X.xe) (hc : X.calm = true) (hgl : Gl X "range") (hm : X.mg "range" = none) (ha : PA X [a] (RA X.K G W ms)) (hg : PG X tg t) (hgs : GS X.K G t g) (hb : PSs X body (RS X.K G W b))
    (hs : starEach [a] X.env = [(false, eval a X.env)] := by rfl) (hs2 : ∀ x, foldedSetIterable (.Call (.Name "range" p) [a] [] cpos) X.env x = pure x := by intro _; rfl) :
    PS X (.For tg (.Call (.Name "range" p) [a] [] cpos) body [] pos) (RS X.K G W (sForR rng1 ms g b)) := by
  refine ps_imp (ps_for hp hc (pi_range1 hgl hm ha hs) hg hb hs2) fun D σ H ⟨ρ, sm, mh, r, q⟩ => ?_
  refine ras_bnd r q fun xs ρ1 H1 mh1 vs x1 r1 rvs q1 => ?_
  unfold rng1 at q1
  split at q1
  · rename_i e
    split at e
    · rename_i j
      obtain ⟨v, rfl, rv⟩ := rvs.one
      simp only [VR] at rv
      subst rv
      split at e
      · rename_i hj
        cases e
        exact ⟨j, rfl, hj.1, hj.2, for_sim its_rng hgs (Ext.refl (ρ := ρ1)) r1 q1⟩
      · cases e
    · cases e
  · exact False.elim q1
theorem m_forR2 (hp : PassesOwn (model X.prog X.w) X.A X.env X.xe) (hc : X.calm = true) (hgl : Gl X "range") (hm : X.mg "range" = none) (ha : PA X [a, b'] (RA X.K G W ms)) (hg : PG X tg t) (hgs : GS X.K G t g) (hb : PSs X body (RS X.K G W b))
    (hs : starEach [a, b'] X.env = [(false, eval a X.env), (false, eval b' X.env)] := by rfl) (hs1 : starEach [b'] X.env = [(false, eval b' X.env)] := by rfl) (hs2 : ∀ x, foldedSetIterable (.Call (.Name "range" p) [a, b'] [] cpos) X.env x = pure x := by intro _; rfl) :
    PS X (.For tg (.Call (.Name "range" p) [a, b'] [] cpos) body [] pos) (RS X.K G W (sForR rng2 ms g b)) := by
  refine ps_imp (ps_for hp hc (pi_range2 hgl hm ha hs hs1) hg hb hs2) fun D σ H ⟨ρ, sm, mh, r, q⟩ => ?_
  refine ras_bnd r q fun xs ρ1 H1 mh1 vs x1 r1 rvs q1 => ?_
  unfold rng2 at q1
  split at q1
  · rename_i e
    split at e
    · rename_i i j
      obtain ⟨v, v2, rfl, rv, rv2⟩ := rvs.two
      simp only [VR] at rv rv2
      subst rv rv2
      split at e
      · rename_i hj
        cases e
        exact ⟨_, _, rfl, hj, for_sim its_rng hgs (Ext.refl (ρ := ρ1)) r1 q1⟩
      · cases e
    · cases e
  · exact False.elim q1
theorem m_while {c : Expr} {n : Nat} (hp : PassesOwn (model X.prog X.w) X.A X.env X.xe) (hc : PT X c (RT X.K G W mc)) (hb : PSs X body (RS X.K G W b)) : PS X (.While c body [] pos) (RS X.K G W (sWhile n mc b)) :=
  ps_imp (ps_while hp hc hb) fun D σ H ⟨ρ, sm, mh, r, q⟩ => while_sim r q
end

/-! ### the law -/
/-- what the law's def is called with: the script, nothing else is there -/
theorem law_sp {K : PySem.W.Frag} {G : String → Option V} {f : MF} {H : Hp} {a : Addr} {ns : List Int} (hO : Only H) (hS : SqL K H a (ns.map V.int)) (h : ∃ h1, f [.frl (ns.map MV.int)] [] = .ok (.bl true) h1) :
    SpM K G 1 f [.ref a] H (fun v _ => v = .bl true) fun _ _ _ => False := by
  obtain ⟨h1, e⟩ := h
  have allI : ∀ (ns : List Int), VRs K G [] H (ns.map MV.int) (ns.map V.int) := by
    intro ns
    induction ns with
    | nil => exact VRs.nil
    | cons n ns ih => exact VRs.cons (by simp [VR]) ih
  have fr : FrL K H a (ns.map V.int) := by
    rcases hS with (q | q) | q
    · rcases hO a with z | ⟨o, xs, z⟩
      · rw [z] at q; cases q
      · rw [z] at q; cases q
    · exact .inl q
    · exact .inr q
  refine ⟨[], [.frl (ns.map MV.int)], [], ⟨rfl, List.nodup_nil, fun i o e => by simp at e⟩, VRs.cons (by simp only [VR]; exact ⟨a, _, rfl, fr, allI ns⟩) VRs.nil, rfl, ?_⟩
  rw [e]
  exact fun ρ1 H1 x hr v rv => by simpa [VR] using rv
end Mo
/-! Mo9: methods of built-in types. -/
namespace Mo
open PySem L2

def eMt (g : MV → MH → Bool) (f : MV → List MV → MH → OV) (a : ME) (as : MEs) : ME := fun s h => (a s h).bnd fun x h1 => if g x h1 = true then (as s h1).bnd fun xs h2 => lift (f x xs h2) else .no
def MtS (K : PySem.W.Frag) (G : String → Option V) (r : V → List V → Hp → VK → Prop) (f : MV → List MV → MH → OV) : Prop :=
  ∀ {ρ : List Addr} {H : Hp} {mh mh1 : MH} {x z : MV} {xs : List MV} {v : V} {vs : List V} {Q : VK}, HR K G ρ H mh → VR K G ρ H x v → VRs K G ρ H xs vs → f x xs mh = some (z, mh1) →
    (∀ ρ1 H1, Ext K ρ H ρ1 H1 → HR K G ρ1 H1 mh1 → ∀ v1, VR K G ρ1 H1 z v1 → Q v1 H1) → r v vs H Q
def TyS (K : PySem.W.Frag) (G : String → Option V) (T : String) (g : MV → MH → Bool) : Prop := ∀ {ρ : List Addr} {H : Hp} {mh : MH} {x : MV} {v : V}, HR K G ρ H mh → VR K G ρ H x v → g x mh = true → tyV K T v H
def isL (x : MV) (h : MH) : Bool := match x with
  | .ref i => match h[i]? with
    | some (.lst _) => true
    | _ => false
  | .frl _ => true
  | _ => false
def isS (x : MV) (_ : MH) : Bool := match x with
  | .str _ => true
  | _ => false
section
variable {X : Cx} {G : String → Option V} {W : WX} {o e : Expr} {es : List Expr} {mo : ME} {ms : MEs} {name : Str} {apos cpos : Pos} {T id : String} {r : V → List V → Hp → VK → Prop} {f : MV → List MV → MH → OV} {g : MV → MH → Bool}
theorem t_lst {K : PySem.W.Frag} : TyS K G "list" isL := by
  intro ρ H mh x v hr rv h
  unfold isL at h
  split at h
  · split at h
    · rename_i q
      obtain ⟨a, vs, rfl, _, h1, _⟩ := hr.lst q rv
      exact .inl ⟨rfl, _, SqL.of h1⟩
    · cases h
  · simp only [VR] at rv
    obtain ⟨a, vs, rfl, h1, _⟩ := rv
    exact .inl ⟨rfl, _, h1.sq⟩
  · cases h
theorem t_str {K : PySem.W.Frag} : TyS K G "str" isS := by
  intro ρ H mh x v hr rv h
  unfold isS at h
  split at h
  · simp only [VR] at rv; subst rv; exact rfl
  · cases h
theorem bm_run {σ : St} {H : Hp} {Q : VK} {P : V → Hp → Prop} (hT : TyS X.K G T g) (h : RE X.K G W (eMt g f mo ms) σ H Q)
    (k : ∀ ρ H mh sm x v, Rl X.K G ρ H sm σ mh → VR X.K G ρ H x v → tyV X.K T v H → RO X.K G W σ (PV X.K G Q) ρ H ((ms sm mh).bnd fun xs h2 => lift (f x xs h2)) → P v H) : RE X.K G W mo σ H P := by
  obtain ⟨ρ, sm, mh, r0, q⟩ := h
  refine re_bnd r0 q fun x ρ1 H1 mh1 v x1 r1 rv q1 => ?_
  by_cases hg : g x mh1 = true
  · rw [if_pos hg] at q1; exact k ρ1 H1 mh1 sm x v r1 rv (hT r1.hr rv hg) q1
  · rw [if_neg hg] at q1; exact False.elim q1
theorem m_bm (pa : PlainAttrs T) (slot : Slot T name id) (hty : typeOf (.builtin id) = pure (.type "method_descriptor")) (hm : MtR X id r) (hT : TyS X.K G T g) (hs : MtS X.K G r f) (ho : PE X o (RE X.K G W mo)) (ha : PA X (e :: es) (RA X.K G W ms))
    (hbase : attributeBase o name X.env (eval o X.env) = eval o X.env := by rfl)
    (hfew : ((backTo cpos (starEach (e :: es) X.env)).all (fun x => !x.1) && (backToKw cpos (keywordEach [] X.env)).all (fun x => x.1.isSome)
      && decide ((e :: es).length + ([] : List Keyword).length + (if ([] : List Keyword).isEmpty then 0 else 1) < 30)) = true := by rfl)
    (hline : (apos.endLine == cpos.line) = true := by rfl) (hst : starEach (e :: es) X.env = (false, eval e X.env) :: starEach es X.env := by rfl) (hplain : (backTo cpos (starEach es X.env)).any (·.1) = false := by rfl) :
    PE X (.Call (.Attribute o name apos) (e :: es) [] cpos) (RE X.K G W (eMt g f mo ms)) := by
  refine pe_imp (pe_bm pa slot hty hm ho ha hbase hfew hline hst hplain) fun σ H Q h => ?_
  refine bm_run hT h fun ρ1 H1 mh1 sm x v r1 rv ty q1 => ⟨ty, ?_⟩
  refine ra_bnd r1 q1 fun xs ρ2 H2 mh2 vs x2 r2 rvs q2 => ?_
  obtain ⟨z, h1, e, k⟩ := ro_lift q2
  exact hs r2.hr (rv.ext x2) rvs e k
theorem m_bm0 (pa : PlainAttrs T) (slot : Slot T name id) (hty : typeOf (.builtin id) = pure (.type "method_descriptor")) (hm : MtR X id r) (hT : TyS X.K G T g) (hs : MtS X.K G r f) (ho : PE X o (RE X.K G W mo))
    (hbase : attributeBase o name X.env (eval o X.env) = eval o X.env := by rfl) (hline : (apos.endLine == cpos.line) = true := by rfl) :
    PE X (.Call (.Attribute o name apos) [] [] cpos) (RE X.K G W (eMt g f mo aNil)) := by
  refine pe_imp (pe_bm0 pa slot hty hm ho hbase hline) fun σ H Q h => ?_
  refine bm_run hT h fun ρ1 H1 mh1 sm x v r1 rv ty q1 => ⟨ty, ?_⟩
  obtain ⟨z, h1, e, k⟩ := ro_lift q1
  exact hs r1.hr rv VRs.nil e k
end

/-! ### lists -/
def lstOp (f : List MV → List MV → Option (MV × List MV)) (x : MV) (xs : List MV) (h : MH) : OV := match x with
  | .ref i => match h[i]? with
    | some (.lst ys) => (f ys xs).map fun p => (p.1, h.set i (.lst p.2))
    | _ => none
  | _ => none
def oAppend (ys xs : List MV) : Option (MV × List MV) := match xs with
  | [y] => if ys.length < SZ then some (.non, ys ++ [y]) else none
  | _ => none
def oPopAt (ys xs : List MV) : Option (MV × List MV) := match xs with
  | [.int i] => if -(2 ^ 63) ≤ i ∧ i < 2 ^ 63 then (seqIndex? i ys.length).bind fun k => ys[k]?.map fun y => (y, ys.eraseIdx k) else none
  | _ => none
abbrev fAppend := lstOp oAppend
abbrev fPopAt := lstOp oPopAt
def fExtend (x : MV) (xs : List MV) (h : MH) : OV := match x, xs with
  | .ref i, [.ref j] => match h[i]?, h[j]? with
    | some (.lst ys), some (.lst zs) => if ys.length + zs.length ≤ SZ then some (.non, h.set i (.lst (ys ++ zs))) else none
    | _, _ => none
  | _, _ => none
section
variable {K : PySem.W.Frag} {G : String → Option V} {ρ : List Addr} {H : Hp} {mh : MH}
theorem VRs.erase : ∀ {xs : List MV} {vs : List V} (k : Nat), VRs K G ρ H xs vs → VRs K G ρ H (xs.eraseIdx k) (vs.eraseIdx k)
  | [], _, _, h => by simp only [VRs] at h; subst h; exact VRs.nil
  | x :: xs, _, 0, h => by simp only [VRs] at h; obtain ⟨v, r, rfl, q, t⟩ := h; exact t
  | x :: xs, _, k + 1, h => by simp only [VRs] at h; obtain ⟨v, r, rfl, q, t⟩ := h; exact VRs.cons q (VRs.erase k t)
/-- a list is written -/
theorem put_lst (hr : HR K G ρ H mh) {i : Nat} {ys zs : List MV} {a : Addr} {vs ws : List V} (e : mh[i]? = some (.lst ys)) (ha : ρ[i]? = some a) (hH : H a = some (.lst vs)) (r : VRs K G ρ H zs ws) :
    HR K G ρ (upd H a (.lst ws)) (mh.set i (.lst zs)) ∧ Ext K ρ H ρ (upd H a (.lst ws)) :=
  hr.write e ha ⟨ws, upd_same, r.ext (ext_write hH (by simp [Plain]))⟩
theorem s_append : MtS K G rAppend fAppend := by
  intro ρ H mh mh1 x z xs v vs Q hr rv rvs e k
  unfold fAppend lstOp at e
  split at e
  · split at e
    · rename_i ys q
      cases h : oAppend ys xs with
      | none => rw [h] at e; cases e
      | some p =>
        rw [h] at e; cases e
        unfold oAppend at h
        split at h
        · split at h
          · rename_i hl
            cases h
            obtain ⟨w, rfl, rw'⟩ := rvs.one
            obtain ⟨a, us, rfl, ha, h1, h2⟩ := hr.lst q rv
            obtain ⟨a1, a2⟩ := put_lst hr q ha h1 (h2.append (VRs.cons rw' VRs.nil))
            exact ⟨a, us, w, rfl, rfl, h1, by rw [SZ_eq, ← h2.length]; exact hl, k _ _ a2 a1 _ (by simp [VR])⟩
          · cases h
        · cases h
    · cases e
  · cases e
theorem s_popAt : MtS K G rPopAt fPopAt := by
  intro ρ H mh mh1 x z xs v vs Q hr rv rvs e k
  unfold fPopAt lstOp at e
  split at e
  · split at e
    · rename_i ys q
      cases h : oPopAt ys xs with
      | none => rw [h] at e; cases e
      | some p =>
        rw [h] at e; cases e
        unfold oPopAt at h
        split at h
        · rename_i i
          split at h
          · rename_i hl
            obtain ⟨w, rfl, rw'⟩ := rvs.one
            simp only [VR] at rw'
            subst rw'
            obtain ⟨a, us, rfl, ha, h1, h2⟩ := hr.lst q rv
            cases h3 : seqIndex? i ys.length with
            | none => rw [h3] at h; cases h
            | some n =>
              rw [h3] at h
              cases h4 : ys[n]? with
              | none => simp [h4] at h
              | some y =>
                simp [h4] at h
                subst h
                obtain ⟨u, h5, h6⟩ := h2.get h4
                obtain ⟨a1, a2⟩ := put_lst hr q ha h1 (h2.erase n)
                exact ⟨a, us, i, n, u, rfl, rfl, h1, hl.1, hl.2, by rw [← h2.length]; exact h3, h5, k _ _ a2 a1 _ (h6.ext a2)⟩
          · cases h
        · cases h
    · cases e
  · cases e
theorem s_extend : MtS K G rExtend fExtend := by
  intro ρ H mh mh1 x z xs v vs Q hr rv rvs e k
  unfold fExtend at e
  split at e
  · split at e
    · split at e
      · rename_i q1 q2 hl
        cases e
        obtain ⟨w, rfl, rw'⟩ := rvs.one
        obtain ⟨a, us, rfl, ha, h1, h2⟩ := hr.lst q1 rv
        obtain ⟨b, ws, rfl, hb, h3, h4⟩ := hr.lst q2 rw'
        obtain ⟨a1, a2⟩ := put_lst hr q1 ha h1 (h2.append h4)
        exact ⟨a, b, us, ws, rfl, rfl, h1, h3, by rw [SZ_eq, ← h2.length, ← h4.length]; exact hl, k _ _ a2 a1 _ (by simp [VR])⟩
      · cases e
    · cases e
  · cases e
end
end Mo
/-! Mo10: running the model by simp: what a combinator gives, one step at a time. -/
namespace Mo
open PySem L2
section
variable {s s1 : Lo} {h h1 : MH} {x y v : MV} {e : MX}
/-! continuations without bound names -/
def K2 (r : Rz MV) (f : MV → MV → MH → OV) (b : ME) (s : Lo) : Rz MV := r.bnd fun x h1 => (b s h1).bnd fun y h2 => lift (f x y h2)
def K3 (r : Rz MV) (f : MV → MV → MH → OV) (x : MV) : Rz MV := r.bnd fun y h2 => lift (f x y h2)
def KA (r : Rz (List MV)) (f : List MV → MH → OV) : Rz MV := r.bnd fun xs h => lift (f xs h)
def KC (r : Rz MV) (t : MEs) (s : Lo) : Rz (List MV) := r.bnd fun x h1 => (t s h1).bnd fun xs h2 => .ok (x :: xs) h2
def KC2 (r : Rz (List MV)) (x : MV) : Rz (List MV) := r.bnd fun xs h2 => .ok (x :: xs) h2
def KM (r : Rz MV) (g : MV → MH → Bool) (f : MV → List MV → MH → OV) (as : MEs) (s : Lo) : Rz MV := r.bnd fun x h1 => if g x h1 = true then (as s h1).bnd fun xs h2 => lift (f x xs h2) else .no
def KM2 (r : Rz (List MV)) (f : MV → List MV → MH → OV) (x : MV) : Rz MV := r.bnd fun xs h2 => lift (f x xs h2)
def KCl (r : Rz (List MV)) (n : Nat) (f : MF) : Rz MV := r.bnd fun xs h1 => if xs.length = n then f xs h1 else .no
def KBB (r : Rz MV) : Rz Bool := r.bnd fun x h1 => match asB x with
  | some b => .ok b h1
  | none => .no
def KBT (r : Rz MV) : Rz Bool := r.bnd fun x h1 => match tru h1 x with
  | some b => .ok b h1
  | none => .no
def KIf (r : Rz Bool) (a b : ME) (s : Lo) : Rz MV := r.bnd fun k h1 => if k = true then a s h1 else b s h1
def KAn (r : Rz Bool) (b : MB) (s : Lo) : Rz Bool := r.bnd fun k h1 => if k = true then b s h1 else .ok false h1
def KOr (r : Rz Bool) (b : MB) (s : Lo) : Rz Bool := r.bnd fun k h1 => if k = true then .ok true h1 else b s h1
def KNo (r : Rz Bool) : Rz Bool := r.bnd fun k h1 => .ok (!k) h1
def KEA (r : Rz MV) (b : ME) (s : Lo) : Rz MV := r.bnd fun x h1 => match asB x with
  | some k => if k = true then b s h1 else .ok (.bl false) h1
  | none => .no
def KEO (r : Rz MV) (b : ME) (s : Lo) : Rz MV := r.bnd fun x h1 => match asB x with
  | some k => if k = true then .ok (.bl true) h1 else b s h1
  | none => .no
def KEN (r : Rz MV) : Rz MV := r.bnd fun x h1 => match asB x with
  | some k => .ok (.bl (!k)) h1
  | none => .no
@[simp] theorem eC_ev : eC v s h = .ok v h := rfl
@[simp] theorem e2_ev {f a b} : e2 f a b s h = K2 (a s h) f b s := rfl
@[simp] theorem K2_ok {f b} : K2 (.ok x h) f b s = K3 (b s h) f x := rfl
@[simp] theorem K2_err {f b} : K2 (.err e h) f b s = .err e h := rfl
@[simp] theorem K3_ok {f} : K3 (.ok y h) f x = lift (f x y h) := rfl
@[simp] theorem K3_err {f} : K3 (.err e h) f x = .err e h := rfl
@[simp] theorem lift_some : lift (some (v, h)) = .ok v h := rfl
@[simp] theorem eA_ev {f as} : eA f as s h = KA (as s h) f := rfl
@[simp] theorem KA_ok {f xs} : KA (.ok xs h) f = lift (f xs h) := rfl
@[simp] theorem KA_err {f} : KA (.err e h) f = .err e h := rfl
@[simp] theorem aNil_ev : aNil s h = .ok [] h := rfl
@[simp] theorem aCons_ev {a r} : aCons a r s h = KC (a s h) r s := rfl
@[simp] theorem KC_ok {t} : KC (.ok x h) t s = KC2 (t s h) x := rfl
@[simp] theorem KC_err {t} : KC (.err e h) t s = .err e h := rfl
@[simp] theorem KC2_ok {xs} : KC2 (.ok xs h) x = .ok (x :: xs) h := rfl
@[simp] theorem KC2_err : KC2 (.err e h) x = .err e h := rfl
@[simp] theorem eMt_ev {g f a as} : eMt g f a as s h = KM (a s h) g f as s := rfl
@[simp] theorem KM_ok {g f as} : KM (.ok x h) g f as s = if g x h = true then KM2 (as s h) f x else .no := rfl
@[simp] theorem KM2_ok {f xs} : KM2 (.ok xs h) f x = lift (f x xs h) := rfl
@[simp] theorem call_ev {n f ms} : call n f ms s h = KCl (ms s h) n f := rfl
@[simp] theorem KCl_ok {n f xs} : KCl (.ok xs h) n f = if xs.length = n then f xs h else .no := rfl
@[simp] theorem KCl_err {n f} : KCl (.err e h) n f = .err e h := rfl
@[simp] theorem bB_ev {a} : bB a s h = KBB (a s h) := rfl
@[simp] theorem KBB_ok {b} : KBB (.ok (.bl b) h) = .ok b h := rfl
@[simp] theorem KBB_err : KBB (.err e h) = .err e h := rfl
@[simp] theorem bT_ev {a} : bT a s h = KBT (a s h) := rfl
@[simp] theorem KBT_bl {b} : KBT (.ok (.bl b) h) = .ok b h := rfl
@[simp] theorem KBT_non : KBT (.ok .non h) = .ok false h := rfl
@[simp] theorem KBT_err : KBT (.err e h) = .err e h := rfl
@[simp] theorem eIf_ev {c a b} : eIf c a b s h = KIf (c s h) a b s := rfl
@[simp] theorem KIf_ok {k a b} : KIf (.ok k h) a b s = if k = true then a s h else b s h := rfl
@[simp] theorem bAnd_ev {a b} : bAnd a b s h = KAn (a s h) b s := rfl
@[simp] theorem KAn_ok {k b} : KAn (.ok k h) b s = if k = true then b s h else .ok false h := rfl
@[simp] theorem bOr_ev {a b} : bOr a b s h = KOr (a s h) b s := rfl
@[simp] theorem KOr_ok {k b} : KOr (.ok k h) b s = if k = true then .ok true h else b s h := rfl
@[simp] theorem bNot_ev {a} : bNot a s h = KNo (a s h) := rfl
@[simp] theorem KNo_ok {k} : KNo (.ok k h) = .ok (!k) h := rfl
@[simp] theorem eAnd_ev {a b} : eAnd a b s h = KEA (a s h) b s := rfl
@[simp] theorem KEA_ok {k b} : KEA (.ok (.bl k) h) b s = if k = true then b s h else .ok (.bl false) h := rfl
@[simp] theorem eOr_ev {a b} : eOr a b s h = KEO (a s h) b s := rfl
@[simp] theorem KEO_ok {k b} : KEO (.ok (.bl k) h) b s = if k = true then .ok (.bl true) h else b s h := rfl
@[simp] theorem eNot_ev {a} : eNot a s h = KEN (a s h) := rfl
@[simp] theorem KEN_ok {k} : KEN (.ok (.bl k) h) = .ok (.bl (!k)) h := rfl
/-! statements -/
def SR.nxt (r : SR) (b : MS) : SR := match r with
  | .nx s1 h1 => b s1 h1
  | r => r
def KSet (r : Rz MV) (s : Lo) (i : Nat) : SR := r.bnS s fun v h1 => .nx (s.set i (some v)) h1
def KAsg (r : Rz MV) (s : Lo) (g : MG) : SR := r.bnS s fun v h1 => match g v s with
  | some s1 => .nx s1 h1
  | none => .no
def KExp (r : Rz MV) (s : Lo) : SR := r.bnS s fun _ h1 => .nx s h1
def KRet (r : Rz MV) (s : Lo) : SR := r.bnS s fun v h1 => .rt v h1
def KSIf (r : Rz Bool) (s : Lo) (a b : MS) : SR := r.bnS s fun k h1 => if k = true then a s h1 else b s h1
@[simp] theorem sNx_ev : sNx s h = .nx s h := rfl
@[simp] theorem sSeq_ev {a b} : sSeq a b s h = (a s h).nxt b := by unfold sSeq SR.nxt; cases a s h <;> rfl
@[simp] theorem nxt_nx {b} : (SR.nx s h).nxt b = b s h := rfl
@[simp] theorem nxt_rt {b} : (SR.rt v h).nxt b = .rt v h := rfl
@[simp] theorem nxt_bk {b} : (SR.bk s h).nxt b = .bk s h := rfl
@[simp] theorem nxt_ct {b} : (SR.ct s h).nxt b = .ct s h := rfl
@[simp] theorem nxt_err {b} : (SR.err e s h).nxt b = .err e s h := rfl
@[simp] theorem sAsgN_ev {a i} : sAsg a (gN i) s h = KSet (a s h) s i := rfl
@[simp] theorem KSet_ok {i} : KSet (.ok v h) s i = .nx (s.set i (some v)) h := rfl
@[simp] theorem KSet_err {i} : KSet (.err e h) s i = .err e s h := rfl
@[simp] theorem sAsgT_ev {a is} : sAsg a (gT is) s h = KAsg (a s h) s (gT is) := rfl
@[simp] theorem KAsgT_tup {xs is} : KAsg (.ok (.tup xs) h) s (gT is) = match setAll is xs s with
  | some s1 => .nx s1 h
  | none => .no := rfl
@[simp] theorem KAsgT_ktp {xs is} : KAsg (.ok (.ktp xs) h) s (gT is) = match setAll is xs s with
  | some s1 => .nx s1 h
  | none => .no := rfl
@[simp] theorem sExp_ev {a} : sExp a s h = KExp (a s h) s := rfl
@[simp] theorem KExp_ok : KExp (.ok v h) s = .nx s h := rfl
@[simp] theorem KExp_err : KExp (.err e h) s = .err e s h := rfl
@[simp] theorem sRet_ev {a} : sRet a s h = KRet (a s h) s := rfl
@[simp] theorem KRet_ok : KRet (.ok v h) s = .rt v h := rfl
@[simp] theorem KRet_err : KRet (.err e h) s = .err e s h := rfl
@[simp] theorem sRetN_ev : sRetN s h = .rt .non h := rfl
@[simp] theorem sIf_ev {c a b} : sIf c a b s h = KSIf (c s h) s a b := rfl
@[simp] theorem KSIf_ok {k a b} : KSIf (.ok k h) s a b = if k = true then a s h else b s h := rfl
@[simp] theorem KSIf_err {a b} : KSIf (.err e h) s a b = .err e s h := rfl
@[simp] theorem sBrk_ev : sBrk s h = .bk s h := rfl
@[simp] theorem sCnt_ev : sCnt s h = .ct s h := rfl
/-! loops -/
def KF (o : Option (Option MV)) (get : Itm) (g : MG) (b : MS) (n i : Nat) (s : Lo) (h : MH) : SR := match o with
  | none => .no
  | some none => .nx s h
  | some (some x) => match g x s with
    | none => .no
    | some s1 => match b s1 h with
      | .nx s2 h2 => forG get g b n (i + 1) s2 h2
      | .ct s2 h2 => forG get g b n (i + 1) s2 h2
      | .bk s2 h2 => .nx s2 h2
      | r => r
def KFB (r : SR) (get : Itm) (g : MG) (b : MS) (n i : Nat) : SR := match r with
  | .nx s2 h2 => forG get g b n (i + 1) s2 h2
  | .ct s2 h2 => forG get g b n (i + 1) s2 h2
  | .bk s2 h2 => .nx s2 h2
  | r => r
theorem forG_ev {get g b n i} : forG get g b (n + 1) i s h = KF (get i h) get g b n i s h := rfl
@[simp] theorem KF_stop {get g b n i} : KF (some none) get g b n i s h = .nx s h := rfl
@[simp] theorem KF_go {get j b n i} : KF (some (some x)) get (gN j) b n i s h = KFB (b (s.set j (some x)) h) get (gN j) b n i := by
  show (match b (s.set j (some x)) h with
      | .nx s2 h2 => forG get (gN j) b n (i + 1) s2 h2
      | .ct s2 h2 => forG get (gN j) b n (i + 1) s2 h2
      | .bk s2 h2 => .nx s2 h2
      | r => r) = _
  unfold KFB
  cases b (s.set j (some x)) h <;> rfl
@[simp] theorem KFB_nx {get g b n i} : KFB (.nx s h) get g b n i = forG get g b n (i + 1) s h := rfl
@[simp] theorem KFB_ct {get g b n i} : KFB (.ct s h) get g b n i = forG get g b n (i + 1) s h := rfl
@[simp] theorem KFB_bk {get g b n i} : KFB (.bk s h) get g b n i = .nx s h := rfl
@[simp] theorem KFB_rt {get g b n i} : KFB (.rt v h) get g b n i = .rt v h := rfl
@[simp] theorem KFB_err {get g b n i} : KFB (.err e s h) get g b n i = .err e s h := rfl
def KFR (r : Rz (List MV)) (rg : List MV → Option (Int × Nat)) (g : MG) (b : MS) (s : Lo) : SR := r.bnS s fun xs h1 => match rg xs with
  | some (lo, n) => forG (getR lo n) g b (n + 1) 0 s h1
  | none => .no
@[simp] theorem sForR_ev {rg as g b} : sForR rg as g b s h = KFR (as s h) rg g b s := rfl
theorem KFR_ok {rg g b xs lo n} (e : rg xs = some (lo, n)) : KFR (.ok xs h) rg g b s = forG (getR lo n) g b (n + 1) 0 s h := by
  show (match rg xs with
  | some (lo, n) => forG (getR lo n) g b (n + 1) 0 s h
  | none => .no) = _
  rw [e]
theorem KFR_1 {g b j} : KFR (.ok [.int j] h) rng1 g b s = if -(2 ^ 62) ≤ j ∧ j < 2 ^ 62 then forG (getR 0 j.toNat) g b (j.toNat + 1) 0 s h else .no := by
  unfold KFR rng1 Rz.bnS
  by_cases c : -(2 ^ 62) ≤ j ∧ j < 2 ^ 62
  · simp only [if_pos c]
  · simp only [if_neg c]
theorem KFR_2 {g b i j} : KFR (.ok [.int i, .int j] h) rng2 g b s = if -(2 ^ 62) ≤ i ∧ i < 2 ^ 62 ∧ -(2 ^ 62) ≤ j ∧ j < 2 ^ 62 then forG (getR i (j - i).toNat) g b ((j - i).toNat + 1) 0 s h else .no := by
  unfold KFR rng2 Rz.bnS
  by_cases c : -(2 ^ 62) ≤ i ∧ i < 2 ^ 62 ∧ -(2 ^ 62) ≤ j ∧ j < 2 ^ 62
  · simp only [if_pos c]
  · simp only [if_neg c]
@[simp] theorem getR_ev {lo : Int} {n i : Nat} : getR lo n i h = some (if i < n then some (.int (lo + i)) else none) := rfl
@[simp] theorem getL_ev {xs : List MV} {i : Nat} : getL xs i h = some xs[i]? := rfl
def KD (r : SR) : Rz MV := match r with
  | .nx _ h1 => .ok .non h1
  | .rt v h1 => .ok v h1
  | .err e _ h1 => .err e h1
  | _ => .no
theorem mDef_ev {n b xs} : mDef n b xs h = KD (b (xs.map some ++ List.replicate (n - xs.length) none) h) := by unfold mDef KD; rfl
@[simp] theorem KD_nx : KD (.nx s h) = .ok .non h := rfl
@[simp] theorem KD_rt : KD (.rt v h) = .ok v h := rfl
@[simp] theorem KD_err : KD (.err e s h) = .err e h := rfl
/-! functions on values -/
@[simp] theorem fAdd_int {i j} : fAdd (.int i) (.int j) h = some (.int (i + j), h) := rfl
@[simp] theorem fSub_int {i j} : fSub (.int i) (.int j) h = some (.int (i - j), h) := rfl
@[simp] theorem fCmp_int {p i j} : fCmp p (.int i) (.int j) h = some (.bl (p i j), h) := rfl
@[simp] theorem fInt_int {i} : fInt [.int i] h = some (.int i, h) := rfl
@[simp] theorem fAbs_int {i} : fAbs [.int i] h = some (.int (if i < 0 then -i else i), h) := rfl
@[simp] theorem fLen_frl {ys} : fLen [.frl ys] h = some (.int ys.length, h) := rfl
@[simp] theorem fLen_tup {ys} : fLen [.tup ys] h = some (.int ys.length, h) := rfl
@[simp] theorem fLen_ktp {ys} : fLen [.ktp ys] h = some (.int ys.length, h) := rfl
theorem fMod_int {i j : Int} (hj : 0 < j) : fMod (.int i) (.int j) h = some (.int (i % j), h) := by simp [fMod, hj]
theorem fDiv_int {i j : Int} (hj : 0 < j) (h2 : j < 1073741824) : fDiv (.int i) (.int j) h = some (.int (i / j), h) := by simp [fDiv, hj, h2]
@[simp] theorem fMod_lit {i : Int} {n : Nat} [NeZero n] : fMod (.int i) (.int (no_index (OfNat.ofNat n))) h = some (.int (i % (OfNat.ofNat n)), h) := fMod_int (by
  have : n ≠ 0 := NeZero.ne n
  show (0 : Int) < ((n : Nat) : Int)
  omega)
@[simp] theorem ob_some {b} : ob (some b) h = some (.bl b, h) := rfl
@[simp] theorem mEq_ss {n a b} : mEq n h (.str a) (.str b) = some (a == b) := by cases n <;> rfl
@[simp] theorem mEq_ii {n a b} : mEq n h (.int a) (.int b) = some (a == b) := by cases n <;> rfl
@[simp] theorem mEq_bb {n a b} : mEq n h (.bl a) (.bl b) = some (a == b) := by cases n <;> rfl
@[simp] theorem mEq_nn {n} : mEq n h .non .non = some true := by cases n <;> rfl
@[simp] theorem mEq_ns {n a} : mEq n h .non (.str a) = some false := by cases n <;> rfl
@[simp] theorem mEq_sn {n a} : mEq n h (.str a) .non = some false := by cases n <;> rfl
@[simp] theorem mEq_ni {n a} : mEq n h .non (.int a) = some false := by cases n <;> rfl
@[simp] theorem mEq_in {n a} : mEq n h (.int a) .non = some false := by cases n <;> rfl
@[simp] theorem mEq_is {n a b} : mEq n h (.int a) (.str b) = some false := by cases n <;> rfl
@[simp] theorem mEq_si {n a b} : mEq n h (.str a) (.int b) = some false := by cases n <;> rfl
@[simp] theorem mEq_tt {n xs ys} : mEq (n + 1) h (.tup xs) (.tup ys) = eqs (mEq n h) xs ys := rfl
@[simp] theorem mEq_kt {n xs ys} : mEq (n + 1) h (.ktp xs) (.tup ys) = eqs (mEq n h) xs ys := rfl
@[simp] theorem mEq_tk {n xs ys} : mEq (n + 1) h (.tup xs) (.ktp ys) = eqs (mEq n h) xs ys := rfl
@[simp] theorem mRc_ss {a b} : mRc h (.str a) (.str b) = some (a == b) := rfl
@[simp] theorem mRc_ii {a b} : mRc h (.int a) (.int b) = some (a == b) := rfl
@[simp] theorem mRc_bb {a b} : mRc h (.bl a) (.bl b) = some (a == b) := rfl
@[simp] theorem mRc_nn : mRc h .non .non = some true := rfl
@[simp] theorem mRc_ns {a} : mRc h .non (.str a) = some false := rfl
@[simp] theorem mRc_sn {a} : mRc h (.str a) .non = some false := rfl
@[simp] theorem mRc_tt {xs ys} : mRc h (.tup xs) (.tup ys) = eqs (mEq 7 h) xs ys := rfl
@[simp] theorem mRc_kt {xs ys} : mRc h (.ktp xs) (.tup ys) = eqs (mEq 7 h) xs ys := rfl
@[simp] theorem mRc_tk {xs ys} : mRc h (.tup xs) (.ktp ys) = eqs (mEq 7 h) xs ys := rfl
def KQ (o r : Option Bool) : Option Bool := match o, r with
  | some a, some b => some (a && b)
  | _, _ => none
@[simp] theorem eqs_nil {f} : eqs f [] [] = some true := rfl
@[simp] theorem eqs_cons {f ys} {xs : List MV} : eqs f (x :: xs) (y :: ys) = KQ (f x y) (eqs f xs ys) := rfl
@[simp] theorem eqs_nc {f ys} : eqs f [] (y :: ys) = some false := rfl
@[simp] theorem eqs_cn {f} {xs : List MV} : eqs f (x :: xs) [] = some false := rfl
@[simp] theorem KQ_some {a b} : KQ (some a) (some b) = some (a && b) := rfl
def KI (o r : Option Bool) : Option Bool := match o, r with
  | some a, some b => some (a || b)
  | _, _ => none
def inL (f : MV → Option Bool) (ys : List MV) : Option Bool := (insM f ys).map fun bs => bs.any id
@[simp] theorem KI_some {a b} : KI (some a) (some b) = some (a || b) := rfl
@[simp] theorem inL_nil {f} : inL f [] = some false := rfl
@[simp] theorem inL_cons {f ys} : inL f (y :: ys) = KI (f y) (inL f ys) := by
  unfold inL KI
  simp only [insM]
  cases f y <;> cases insM f ys <;> simp
@[simp] theorem fEq_ev : fEq x y h = ob (mRc h x y) h := rfl
@[simp] theorem fNe_ev : fNe x y h = ob ((mRc h x y).map not) h := rfl
@[simp] theorem fIn_ktp {ys} : fIn x (.ktp ys) h = ob (inL (fun y => mEq 7 h y x) ys) h := rfl
@[simp] theorem fIn_tup {ys} : fIn x (.tup ys) h = ob (inL (fun y => mEq 7 h y x) ys) h := rfl
theorem fIn_ref {i ys} (e : h[i]? = some (.lst ys)) : fIn x (.ref i) h = ob (inL (fun y => mEq 7 h y x) ys) h := by
  simp [fIn, mIn, seqOf, e, inL]
@[simp] theorem fNotIn_ktp {ys} : fNotIn x (.ktp ys) h = ob ((inL (fun y => mEq 7 h y x) ys).map not) h := rfl
@[simp] theorem fNotIn_tup {ys} : fNotIn x (.tup ys) h = ob ((inL (fun y => mEq 7 h y x) ys).map not) h := rfl
theorem fNotIn_ref {i ys} (e : h[i]? = some (.lst ys)) : fNotIn x (.ref i) h = ob ((inL (fun y => mEq 7 h y x) ys).map not) h := by
  simp [fNotIn, mIn, seqOf, e, inL]
@[simp] theorem fIsN_non : fIsN .non .non h = some (.bl true, h) := rfl
@[simp] theorem fIsN_str {a} : fIsN (.str a) .non h = some (.bl false, h) := rfl
@[simp] theorem fIsN_tup {a} : fIsN (.tup a) .non h = some (.bl false, h) := rfl
@[simp] theorem fIsN_ref {a} : fIsN (.ref a) .non h = some (.bl false, h) := rfl
@[simp] theorem fIsN_glo {a} : fIsN (.glo a) .non h = some (.bl false, h) := rfl
@[simp] theorem fNotN_glo {a} : fNotN (.glo a) .non h = some (.bl true, h) := rfl
@[simp] theorem fIsN_int {a} : fIsN (.int a) .non h = some (.bl false, h) := rfl
@[simp] theorem fNotN_non : fNotN .non .non h = some (.bl false, h) := rfl
@[simp] theorem fNotN_str {a} : fNotN (.str a) .non h = some (.bl true, h) := rfl
@[simp] theorem fNotN_tup {a} : fNotN (.tup a) .non h = some (.bl true, h) := rfl
@[simp] theorem fNotN_ref {a} : fNotN (.ref a) .non h = some (.bl true, h) := rfl
@[simp] theorem fNotN_int {a} : fNotN (.int a) .non h = some (.bl true, h) := rfl
/-! x[i] -/
theorem atI_ofNat {α : Type} {xs : List α} {n : Nat} : atI xs (n : Int) = xs[n]? := by
  unfold atI ixN
  by_cases hn : n < xs.length
  · rw [if_pos (by omega), if_pos (by omega)]; simp
  · rw [if_pos (by omega), if_neg (by omega), List.getElem?_eq_none (by omega)]; rfl
theorem atI_nn {α : Type} {xs : List α} {i : Int} (h : 0 ≤ i) : atI xs i = xs[i.toNat]? := by
  obtain ⟨n, rfl⟩ := Int.eq_ofNat_of_zero_le h
  rw [atI_ofNat]; simp
@[simp] theorem atI_lit {α : Type} {xs : List α} {n : Nat} : atI xs (no_index (OfNat.ofNat n : Int)) = xs[(OfNat.ofNat n : Nat)]? := atI_ofNat
@[simp] theorem atI_0 {α : Type} {xs : List α} : atI xs (0 : Int) = xs[0]? := atI_ofNat (n := 0)
@[simp] theorem atI_1 {α : Type} {xs : List α} : atI xs (1 : Int) = xs[1]? := atI_ofNat (n := 1)
def KX (o : Option MV) (h : MH) : OV := o.map fun v => (v, h)
@[simp] theorem KX_some : KX (some v) h = some (v, h) := rfl
@[simp] theorem fIx_frl {xs i} : fIx (.frl xs) (.int i) h = KX (atI xs i) h := rfl
@[simp] theorem fIx_tup {xs i} : fIx (.tup xs) (.int i) h = KX (atI xs i) h := rfl
@[simp] theorem fIx_ktp {xs i} : fIx (.ktp xs) (.int i) h = KX (atI xs i) h := rfl
theorem fIx_ref {xs j i} (e : h[j]? = some (.lst xs)) : fIx (.ref j) (.int i) h = KX (atI xs i) h := by
  simp [fIx, seqOf, e, KX]
/-! new lists, tuples -/
theorem fLst_ev {xs} (hl : xs.length ≤ SZ) : fLst xs h = some (.ref h.length, h ++ [.lst xs]) := by simp [fLst, hl]
theorem fTup_ev {xs} (hl : xs.length ≤ SZ) : fTup xs h = some (.tup xs, h) := by simp [fTup, hl]
@[simp] theorem fLst_0 : fLst [] h = some (.ref h.length, h ++ [.lst []]) := rfl
@[simp] theorem fLst_c {xs} : fLst (x :: xs) h = if (x :: xs).length ≤ SZ then some (.ref h.length, h ++ [.lst (x :: xs)]) else none := rfl
@[simp] theorem fTup_c {xs} : fTup (x :: xs) h = if (x :: xs).length ≤ SZ then some (.tup (x :: xs), h) else none := rfl
theorem isL_ref {i ys} (e : h[i]? = some (.lst ys)) : isL (.ref i) h = true := by simp [isL, e]
theorem fAppend_ref {i ys} (e : h[i]? = some (.lst ys)) (hl : ys.length < SZ) : fAppend (.ref i) [y] h = some (.non, h.set i (.lst (ys ++ [y]))) := by
  simp [fAppend, lstOp, oAppend, e, hl]
theorem at_app {α : Type} {h l : List α} {k : Nat} : (h ++ l)[h.length + k]? = l[k]? := by
  rw [List.getElem?_append_right (by omega)]; congr 1; omega
theorem at_app0 {α : Type} {h l : List α} : (h ++ l)[h.length]? = l[0]? := by simpa using at_app (h := h) (l := l) (k := 0)
theorem set_app {α : Type} {h l : List α} {k : Nat} {o : α} : (h ++ l).set (h.length + k) o = h ++ l.set k o := by
  rw [List.set_append_right _ _ (by omega)]; congr 2; omega
theorem set_app0 {α : Type} {h l : List α} {o : α} : (h ++ l).set h.length o = h ++ l.set 0 o := by simpa using set_app (h := h) (l := l) (k := 0) (o := o)
end
end Mo
/-! Mo11: the law's promise; the tables of types. -/
namespace Mo
open PySem L2

/-- the law's promise: it gives True -/
def spLaw (K : PySem.W.Frag) : Sp := fun vs H Q _ => ∃ (a : Addr) (ns : List Int), vs = [.ref a] ∧ Only H ∧ SqL K H a (ns.map V.int) ∧ ns.length ≤ 63 ∧ ∀ v H', v = .bl true → Q v H'
theorem spLaw_of {K : PySem.W.Frag} {G : String → Option V} {f : MF} (h : ∀ ns : List Int, ns.length ≤ 63 → ∃ h1, f [.frl (ns.map MV.int)] [] = .ok (.bl true) h1) (vs : List V) (H : Hp) (Q : VK) (E : XK) (q : spLaw K vs H Q E) : SpM K G 1 f vs H Q E := by
  obtain ⟨a, ns, rfl, hO, hS, hl, k⟩ := q
  obtain ⟨ρ, xs, mh, h1, h2, h3, h4⟩ := law_sp (G := G) (f := f) hO hS (h ns hl)
  refine ⟨ρ, xs, mh, h1, h2, h3, ?_⟩
  cases e : f xs mh with
  | ok v m => rw [e] at h4; exact fun ρ1 H1 x hr v1 rv => k v1 H1 (h4 ρ1 H1 x hr v1 rv)
  | err v m => rw [e] at h4; exact fun ρ1 H1 c d x hr er => (h4 ρ1 H1 c d x hr er).elim
  | no => rw [e] at h4; exact h4
theorem no_out {P : Program} {w : World} {H : Hp} {s : Shared} {e : Value} {s' : Shared} (h : L2.CX P w [] H s (fun _ _ _ => False) e s') : False := by
  obtain ⟨_, _, _, _, _, _, _, _, _, _, _, _, z⟩ := h
  exact z
theorem law_walk {l : PySem.W.OpenLaw} {q : Program} {loose : List Str} {XP : (Str → Option Value) → Heap → Prop} {YP : World → Heap → Prop} {d : DefRec} {K : Params → PySem.W.Frag} {k : Nat} (hk : k ≤ 200) (hn : l.most = some 63) (hdf : d.params.defaults = [])
    (hY : ∀ (w : World) (h : Heap), YP w h → (K w.params).In h)
    (F : ∀ (w : World) (mg : Str → Option Value) (fa : Addr) (h : Heap), (K w.params).In h → h.Ns mainGlobals mg → mg d.name = some (.ref fa) →
      ∃ fd : FuncData, (∀ (s : Shared) (u : Value), BindsTo s fd ⟨[u], []⟩ [("_law_script", u)]) ∧ ∀ base : Heap, (K w.params).In base → base.Ns mainGlobals mg → FnOk l.prog w (K w.params) mg base (L2.CX l.prog w) k fa fd ["_law_script"] (spLaw (K w.params))) :
    PySem.W.WalkO q loose XP YP l.row.toRowW d [] (fun f vs => PySem.call f vs) :=
  L2.walk_of (n := 63) (k := k) (x := "_law_script") (CX := fun w => L2.CX l.prog w) (sp := fun w => spLaw (K w.params)) hn (by decide) hdf
    (Room.mono (k := 200) ⟨rfl, by decide, by decide⟩ hk) hY F (fun w H a ns hl hO hS => ⟨a, ns, rfl, hO, hS, hl, fun _ _ e => e⟩) fun w H s e s' h => no_out h

/-! ### built-in types among themselves -/
def tyNames : List String := ["NoneType", "bool", "int", "str", "bytes", "tuple", "list", "dict"]
theorem tabB_all : (tyNames.all fun a => tyNames.all fun b => match tabB a b with
    | some r => kitB a b == some r
    | none => true) = true := by decide +kernel
theorem tabB_dom {a b : String} {r : Bool} (h : tabB a b = some r) : a = b ∨ (a ∈ tyNames ∧ b ∈ tyNames) := by
  unfold tabB at h
  split at h
  · exact .inl (by assumption)
  · split at h
    · rename_i q
      exact .inr (by rw [q.1, q.2]; decide)
    · split at h
      · rename_i q
        refine .inr ⟨?_, ?_⟩
        · exact List.contains_iff_mem.mp q.1
        · have := List.contains_iff_mem.mp q.2
          exact List.mem_cons_of_mem _ this
      · cases h
theorem tabB_ok {K : PySem.W.Frag} {a b : String} {r : Bool} (h : tabB a b = some r) : PySem.W.kitOne K (.type a) (.type b) = some r := by
  rcases tabB_dom h with e | ⟨ha, hb⟩
  · subst e
    have : r = true := by
      unfold tabB at h
      rw [if_pos rfl] at h
      exact (Option.some.inj h).symm
    subst this
    unfold PySem.W.kitOne
    rw [if_pos (by simp)]
  · have h1 := List.all_eq_true.mp tabB_all a ha
    have h2 := List.all_eq_true.mp h1 b hb
    rw [h] at h2
    exact kit_ty (beq_iff_eq.mp h2)
/-! own classes: a table of what isinstance says -/
def valT (K : PySem.W.Frag) (t : Bool × String) : Value := if t.1 = true then .ref (He.ga K (Str.ofString t.2)) else .type t.2
abbrev OTab := List ((Bool × String) × (Bool × String) × Bool)
def ownOf (tab : OTab) : Own := fun t c => (tab.find? fun e => decide (e.1 = t ∧ e.2.1 = c)).map (·.2.2)
def isiB (K : PySem.W.Frag) (tab : OTab) : Bool := tab.all fun e => decide (PySem.W.kitOne K (valT K e.1) (valT K e.2.1) = some e.2.2) &&
  (!e.1.1 || (PySem.W.plainGet K (He.ga K (Str.ofString e.1.2)) Str.empty && (PySem.W.hasDictIn K (He.ga K (Str.ofString e.1.2)) && (PySem.W.plainOver K (He.ga K (Str.ofString e.1.2)) &&
    He.eqO (PySem.W.findIn K (.ref (He.ga K (Str.ofString e.1.2))) "__setattr__") (some (some (.builtin "object.__setattr__"))) && He.eqO (PySem.W.findIn K (.ref (He.ga K (Str.ofString e.1.2))) "__class__") (some (some (.builtin "object.__class__"))) &&
    He.eqO (PySem.W.specialIn K (.builtin "object.__class__") "__get__") (some (some (.builtin "getset_descriptor.__get__"))) && decide (PySem.W.takesIn K (.builtin "object.__class__") = some true) && decide (PySem.W.mroIn K (He.ga K (Str.ofString e.1.2)) (.type "object") = some true)))))
def gOf (K : PySem.W.Frag) : String → Option V := fun s => some (.ref (He.ga K (Str.ofString s)))
theorem ownOf_mem {tab : OTab} {t c : Bool × String} {b : Bool} (h : ownOf tab t c = some b) : (t, c, b) ∈ tab := by
  unfold ownOf at h
  cases e : tab.find? (fun e => decide (e.1 = t ∧ e.2.1 = c)) with
  | none => rw [e] at h; cases h
  | some q =>
    rw [e] at h
    have h1 := List.find?_some e
    have h2 := List.mem_of_find?_eq_some e
    simp only [decide_eq_true_eq] at h1
    obtain ⟨rfl, rfl⟩ := h1
    cases h
    exact h2
theorem isi_tab {K : PySem.W.Frag} {tab : OTab} (h : isiB K tab = true) : IsiOk K (gOf K) (ownOf tab) := by
  have hk : ∀ t c b, ownOf tab t c = some b → PySem.W.kitOne K (valT K t) (valT K c) = some b := fun t c b e => by
    have := List.all_eq_true.mp h _ (ownOf_mem e)
    simp only [Bool.and_eq_true, decide_eq_true_eq] at this
    exact this.1
  refine ⟨fun s v h => ⟨_, (Option.some.inj h).symm⟩, fun t c b tv cv e ht hc => ?_, fun s C c b hs e => ?_⟩
  · cases t with
    | ty a =>
      simp only [clsV, Option.some.injEq] at ht
      subst ht
      cases c with
      | ty n =>
        simp only [clsV, Option.some.injEq] at hc
        subst hc
        exact tabB_ok e
      | glo n =>
        simp only [clsV, gOf, Option.some.injEq] at hc
        subst hc
        exact hk (false, a) (true, n) b e
      | _ => simp [isiM] at e
    | glo a =>
      simp only [clsV, gOf, Option.some.injEq] at ht
      subst ht
      cases c with
      | ty n =>
        simp only [clsV, Option.some.injEq] at hc
        subst hc
        exact hk (true, a) (false, n) b e
      | glo n =>
        simp only [clsV, gOf, Option.some.injEq] at hc
        subst hc
        exact hk (true, a) (true, n) b e
      | _ => simp [isiM] at e
    | _ => cases c <;> simp [isiM] at e
  · have he : ∃ c', ownOf tab (true, s) c' = some b := by
      cases c with
      | ty n => exact ⟨_, e⟩
      | glo n => exact ⟨_, e⟩
      | _ => simp [isiM] at e
    obtain ⟨c', e'⟩ := he
    have := List.all_eq_true.mp h _ (ownOf_mem e')
    simp only [gOf, Option.some.injEq, V.ref.injEq] at hs
    subst hs
    simp only [Bool.and_eq_true, decide_eq_true_eq, Bool.not_true, Bool.false_or] at this
    obtain ⟨_, a1, a2, ⟨⟨⟨⟨a3, a4⟩, a5⟩, a6⟩, a7⟩, a8⟩ := this
    exact ⟨⟨a1, a2, a3, He.eqO_ok a4⟩, He.eqO_ok a5, He.eqO_ok a6, a7, a8⟩
/-! the written tuples -/
def tupD (K : PySem.W.Frag) (x : Str) : Bool := match K.lookup (He.ga K x) with
  | some o => decide (o.cls = .type "tuple") && o.dict.isNone
  | none => false
def tupBD (K : PySem.W.Frag) (x : Str) (vs : List He.Dv) : Bool := He.tupB K x vs && tupD K x
theorem tup_kt {K : PySem.W.Frag} {x : Str} {vs : List He.Dv} (h : tupBD K x vs = true) : KtT K (He.ga K x) (vs.map (He.Dv.v K)) := by
  obtain ⟨h1, h2⟩ := He.ba h
  refine ⟨?_, ?_⟩
  · rcases He.tupB_ok h1 (fun _ => none) with q | q
    · rcases q with q | ⟨o, q⟩ <;> cases q
    · exact q
  · unfold tupD at h2
    split at h2
    · rename_i o e
      obtain ⟨h3, h4⟩ := He.ba h2
      exact ⟨o, e, of_decide_eq_true h3, by simpa using h4⟩
    · cases h2
end Mo
/-! Mo12: instances: fields, making, methods; calls without arguments. -/
namespace Mo
open PySem L2

/-! ### fields -/
def putFM (f : Str) (v : MV) : List (Str × MV) → List (Str × MV)
  | [] => [(f, v)]
  | (g, x) :: r => if g = f then (g, v) :: r else (g, x) :: putFM f v r
section
variable {K : PySem.W.Frag} {G : String → Option V} {ρ : List Addr} {H : Hp} {mh : MH}
theorem lookupF_V {f : Str} : ∀ {xs : List (Str × MV)} {vs : List (Str × V)}, FRs K G ρ H xs vs →
    (∀ x, xs.lookup f = some x → ∃ v, vs.lookup f = some v ∧ VR K G ρ H x v) ∧ (xs.lookup f = none → vs.lookup f = none)
  | [], _, h => by simp only [FRs, KRs] at h; subst h; exact ⟨fun x e => by simp at e, fun _ => rfl⟩
  | x :: xs, _, h => by
    simp only [FRs, KRs] at h
    obtain ⟨v, r, rfl, q, t⟩ := h
    obtain ⟨i1, i2⟩ := lookupF_V (f := f) t
    obtain ⟨g, y⟩ := x
    cases e : f == g with
    | true =>
      simp only [List.lookup, id, e]
      exact ⟨fun z h => by cases h; exact ⟨v, rfl, q⟩, fun h => by cases h⟩
    | false =>
      simp only [List.lookup, id, e]
      exact ⟨i1, i2⟩
theorem putF_V {f : Str} {y : MV} {w : V} (hy : VR K G ρ H y w) : ∀ {xs : List (Str × MV)} {vs : List (Str × V)}, FRs K G ρ H xs vs → FRs K G ρ H (putFM f y xs) (putF f w vs)
  | [], _, h => by simp only [FRs, KRs] at h; subst h; exact ⟨w, [], rfl, hy, rfl⟩
  | (g, x) :: xs, _, h => by
    simp only [FRs, KRs] at h
    obtain ⟨v, r, rfl, q, t⟩ := h
    by_cases e : g = f
    · subst e
      simp only [putFM, putF, id, if_true]
      exact ⟨w, r, rfl, hy, t⟩
    · simp only [putFM, putF, id, if_neg e]
      exact ⟨v, _, rfl, q, putF_V hy t⟩
theorem HR.ins (hr : HR K G ρ H mh) {i : Nat} {c : String} {fs : List (Str × MV)} {v : V} (e : mh[i]? = some (.ins c fs)) (r : VR K G ρ H (.ref i) v) :
    ∃ a C dx vs, v = .ref a ∧ ρ[i]? = some a ∧ G c = some (.ref C) ∧ H a = some (.ins C dx vs) ∧ FRs K G ρ H fs vs := by
  simp only [VR] at r
  obtain ⟨a, rfl, ha⟩ := r
  obtain ⟨C, dx, vs, h1, h2, h3⟩ := hr.get e ha
  exact ⟨a, C, dx, vs, rfl, ha, h1, h2, h3⟩
end
/-- a class's facts for a field -/
def FldOk (K : PySem.W.Frag) (G : String → Option V) (f : Str) (cs : List String) : Prop := ∀ c ∈ cs, ∀ C, G c = some (.ref C) → Cls K C ∧ NoAttr K C f
def fFld (f : Str) (cs : List String) (x : MV) (h : MH) : OV := match x with
  | .ref i => match h[i]? with
    | some (.ins c fs) => if c ∈ cs then (fs.lookup f).map fun v => (v, h) else none
    | _ => none
  | _ => none
/-- o.f = e -/
def putI (f : Str) (cs : List String) (o v : MV) (h : MH) : Option MH := match o with
  | .ref i => match h[i]? with
    | some (.ins c fs) => if c ∈ cs ∧ fs.length < 1000 then some (h.set i (.ins c (putFM f v fs))) else none
    | _ => none
  | _ => none
def sFldM (o e : ME) (f : Str) (cs : List String) : MS := fun s h => (e s h).bnS s fun v h1 => (o s h1).bnS s fun x h2 => match putI f cs x v h2 with
  | some h3 => .nx s h3
  | none => .no
section
variable {X : Cx} {G : String → Option V} {W : WX} {o e value : Expr} {f : Str} {cs : List String} {pos pos' : Pos} {mo me : ME} {D : Ends}
theorem m_fld (hC : FldOk X.K G f cs) (he : PE X e (RE X.K G W me)) (hb : attributeBase e f X.env (eval e X.env) = eval e X.env := by rfl) : PE X (.Attribute e f pos) (RE X.K G W (e1 (fFld f cs) me)) := by
  refine pe_imp (pe_fld he hb) fun σ H Q ⟨ρ, sm, mh, r0, q⟩ => ?_
  refine re_bnd r0 q fun x ρ1 H1 mh1 v x1 r1 rv q1 => ?_
  obtain ⟨z, h1, e1, k⟩ := ro_lift q1
  unfold fFld at e1
  split at e1
  · split at e1
    · rename_i c fs q2
      split at e1
      · rename_i hc
        obtain ⟨a, C, dx, vs, rfl, ha, g1, g2, g3⟩ := r1.hr.ins q2 rv
        obtain ⟨c1, c2⟩ := hC c hc C g1
        cases h : fs.lookup f with
        | none => rw [h] at e1; cases e1
        | some y =>
          rw [h] at e1; cases e1
          obtain ⟨w, l1, l2⟩ := (lookupF_V g3).1 _ h
          exact ⟨a, C, dx, vs, w, rfl, g2, c1, c2, l1, k _ _ Ext.refl r1.hr _ l2⟩
      · cases e1
    · cases e1
  · cases e1
theorem res_bndO {m : ME} {k : MV → MH → SR} {Q : VK} {K : PySem.W.Frag} {ρ : List Addr} {H : Hp} {sm : Lo} {σ : St} {mh : MH} (r : Rl K G ρ H sm σ mh) (h : RSE K G W D ρ H ((m sm mh).bnS sm k))
    (hq : ∀ v ρ1 H1 mh1 x, Ext K ρ H ρ1 H1 → Rl K G ρ1 H1 sm σ mh1 → VR K G ρ1 H1 v x → RSE K G W D ρ1 H1 (k v mh1) → Q x H1) : RE K G W m σ H Q := res_bnd r h hq
theorem m_sfld (hC : FldOk X.K G f cs) (ho : PE X o (RE X.K G W mo)) (hv : PE X value (RE X.K G W me)) (hs : swapsWith value (some (.Attribute o f pos')) pos.line X.env = pure false := by rfl) : PS X (.Assign [.Attribute o f pos'] value pos) (RS X.K G W (sFldM mo me f cs)) := by
  refine ps_imp (ps_fld ho hv hs) fun D σ H ⟨ρ, sm, mh, r0, q⟩ => ?_
  refine res_bnd r0 q fun y ρ1 H1 mh1 w x1 r1 rw1 q1 => ?_
  refine res_bnd r1 q1 fun x ρ2 H2 mh2 v x2 r2 rv q2 => ?_
  have rw2 := rw1.ext x2
  unfold putI at q2
  split at q2
  · rename_i h3 e1
    split at e1
    · split at e1
      · rename_i c fs q3
        split at e1
        · rename_i hc
          cases e1
          obtain ⟨a, C, dx, vs, rfl, ha, g1, g2, g3⟩ := r2.hr.ins q3 rv
          obtain ⟨c1, c2⟩ := hC c hc.1 C g1
          have hx : Ext X.K ρ2 H2 ρ2 (upd H2 a (.ins C dx (putF f w vs))) := ext_write g2 (by simp [Plain])
          obtain ⟨a1, a2⟩ := r2.hr.write (u := .ins C dx (putF f w vs)) (o1 := .ins c (putFM f y fs)) q3 ha ⟨C, dx, _, g1, upd_same, (putF_V rw2 g3).ext hx⟩
          refine ⟨a, C, dx, vs, rfl, g2, c1, c2, by rw [← KRs.length g3]; exact hc.2, q2 _ _ _ a2 a1 (r2.sr.ext a2)⟩
        · cases e1
      · cases e1
    · cases e1
  · exact False.elim q2
end
end Mo
/-! Mo13: new instances, calls with keywords, methods. -/
namespace Mo
open PySem L2

/-! ### parameters put together: (0, i) a positional value, (1, i) a default, else a keyword's -/
def pickL {α : Type} (pat : List (Nat × Nat)) (us mv ws : List α) : List α := pat.filterMap fun p => match p.1 with
  | 0 => us[p.2]?
  | 1 => mv[p.2]?
  | _ => ws[p.2]?
theorem Vals.none_of {xs : List V} {us : List Value} (r : Vals xs us) {i : Nat} (h : xs[i]? = none) : us[i]? = none := by
  rw [List.getElem?_eq_none_iff] at h ⊢
  rw [← r.length]; exact h
theorem Vals.pick {vs mz zs : List V} {us mv ws : List Value} (a : Vals vs us) (b : Vals mz mv) (c : Vals zs ws) : ∀ (pat : List (Nat × Nat)), Vals (pickL pat vs mz zs) (pickL pat us mv ws)
  | [] => .nil
  | (k, i) :: r => by
    have ih := Vals.pick a b c r
    unfold pickL at ih ⊢
    rw [List.filterMap_cons, List.filterMap_cons]
    have key : ∀ {xs : List V} {ys : List Value}, Vals xs ys → (xs[i]? = none ∧ ys[i]? = none) ∨ ∃ x y, xs[i]? = some x ∧ ys[i]? = some y ∧ RelV x y := fun {xs ys} q => by
      cases h : xs[i]? with
      | none => exact .inl ⟨rfl, Vals.none_of q h⟩
      | some x => obtain ⟨y, h1, h2⟩ := Vals.get q h; exact .inr ⟨x, y, rfl, h1, h2⟩
    match k with
    | 0 => rcases key a with ⟨h1, h2⟩ | ⟨x, y, h1, h2, h3⟩ <;> simp only [h1, h2] <;> first | exact ih | exact .cons h3 ih
    | 1 => rcases key b with ⟨h1, h2⟩ | ⟨x, y, h1, h2, h3⟩ <;> simp only [h1, h2] <;> first | exact ih | exact .cons h3 ih
    | n + 2 => rcases key c with ⟨h1, h2⟩ | ⟨x, y, h1, h2, h3⟩ <;> simp only [h1, h2] <;> first | exact ih | exact .cons h3 ih
section
variable {K : PySem.W.Frag} {G : String → Option V} {ρ : List Addr} {H : Hp}
theorem VRs.none_of {xs : List MV} {us : List V} (r : VRs K G ρ H xs us) {i : Nat} (h : xs[i]? = none) : us[i]? = none := by
  rw [List.getElem?_eq_none_iff] at h ⊢
  rw [← r.length]; exact h
theorem VRs.pick {vs mz zs : List MV} {us mv ws : List V} (a : VRs K G ρ H vs us) (b : VRs K G ρ H mz mv) (c : VRs K G ρ H zs ws) : ∀ (pat : List (Nat × Nat)), VRs K G ρ H (pickL pat vs mz zs) (pickL pat us mv ws)
  | [] => VRs.nil
  | (k, i) :: r => by
    have ih := VRs.pick a b c r
    unfold pickL at ih ⊢
    rw [List.filterMap_cons, List.filterMap_cons]
    have key : ∀ {xs : List MV} {ys : List V}, VRs K G ρ H xs ys → (xs[i]? = none ∧ ys[i]? = none) ∨ ∃ x y, xs[i]? = some x ∧ ys[i]? = some y ∧ VR K G ρ H x y := fun {xs ys} q => by
      cases h : xs[i]? with
      | none => exact .inl ⟨rfl, VRs.none_of q h⟩
      | some x => obtain ⟨y, h1, h2⟩ := VRs.get q h; exact .inr ⟨x, y, rfl, h1, h2⟩
    match k with
    | 0 => rcases key a with ⟨h1, h2⟩ | ⟨x, y, h1, h2, h3⟩ <;> simp only [h1, h2] <;> first | exact ih | exact VRs.cons h3 ih
    | 1 => rcases key b with ⟨h1, h2⟩ | ⟨x, y, h1, h2, h3⟩ <;> simp only [h1, h2] <;> first | exact ih | exact VRs.cons h3 ih
    | n + 2 => rcases key c with ⟨h1, h2⟩ | ⟨x, y, h1, h2, h3⟩ <;> simp only [h1, h2] <;> first | exact ih | exact VRs.cons h3 ih
end
/-- a def's binding: gM the model's, gV the values' -/
structure GR (K : PySem.W.Frag) (G : String → Option V) (gM : List MV → List MV → List MV) (gV : List V → List V → List V) : Prop where
  rel : ∀ {ρ : List Addr} {H : Hp} {xs ys : List MV} {vs zs : List V}, VRs K G ρ H xs vs → VRs K G ρ H ys zs → VRs K G ρ H (gM xs ys) (gV vs zs)
def gPos : List MV → List MV → List MV := fun xs _ => xs
theorem GR.pos {K : PySem.W.Frag} {G : String → Option V} : GR K G gPos fun vs _ => vs := ⟨fun a _ => a⟩
def gPat (pat : List (Nat × Nat)) (ds : List MV) : List MV → List MV → List MV := fun xs ys => pickL pat xs ds ys
theorem GR.pat {K : PySem.W.Frag} {G : String → Option V} {pat : List (Nat × Nat)} {ds : List MV} {vs : List V} (h : ∀ ρ H, VRs K G ρ H ds vs) : GR K G (gPat pat ds) fun us ws => pickL pat us vs ws := ⟨fun a b => VRs.pick a (h _ _) b pat⟩
theorem KBn.pos {K : PySem.W.Frag} {fd : FuncData} {ps : List Str} {n : Nat} (h : Binds K fd ps []) (hn : ps.length = n) : KBn K fd ps n [] (fun us _ => us) fun vs _ => vs :=
  ⟨fun s us ws X l1 l2 => by
    have := h s us X (by rw [List.append_nil, l1, hn])
    rw [List.append_nil] at this
    exact this, fun a _ => a⟩

/-! ### keywords -/
section
variable {X : Cx} {G : String → Option V} {W : WX} {e : Expr} {es : List Expr} {kws : List Keyword} {m : ME} {ms mk : MEs} {pos kpos : Pos} {nm : Option Str}
theorem pk_imp {t t' : TA} (h : PK X kws t) (i : ∀ σ H Q, t' σ H Q → t σ H Q) : PK X kws t' := ⟨fun pos pins s σ H Q I q => h.run pos pins s σ H Q I (i σ H Q q)⟩
theorem m_pknil : PK X [] (RA X.K G W aNil) := pk_imp pk_nil fun σ H Q ⟨ρ, sm, mh, r, q⟩ => RO.ok (P := PVs X.K G Q) q r.hr _ VRs.nil
theorem m_pkcons (ha : PE X e (RE X.K G W m)) (hr : PK X kws (RA X.K G W ms)) : PK X (⟨nm, e, kpos⟩ :: kws) (RA X.K G W (aCons m ms)) := by
  refine pk_imp (pk_cons ha hr) fun σ H Q ⟨ρ, sm, mh, r0, q⟩ => ?_
  refine re_bnd r0 q fun x ρ1 H1 mh1 v x1 r1 rv q1 => ?_
  exact ra_bnd r1 q1 fun xs ρ2 H2 mh2 vs x2 r2 rvs q2 => RO.ok (P := PVs X.K G Q) q2 r2.hr _ (VRs.cons (rv.ext x2) rvs)
end

/-! ### C(..) -/
def tMakeS (C : Addr) (n m : Nat) (sp : Sp) (gV : List V → List V → List V) (W : WX) (t tk : TA) : TE := fun σ H Q => t σ H fun vs H1 => tk σ H1 fun zs H2 => vs.length = n ∧ zs.length = m ∧ ∀ x dx, H2 x = none → H2 dx = none → dx ≠ x →
  sp (gV (.ref x :: vs) zs) (upd (upd H2 dx (.own x)) x (.ins C dx [])) (fun v H3 => v = .non ∧ Q (.ref x) H3) (WE W σ)
section
variable {X : Cx} {CX : CXT} {k n : Nat} {f C : Addr} {fd : FuncData} {ps ks : List Str} {sp : Sp} {W : WX} {x : Str} {p pos : Pos} {e : Expr} {es : List Expr} {kws : List Keyword} {t tk : TA} {g : List Value → List Value → List Value} {gV : List V → List V → List V}
theorem run_makeS {E : XK} {pins : List (Addr × Obj)} {σ : St} {H : Hp} {s : Shared} {Q : VK} {us ws : List Value} {vs zs : List V} (M : Mk X.K C f) (F : FnOk X.prog X.w X.K X.mg X.base CX k f fd ps sp) (hr : Room (k + 1) X.A) (hb : KBn X.K fd ps (n + 1) ks g gV) (hx : PassesAt CX X σ E)
    (I : Inv X pins σ H s) (r : Vals vs us) (rz : Vals zs ws) (l1 : vs.length = n) (l2 : zs.length = ks.length)
    (h : ∀ x dx, H x = none → H dx = none → dx ≠ x → sp (gV (.ref x :: vs) zs) (upd (upd H dx (.own x)) x (.ins C dx [])) (fun v H2 => v = .non ∧ Q (.ref x) H2) E) :
    PySem.wpAny (model X.prog X.w) X.A (PySem.call (.ref C) us (ks.zip ws)) (EP X pins σ Q) X.xe s := by
  have hq := h (s.heap.objs.size + 1) s.heap.objs.size (I.hok.fresh (Nat.le_succ _)) (I.hok.fresh (Nat.le_refl _)) (Nat.ne_of_lt (Nat.lt_succ_self _))
  have I2 := Inv.made (C := C) I
  have r1 : Vals (V.ref (s.heap.objs.size + 1) :: vs) (Value.ref (s.heap.objs.size + 1) :: us) := .cons rfl r
  have r2 := hb.rel r1 rz
  have n1 : (Value.ref (s.heap.objs.size + 1) :: us).length = n + 1 := by
    rw [List.length_cons, ← r.length, l1]
  refine PySem.wpAny_call (L2.make_map (f := f) I.kIn M.makes M.init (beq_iff_eq.mp M.fn) (PySem.codeAny_mono (F.run _ X.stack _ _ ⟨Value.ref (s.heap.objs.size + 1) :: us, ks.zip ws⟩ (g (Value.ref (s.heap.objs.size + 1) :: us) ws) _ _ E (hr.make C us (ks.zip ws))
    (I2.env0.make C us (ks.zip ws)) (hb.to _ (Value.ref (s.heap.objs.size + 1) :: us) ws I2.kIn n1 (rz.length.symm.trans l2)) r2 hq) fun r s' hq' => ?_))
  cases r with
  | error e => exact hx pins _ _ e s' I2 hq'
  | ok fl =>
    cases fl with
    | ret u =>
      obtain ⟨v, H', I3, rv, ev, q3⟩ := I2.after hq'
      subst ev
      exact ⟨rv, ⟨V.ref (s.heap.objs.size + 1), H', I3, rfl, q3⟩⟩
    | next => exact False.elim hq'
    | brk => exact False.elim hq'
    | cont => exact False.elim hq'
/-- C(e, ..) -/
theorem pe_makeS (M : Mk X.K C f) (F : FnOk X.prog X.w X.K X.mg X.base CX k f fd ps sp) (hr : Room (k + 1) X.A) (hg : Gl X x) (hm : X.mg x = some (.ref C)) (hb : KBn X.K fd ps (n + 1) [] g gV) (hx : ∀ σ, PassesAt CX X σ (WE W σ)) (ha : PA X (e :: es) t)
    (hdb : (x == ("__debug__" : Str)) = false := by decide) (he : starEach (e :: es) X.env = (false, eval e X.env) :: starEach es X.env := by rfl) (hpl : (backTo pos (starEach es X.env)).any (·.1) = false := by rfl) :
    PE X (.Call (.Name x p) (e :: es) [] pos) (tMakeS C n 0 sp gV W t tNil) := by
  refine ⟨fun pins s σ H Q I h => ?_⟩
  refine wpAny_Call_Name_kw (ld_glob I hg hm ?_ hdb)
  refine PySem.W.callWith_K (h₀ := X.base) I.ok.mod.kin M.kp (thn (ha.run pos pins s σ H _ I h) fun us s1 ⟨vs, H1, I1, r, q⟩ => ⟨I1.kIn, ?_⟩) he hpl
  exact run_makeS (ks := []) (us := us) (ws := []) (vs := vs) (zs := []) M F hr hb (hx σ) I1 r .nil q.1 rfl q.2.2
/-- C() -/
theorem pe_makeS0 (M : Mk X.K C f) (F : FnOk X.prog X.w X.K X.mg X.base CX k f fd ps sp) (hr : Room (k + 1) X.A) (hg : Gl X x) (hm : X.mg x = some (.ref C)) (hb : KBn X.K fd ps 1 [] g gV) (hx : ∀ σ, PassesAt CX X σ (WE W σ))
    (hdb : (x == ("__debug__" : Str)) = false := by decide) : PE X (.Call (.Name x p) [] [] pos) (tMakeS C 0 0 sp gV W tNil tNil) := by
  refine ⟨fun pins s σ H Q I h => ?_⟩
  refine wpAny_Call_Name_kw (ld_glob I hg hm ?_ hdb)
  exact PySem.W.callWith_K0 I.kIn M.kp (run_makeS (ks := []) (us := []) (ws := []) (vs := []) (zs := []) M F hr hb (hx σ) I .nil .nil rfl rfl h.2.2)
/-- C(k = v, ..) -/
theorem pe_makeSK0 (M : Mk X.K C f) (F : FnOk X.prog X.w X.K X.mg X.base CX k f fd ps sp) (hr : Room (k + 1) X.A) (hg : Gl X x) (hm : X.mg x = some (.ref C)) (hb : KBn X.K fd ps 1 ks g gV) (hx : ∀ σ, PassesAt CX X σ (WE W σ)) (hkw : PK X kws tk)
    (hall : (backToKw pos (keywordEach kws X.env)).all (·.1.isSome) = true := by rfl) (hks : (backToKw pos (keywordEach kws X.env)).filterMap (·.1) = ks := by rfl) (hdb : (x == ("__debug__" : Str)) = false := by decide)
    (hpl : ((backTo pos (starEach [] X.env)).any (·.1) || (backToKw pos (keywordEach kws X.env)).any (·.1.isNone)) = false := by rfl) :
    PE X (.Call (.Name x p) [] kws pos) (tMakeS C 0 ks.length sp gV W tNil tk) := by
  refine ⟨fun pins s σ H Q I h => ?_⟩
  refine wpAny_Call_Name_kw (ld_glob I hg hm ?_ hdb)
  refine PySem.W.callWith_KW0 (h₀ := X.base) I.ok.mod.kin M.kp hall ?_ hpl
  refine thn (hkw.run pos pins s σ H _ I h) fun ws s2 ⟨zs, H2, I2, rz, l1, l2, q2⟩ => ⟨I2.kIn, ?_⟩
  rw [hks]
  exact run_makeS (us := []) (vs := []) M F hr hb (hx σ) I2 .nil rz rfl l2 q2
/-- C(e, .., k = v, ..) -/
theorem pe_makeSK (M : Mk X.K C f) (F : FnOk X.prog X.w X.K X.mg X.base CX k f fd ps sp) (hr : Room (k + 1) X.A) (hg : Gl X x) (hm : X.mg x = some (.ref C)) (hb : KBn X.K fd ps (n + 1) ks g gV) (hx : ∀ σ, PassesAt CX X σ (WE W σ)) (ha : PA X (e :: es) t) (hkw : PK X kws tk)
    (hall : (backToKw pos (keywordEach kws X.env)).all (·.1.isSome) = true := by rfl) (hks : (backToKw pos (keywordEach kws X.env)).filterMap (·.1) = ks := by rfl) (hdb : (x == ("__debug__" : Str)) = false := by decide)
    (he : starEach (e :: es) X.env = (false, eval e X.env) :: starEach es X.env := by rfl) (hpl : ((backTo pos (starEach (e :: es) X.env)).any (·.1) || (backToKw pos (keywordEach kws X.env)).any (·.1.isNone)) = false := by rfl) :
    PE X (.Call (.Name x p) (e :: es) kws pos) (tMakeS C n ks.length sp gV W t tk) := by
  refine ⟨fun pins s σ H Q I h => ?_⟩
  refine wpAny_Call_Name_kw (ld_glob I hg hm ?_ hdb)
  refine PySem.W.callWith_KW (h₀ := X.base) I.ok.mod.kin M.kp hall (thn (ha.run pos pins s σ H _ I h) fun us s1 ⟨vs, H1, I1, r, q⟩ => ?_) hpl he
  refine thn (hkw.run pos pins s1 σ H1 _ I1 q) fun ws s2 ⟨zs, H2, I2, rz, l1, l2, q2⟩ => ⟨I2.kIn, ?_⟩
  rw [hks]
  exact run_makeS M F hr hb (hx σ) I2 r rz l1 l2 q2
end
/-- C(..) of the model: n, l values written, N parameters -/
def eMk (c : String) (n l N : Nat) (f : MF) (g : List MV → List MV → List MV) (ms mk : MEs) : ME := fun s h => (ms s h).bnd fun xs h1 => (mk s h1).bnd fun ys h2 =>
  if xs.length = n ∧ ys.length = l ∧ (g (.ref h2.length :: xs) ys).length = N then (f (g (.ref h2.length :: xs) ys) (h2 ++ [.ins c []])).bnd fun v h3 => match v with
    | .non => .ok (.ref h2.length) h3
    | _ => .no
  else .no
section
variable {X : Cx} {G : String → Option V} {W : WX} {e : Expr} {es : List Expr} {ms mk : MEs} {x : Str} {p pos : Pos} {k n l : Nat} {fa C : Addr} {fd : FuncData} {ps ks : List Str} {f : MF} {c : String} {kws : List Keyword} {g : List Value → List Value → List Value} {gM : List MV → List MV → List MV} {gV : List V → List V → List V}
theorem new_ins {K : PySem.W.Frag} {ρ : List Addr} {H : Hp} {mh : MH} {p dx : Addr} (hr : HR K G ρ H mh) (hG : G c = some (.ref C)) (hp : H p = none) (hd : H dx = none) (hn : dx ≠ p) :
    HR K G (ρ ++ [p]) (upd (upd H dx (.own p)) p (.ins C dx [])) (mh ++ [.ins c []]) ∧ Ext K ρ H (ρ ++ [p]) (upd (upd H dx (.own p)) p (.ins C dx [])) ∧ VR K G (ρ ++ [p]) (upd (upd H dx (.own p)) p (.ins C dx [])) (.ref mh.length) (.ref p) := by
  have x0 : Ext K ρ H ρ (upd H dx (.own p)) := ext_new0 hd
  have h0 : HR K G ρ (upd H dx (.own p)) mh := ⟨hr.len, hr.nd, fun i o e => by
    obtain ⟨a, ha, q⟩ := hr.obj i o e
    exact ⟨a, ha, q.keep x0 fun u hu => by rw [upd_ne (ne_of_none hu hd)]; exact hu⟩⟩
  have hp' : upd H dx (.own p) p = none := by rw [upd_ne (Ne.symm hn)]; exact hp
  have x1 : Ext K ρ (upd H dx (.own p)) (ρ ++ [p]) (upd (upd H dx (.own p)) p (.ins C dx [])) := ext_new hp'
  obtain ⟨h1, h2⟩ := h0.new (u := .ins C dx []) (o := .ins c []) hp' ⟨C, dx, [], hG, upd_same, rfl⟩
  exact ⟨h1, x0.trans h2, by simp only [VR]; exact ⟨p, rfl, by rw [← hr.len]; simp⟩⟩
theorem ro_anyS {α : Type} {K : PySem.W.Frag} {G : String → Option V} {W : WX} {σ : St} {P : α → List Addr → Hp → Prop} {ρ : List Addr} {H : Hp} {r : Rz α} (h : RO K G W σ P ρ H r) : RO K G (fun cls d _ H => WE W σ cls d H) [] P ρ H r := by
  cases r with
  | ok v m => exact h
  | err e m => exact h
  | no => exact h
theorem make_re {σ : St} {H : Hp} {Q : VK} (hG : G c = some (.ref C)) (hg : GR X.K G gM gV) (h : RE X.K G W (eMk c n l ps.length f gM ms mk) σ H Q) :
    tMakeS C n l (SpM X.K G ps.length f) gV W (RA X.K G W ms) (RA X.K G W mk) σ H Q := by
  obtain ⟨ρ, sm, mh, r0, q⟩ := h
  refine ra_bnd r0 q fun xs ρ1 H1 mh1 vs x1 r1 rvs q1 => ?_
  refine ra_bnd r1 q1 fun ys ρ2 H2 mh2 zs x2 r2 rzs q2 => ?_
  split at q2
  · rename_i hl
    obtain ⟨l1, l2, l3⟩ := hl
    refine ⟨by rw [← rvs.length]; exact l1, by rw [← rzs.length]; exact l2, fun a dx ha hd hn => ?_⟩
    obtain ⟨a1, a2, a3⟩ := new_ins r2.hr hG ha hd hn
    have rel := hg.rel (VRs.cons a3 ((rvs.ext x2).ext a2)) (rzs.ext a2)
    refine ⟨_, _, _, a1, rel, by rw [← rel.length]; exact l3, ?_⟩
    have q3 := RO.ext q2 a2
    refine (ro_anyS q3.bnd).mono Ext.refl fun v ρ3 H3 z w rv => ?_
    obtain ⟨mh3, x3, hr3, z⟩ := z
    split at z
    · simp only [VR] at rv
      exact ⟨rv, RO.ok (P := PV X.K G Q) z hr3 _ (VR.ext x3 a3)⟩
    · exact z.elim
  · exact q2.elim
theorem ra_nil {σ : St} {H : Hp} {Q : List V → Hp → Prop} (h : RA X.K G W aNil σ H Q) : tNil σ H Q := by
  obtain ⟨ρ, sm, mh, r0, q⟩ := h
  exact RO.ok (P := PVs X.K G Q) q r0.hr _ VRs.nil
theorem m_make (hG : G c = some (.ref C)) (hgr : GR X.K G gM gV) (M : Mk X.K C fa) (F : FnOk X.prog X.w X.K X.mg X.base (L2.CX X.prog X.w) k fa fd ps (SpM X.K G ps.length f)) (hr : Room (k + 1) X.A) (hg : Gl X x) (hm : X.mg x = some (.ref C)) (hb : KBn X.K fd ps (n + 1) [] g gV) (tk : Takes X W)
    (ha : PA X (e :: es) (RA X.K G W ms)) (hdb : (x == ("__debug__" : Str)) = false := by decide) (he : starEach (e :: es) X.env = (false, eval e X.env) :: starEach es X.env := by rfl) (hpl : (backTo pos (starEach es X.env)).any (·.1) = false := by rfl) :
    PE X (.Call (.Name x p) (e :: es) [] pos) (RE X.K G W (eMk c n 0 ps.length f gM ms aNil)) :=
  pe_imp (pe_makeS M F hr hg hm hb (fun σ => passAt tk σ) ha hdb he hpl) fun σ H Q h => by
    have := make_re hG hgr h
    obtain ⟨ρ, sm, mh, r0, q⟩ := this
    exact ⟨ρ, sm, mh, r0, q.mono Ext.refl fun v ρ H z vs rv => ra_nil (z vs rv)⟩
theorem m_make0 (hG : G c = some (.ref C)) (hgr : GR X.K G gM gV) (M : Mk X.K C fa) (F : FnOk X.prog X.w X.K X.mg X.base (L2.CX X.prog X.w) k fa fd ps (SpM X.K G ps.length f)) (hr : Room (k + 1) X.A) (hg : Gl X x) (hm : X.mg x = some (.ref C)) (hb : KBn X.K fd ps 1 [] g gV) (tk : Takes X W)
    (hdb : (x == ("__debug__" : Str)) = false := by decide) : PE X (.Call (.Name x p) [] [] pos) (RE X.K G W (eMk c 0 0 ps.length f gM aNil aNil)) :=
  pe_imp (pe_makeS0 M F hr hg hm hb (fun σ => passAt tk σ) hdb) fun σ H Q h => by
    have := make_re hG hgr h
    have h1 : RA X.K G W aNil σ H (fun zs H2 => ([] : List V).length = 0 ∧ zs.length = 0 ∧ ∀ x dx, H2 x = none → H2 dx = none → dx ≠ x →
      SpM X.K G ps.length f (gV (.ref x :: []) zs) (upd (upd H2 dx (.own x)) x (.ins C dx [])) (fun v H3 => v = .non ∧ Q (.ref x) H3) (WE W σ)) := ra_nil this
    have h2 := ra_nil h1
    exact h2
theorem m_makeK0 (hG : G c = some (.ref C)) (hgr : GR X.K G gM gV) (M : Mk X.K C fa) (F : FnOk X.prog X.w X.K X.mg X.base (L2.CX X.prog X.w) k fa fd ps (SpM X.K G ps.length f)) (hr : Room (k + 1) X.A) (hg : Gl X x) (hm : X.mg x = some (.ref C)) (hb : KBn X.K fd ps 1 ks g gV) (tk : Takes X W) (hkw : PK X kws (RA X.K G W mk))
    (hall : (backToKw pos (keywordEach kws X.env)).all (·.1.isSome) = true := by rfl) (hks : (backToKw pos (keywordEach kws X.env)).filterMap (·.1) = ks := by rfl) (hdb : (x == ("__debug__" : Str)) = false := by decide)
    (hpl : ((backTo pos (starEach [] X.env)).any (·.1) || (backToKw pos (keywordEach kws X.env)).any (·.1.isNone)) = false := by rfl) :
    PE X (.Call (.Name x p) [] kws pos) (RE X.K G W (eMk c 0 ks.length ps.length f gM aNil mk)) :=
  pe_imp (pe_makeSK0 M F hr hg hm hb (fun σ => passAt tk σ) hkw hall hks hdb hpl) fun σ H Q h => ra_nil (make_re hG hgr h)
theorem m_makeK (hG : G c = some (.ref C)) (hgr : GR X.K G gM gV) (M : Mk X.K C fa) (F : FnOk X.prog X.w X.K X.mg X.base (L2.CX X.prog X.w) k fa fd ps (SpM X.K G ps.length f)) (hr : Room (k + 1) X.A) (hg : Gl X x) (hm : X.mg x = some (.ref C)) (hb : KBn X.K fd ps (n + 1) ks g gV) (tk : Takes X W) (ha : PA X (e :: es) (RA X.K G W ms)) (hkw : PK X kws (RA X.K G W mk))
    (hall : (backToKw pos (keywordEach kws X.env)).all (·.1.isSome) = true := by rfl) (hks : (backToKw pos (keywordEach kws X.env)).filterMap (·.1) = ks := by rfl) (hdb : (x == ("__debug__" : Str)) = false := by decide)
    (he : starEach (e :: es) X.env = (false, eval e X.env) :: starEach es X.env := by rfl) (hpl : ((backTo pos (starEach (e :: es) X.env)).any (·.1) || (backToKw pos (keywordEach kws X.env)).any (·.1.isNone)) = false := by rfl) :
    PE X (.Call (.Name x p) (e :: es) kws pos) (RE X.K G W (eMk c n ks.length ps.length f gM ms mk)) :=
  pe_imp (pe_makeSK M F hr hg hm hb (fun σ => passAt tk σ) ha hkw hall hks hdb he hpl) fun σ H Q h => make_re hG hgr h
end

/-! ### o.m(..), f() -/
section
variable {X : Cx} {CX : CXT} {k n : Nat} {f C : Addr} {fd : FuncData} {ps : List Str} {sp : Sp} {E : St → XK} {x m : Str} {p pos apos : Pos} {o e : Expr} {es : List Expr} {ta : TE} {t : TA}
def tMethS (C : Addr) (m : Str) (sp : Sp) (E : St → XK) (ta : TE) (t : TA) : TE := fun σ H Q => ta σ H fun x H1 => ∃ a dx fs, x = .ref a ∧ H1 a = some (.ins C dx fs) ∧ fs.lookup m = none ∧
  t σ H1 fun vs H2 => sp (x :: vs) H2 Q (E σ)
theorem pe_methS1 {pl : Sem Bool} (he : PE X o ta) (c : Cls X.K C) (hm : Meth X.K C m f) (F : FnOk X.prog X.w X.K X.mg X.base CX k f fd ps sp) (hr : Room k X.A) (hb : Binds X.K fd ps []) (hx : ∀ σ, PassesAt CX X σ (E σ)) (ha : PA X (e :: es) t)
    (hst : starEach (e :: es) X.env = (false, eval e X.env) :: starEach es X.env := by rfl) (hpl : (backTo pos (starEach es X.env)).any (·.1) = false := by rfl)
    (ht : eval (.Call (.Attribute o m apos) (e :: es) [] pos) X.env = (do
      let ov ← eval o X.env
      standAt apos.atName
      let (f, first) ← holding [ov] (getMethod ov m pl)
      callWith pos f first (backTo pos (starEach (e :: es) X.env)) (backToKw pos (keywordEach [] X.env))) := by rfl) :
    PE X (.Call (.Attribute o m apos) (e :: es) [] pos) (tMethS C m sp E ta t) := by
  refine ⟨fun pins s σ H Q I h => ?_⟩
  refine PySem.W.methodCall_KW (pl := pl) (thn (he.run pins s σ H _ I h) fun u s1 ⟨x, H1, I1, rx, a, dx, fs, ex, ea, l, q⟩ => ?_) ht
  subst ex
  obtain rfl : u = Value.ref a := rx
  refine getmeth_ok I1 ea c hm l ?_
  refine PySem.W.callWith_K (first := [.ref a]) (h₀ := X.base) I.ok.mod.kin hm.kp (thn (ha.run pos pins s1 σ H1 _ I1 q) fun us s2 ⟨vs, H2, I2, r, q2⟩ => ⟨I2.kIn, ?_⟩) hst hpl
  exact run_fnS (us := .ref a :: us) (vs := .ref a :: vs) F hr hb (hx σ) I2 (.cons rfl r) q2
theorem pe_methS0 {pl : Sem Bool} (he : PE X o ta) (c : Cls X.K C) (hm : Meth X.K C m f) (F : FnOk X.prog X.w X.K X.mg X.base CX k f fd ps sp) (hr : Room k X.A) (hb : Binds X.K fd ps []) (hx : ∀ σ, PassesAt CX X σ (E σ))
    (ht : eval (.Call (.Attribute o m apos) [] [] pos) X.env = (do
      let ov ← eval o X.env
      standAt apos.atName
      let (f, first) ← holding [ov] (getMethod ov m pl)
      callWith pos f first (backTo pos (starEach [] X.env)) (backToKw pos (keywordEach [] X.env))) := by rfl) :
    PE X (.Call (.Attribute o m apos) [] [] pos) (tMethS C m sp E ta tNil) := by
  refine ⟨fun pins s σ H Q I h => ?_⟩
  refine PySem.W.methodCall_KW (pl := pl) (thn (he.run pins s σ H _ I h) fun u s1 ⟨x, H1, I1, rx, a, dx, fs, ex, ea, l, q⟩ => ?_) ht
  subst ex
  obtain rfl : u = Value.ref a := rx
  refine getmeth_ok I1 ea c hm l ?_
  exact PySem.W.callWith_K0 (first := [.ref a]) I1.kIn hm.kp (run_fnS (us := [.ref a]) (vs := [.ref a]) F hr hb (hx σ) I1 (.cons rfl .nil) q)
theorem pe_callS00 (F : FnOk X.prog X.w X.K X.mg X.base CX k f fd ps sp) (hr : Room k X.A) (hg : Gl X x) (hm : X.mg x = some (.ref f)) (hk : PySem.W.keepIn X.K (.ref f) = true) (hb : Binds X.K fd ps []) (hx : ∀ σ, PassesAt CX X σ (E σ))
    (hdb : (x == ("__debug__" : Str)) = false := by decide) : PE X (.Call (.Name x p) [] [] pos) (fun σ H Q => sp [] H Q (E σ)) := by
  refine ⟨fun pins s σ H Q I h => ?_⟩
  refine wpAny_Call_Name_kw (ld_glob I hg hm ?_ hdb)
  exact PySem.W.callWith_K0 I.kIn hk (run_fnS (us := []) F hr hb (hx σ) I .nil h)
end
/-- o.m(..) of the class c -/
def eMeth (c : String) (m : Str) (n : Nat) (f : MF) (a : ME) (as : MEs) : ME := fun s h => (a s h).bnd fun x h1 => match x with
  | .ref i => match h1[i]? with
    | some (.ins c' fs) => if c' = c ∧ fs.lookup m = none then (as s h1).bnd fun xs h2 => if xs.length + 1 = n then f (x :: xs) h2 else .no else .no
    | _ => .no
  | _ => .no
section
variable {X : Cx} {G : String → Option V} {W : WX} {o e : Expr} {es : List Expr} {mo : ME} {ms : MEs} {x m : Str} {p pos apos : Pos} {k : Nat} {fa C : Addr} {fd : FuncData} {ps : List Str} {f : MF} {c : String}
theorem meth_re {σ : St} {H : Hp} {Q : VK} (hG : G c = some (.ref C)) (h : RE X.K G W (eMeth c m ps.length f mo ms) σ H Q) : tMethS C m (SpM X.K G ps.length f) (WE W) (RE X.K G W mo) (RA X.K G W ms) σ H Q := by
  obtain ⟨ρ, sm, mh, r0, q⟩ := h
  refine re_bnd r0 q fun x ρ1 H1 mh1 v x1 r1 rv q1 => ?_
  split at q1
  · rename_i i
    split at q1
    · rename_i c' fs q2
      split at q1
      · rename_i hc
        obtain ⟨rfl, hl⟩ := hc
        obtain ⟨a, C', dx, vs, rfl, ha, g1, g2, g3⟩ := r1.hr.ins q2 rv
        rw [hG] at g1; cases g1
        refine ⟨a, dx, vs, rfl, g2, (lookupF_V g3).2 hl, ?_⟩
        refine ra_bnd r1 q1 fun xs ρ2 H2 mh2 us x2 r2 rvs q3 => ?_
        split at q3
        · rename_i hn
          have rel := VRs.cons (rv.ext x2) rvs
          exact ⟨_, _, _, r2.hr, rel, by rw [← rel.length]; exact hn, ro_anyS q3⟩
        · exact q3.elim
      · exact q1.elim
    · exact q1.elim
  · exact q1.elim
theorem m_meth {pl : Sem Bool} (hG : G c = some (.ref C)) (ho : PE X o (RE X.K G W mo)) (hc : Cls X.K C) (hm : Meth X.K C m fa) (F : FnOk X.prog X.w X.K X.mg X.base (L2.CX X.prog X.w) k fa fd ps (SpM X.K G ps.length f)) (hr : Room k X.A) (hb : Binds X.K fd ps []) (tk : Takes X W) (ha : PA X (e :: es) (RA X.K G W ms))
    (hst : starEach (e :: es) X.env = (false, eval e X.env) :: starEach es X.env := by rfl) (hpl : (backTo pos (starEach es X.env)).any (·.1) = false := by rfl)
    (ht : eval (.Call (.Attribute o m apos) (e :: es) [] pos) X.env = (do
      let ov ← eval o X.env
      standAt apos.atName
      let (f, first) ← holding [ov] (getMethod ov m pl)
      callWith pos f first (backTo pos (starEach (e :: es) X.env)) (backToKw pos (keywordEach [] X.env))) := by rfl) :
    PE X (.Call (.Attribute o m apos) (e :: es) [] pos) (RE X.K G W (eMeth c m ps.length f mo ms)) :=
  pe_imp (pe_methS1 (pl := pl) ho hc hm F hr hb (fun σ => passAt tk σ) ha hst hpl ht) fun σ H Q h => meth_re hG h
theorem m_meth0 {pl : Sem Bool} (hG : G c = some (.ref C)) (ho : PE X o (RE X.K G W mo)) (hc : Cls X.K C) (hm : Meth X.K C m fa) (F : FnOk X.prog X.w X.K X.mg X.base (L2.CX X.prog X.w) k fa fd ps (SpM X.K G ps.length f)) (hr : Room k X.A) (hb : Binds X.K fd ps []) (tk : Takes X W)
    (ht : eval (.Call (.Attribute o m apos) [] [] pos) X.env = (do
      let ov ← eval o X.env
      standAt apos.atName
      let (f, first) ← holding [ov] (getMethod ov m pl)
      callWith pos f first (backTo pos (starEach [] X.env)) (backToKw pos (keywordEach [] X.env))) := by rfl) :
    PE X (.Call (.Attribute o m apos) [] [] pos) (RE X.K G W (eMeth c m ps.length f mo aNil)) :=
  pe_imp (pe_methS0 (pl := pl) ho hc hm F hr hb (fun σ => passAt tk σ) ht) fun σ H Q h => by
    have h1 := meth_re hG h
    obtain ⟨ρ, sm, mh, r0, q⟩ := h1
    refine ⟨ρ, sm, mh, r0, q.mono Ext.refl fun v ρ H z w rv => ?_⟩
    obtain ⟨a, dx, fs, z1, z2, z3, z4⟩ := z w rv
    exact ⟨a, dx, fs, z1, z2, z3, ra_nil z4⟩
theorem m_call0 (F : FnOk X.prog X.w X.K X.mg X.base (L2.CX X.prog X.w) k fa fd [] (SpM X.K G 0 f)) (hr : Room k X.A) (hg : Gl X x) (hm : X.mg x = some (.ref fa)) (hk : PySem.W.keepIn X.K (.ref fa) = true) (hb : Binds X.K fd [] []) (tk : Takes X W)
    (hdb : (x == ("__debug__" : Str)) = false := by decide) : PE X (.Call (.Name x p) [] [] pos) (RE X.K G W (call 0 f aNil)) :=
  pe_imp (pe_callS00 F hr hg hm hk hb (fun σ => passAt tk σ) hdb) fun σ H Q h => ra_nil (X := X) (G := G) (W := W) (call_re h)
end
end Mo
/-! Mo14: slices, dicts, defs held by names, what is never reached. -/
namespace Mo
open PySem L2

/-! ### never reached -/
def sNo : MS := fun _ _ => .no
def eNo : ME := fun _ _ => .no
theorem m_never {X : Cx} {G : String → Option V} {W : WX} {st : Stmt} : PS X st (RS X.K G W sNo) := ⟨fun pins s σ H D I h => by
  obtain ⟨ρ, sm, mh, r, q⟩ := h
  exact q.elim⟩
theorem m_enever {X : Cx} {G : String → Option V} {W : WX} {e : Expr} : PE X e (RE X.K G W eNo) := ⟨fun pins s σ H Q I h => by
  obtain ⟨ρ, sm, mh, r, q⟩ := h
  exact q.elim⟩

/-! ### one value -/
section
variable {X : Cx} {G : String → Option V} {W : WX} {a : Expr} {ma : ME} {pos : Pos}
theorem m_neg (ha : PE X a (RE X.K G W ma)) : PE X (.UnaryOp .USub a pos) (RE X.K G W (e1 fNeg ma)) := by
  refine pe_imp (pe_un un_neg ha) fun σ H Q ⟨ρ, sm, mh, r0, q⟩ => ?_
  refine re_bnd r0 q fun x ρ1 H1 mh1 v x1 r1 rv q1 => ?_
  obtain ⟨z, h1, e, k⟩ := ro_lift q1
  unfold fNeg at e
  split at e
  · cases e; simp only [VR] at rv; exact ⟨_, rv, k _ _ Ext.refl r1.hr _ (by simp [VR])⟩
  · cases e
end

/-! ### slices -/
abbrev MP := Lo → MH → Rz (Option Int)
def pNo : MP := fun _ h => .ok none h
def pIs (e : ME) : MP := fun s h => (e s h).bnd fun v h1 => match v with
  | .int i => .ok (some i) h1
  | _ => .no
def cutM (xs : List MV) (lo hi : Option Int) : List MV := (xs.drop (HT.sIx xs.length 0 lo)).take (HT.sIx xs.length xs.length hi - HT.sIx xs.length 0 lo)
def fSl (x : MV) (lo hi : Option Int) (h : MH) : OV := match x with
  | .str z => if z.length ≤ SZ then some (.str (cutS z lo hi), h) else none
  | .ref i => match h[i]? with
    | some (.lst xs) => some (.ref h.length, h ++ [.lst (cutM xs lo hi)])
    | _ => none
  | .frl xs => some (.ref h.length, h ++ [.lst (cutM xs lo hi)])
  | .tup xs => if ¬ (HT.sIx xs.length 0 lo = 0 ∧ HT.sIx xs.length xs.length hi = xs.length) then some (.tup (cutM xs lo hi), h) else none
  | .ktp xs => if ¬ (HT.sIx xs.length 0 lo = 0 ∧ HT.sIx xs.length xs.length hi = xs.length) then some (.tup (cutM xs lo hi), h) else none
  | _ => none
def eSl (a : ME) (l u : MP) : ME := fun s h => (a s h).bnd fun x h1 => (l s h1).bnd fun lo h2 => (u s h2).bnd fun hi h3 => lift (fSl x lo hi h3)
def RP (K : PySem.W.Frag) (G : String → Option V) (W : WX) (m : MP) : TO := fun σ H Q => ∃ ρ sm mh, Rl K G ρ H sm σ mh ∧ RO K G W σ (fun o _ H1 => Q o H1) ρ H (m sm mh)
section
variable {X : Cx} {G : String → Option V} {W : WX} {a e : Expr} {ma m : ME} {lo hi : Option Expr} {l u : MP} {pos p2 : Pos}
theorem po_imp {e : Option Expr} {t t' : TO} (h : PO X e t) (i : ∀ σ H Q, t' σ H Q → t σ H Q) : PO X e t' := ⟨fun pins s σ H Q I q => h.run pins s σ H Q I (i σ H Q q)⟩
theorem rp_bnd {K : PySem.W.Frag} {ρ : List Addr} {H : Hp} {sm : Lo} {σ : St} {mh : MH} {β : Type} {P : β → List Addr → Hp → Prop} {m : MP} {k : Option Int → MH → Rz β} {Q : Option Int → Hp → Prop} (r : Rl K G ρ H sm σ mh) (h : RO K G W σ P ρ H ((m sm mh).bnd k))
    (hq : ∀ v ρ1 H1 mh1, Ext K ρ H ρ1 H1 → Rl K G ρ1 H1 sm σ mh1 → RO K G W σ P ρ1 H1 (k v mh1) → Q v H1) : RP K G W m σ H Q :=
  ⟨ρ, sm, mh, r, h.bnd.mono Ext.refl fun v ρ1 H1 ⟨mh1, x, hr, z⟩ => hq v ρ1 H1 mh1 x (r.at x hr) z⟩
theorem m_pno : PO X none (RP X.K G W pNo) := po_imp po_none fun σ H Q ⟨ρ, sm, mh, r, q⟩ => RO.ok (P := fun o _ H1 => Q o H1) q r.hr
theorem m_pis (h : PE X e (RE X.K G W m)) : PO X (some e) (RP X.K G W (pIs m)) := by
  refine po_imp (po_some h) fun σ H Q ⟨ρ, sm, mh, r, q⟩ => ?_
  refine re_bnd r q fun x ρ1 H1 mh1 v x1 r1 rv q1 => ?_
  cases x with
  | int i => simp only [VR] at rv; exact ⟨i, rv, RO.ok (P := fun o _ H1 => Q o H1) q1 r1.hr⟩
  | _ => exact q1.elim
theorem cutM_V {K : PySem.W.Frag} {ρ : List Addr} {H : Hp} {xs : List MV} {vs : List V} {lo hi : Option Int} (r : VRs K G ρ H xs vs) : VRs K G ρ H (cutM xs lo hi) (cutV vs lo hi) := by
  unfold cutM cutV
  rw [r.length]
  exact VRs.take _ (VRs.drop _ r)
abbrev rSlA (K : PySem.W.Frag) : V → Option Int → Option Int → Hp → VK → Prop := fun x lo hi H Q => rSlL K x lo hi H Q ∨ (fun x lo hi H Q => rSlT K x lo hi H Q ∨ rSlS x lo hi H Q : V → Option Int → Option Int → Hp → VK → Prop) x lo hi H Q
theorem sl_all : SlR X (rSlA X.K) := sl_list.or (sl_tup.or sl_str)
theorem m_slice (ha : PE X a (RE X.K G W ma)) (hl : PO X lo (RP X.K G W l)) (hu : PO X hi (RP X.K G W u)) : PE X (.Subscript a (.Slice lo hi none p2) pos) (RE X.K G W (eSl ma l u)) := by
  refine pe_imp (pe_slice sl_all ha hl hu) fun σ H Q ⟨ρ, sm, mh, r0, q⟩ => ?_
  refine re_bnd r0 q fun x ρ1 H1 mh1 v x1 r1 rv q1 => ?_
  refine rp_bnd r1 q1 fun lo ρ2 H2 mh2 x2 r2 q2 => ?_
  refine rp_bnd r2 q2 fun hi ρ3 H3 mh3 x3 r3 q3 => ?_
  have rv3 := (rv.ext x2).ext x3
  obtain ⟨z, h1, e, k⟩ := ro_lift q3
  unfold fSl at e
  split at e
  · split at e
    · rename_i hz
      cases e
      simp only [VR] at rv3
      exact .inr (.inr ⟨_, rv3, by rw [SZ_eq]; exact hz, k _ _ Ext.refl r3.hr _ (by simp [VR])⟩)
    · cases e
  · split at e
    · rename_i xs q4
      cases e
      obtain ⟨p, vs, rfl, _, g1, g2⟩ := r3.hr.lst q4 rv3
      refine .inl ⟨p, vs, rfl, SqL.of g1, fun p hp => ?_⟩
      obtain ⟨a1, a2, a3⟩ := new_lst r3.hr (cutM_V g2) hp
      exact k _ _ a2 a1 _ a3
    · cases e
  · cases e
    simp only [VR] at rv3
    obtain ⟨p, vs, rfl, g1, g2⟩ := rv3
    refine .inl ⟨p, vs, rfl, g1.sq, fun p hp => ?_⟩
    obtain ⟨a1, a2, a3⟩ := new_lst r3.hr (cutM_V g2) hp
    exact k _ _ a2 a1 _ a3
  · split at e
    · rename_i hc
      cases e
      obtain ⟨p, vs, rfl, g1, g2⟩ := VR.tup rfl rv3
      refine .inr (.inl ⟨p, vs, rfl, g1, by rw [← g2.length]; exact hc, fun p hp => ?_⟩)
      obtain ⟨a1, a2, a3⟩ := new_tup r3.hr (cutM_V g2) hp
      exact k _ _ a2 a1 _ a3
    · cases e
  · split at e
    · rename_i hc
      cases e
      obtain ⟨p, vs, rfl, g1, g2⟩ := VR.tup rfl rv3
      refine .inr (.inl ⟨p, vs, rfl, g1, by rw [← g2.length]; exact hc, fun p hp => ?_⟩)
      obtain ⟨a1, a2, a3⟩ := new_tup r3.hr (cutM_V g2) hp
      exact k _ _ a2 a1 _ a3
    · cases e
  · cases e
end

/-! ### list(x) -/
def fList (xs : List MV) (h : MH) : OV := match xs with
  | [x] => match seqOf h x with
    | some ys => some (.ref h.length, h ++ [.lst ys])
    | none => none
  | _ => none
section
variable {X : Cx} {G : String → Option V}
theorem s_list : CallS X.K G (fun xs H Q => ∃ p ys, xs = [.ref p] ∧ (SqL X.K H p ys ∨ SqT X.K H p ys) ∧ ∀ l, H l = none → Q (.ref l) (upd H l (.lst ys))) fList := by
  intro ρ H mh mh1 xs z vs Q hr rvs e k
  unfold fList at e
  split at e
  · obtain ⟨v, rfl, rv⟩ := rvs.one
    split at e
    · rename_i ys q
      cases e
      obtain ⟨p, ws, rfl, g1, g2⟩ := seq_V hr q rv
      refine ⟨p, ws, rfl, g1, fun l hl => ?_⟩
      obtain ⟨a1, a2, a3⟩ := new_lst hr g2 hl
      exact k _ _ a2 a1 _ a3
    · cases e
  · cases e
end

/-! ### dicts -/
/-- a new dict -/
theorem new_dk {K : PySem.W.Frag} {G : String → Option V} {ρ : List Addr} {H : Hp} {mh : MH} {kvs : List (Key × MV)} {vs : List (Key × V)} {p : Addr} (hr : HR K G ρ H mh) (r : KRs K G ρ H id kvs vs) (hp : H p = none) :
    HR K G (ρ ++ [p]) (upd H p (.dK vs)) (mh ++ [.dk kvs]) ∧ Ext K ρ H (ρ ++ [p]) (upd H p (.dK vs)) ∧ VR K G (ρ ++ [p]) (upd H p (.dK vs)) (.ref mh.length) (.ref p) := by
  have x : Ext K ρ H (ρ ++ [p]) (upd H p (.dK vs)) := ext_new hp
  obtain ⟨h1, h2⟩ := hr.new (u := .dK vs) (o := .dk kvs) hp ⟨vs, upd_same, r.ext x⟩
  exact ⟨h1, h2, by simp only [VR]; exact ⟨p, rfl, by rw [← hr.len]; simp⟩⟩
def eDk : ME := fun _ h => .ok (.ref h.length) (h ++ [.dk []])
/-- {} kept with tuple keys -/
def eDt : ME := fun _ h => .ok (.ref h.length) (h ++ [.dt []])
section
variable {X : Cx} {G : String → Option V} {W : WX} {o i e f value : Expr} {mo mi me mf : ME} {pos pos' apos cpos : Pos}
theorem m_dk : PE X (.Dict [] [] pos) (RE X.K G W eDk) := pe_imp pe_dnewK fun σ H Q ⟨ρ, sm, mh, r, q⟩ => fun p hp => by
  obtain ⟨a1, a2, a3⟩ := new_dk (kvs := []) (vs := []) r.hr rfl hp
  exact q _ _ a2 a1 _ a3
theorem m_dt : PE X (.Dict [] [] pos) (RE X.K G W eDt) := pe_imp pe_dnewT fun σ H Q ⟨ρ, sm, mh, r, q⟩ => fun p hp => by
  have x : Ext X.K ρ H (ρ ++ [p]) (upd H p (.dT [])) := ext_new hp
  obtain ⟨h1, h2⟩ := r.hr.new (u := .dT []) (o := .dt []) hp ⟨[], upd_same, rfl⟩
  exact q _ _ h2 h1 _ (by simp only [VR]; exact ⟨p, rfl, by rw [← r.hr.len]; simp⟩)
/-! {k: v, ..} -/
def mergeM (kvs more : List (Key × MV)) : List (Key × MV) := more.foldl (fun acc kv => putM acc kv.1 kv.2) kvs
abbrev MPs := Lo → MH → Rz (List (MV × MV))
def dNil : MPs := fun _ h => .ok [] h
def dCons (a b : ME) (r : MPs) : MPs := fun s h => (a s h).bnd fun x h1 => (b s h1).bnd fun y h2 => (r s h2).bnd fun ps h3 => .ok ((x, y) :: ps) h3
def pairsK : List (MV × MV) → Option (List (Key × MV))
  | [] => some []
  | (x, y) :: r => match keyM x, pairsK r with
    | some k, some ks => some ((k, y) :: ks)
    | _, _ => none
/-- the new dict stands behind its items' objects in the model's run: it is laid first, empty -/
def eDisp (ps : MPs) : ME := fun s h => (ps s (h ++ [.dk []])).bnd fun ps h1 => match pairsK ps, h1[h.length]? with
  | some kvs, some (.dk []) => if kvs.length ≤ 15 then .ok (.ref h.length) (h1.set h.length (.dk (mergeM [] kvs))) else .no
  | _, _ => .no
inductive TPs (X : Cx) (G : String → Option V) (W : WX) (pos : Pos) : List (Option Expr) → List Expr → List (TE × TE) → MPs → Prop
  | nil : TPs X G W pos [] [] [] dNil
  | cons {k v : Expr} {ks : List (Option Expr)} {vs : List Expr} {mk mv : ME} {trs : List (TE × TE)} {m : MPs} : PE X k (RE X.K G W mk) → PE X v (RE X.K G W mv) → TPs X G W pos ks vs trs m →
      TPs X G W pos (some k :: ks) (v :: vs) ((RE X.K G W mk, RE X.K G W mv) :: trs) (dCons mk mv m)
theorem TPs.pps {ks : List (Option Expr)} {vs : List Expr} {trs : List (TE × TE)} {m : MPs} (h : TPs X G W pos ks vs trs m) : PPs X pos ks vs trs := by
  induction h with
  | nil => exact pps_nil
  | cons a b _ ih => exact pps_cons a b ih
def PRs (K : PySem.W.Frag) (G : String → Option V) (ρ : List Addr) (H : Hp) : List (MV × MV) → List (V × V) → Prop
  | [], vs => vs = []
  | x :: xs, vs => ∃ v w r, vs = (v, w) :: r ∧ VR K G ρ H x.1 v ∧ VR K G ρ H x.2 w ∧ PRs K G ρ H xs r
theorem PRs.ext {K : PySem.W.Frag} {ρ ρ1 : List Addr} {H H1 : Hp} (x : Ext K ρ H ρ1 H1) : ∀ {ms : List (MV × MV)} {vs : List (V × V)}, PRs K G ρ H ms vs → PRs K G ρ1 H1 ms vs
  | [], _, h => h
  | m :: ms, _, h => by
    obtain ⟨v, w, r, e, q, q2, t⟩ := h
    exact ⟨v, w, r, e, q.ext x, q2.ext x, PRs.ext x t⟩
theorem TPs.run {ks : List (Option Expr)} {vs : List Expr} {trs : List (TE × TE)} {m : MPs} (h : TPs X G W pos ks vs trs m) : ∀ {ρ : List Addr} {H : Hp} {sm : Lo} {σ : St} {mh : MH} {β : Type} {P : β → List Addr → Hp → Prop} {k : List (MV × MV) → MH → Rz β} {Q : List (V × V) → Hp → Prop},
    Rl X.K G ρ H sm σ mh → RO X.K G W σ P ρ H ((m sm mh).bnd k) →
    (∀ ps ρ1 H1 mh1 us, Ext X.K ρ H ρ1 H1 → Rl X.K G ρ1 H1 sm σ mh1 → PRs X.K G ρ1 H1 ps us → RO X.K G W σ P ρ1 H1 (k ps mh1) → Q us H1) → tPairs trs σ H Q := by
  induction h with
  | nil => exact fun r q hq => hq [] _ _ _ [] Ext.refl r rfl q
  | @cons k v ks vs mk mv trs m a b t ih =>
    intro ρ H sm σ mh β P kk Q r q hq
    have q' : RO X.K G W σ P ρ H ((mk sm mh).bnd fun x h1 => (mv sm h1).bnd fun y h2 => (m sm h2).bnd fun ps h3 => kk ((x, y) :: ps) h3) := by
      have : ((dCons mk mv m sm mh).bnd kk) = ((mk sm mh).bnd fun x h1 => (mv sm h1).bnd fun y h2 => (m sm h2).bnd fun ps h3 => kk ((x, y) :: ps) h3) := by
        unfold dCons
        cases mk sm mh with
        | ok x h1 =>
          simp only [Rz.bnd]
          cases mv sm h1 with
          | ok y h2 =>
            simp only
            cases m sm h2 <;> rfl
          | _ => rfl
        | _ => rfl
      rw [← this]; exact q
    refine re_bnd r q' fun x ρ1 H1 mh1 v x1 r1 rv q1 => ?_
    refine re_bnd r1 q1 fun y ρ2 H2 mh2 w x2 r2 rw' q2 => ?_
    refine ih r2 q2 fun ps ρ3 H3 mh3 us x3 r3 rp q3 => ?_
    exact hq ((x, y) :: ps) _ _ _ ((v, w) :: us) ((x1.trans x2).trans x3) r3 (by simp only [PRs]; exact ⟨v, w, us, rfl, (rv.ext x2).ext x3, rw'.ext x3, rp⟩) q3
theorem pairsK_V {K : PySem.W.Frag} {ρ : List Addr} {H : Hp} : ∀ {ps : List (MV × MV)} {us : List (V × V)} {kvs : List (Key × MV)}, pairsK ps = some kvs → PRs K G ρ H ps us → ∃ vs, KRs K G ρ H id kvs vs ∧ us = vs.map fun kv => (kV kv.1, kv.2)
  | [], _, _, e, h => by simp only [PRs] at h; subst h; cases e; exact ⟨[], rfl, rfl⟩
  | (x, y) :: r, _, _, e, h => by
    simp only [PRs] at h
    obtain ⟨v, w, s, rfl, q, q2, t⟩ := h
    simp only [pairsK] at e
    cases h1 : keyM x with
    | none => rw [h1] at e; simp at e
    | some k =>
      cases h2 : pairsK r with
      | none => rw [h1, h2] at e; simp at e
      | some ks =>
        rw [h1, h2] at e; cases e
        obtain ⟨vs, z1, z2⟩ := pairsK_V h2 t
        exact ⟨(k, w) :: vs, ⟨w, vs, rfl, q2, z1⟩, by rw [keyM_V h1 q, z2]; rfl⟩
theorem mergeM_V {K : PySem.W.Frag} {ρ : List Addr} {H : Hp} : ∀ {kvs : List (Key × MV)} {vs : List (Key × V)} {xs : List (Key × MV)} {ws : List (Key × V)}, KRs K G ρ H id kvs vs → KRs K G ρ H id xs ws → KRs K G ρ H id (mergeM xs kvs) (mergeK ws vs)
  | [], _, _, _, h, q => by simp only [KRs] at h; subst h; exact q
  | (k, y) :: r, _, xs, ws, h, q => by
    simp only [KRs] at h
    obtain ⟨w, s, rfl, q2, t⟩ := h
    show KRs K G ρ H id (mergeM (putM xs k y) r) (mergeK (putK ws k w) s)
    exact mergeM_V t (putM_V q q2)
theorem m_disp {keys : List (Option Expr)} {values : List Expr} {trs : List (TE × TE)} {m : MPs} (h : TPs X G W pos keys values trs m) (hall : keys.all (·.isSome) = true := by rfl) (hl : keys.length = values.length := by rfl) (h0 : keys ≠ [] := by simp) (h15 : keys.length ≤ 15 := by decide) :
    PE X (.Dict keys values pos) (RE X.K G W (eDisp m)) := by
  refine pe_imp (pe_disp h.pps hall hl h0 h15) fun σ H Q ⟨ρ, sm, mh, r, q⟩ => fun p hp => ?_
  obtain ⟨a1, a2, a3⟩ := new_dk (kvs := []) (vs := []) r.hr rfl hp
  refine h.run (r.at a2 a1) (RO.ext q a2) fun ps ρ1 H1 mh1 us x1 r1 rp q1 => ?_
  split at q1
  · rename_i kvs hk hd
    split at q1
    · rename_i hlen
      obtain ⟨vs, z1, z2⟩ := pairsK_V hk rp
      obtain ⟨b, ws, e1, hb, e2, e3⟩ := r1.hr.dk hd (a3.ext x1)
      cases e1
      simp only [KRs] at e3
      subst e3
      have hx : Ext X.K ρ1 H1 ρ1 (upd H1 p (.dK (mergeK [] vs))) := ext_write e2 (by simp [Plain])
      obtain ⟨b1, b2⟩ := r1.hr.write (u := .dK (mergeK [] vs)) (o1 := .dk (mergeM [] kvs)) hd hb ⟨_, upd_same, (mergeM_V (xs := []) (ws := []) z1 (by simp only [KRs])).ext hx⟩
      refine ⟨e2, vs, z2, by rw [← KRs.length z1]; exact hlen, ?_⟩
      exact q1 _ _ b2 b1 _ ((a3.ext x1).ext b2)
    · exact q1.elim
  · exact q1.elim
/-! d[k] = v -/
def putD (d k v : MV) (h : MH) : Option MH := match d with
  | .ref i => match h[i]? with
    | some (.dk kvs) => match keyM k with
      | some k => if kvs.length < SZ then some (h.set i (.dk (putM kvs k v))) else none
      | none => none
    | some (.dt kvs) => match k with
      | .tup ks => match keysM ks with
        | some k => if kvs.length < SZ then some (h.set i (.dt (putM kvs k v))) else none
        | none => none
      | _ => none
    | _ => none
  | _ => none
def sPut (d k e : ME) : MS := fun s h => (e s h).bnS s fun v h1 => (d s h1).bnS s fun x h2 => (k s h2).bnS s fun y h3 => match putD x y v h3 with
  | some h4 => .nx s h4
  | none => .no
theorem putD_V {K : PySem.W.Frag} {ρ : List Addr} {H : Hp} {mh h4 : MH} {x y z : MV} {v w u : V} (hr : HR K G ρ H mh) (e : putD x y z mh = some h4) (rx : VR K G ρ H x v) (ry : VR K G ρ H y w) (rz : VR K G ρ H z u) :
    ∃ a H4, v = .ref a ∧ DPut H a w u H4 ∧ Ext K ρ H ρ H4 ∧ HR K G ρ H4 h4 := by
  unfold putD at e
  split at e
  · split at e
    · rename_i kvs q
      split at e
      · rename_i k hk
        split at e
        · rename_i hl
          cases e
          obtain ⟨a, vs, rfl, ha, g1, g2⟩ := hr.dk q rx
          have hx : Ext K ρ H ρ (upd H a (.dK (putK vs k u))) := ext_write g1 (by simp [Plain])
          obtain ⟨a1, a2⟩ := hr.write (u := .dK (putK vs k u)) (o1 := .dk (putM kvs k z)) q ha ⟨_, upd_same, (putM_V g2 rz).ext hx⟩
          have := keyM_V hk ry
          subst this
          exact ⟨a, _, rfl, DPut.k g1 (by rw [SZ_eq, ← KRs.length g2]; exact hl), a2, a1⟩
        · cases e
      · cases e
    · rename_i kvs q
      split at e
      · rename_i ks
        split at e
        · rename_i k hk
          split at e
          · rename_i hl
            cases e
            obtain ⟨a, vs, rfl, ha, g1, g2⟩ := hr.dt q rx
            have hx : Ext K ρ H ρ (upd H a (.dT (putK vs k u))) := ext_write g1 (by simp [Plain])
            obtain ⟨a1, a2⟩ := hr.write (u := .dT (putK vs k u)) (o1 := .dt (putM kvs k z)) q ha ⟨_, upd_same, (putM_V g2 rz).ext hx⟩
            simp only [VR] at ry
            obtain ⟨b, ws, rfl, h5, h6⟩ := ry
            have h7 := keysM_V hk h6
            subst h7
            exact ⟨a, _, rfl, DPut.t g1 h5 (by rw [SZ_eq, ← KRs.length g2]; exact hl), a2, a1⟩
          · cases e
        · cases e
      · cases e
    · cases e
  · cases e
theorem m_dput (hu : X.A.units + 1 < cLine) (ho : PE X o (RE X.K G W mo)) (hi : PE X i (RE X.K G W mi)) (hv : PE X value (RE X.K G W me)) (hs : swapsWith value (some (.Subscript o i pos')) pos.line X.env = pure false := by rfl) :
    PS X (.Assign [.Subscript o i pos'] value pos) (RS X.K G W (sPut mo mi me)) := by
  refine ps_imp (ps_dput hu ho hi hv hs) fun D σ H ⟨ρ, sm, mh, r0, q⟩ => ?_
  refine res_bnd r0 q fun y ρ1 H1 mh1 w x1 r1 rw1 q1 => ?_
  refine res_bnd r1 q1 fun x ρ2 H2 mh2 v x2 r2 rv q2 => ?_
  refine res_bnd r2 q2 fun z ρ3 H3 mh3 u x3 r3 ru q3 => ?_
  split at q3
  · rename_i h4 e
    obtain ⟨a, H4, rfl, g1, g2, g3⟩ := putD_V r3.hr e (rv.ext x3) ru ((rw1.ext x2).ext x3)
    exact ⟨a, H4, rfl, g1, q3 _ _ _ g2 g3 (r3.sr.ext g2)⟩
  · exact q3.elim
/-! d.get -/
def isDM (x : MV) (h : MH) : Bool := match x with
  | .ref i => match h[i]? with
    | some (.dk _) => true
    | some (.dt _) => true
    | _ => false
  | _ => false
def eGet1 (d k : ME) : ME := fun s h => (d s h).bnd fun x h1 => if isDM x h1 = true then (k s h1).bnd fun y h2 => match dGet h2 x y with
  | some o => .ok (o.getD .non) h2
  | none => .no else .no
def eGet2 (d k e : ME) : ME := fun s h => (d s h).bnd fun x h1 => if isDM x h1 = true then (k s h1).bnd fun y h2 => (e s h2).bnd fun z h3 => match dGet h3 x y with
  | some o => .ok (o.getD z) h3
  | none => .no else .no
theorem isDM_V {K : PySem.W.Frag} {ρ : List Addr} {H : Hp} {mh : MH} {x : MV} {v : V} (hr : HR K G ρ H mh) (e : isDM x mh = true) (rx : VR K G ρ H x v) : ∃ a, v = .ref a ∧ IsD H a := by
  unfold isDM at e
  split at e
  · split at e
    · rename_i q; obtain ⟨a, vs, rfl, _, g, _⟩ := hr.dk q rx; exact ⟨a, rfl, .inl ⟨vs, .inl g⟩⟩
    · rename_i q; obtain ⟨a, vs, rfl, _, g, _⟩ := hr.dt q rx; exact ⟨a, rfl, .inr ⟨vs, .inl g⟩⟩
    · cases e
  · cases e
theorem m_dget1 (hu : X.A.units + 1 < cLine) (ho : PE X o (RE X.K G W mo)) (he : PE X e (RE X.K G W me)) (m : M1 X o "get" apos e cpos := by exact ⟨rfl, rfl, rfl, rfl⟩) : PE X (.Call (.Attribute o "get" apos) [e] [] cpos) (RE X.K G W (eGet1 mo me)) := by
  refine pe_imp (pe_dget1 hu ho he m) fun σ H Q ⟨ρ, sm, mh, r0, q⟩ => ?_
  refine re_bnd r0 q fun x ρ1 H1 mh1 v x1 r1 rv q1 => ?_
  split at q1
  · rename_i hd
    obtain ⟨a, rfl, ha⟩ := isDM_V r1.hr hd rv
    refine ⟨a, rfl, ha, ?_⟩
    refine re_bnd r1 q1 fun y ρ2 H2 mh2 w x2 r2 rw' q2 => ?_
    split at q2
    · rename_i o e1
      obtain ⟨b, r, eb, g1, g2, g3⟩ := dGet_V r2.hr e1 (rv.ext x2) rw'
      cases eb
      refine ⟨r, g1, RO.ok (P := PV X.K G Q) q2 r2.hr _ ?_⟩
      cases o with
      | none => rw [g3 rfl]; simp [VR]
      | some z => obtain ⟨u, rfl, h⟩ := g2 z rfl; exact h
    · exact q2.elim
  · exact q1.elim
theorem m_dget2 (hu : X.A.units + 1 < cLine) (ho : PE X o (RE X.K G W mo)) (he : PE X e (RE X.K G W me)) (hf : PE X f (RE X.K G W mf)) (m : M2 X o "get" apos e f cpos := by exact ⟨rfl, rfl, rfl, rfl⟩) : PE X (.Call (.Attribute o "get" apos) [e, f] [] cpos) (RE X.K G W (eGet2 mo me mf)) := by
  refine pe_imp (pe_dget2 hu ho he hf m) fun σ H Q ⟨ρ, sm, mh, r0, q⟩ => ?_
  refine re_bnd r0 q fun x ρ1 H1 mh1 v x1 r1 rv q1 => ?_
  split at q1
  · rename_i hd
    obtain ⟨a, rfl, ha⟩ := isDM_V r1.hr hd rv
    refine ⟨a, rfl, ha, ?_⟩
    refine re_bnd r1 q1 fun y ρ2 H2 mh2 w x2 r2 rw' q2 => ?_
    refine re_bnd r2 q2 fun z ρ3 H3 mh3 u x3 r3 ru q3 => ?_
    split at q3
    · rename_i o e1
      obtain ⟨b, r, eb, g1, g2, g3⟩ := dGet_V r3.hr e1 ((rv.ext x2).ext x3) (rw'.ext x3)
      cases eb
      refine ⟨r, g1, RO.ok (P := PV X.K G Q) q3 r3.hr _ ?_⟩
      cases o with
      | none => rw [g3 rfl]; exact ru
      | some z => obtain ⟨u, rfl, h⟩ := g2 z rfl; exact h
    · exact q3.elim
  · exact q1.elim
end
end Mo
/-! Mo15: in, not in and x[i] of sequences and dicts; written dicts; names that hold defs. -/
namespace Mo
open PySem L2

theorem units1 {X : Cx} {k : Nat} (hr : Room k X.A) : X.A.units + 1 < cLine := by have := hr.units; omega

/-! ### in, not in, x[i] -/
def fInA (x y : MV) (h : MH) : OV := if isDM y h = true then fDIn x y h else fIn x y h
def fNotInA (x y : MV) (h : MH) : OV := if isDM y h = true then fDNotIn x y h else fNotIn x y h
def fIxA (x y : MV) (h : MH) : OV := if isDM x h = true then fDGet x y h else fIx x y h
section
variable {X : Cx} {G : String → Option V} {W : WX} {a b i o : Expr} {ma mb : ME} {pos : Pos} {k : Nat}
/-- by the second value -/
theorem alt2 {g : MV → MV → MH → Bool} {f1 f2 : MV → MV → MH → OV} {e : Expr} {t1 t2 : TE} (h1 : PE X e t1) (h2 : PE X e t2)
    (i1 : ∀ σ H Q, RE X.K G W (e2 (fun x y h => if g x y h = true then f1 x y h else none) ma mb) σ H Q → t1 σ H Q)
    (i2 : ∀ σ H Q, RE X.K G W (e2 (fun x y h => if g x y h = true then none else f2 x y h) ma mb) σ H Q → t2 σ H Q) :
    PE X e (RE X.K G W (e2 (fun x y h => if g x y h = true then f1 x y h else f2 x y h) ma mb)) := by
  refine pe_imp (pe_alt h1 h2) fun σ H Q ⟨ρ, sm, mh, r, q⟩ => ?_
  unfold e2 at q
  cases ea : ma sm mh with
  | no => rw [ea] at q; exact q.elim
  | err x m =>
    refine .inl (i1 σ H Q ⟨ρ, sm, mh, r, ?_⟩)
    rw [ea] at q
    unfold e2; rw [ea]; exact q
  | ok x m =>
    rw [ea] at q
    cases eb : mb sm m with
    | no => simp only [Rz.bnd, eb] at q; exact q.elim
    | err x2 m2 =>
      refine .inl (i1 σ H Q ⟨ρ, sm, mh, r, ?_⟩)
      simp only [Rz.bnd, eb] at q
      unfold e2; simp only [Rz.bnd, ea, eb]; exact q
    | ok y m2 =>
      simp only [Rz.bnd, eb] at q
      by_cases hg : g x y m2 = true
      · refine .inl (i1 σ H Q ⟨ρ, sm, mh, r, ?_⟩)
        unfold e2; simp only [Rz.bnd, ea, eb, if_pos hg]
        rw [if_pos hg] at q; exact q
      · refine .inr (i2 σ H Q ⟨ρ, sm, mh, r, ?_⟩)
        unfold e2; simp only [Rz.bnd, ea, eb, if_neg hg]
        rw [if_neg hg] at q; exact q
theorem if_some {α : Type} {c : Prop} [Decidable c] {o : Option α} {z : α} (h : (if c then o else none) = some z) : o = some z := by
  split at h
  · exact h
  · cases h
theorem if_some' {α : Type} {c : Prop} [Decidable c] {o : Option α} {z : α} (h : (if c then none else o) = some z) : o = some z := by
  split at h
  · cases h
  · exact h
theorem op_dinR (hu : X.A.units + 1 < cLine) : OpR X (compareOp .In) (fun y x H Q => ∃ a o, x = .ref a ∧ DGet H a y o ∧ Q (.bl o.isSome) H) := by
  intro pins s σ H x y v u Q I rx ry h
  obtain ⟨a, o, rfl, g, q⟩ := h
  obtain rfl : u = Value.ref a := ry
  exact d_in hu I g rx fun s3 I3 => ⟨.bl o.isSome, H, I3, rfl, q⟩
theorem op_dnotinR (hu : X.A.units + 1 < cLine) : OpR X (compareOp .NotIn) (fun y x H Q => ∃ a o, x = .ref a ∧ DGet H a y o ∧ Q (.bl (!o.isSome)) H) := by
  intro pins s σ H x y v u Q I rx ry h
  obtain ⟨a, o, rfl, g, q⟩ := h
  obtain rfl : u = Value.ref a := ry
  exact d_notIn hu I g rx fun s3 I3 => ⟨.bl (!o.isSome), H, I3, rfl, q⟩
theorem units1' (hu : X.A.units + 64 < cLine) : X.A.units + 1 < cLine := by omega
abbrev rInD (r : R2) : R2 := fun y x H Q => r y x H Q ∨ ∃ a o, x = .ref a ∧ DGet H a y o ∧ Q (.bl o.isSome) H
abbrev rNotInD (r : R2) : R2 := fun y x H Q => r y x H Q ∨ ∃ a o, x = .ref a ∧ DGet H a y o ∧ Q (.bl (!o.isSome)) H
theorem o_inA (hu : X.A.units + 64 < cLine) : OpR X (compareOp .In) (rInD (rInA X.K false)) := (o_in hu).or (op_dinR (units1' hu))
theorem o_notInA (hu : X.A.units + 64 < cLine) : OpR X (compareOp .NotIn) (rNotInD (rInA X.K true)) := (o_notIn hu).or (op_dnotinR (units1' hu))
theorem s_inA {r : R2} (hs : R2S X.K G r fIn) : R2S X.K G (fun y x H Q => r y x H Q ∨ ∃ a o, x = .ref a ∧ DGet H a y o ∧ Q (.bl o.isSome) H) fInA := by
  intro ρ H mh mh1 x y z v w Q hr rx ry e k
  unfold fInA at e
  split at e
  · unfold fDIn at e
    split at e
    · rename_i o hd
      cases e
      obtain ⟨b, r, rfl, g1, g2, g3⟩ := dGet_V hr hd ry rx
      refine .inr ⟨b, r, rfl, g1, k _ _ Ext.refl hr _ ?_⟩
      simp only [VR]
      cases o with
      | none => rw [g3 rfl]; rfl
      | some z => obtain ⟨u, rfl, _⟩ := g2 z rfl; rfl
    · cases e
  · exact .inl (hs hr rx ry e k)
theorem s_notInA {r : R2} (hs : R2S X.K G r fNotIn) : R2S X.K G (fun y x H Q => r y x H Q ∨ ∃ a o, x = .ref a ∧ DGet H a y o ∧ Q (.bl (!o.isSome)) H) fNotInA := by
  intro ρ H mh mh1 x y z v w Q hr rx ry e k
  unfold fNotInA at e
  split at e
  · unfold fDNotIn at e
    split at e
    · rename_i o hd
      cases e
      obtain ⟨b, r, rfl, g1, g2, g3⟩ := dGet_V hr hd ry rx
      refine .inr ⟨b, r, rfl, g1, k _ _ Ext.refl hr _ ?_⟩
      simp only [VR]
      cases o with
      | none => rw [g3 rfl]; rfl
      | some z => obtain ⟨u, rfl, _⟩ := g2 z rfl; rfl
    · cases e
  · exact .inl (hs hr rx ry e k)
theorem m_ixA (hr : Room k X.A) (ha : PE X a (RE X.K G W ma)) (hb : PE X b (RE X.K G W mb)) (hs : PlainIx b := by exact fun _ _ => rfl) (hs2 : NoSl b := by exact fun _ _ => rfl) : PE X (.Subscript a b pos) (RE X.K G W (e2 fIxA ma mb)) := by
  refine alt2 (G := G) (W := W) (g := fun x _ h => isDM x h) (f1 := fDGet) (f2 := fIx) (pe_dget (units1 hr) ha hb hs2) (pe_ix ix_seq ha hb hs) (fun σ H Q ⟨ρ, sm, mh, r0, q⟩ => ?_) fun σ H Q h => op_re (W := W) (f := fun x y h => if isDM x h = true then none else fIx x y h) (fun hr rx ry e k => s_ix hr rx ry (if_some' e) k) σ H Q h
  refine re_bnd r0 q fun x ρ1 H1 mh1 v x1 r1 rv q1 => ?_
  refine re_bnd r1 q1 fun y ρ2 H2 mh2 w x2 r2 rw' q2 => ?_
  obtain ⟨z, h1, e, k⟩ := ro_lift q2
  have e := if_some e
  unfold fDGet at e
  split at e
  · rename_i o hd
    cases e
    obtain ⟨b, r, rfl, g1, g2, g3⟩ := dGet_V r2.hr hd (rv.ext x2) rw'
    obtain ⟨u, rfl, h⟩ := g2 z rfl
    exact ⟨b, u, rfl, g1, k _ _ Ext.refl r2.hr _ h⟩
  · cases e
end

/-! ### TABLE.get(k), a written dict with text keys; the key is there -/
def eKGet (tab : List (Str × MV)) (m : ME) : ME := fun s h => (m s h).bnd fun x h1 => match x with
  | .str z => match tab.lookup z with
    | some v => .ok v h1
    | none => .no
  | _ => .no
/-- the table's facts -/
structure TabOk (K : PySem.W.Frag) (G : String → Option V) (w : World) (d : Addr) (tab : List (Str × MV)) : Prop where
  kd : ∃ es n, KDict K w d es n
  at_ : ∀ z v, tab.lookup z = some v → ∃ u v1, PySem.W.nsIn K d z = some (some u) ∧ RelV v1 u ∧ ∀ ρ H, VR K G ρ H v v1
section
variable {X : Cx} {G : String → Option V} {W : WX} {e : Expr} {me : ME} {x : Str} {p apos cpos : Pos} {d : Addr} {tab : List (Str × MV)}
theorem m_kget (T : TabOk X.K G X.w d tab) (hg : Gl X x) (hm : X.mg x = some (.ref d)) (he : PE X e (RE X.K G W me)) (hd : (x == ("__debug__" : Str)) = false := by decide) (m : M1 X (.Name x p) "get" apos e cpos := by exact ⟨rfl, rfl, rfl, rfl⟩) :
    PE X (.Call (.Attribute (.Name x p) "get" apos) [e] [] cpos) (RE X.K G W (eKGet tab me)) := by
  obtain ⟨⟨es, n, D⟩, hT⟩ := T
  refine ⟨fun pins s σ H Q I h => ?_⟩
  refine wpAny_Call_method m.base m.few m.line PySem.F.plainAttrs_dict PySem.F.slot_dict_get PySem.F.type_dict_get (ld_glob I hg hm ?_ hd)
  have hmap := PySem.W.mapOf_K (prog := X.prog) (w := X.w) I.kIn D.at_ D.lit
  refine ⟨hmap.typeIs, hmap.noDict, ?_⟩
  rw [m.trees]
  obtain ⟨ρ, sm, mh, r0, q⟩ := h
  refine Calls.callWith_builtin rfl (Calls.evalArgs_plain (Calls.spliced_cons (thn (he.run pins s σ H _ I (re_bnd r0 q (Q := fun y H1 => ∃ z u v1, y = .str z ∧ PySem.W.nsIn X.K d z = some (some u) ∧ RelV v1 u ∧ Q v1 H1) fun x ρ1 H1 mh1 v x1 r1 rv q1 => ?_)) fun iv s2 ⟨y, H2, I2, ry, z, u, v1, ey, hn, ru, q2⟩ => Calls.spliced_nil ?_)))
  · split at q1
    · rename_i z
      split at q1
      · rename_i v2 hl
        obtain ⟨u, v1, h1, h2, h3⟩ := hT z v2 hl
        simp only [VR] at rv
        exact ⟨z, u, v1, rv, h1, h2, RO.ok (P := PV X.K G Q) q1 r1.hr _ (h3 _ _)⟩
      · exact q1.elim
    · exact q1.elim
  · subst ey
    obtain ⟨t, rfl⟩ := (show ∃ t, iv = Value.str z t from ry)
    have hmap2 := PySem.W.mapOf_K (prog := X.prog) (w := X.w) I2.kIn D.at_ D.lit
    refine call_meetsIn PySem.F.slot_dict_get hmap2.typeIs PySem.F.entry_dict_get (PySem.F.args_dict_get_2 _ _) (meets_dict_get (PySem.strKind X.prog X.w) d (PySem.strKind_is X.prog X.w z t) D.low) ⟨_, hmap2, ?_⟩
    rw [PySem.W.find_K D.at_ hn]
    exact ⟨v1, H2, I2.tok _, ru, q2⟩
end

/-! ### a call of a name that holds one of the text's defs -/
structure HeldM (P : Program) (w : World) (K : PySem.W.Frag) (mg : Str → Option Value) (base : Heap) (G : String → Option V) (k n : Nat) (p : String × MF) : Prop where
  ex : ∃ (fa : Addr) (fd : FuncData) (ps : List Str), G p.1 = some (.ref fa) ∧ FnOk P w K mg base (L2.CX P w) k fa fd ps (SpM K G n p.2) ∧ PySem.W.keepIn K (.ref fa) = true ∧ Binds K fd ps []
def eCallL (i n : Nat) (tab : List (String × MF)) (ms : MEs) : ME := fun s h => match s[i]? with
  | some (some (.glo g)) => match tab.lookup g with
    | some f => call n f ms s h
    | none => .no
  | _ => .no
theorem lookup_mem {α : Type} {g : String} {f : α} : ∀ {tab : List (String × α)}, tab.lookup g = some f → (g, f) ∈ tab
  | [], h => by cases h
  | (a, b) :: r, h => by
    simp only [List.lookup] at h
    split at h
    · rename_i e
      cases h
      have : g = a := by simpa using e
      subst this
      exact List.mem_cons_self ..
    · exact List.mem_cons_of_mem _ (lookup_mem h)
section
variable {X : Cx} {CX : CXT} {k i n : Nat} {f : Addr} {fd : FuncData} {ps : List Str} {sp : Sp} {E : St → XK} {x : Str} {p pos : Pos} {e : Expr} {es : List Expr} {t : TA} {G : String → Option V} {W : WX} {ms : MEs} {tab : List (String × MF)}
theorem m_callL (A : ∀ p ∈ tab, HeldM X.prog X.w X.K X.mg X.base G k n p) (hr : Room k X.A) (tk : Takes X W) (ha : PA X (e :: es) (RA X.K G W ms)) (hN : X.N[i]? = some x := by rfl) (hv : Vis X.env.scope x := by first | exact Or.inl rfl | exact Or.inr (Or.inl rfl))
    (hdb : (x == ("__debug__" : Str)) = false := by decide) (hcd : (x == ("__classdict__" : Str)) = false := by decide)
    (he : starEach (e :: es) X.env = (false, eval e X.env) :: starEach es X.env := by rfl) (hpl : (backTo pos (starEach es X.env)).any (·.1) = false := by rfl) : PE X (.Call (.Name x p) (e :: es) [] pos) (RE X.K G W (eCallL i n tab ms)) := by
  refine ⟨fun pins s σ H Q I h => ?_⟩
  obtain ⟨ρ, sm, mh, r0, q⟩ := h
  unfold eCallL at q
  split at q
  · rename_i g hs
    split at q
    · rename_i f hl
      obtain ⟨fa, fd, ps, hG, F, hk, hb⟩ := (A _ (lookup_mem hl)).ex
      obtain ⟨v, hs', rv⟩ := r0.sr.2 _ _ hs
      simp only [VR] at rv
      replace rv := rv.1
      rw [hG] at rv
      cases rv
      refine wpAny_Call_Name_kw (thn ((pe_var (pos := p) hN hv hdb hcd).run pins s σ H (fun v H1 => v = .ref fa ∧ H1 = H) I ⟨.ref fa, hs', rfl, rfl⟩) fun u s1 ⟨v, H1, I1, r1, q1⟩ => ?_)
      obtain ⟨rfl, rfl⟩ := q1
      cases r1
      have hc : RE X.K G W (call n f ms) σ H1 Q := ⟨ρ, sm, mh, r0, q⟩
      refine PySem.W.callWith_K (h₀ := X.base) I.ok.mod.kin hk (thn (ha.run pos pins s1 σ _ _ I1 (call_re hc)) fun us s2 ⟨vs, H2, I2, r, q⟩ => ⟨I2.kIn, ?_⟩) he hpl
      exact run_fnS F hr hb (passAt tk σ) I2 r q
    · exact q.elim
  · exact q.elim
end
end Mo
/-! Mo16: defs with defaults; what a call leaves behind that nobody holds; names and facts of the head. -/
namespace Mo
open PySem L2

/-! ### garbage -/
mutual
def noref : MV → Bool
  | .ref _ => false
  | .exa _ _ _ => false
  | .tup xs => norefs xs
  | .ktp xs => norefs xs
  | .frl xs => norefs xs
  | _ => true
def norefs : List MV → Bool
  | [] => true
  | x :: xs => noref x && norefs xs
end
def norefO : MO → Bool
  | .lst xs => norefs xs
  | .dk kvs => norefs (kvs.map (·.2))
  | .dt kvs => norefs (kvs.map (·.2))
  | .ins _ fs => norefs (fs.map (·.2))
  | .xd _ fs => norefs (fs.map (·.2))
  | .dx _ _ => true
open Classical in
/-- the objects that a call made and nobody holds are dropped -/
noncomputable def gc (f : MF) : MF := fun xs h => match f xs h with
  | .ok v h2 => if noref v = true ∧ ∃ g, h2 = h ++ g then .ok v h else
    if hx : ∃ o k g, v = .ref (h.length + k) ∧ h2 = h ++ g ∧ g[k]? = some o ∧ norefO o = true then .ok (.ref h.length) (h ++ [hx.choose]) else .ok v h2
  | r => r
theorem gc_ok {f : MF} {xs : List MV} {h g : MH} {v : MV} (e : f xs h = .ok v (h ++ g)) (hn : noref v = true) : gc f xs h = .ok v h := by
  unfold gc
  rw [e]
  exact if_pos ⟨hn, g, rfl⟩
theorem gc_err {f : MF} {xs : List MV} {h g : MH} {x : MX} (e : f xs h = .err x g) : gc f xs h = .err x g := by
  unfold gc
  rw [e]
theorem gc_new {f : MF} {xs : List MV} {h g : MH} {k : Nat} {o : MO} (e : f xs h = .ok (.ref (h.length + k)) (h ++ g)) (hk : g[k]? = some o) (hn : norefO o = true) : gc f xs h = .ok (.ref h.length) (h ++ [o]) := by
  have hx : ∃ o' k' g', MV.ref (h.length + k) = .ref (h.length + k') ∧ h ++ g = h ++ g' ∧ g'[k']? = some o' ∧ norefO o' = true := ⟨o, k, g, rfl, rfl, hk, hn⟩
  unfold gc
  rw [e]
  dsimp only
  rw [if_neg (by intro z; exact absurd z.1 (by simp [noref])), dif_pos hx]
  obtain ⟨k', g', h1, h2, h3, h4⟩ := hx.choose_spec
  have hk' : k = k' := by
    have := MV.ref.inj h1
    omega
  have hg : g = g' := List.append_cancel_left h2
  subst hg hk'
  rw [hk] at h3
  rw [← Option.some.inj h3]
section
variable {K : PySem.W.Frag} {G : String → Option V} {ρ t : List Addr} {H H1 : Hp}
mutual
theorem VR.noref : ∀ {m : MV} {v : V}, noref m = true → VR K G ρ H m v → ∀ {ρ1 : List Addr}, VR K G ρ1 H m v
  | .non, _, _, h, _ => by simpa [VR] using h
  | .bl _, _, _, h, _ => by simpa [VR] using h
  | .int _, _, _, h, _ => by simpa [VR] using h
  | .str _, _, _, h, _ => by simpa [VR] using h
  | .byt _, _, _, h, _ => by simpa [VR] using h
  | .glo _, _, _, h, _ => by simpa [VR] using h
  | .ty _, _, _, h, _ => by simpa [VR] using h
  | .exa _ _ _, _, e, _, _ => by simp [Mo.noref] at e
  | .ref _, _, e, h, _ => by simp [Mo.noref] at e
  | .tup xs, _, e, h, _ => by
    simp only [VR] at h ⊢
    simp only [Mo.noref] at e
    obtain ⟨a, vs, e1, q, r⟩ := h
    exact ⟨a, vs, e1, q, VRs.noref e r⟩
  | .ktp xs, _, e, h, _ => by
    simp only [VR] at h ⊢
    simp only [Mo.noref] at e
    obtain ⟨a, vs, e1, q, r⟩ := h
    exact ⟨a, vs, e1, q, VRs.noref e r⟩
  | .frl xs, _, e, h, _ => by
    simp only [VR] at h ⊢
    simp only [Mo.noref] at e
    obtain ⟨a, vs, e1, q, r⟩ := h
    exact ⟨a, vs, e1, q, VRs.noref e r⟩
theorem VRs.noref : ∀ {ms : List MV} {vs : List V}, norefs ms = true → VRs K G ρ H ms vs → ∀ {ρ1 : List Addr}, VRs K G ρ1 H ms vs
  | [], _, _, h, _ => by simpa [VRs] using h
  | m :: ms, _, e, h, _ => by
    simp only [VRs] at h ⊢
    simp only [Mo.norefs, Bool.and_eq_true] at e
    obtain ⟨v, r, e1, q, t⟩ := h
    exact ⟨v, r, e1, VR.noref e.1 q, VRs.noref e.2 t⟩
end
theorem KRs.noref {κ : Type} {ρ1 : List Addr} : ∀ {ms : List (κ × MV)} {vs : List (κ × V)}, norefs (ms.map (·.2)) = true → KRs K G ρ H id ms vs → KRs K G ρ1 H id ms vs
  | [], _, _, h => h
  | m :: ms, _, e, h => by
    simp only [List.map_cons, norefs, Bool.and_eq_true] at e
    obtain ⟨v, r, e1, q, t⟩ := h
    exact ⟨v, r, e1, VR.noref e.1 q, KRs.noref e.2 t⟩
theorem OR.noref {o : MO} {a : Addr} {ρ1 : List Addr} (e : norefO o = true) (h : OR K G ρ H a o) : OR K G ρ1 H a o := by
  cases o with
  | lst xs => obtain ⟨vs, q, r⟩ := h; exact ⟨vs, q, r.noref e⟩
  | dk xs => obtain ⟨vs, q, r⟩ := h; exact ⟨vs, q, KRs.noref e r⟩
  | dt xs => obtain ⟨vs, q, r⟩ := h; exact ⟨vs, q, KRs.noref e r⟩
  | ins c fs => obtain ⟨C, dx, vs, g, q, r⟩ := h; exact ⟨C, dx, vs, g, q, KRs.noref e r⟩
  | xd c fs => obtain ⟨vs, q, r⟩ := h; exact ⟨vs, q, KRs.noref e r⟩
  | dx hs ks => exact h
mutual
/-- what was there before holds of the places before -/
theorem VR.low : ∀ {m : MV} {u v : V}, VR K G ρ H m u → VR K G (ρ ++ t) H1 m v → VR K G ρ H1 m v
  | .non, _, _, _, h => by simpa [VR] using h
  | .bl _, _, _, _, h => by simpa [VR] using h
  | .int _, _, _, _, h => by simpa [VR] using h
  | .str _, _, _, _, h => by simpa [VR] using h
  | .byt _, _, _, _, h => by simpa [VR] using h
  | .glo _, _, _, _, h => by simpa [VR] using h
  | .ty _, _, _, _, h => by simpa [VR] using h
  | .exa _ _ _, _, _, l, h => by
    simp only [VR] at h l ⊢
    refine ⟨h.1, ?_⟩
    rw [← h.2, List.getElem?_append_left (List.getElem?_eq_some_iff.mp l.2).1]
  | .ref i, _, _, l, h => by
    simp only [VR] at h l ⊢
    obtain ⟨a, e, q⟩ := h
    obtain ⟨b, _, q2⟩ := l
    refine ⟨a, e, ?_⟩
    rw [← q, List.getElem?_append_left (List.getElem?_eq_some_iff.mp q2).1]
  | .tup xs, _, _, l, h => by
    simp only [VR] at h l ⊢
    obtain ⟨a, vs, e, q, r⟩ := h
    obtain ⟨_, us, _, _, l⟩ := l
    exact ⟨a, vs, e, q, VRs.low l r⟩
  | .ktp xs, _, _, l, h => by
    simp only [VR] at h l ⊢
    obtain ⟨a, vs, e, q, r⟩ := h
    obtain ⟨_, us, _, _, l⟩ := l
    exact ⟨a, vs, e, q, VRs.low l r⟩
  | .frl xs, _, _, l, h => by
    simp only [VR] at h l ⊢
    obtain ⟨a, vs, e, q, r⟩ := h
    obtain ⟨_, us, _, _, l⟩ := l
    exact ⟨a, vs, e, q, VRs.low l r⟩
theorem VRs.low : ∀ {ms : List MV} {us vs : List V}, VRs K G ρ H ms us → VRs K G (ρ ++ t) H1 ms vs → VRs K G ρ H1 ms vs
  | [], _, _, _, h => by simpa [VRs] using h
  | m :: ms, _, _, l, h => by
    simp only [VRs] at h l ⊢
    obtain ⟨v, r, e1, q, t⟩ := h
    obtain ⟨_, _, _, l1, l2⟩ := l
    exact ⟨v, r, e1, VR.low l1 q, VRs.low l2 t⟩
end
theorem KRs.low {κ : Type} : ∀ {ms : List (κ × MV)} {us vs : List (κ × V)}, KRs K G ρ H id ms us → KRs K G (ρ ++ t) H1 id ms vs → KRs K G ρ H1 id ms vs
  | [], _, _, _, h => h
  | m :: ms, _, _, l, h => by
    obtain ⟨v, r, e1, q, t⟩ := h
    obtain ⟨_, _, _, l1, l2⟩ := l
    exact ⟨v, r, e1, VR.low l1 q, KRs.low l2 t⟩
theorem OR.low {o : MO} {a b : Addr} (l : OR K G ρ H b o) (h : OR K G (ρ ++ t) H1 a o) : OR K G ρ H1 a o := by
  cases o with
  | lst xs => obtain ⟨vs, q, r⟩ := h; obtain ⟨us, _, l⟩ := l; exact ⟨vs, q, l.low r⟩
  | dk xs => obtain ⟨vs, q, r⟩ := h; obtain ⟨us, _, l⟩ := l; exact ⟨vs, q, KRs.low l r⟩
  | dt xs => obtain ⟨vs, q, r⟩ := h; obtain ⟨us, _, l⟩ := l; exact ⟨vs, q, KRs.low l r⟩
  | ins c fs => obtain ⟨C, dx, vs, g, q, r⟩ := h; obtain ⟨_, _, us, _, _, l⟩ := l; exact ⟨C, dx, vs, g, q, KRs.low l r⟩
  | xd c fs => obtain ⟨vs, q, r⟩ := h; obtain ⟨us, _, l⟩ := l; exact ⟨vs, q, KRs.low l r⟩
  | dx hs ks => exact h
theorem HR.low {mh g : MH} (h0 : HR K G ρ H mh) (h1 : HR K G (ρ ++ t) H1 (mh ++ g)) : HR K G ρ H1 mh := by
  refine ⟨h0.len, h0.nd, fun i o e => ?_⟩
  obtain ⟨b, hb, l⟩ := h0.obj i o e
  have hi := (List.getElem?_eq_some_iff.mp e).1
  obtain ⟨a, ha, q⟩ := h1.obj i o (by rw [List.getElem?_append_left hi]; exact e)
  rw [List.getElem?_append_left (by rw [h0.len]; exact hi)] at ha
  exact ⟨a, ha, OR.low l q⟩
theorem gc_sp {n : Nat} {f : MF} {vs : List V} {H : Hp} {Q : VK} {E : XK} (h : SpM K G n (gc f) vs H Q E) : SpM K G n f vs H Q E := by
  obtain ⟨ρ, xs, mh, hr, rv, hl, q⟩ := h
  refine ⟨ρ, xs, mh, hr, rv, hl, ?_⟩
  unfold gc at q
  cases e : f xs mh with
  | no => rw [e] at q; exact q
  | err x m => rw [e] at q; exact q
  | ok v h2 =>
    rw [e] at q
    dsimp only at q
    split at q
    · rename_i hc
      obtain ⟨hn, g, rfl⟩ := hc
      intro ρ1 H1 x hr1 w rw'
      obtain ⟨⟨t, rfl⟩, x2, x3⟩ := x
      exact q ρ H1 ⟨⟨[], by simp⟩, x2, x3⟩ (hr.low hr1) w (VR.noref hn rw')
    · split at q
      · rename_i hx
        obtain ⟨k, g, h1, h2', h3, h4⟩ := hx.choose_spec
        generalize hx.choose = o at q h3 h4
        subst h1 h2'
        intro ρ1 H1 x hr1 w rw'
        obtain ⟨⟨t, rfl⟩, x2, x3⟩ := x
        simp only [VR] at rw'
        obtain ⟨a, rfl, ha⟩ := rw'
        have h0 := hr.low hr1
        have hak : t[k]? = some a := by
          rw [List.getElem?_append_right (by rw [hr.len]; omega)] at ha
          rw [← ha]; congr 1; rw [hr.len]; omega
        have hmem : a ∈ t := List.mem_of_getElem? hak
        have hna : a ∉ ρ := fun hm => by
          have hnd := hr1.nd
          rw [List.nodup_append] at hnd
          exact hnd.2.2 a hm a hmem rfl
        obtain ⟨b, hb, ob⟩ := hr1.obj (mh.length + k) o (by rw [List.getElem?_append_right (by omega)]; rw [← h3]; congr 1; omega)
        have hab : b = a := by
          rw [List.getElem?_append_right (by rw [hr.len]; omega)] at hb
          have : t[k]? = some b := by rw [← hb]; congr 1; rw [hr.len]; omega
          rw [hak] at this
          exact (Option.some.inj this).symm
        subst hab
        refine q (ρ ++ [b]) H1 ⟨⟨[b], rfl⟩, x2, x3⟩ ⟨by simp [hr.len], ?_, fun i o' e' => ?_⟩ _ (by simp only [VR]; exact ⟨b, rfl, by rw [← hr.len]; simp⟩)
        · rw [List.nodup_append]
          exact ⟨hr.nd, by simp, fun c hc d hd e => by simp at hd; subst hd; subst e; exact hna hc⟩
        · by_cases hi : i < mh.length
          · rw [List.getElem?_append_left hi] at e'
            obtain ⟨c, hc, oc⟩ := h0.obj i o' e'
            exact ⟨c, by rw [List.getElem?_append_left (by rw [hr.len]; exact hi)]; exact hc, OR.keep ⟨⟨[b], rfl⟩, fun _ _ z => z, fun _ _ z => z⟩ (fun _ z => z) oc⟩
          · have hz : i = mh.length ∧ o = o' := by
              rw [List.getElem?_append_right (by omega)] at e'
              have hlt := (List.getElem?_eq_some_iff.mp e').1
              simp at hlt
              have hz : i - mh.length = 0 := by omega
              rw [hz] at e'
              simp at e'
              exact ⟨by omega, e'⟩
            obtain ⟨rfl, rfl⟩ := hz
            exact ⟨b, by rw [← hr.len]; simp, OR.noref h4 ob⟩
      · exact q
end

/-! ### a def with its defaults -/
section
variable {P : Program} {w : World} {K : PySem.W.Frag} {mg : Str → Option Value} {base : Heap} {G : String → Option V}
theorem fn_mD {x qual : Str} {params : Arguments} {body : List Stmt} {scope : Scope} {dvs : List V} {kws : List (Str × V)} {f : Addr} {fd : FuncData} {N ps : List Str} {k : Nat} {b : MS} (F : FunD K x qual params body scope dvs kws f fd) (S : FnScope N ps scope)
    (hb : ∀ (cdv : Value) (A : Around) (outer : List Env) (s : Shared) (H : Hp) (E : XK), Room k (A.deeper (PyProof.Rows.envOfC qual scope s.heap.objs.size f cdv)) →
      PSs (cxOf (L2.CX P w) P w K mg base N qual scope f cdv A outer s H E) body (RS K G (fun cls d _ H => E cls d H) b)) :
    FnOk P w K mg base (L2.CX P w) (k + 1) f fd ps (SpM K G ps.length (mDef N.length b)) := by
  refine F.ok S (fun vs H Q E h => h.choose_spec.choose_spec.choose_spec.2.2.1) (fun cdv A outer s H vs Q E hr h => ⟨_, hb cdv A outer s H E hr, ?_⟩)
  obtain ⟨ρ, xs, mh, h1, h2, h3, h4⟩ := h
  refine ⟨ρ, _, mh, ⟨h1, h2.at (n := N.length)⟩, ?_⟩
  unfold mDef at h4
  cases e : b (xs.map some ++ List.replicate (N.length - xs.length) none) mh with
  | nx s m => rw [e] at h4; exact fun ρ1 H1 σ1 x hr sr => h4 ρ1 H1 x hr _ (by simp [VR])
  | rt v m => rw [e] at h4; exact fun ρ1 H1 v1 x hr rv => h4 ρ1 H1 x hr v1 rv
  | bk s m => rw [e] at h4; exact False.elim h4
  | ct s m => rw [e] at h4; exact False.elim h4
  | err v s m => rw [e] at h4; exact fun ρ1 H1 σ1 cls d x hr sr er => h4 ρ1 H1 cls d x hr er
  | no => rw [e] at h4; exact h4
theorem fn_gc {f : Addr} {fd : FuncData} {ps : List Str} {k n : Nat} {m : MF} (F : FnOk P w K mg base (L2.CX P w) k f fd ps (SpM K G n m)) : FnOk P w K mg base (L2.CX P w) k f fd ps (SpM K G n (gc m)) := F.imp fun _ _ _ _ h => gc_sp h
end

/-! ### statements of classes -/
def cBody : Stmt → List Stmt
  | .ClassDef _ _ _ b _ _ _ _ _ _ _ => b
  | _ => []
end Mo
/-! Mo17: running the model by simp, continued. -/
namespace Mo
open PySem L2
/-! texts written out -/
theorem ofString_inj {a b : String} (h : Str.ofString a = Str.ofString b) : a = b := by
  rw [PySem.Str.ofString_eq_toList, PySem.Str.ofString_eq_toList] at h
  have h1 := congrArg (fun z : Str => z.cps.toList) h
  simp only [List.toList_toArray] at h1
  have hinj : ∀ {x y : Char}, x.toNat = y.toNat → x = y := fun {x y} e => Char.ext (UInt32.toNat_inj.mp e)
  have : ∀ {xs ys : List Char}, xs.map Char.toNat = ys.map Char.toNat → xs = ys := by
    intro xs
    induction xs with
    | nil => intro ys e; cases ys with
      | nil => rfl
      | cons _ _ => simp at e
    | cons x xs ih => intro ys e; cases ys with
      | nil => simp at e
      | cons y ys => simp at e; rw [hinj e.1, ih (by simpa using e.2)]
  exact String.toList_inj.mp (this h1)
@[simp] theorem ofString_eq {a b : String} : (Str.ofString a = Str.ofString b) = (a = b) := propext ⟨ofString_inj, fun h => by rw [h]⟩
@[simp] theorem ofString_beq {a b : String} : (Str.ofString a == Str.ofString b) = (a == b) := by
  by_cases h : a = b
  · subst h; simp
  · have h2 : ¬ Str.ofString a = Str.ofString b := fun e => h (ofString_inj e)
    rw [beq_eq_false_iff_ne.mpr h, beq_eq_false_iff_ne.mpr h2]
section
variable {s s1 : Lo} {h h1 : MH} {x y v z : MV} {e : MX}
def K1 (r : Rz MV) (f : MV → MH → OV) : Rz MV := r.bnd fun x h1 => lift (f x h1)
@[simp] theorem e1_ev {f a} : e1 f a s h = K1 (a s h) f := rfl
@[simp] theorem K1_ok {f} : K1 (.ok x h) f = lift (f x h) := rfl
@[simp] theorem K1_err {f} : K1 (.err e h) f = .err e h := rfl
@[simp] theorem fNeg_int {i} : fNeg (.int i) h = some (.int (-i), h) := rfl
@[simp] theorem fInt_bl {b} : fInt [.bl b] h = some (.int (if b then 1 else 0), h) := rfl
@[simp] theorem sNo_ev : sNo s h = .no := rfl
@[simp] theorem eNo_ev : eNo s h = .no := rfl
/-! fields -/
theorem fFld_ref {f cs i c fs} (e : h[i]? = some (.ins c fs)) : fFld f cs (.ref i) h = if c ∈ cs then KX (fs.lookup f) h else none := by simp [fFld, e, KX]
theorem putI_ref {f cs i c fs} (e : h[i]? = some (.ins c fs)) : putI f cs (.ref i) v h = if c ∈ cs ∧ fs.length < 1000 then some (h.set i (.ins c (putFM f v fs))) else none := by simp [putI, e]
@[simp] theorem putFM_nil {f} : putFM f v [] = [(f, v)] := rfl
@[simp] theorem putFM_cons {f g r} : putFM f v ((g, x) :: r) = if g = f then (g, v) :: r else (g, x) :: putFM f v r := rfl
def KFl (r : Rz MV) (o : ME) (f : Str) (cs : List String) (s : Lo) : SR := r.bnS s fun v h1 => (o s h1).bnS s fun x h2 => match putI f cs x v h2 with
  | some h3 => .nx s h3
  | none => .no
def KFl2 (r : Rz MV) (v : MV) (f : Str) (cs : List String) (s : Lo) : SR := r.bnS s fun x h2 => match putI f cs x v h2 with
  | some h3 => .nx s h3
  | none => .no
def KNx (o : Option MH) (s : Lo) : SR := match o with
  | some h3 => .nx s h3
  | none => .no
@[simp] theorem sFldM_ev {o e f cs} : sFldM o e f cs s h = KFl (e s h) o f cs s := rfl
@[simp] theorem KFl_ok {o f cs} : KFl (.ok v h) o f cs s = KFl2 (o s h) v f cs s := rfl
@[simp] theorem KFl_err {o f cs} : KFl (.err e h) o f cs s = .err e s h := rfl
@[simp] theorem KFl2_ok {f cs} : KFl2 (.ok x h) v f cs s = KNx (putI f cs x v h) s := rfl
@[simp] theorem KNx_some : KNx (some h) s = .nx s h := rfl
/-! new instances -/
def KMk (r : Rz (List MV)) (c : String) (n l N : Nat) (f : MF) (g : List MV → List MV → List MV) (mk : MEs) (s : Lo) : Rz MV := r.bnd fun xs h1 => (mk s h1).bnd fun ys h2 =>
  if xs.length = n ∧ ys.length = l ∧ (g (.ref h2.length :: xs) ys).length = N then (f (g (.ref h2.length :: xs) ys) (h2 ++ [.ins c []])).bnd fun v h3 => match v with
    | .non => .ok (.ref h2.length) h3
    | _ => .no
  else .no
def KMk3 (r : Rz MV) (a : Nat) : Rz MV := r.bnd fun v h3 => match v with
    | .non => .ok (.ref a) h3
    | _ => .no
def KMk2 (r : Rz (List MV)) (xs : List MV) (c : String) (n l N : Nat) (f : MF) (g : List MV → List MV → List MV) : Rz MV := r.bnd fun ys h2 =>
  if xs.length = n ∧ ys.length = l ∧ (g (.ref h2.length :: xs) ys).length = N then KMk3 (f (g (.ref h2.length :: xs) ys) (h2 ++ [.ins c []])) h2.length else .no
@[simp] theorem eMk_ev {c n l N f g ms mk} : eMk c n l N f g ms mk s h = KMk (ms s h) c n l N f g mk s := rfl
@[simp] theorem KMk_ok {c n l N f g mk xs} : KMk (.ok xs h) c n l N f g mk s = KMk2 (mk s h) xs c n l N f g := rfl
@[simp] theorem KMk_err {c n l N f g mk} : KMk (.err e h) c n l N f g mk s = .err e h := rfl
@[simp] theorem KMk2_ok {c n l N f g xs ys} : KMk2 (.ok ys h) xs c n l N f g = if xs.length = n ∧ ys.length = l ∧ (g (.ref h.length :: xs) ys).length = N then KMk3 (f (g (.ref h.length :: xs) ys) (h ++ [.ins c []])) h.length else .no := rfl
@[simp] theorem KMk2_err {c n l N f g xs} : KMk2 (.err e h) xs c n l N f g = .err e h := rfl
@[simp] theorem KMk3_ok {a} : KMk3 (.ok .non h) a = .ok (.ref a) h := rfl
@[simp] theorem KMk3_err {a} : KMk3 (.err e h) a = .err e h := rfl
@[simp] theorem gPos_ev {xs ys} : gPos xs ys = xs := rfl
@[simp] theorem gPat_ev {p d xs ys} : gPat p d xs ys = pickL p xs d ys := rfl
@[simp] theorem pickL_nil {α : Type} {us mv ws : List α} : pickL [] us mv ws = [] := rfl
/-! methods -/
def KMt (r : Rz MV) (c : String) (m : Str) (n : Nat) (f : MF) (as : MEs) (s : Lo) : Rz MV := r.bnd fun x h1 => match x with
  | .ref i => match h1[i]? with
    | some (.ins c' fs) => if c' = c ∧ fs.lookup m = none then (as s h1).bnd fun xs h2 => if xs.length + 1 = n then f (x :: xs) h2 else .no else .no
    | _ => .no
  | _ => .no
def KMt2 (r : Rz (List MV)) (n : Nat) (f : MF) (x : MV) : Rz MV := r.bnd fun xs h2 => if xs.length + 1 = n then f (x :: xs) h2 else .no
@[simp] theorem eMeth_ev {c m n f a as} : eMeth c m n f a as s h = KMt (a s h) c m n f as s := rfl
theorem KMt_ref {c m n f as i c' fs} (e : h[i]? = some (.ins c' fs)) : KMt (.ok (.ref i) h) c m n f as s = if c' = c ∧ fs.lookup m = none then KMt2 (as s h) n f (.ref i) else .no := by
  simp only [KMt, Rz.bnd, e, KMt2]
@[simp] theorem KMt2_ok {n f xs} : KMt2 (.ok xs h) n f x = if xs.length + 1 = n then f (x :: xs) h else .no := rfl
@[simp] theorem KMt2_err {n f} : KMt2 (.err e h) n f x = .err e h := rfl
/-! slices -/
def KS (r : Rz MV) (l u : MP) (s : Lo) : Rz MV := r.bnd fun x h1 => (l s h1).bnd fun lo h2 => (u s h2).bnd fun hi h3 => lift (fSl x lo hi h3)
def KS2 (r : Rz (Option Int)) (x : MV) (u : MP) (s : Lo) : Rz MV := r.bnd fun lo h2 => (u s h2).bnd fun hi h3 => lift (fSl x lo hi h3)
def KS3 (r : Rz (Option Int)) (x : MV) (lo : Option Int) : Rz MV := r.bnd fun hi h3 => lift (fSl x lo hi h3)
@[simp] theorem eSl_ev {a l u} : eSl a l u s h = KS (a s h) l u s := rfl
@[simp] theorem KS_ok {l u} : KS (.ok x h) l u s = KS2 (l s h) x u s := rfl
@[simp] theorem KS2_ok {lo u} : KS2 (.ok lo h) x u s = KS3 (u s h) x lo := rfl
@[simp] theorem KS3_ok {lo hi} : KS3 (.ok hi h) x lo = lift (fSl x lo hi h) := rfl
@[simp] theorem pNo_ev : pNo s h = .ok none h := rfl
def KPi (r : Rz MV) : Rz (Option Int) := r.bnd fun v h1 => match v with
  | .int i => .ok (some i) h1
  | _ => .no
@[simp] theorem pIs_ev {a} : pIs a s h = KPi (a s h) := rfl
@[simp] theorem KPi_ok {i} : KPi (.ok (.int i) h) = .ok (some i) h := rfl
theorem fSl_str {lo hi} {z : Str} (hz : z.length ≤ SZ) : fSl (.str z) lo hi h = some (.str (cutS z lo hi), h) := by simp [fSl, hz]
theorem fSl_ref {lo hi i xs} (e : h[i]? = some (.lst xs)) : fSl (.ref i) lo hi h = some (.ref h.length, h ++ [.lst (cutM xs lo hi)]) := by simp [fSl, e]
/-! lists -/
theorem fList_ref {i xs} (e : h[i]? = some (.lst xs)) : fList [.ref i] h = some (.ref h.length, h ++ [.lst xs]) := by simp [fList, seqOf, e]
@[simp] theorem fList_tup {xs} : fList [.tup xs] h = some (.ref h.length, h ++ [.lst xs]) := rfl
@[simp] theorem fList_ktp {xs} : fList [.ktp xs] h = some (.ref h.length, h ++ [.lst xs]) := rfl
theorem fAdd_ref {i j xs ys} (e1 : h[i]? = some (.lst xs)) (e2 : h[j]? = some (.lst ys)) : fAdd (.ref i) (.ref j) h = if xs.length + ys.length ≤ SZ then some (.ref h.length, h ++ [.lst (xs ++ ys)]) else none := by simp [fAdd, e1, e2]
@[simp] theorem fAdd_str {a b : Str} : fAdd (.str a) (.str b) h = if a.length + b.length ≤ SZ then some (.str (a ++ b), h) else none := rfl
/-! dicts -/
@[simp] theorem eDk_ev : eDk s h = .ok (.ref h.length) (h ++ [.dk []]) := rfl
@[simp] theorem eDt_ev : eDt s h = .ok (.ref h.length) (h ++ [.dt []]) := rfl
@[simp] theorem dNil_ev : dNil s h = .ok [] h := rfl
def KD1 (r : Rz MV) (b : ME) (t : MPs) (s : Lo) : Rz (List (MV × MV)) := r.bnd fun x h1 => (b s h1).bnd fun y h2 => (t s h2).bnd fun ps h3 => .ok ((x, y) :: ps) h3
def KD2 (r : Rz MV) (x : MV) (t : MPs) (s : Lo) : Rz (List (MV × MV)) := r.bnd fun y h2 => (t s h2).bnd fun ps h3 => .ok ((x, y) :: ps) h3
def KD3 (r : Rz (List (MV × MV))) (x y : MV) : Rz (List (MV × MV)) := r.bnd fun ps h3 => .ok ((x, y) :: ps) h3
@[simp] theorem dCons_ev {a b r} : dCons a b r s h = KD1 (a s h) b r s := rfl
@[simp] theorem KD1_ok {b t} : KD1 (.ok x h) b t s = KD2 (b s h) x t s := rfl
@[simp] theorem KD2_ok {t} : KD2 (.ok y h) x t s = KD3 (t s h) x y := rfl
@[simp] theorem KD3_ok {ps} : KD3 (.ok ps h) x y = .ok ((x, y) :: ps) h := rfl
def KDs (r : Rz (List (MV × MV))) (n : Nat) : Rz MV := r.bnd fun ps h1 => match pairsK ps, h1[n]? with
  | some kvs, some (.dk []) => if kvs.length ≤ 15 then .ok (.ref n) (h1.set n (.dk (mergeM [] kvs))) else .no
  | _, _ => .no
@[simp] theorem eDisp_ev {ps} : eDisp ps s h = KDs (ps s (h ++ [.dk []])) h.length := rfl
theorem KDs_ok {ps n kvs} (hk : pairsK ps = some kvs) (hd : h[n]? = some (.dk [])) : KDs (.ok ps h) n = if kvs.length ≤ 15 then .ok (.ref n) (h.set n (.dk (mergeM [] kvs))) else .no := by
  simp only [KDs, Rz.bnd, hk, hd]
def KPc (k : Option Key) (y : MV) (r : Option (List (Key × MV))) : Option (List (Key × MV)) := match k, r with
  | some k, some ks => some ((k, y) :: ks)
  | _, _ => none
@[simp] theorem pairsK_nil : pairsK [] = some [] := rfl
@[simp] theorem pairsK_cons {r} : pairsK ((x, y) :: r) = KPc (keyM x) y (pairsK r) := rfl
@[simp] theorem KPc_some {k r} : KPc (some k) y (some r) = some ((k, y) :: r) := rfl
@[simp] theorem keyM_str {z} : keyM (.str z) = some (.inr z) := rfl
@[simp] theorem keyM_int {z} : keyM (.int z) = some (.inl z) := rfl
@[simp] theorem keysM_nil : keysM [] = some [] := rfl
def KKc (k : Option Key) (r : Option (List Key)) : Option (List Key) := match k, r with
  | some k, some ks => some (k :: ks)
  | _, _ => none
@[simp] theorem keysM_cons {xs} : keysM (x :: xs) = KKc (keyM x) (keysM xs) := rfl
@[simp] theorem KKc_some {k r} : KKc (some k) (some r) = some (k :: r) := rfl
@[simp] theorem mergeM_nil {kvs} : mergeM kvs [] = kvs := rfl
@[simp] theorem mergeM_cons {kvs k r} : mergeM kvs ((k, y) :: r) = mergeM (putM kvs k y) r := rfl
@[simp] theorem putM_nil {κ : Type} [DecidableEq κ] {k : κ} : putM [] k y = [(k, y)] := rfl
@[simp] theorem putM_cons {κ : Type} [DecidableEq κ] {k a : κ} {r : List (κ × MV)} : putM ((a, x) :: r) k y = if a = k then (a, y) :: r.map (fun kv => if kv.1 = k then (kv.1, y) else kv) else (a, x) :: putM r k y := by
  unfold putM
  by_cases e : a = k
  · simp [e]
  · simp only [List.any_cons, e, decide_false, Bool.false_or, if_false, List.map_cons]
    by_cases f : (r.any fun kv => decide (kv.1 = k)) = true <;> simp [f]
@[simp] theorem valM_nil {κ : Type} [DecidableEq κ] {k : κ} : valM [] k = none := rfl
@[simp] theorem valM_cons {κ : Type} [DecidableEq κ] {k a : κ} {r : List (κ × MV)} : valM ((a, x) :: r) k = if a = k then some x else valM r k := by
  unfold valM
  by_cases e : a = k <;> simp [e, List.find?_cons]
theorem putD_dk {i kvs k} (e : h[i]? = some (.dk kvs)) (hk : keyM x = some k) : putD (.ref i) x v h = if kvs.length < SZ then some (h.set i (.dk (putM kvs k v))) else none := by simp [putD, e, hk]
def KPut1 (r : Rz MV) (d k : ME) (s : Lo) : SR := r.bnS s fun v h1 => (d s h1).bnS s fun x h2 => (k s h2).bnS s fun y h3 => match putD x y v h3 with
  | some h4 => .nx s h4
  | none => .no
def KPut2 (r : Rz MV) (v : MV) (k : ME) (s : Lo) : SR := r.bnS s fun x h2 => (k s h2).bnS s fun y h3 => match putD x y v h3 with
  | some h4 => .nx s h4
  | none => .no
def KPut3 (r : Rz MV) (v x : MV) (s : Lo) : SR := r.bnS s fun y h3 => match putD x y v h3 with
  | some h4 => .nx s h4
  | none => .no
@[simp] theorem sPut_ev {d k e} : sPut d k e s h = KPut1 (e s h) d k s := rfl
@[simp] theorem KPut1_ok {d k} : KPut1 (.ok v h) d k s = KPut2 (d s h) v k s := rfl
@[simp] theorem KPut2_ok {k} : KPut2 (.ok x h) v k s = KPut3 (k s h) v x s := rfl
@[simp] theorem KPut3_ok : KPut3 (.ok y h) v x s = KNx (putD x y v h) s := rfl
theorem isDM_dk {i kvs} (e : h[i]? = some (.dk kvs)) : isDM (.ref i) h = true := by simp [isDM, e]
theorem isDM_dt {i kvs} (e : h[i]? = some (.dt kvs)) : isDM (.ref i) h = true := by simp [isDM, e]
theorem isDM_lst {i xs} (e : h[i]? = some (.lst xs)) : isDM (.ref i) h = false := by simp [isDM, e]
@[simp] theorem isDM_tup {xs} : isDM (.tup xs) h = false := rfl
@[simp] theorem isDM_ktp {xs} : isDM (.ktp xs) h = false := rfl
@[simp] theorem isDM_frl {xs} : isDM (.frl xs) h = false := rfl
@[simp] theorem isDM_str {z} : isDM (.str z) h = false := rfl
@[simp] theorem fInA_ev : fInA x y h = if isDM y h = true then fDIn x y h else fIn x y h := rfl
@[simp] theorem fNotInA_ev : fNotInA x y h = if isDM y h = true then fDNotIn x y h else fNotIn x y h := rfl
@[simp] theorem fIxA_ev : fIxA x y h = if isDM x h = true then fDGet x y h else fIx x y h := rfl
theorem dGet_dk {i kvs} (e : h[i]? = some (.dk kvs)) : dGet h (.ref i) y = (keyM y).map fun k => valM kvs k := by simp [dGet, e]
def KG (r : Rz MV) (x : MV) : Rz MV := r.bnd fun y h2 => match dGet h2 x y with
  | some o => .ok (o.getD .non) h2
  | none => .no
def KG0 (r : Rz MV) (k : ME) (s : Lo) : Rz MV := r.bnd fun x h1 => if isDM x h1 = true then KG (k s h1) x else .no
@[simp] theorem eGet1_ev {d k} : eGet1 d k s h = KG0 (d s h) k s := rfl
@[simp] theorem KG0_ok {k} : KG0 (.ok x h) k s = if isDM x h = true then KG (k s h) x else .no := rfl
theorem KG_dk {i kvs k} (e : h[i]? = some (.dk kvs)) (hk : keyM y = some k) : KG (.ok y h) (.ref i) = .ok ((valM kvs k).getD .non) h := by
  simp [KG, Rz.bnd, dGet, e, hk]
/-! a table, a name that holds a def -/
def KKG (r : Rz MV) (tab : List (Str × MV)) : Rz MV := r.bnd fun x h1 => match x with
  | .str z => match tab.lookup z with
    | some v => .ok v h1
    | none => .no
  | _ => .no
def KKL (o : Option MV) (h : MH) : Rz MV := match o with
  | some v => .ok v h
  | none => .no
@[simp] theorem eKGet_ev {tab m} : eKGet tab m s h = KKG (m s h) tab := rfl
@[simp] theorem KKG_ok {tab z} : KKG (.ok (.str z) h) tab = KKL (tab.lookup z) h := rfl
@[simp] theorem KKL_some : KKL (some v) h = .ok v h := rfl
def KLc (o : Option (Option MV)) (n : Nat) (tab : List (String × MF)) (ms : MEs) (s : Lo) (h : MH) : Rz MV := match o with
  | some (some (.glo g)) => match tab.lookup g with
    | some f => call n f ms s h
    | none => .no
  | _ => .no
def KLd (o : Option MF) (n : Nat) (ms : MEs) (s : Lo) (h : MH) : Rz MV := match o with
  | some f => call n f ms s h
  | none => .no
@[simp] theorem eCallL_ev {i n tab ms} : eCallL i n tab ms s h = KLc s[i]? n tab ms s h := rfl
@[simp] theorem KLc_glo {n tab ms g} : KLc (some (some (.glo g))) n tab ms s h = KLd (tab.lookup g) n ms s h := rfl
@[simp] theorem KLd_some {n ms f} : KLd (some f) n ms s h = call n f ms s h := rfl
end
end Mo
/-! Mo18: x[i] = v of lists and dicts; tables. -/
namespace Mo
open PySem L2
theorem PSet.or {X : Cx} {t t' : TSet} (h : PSet X t) (h' : PSet X t') : PSet X fun o i v H Q => t o i v H Q ∨ t' o i v H Q := by
  intro pins s σ H o i v ov iv u Q I ro ri rv q
  rcases q with q | q
  · exact h pins s σ H o i v ov iv u Q I ro ri rv q
  · exact h' pins s σ H o i v ov iv u Q I ro ri rv q
def putL (d k v : MV) (h : MH) : Option MH := match d, k with
  | .ref i, .int j => match h[i]? with
    | some (.lst xs) => (ixN xs.length j).map fun n => h.set i (.lst (xs.set n v))
    | _ => none
  | _, _ => none
def putA (d k v : MV) (h : MH) : Option MH := if isDM d h = true then putD d k v h else putL d k v h
def sPutA (d k e : ME) : MS := fun s h => (e s h).bnS s fun v h1 => (d s h1).bnS s fun x h2 => (k s h2).bnS s fun y h3 => match putA x y v h3 with
  | some h4 => .nx s h4
  | none => .no
section
variable {X : Cx} {G : String → Option V} {W : WX} {o i value : Expr} {mo mi me : ME} {pos pos' : Pos} {k : Nat}
theorem m_iput (hr : Room k X.A) (ho : PE X o (RE X.K G W mo)) (hi : PE X i (RE X.K G W mi)) (hv : PE X value (RE X.K G W me)) (hs : swapsWithSole [.Subscript o i pos'] value pos.line X.env = pure false := by rfl) (hw : swappedStores [.Subscript o i pos'] value X.env = pure none := by rfl)
    (h1 : (assignEach [.Subscript o i pos'] X.env).map (·.2) = [assign (.Subscript o i pos') X.env] := by rfl)
    (ha : ∀ v, assign (.Subscript o i pos') X.env v = (do
      let ov ← holding [v] (eval o X.env)
      let iv ← holding [v, ov] (eval i X.env)
      standAt pos'
      holding [v, ov, iv] (setItem ov iv v)
      release [v, ov, iv] []) := by intro _; rfl) :
    PS X (.Assign [.Subscript o i pos'] value pos) (RS X.K G W (sPutA mo mi me)) := by
  refine ps_imp (ps_asg hv (pg_sub ho hi (PSet.or (set_dict (units1 hr)) set_list) ha) hs hw h1) fun D σ H ⟨ρ, sm, mh, r0, q⟩ => ?_
  refine res_bnd r0 q fun y ρ1 H1 mh1 w x1 r1 rw1 q1 => ?_
  refine res_bnd r1 q1 fun x ρ2 H2 mh2 v x2 r2 rv q2 => ?_
  refine res_bnd r2 q2 fun z ρ3 H3 mh3 u x3 r3 ru q3 => ?_
  have rv3 := rv.ext x3
  have rw3 := (rw1.ext x2).ext x3
  split at q3
  · rename_i h4 e
    unfold putA at e
    split at e
    · obtain ⟨a, H4, rfl, g1, g2, g3⟩ := putD_V r3.hr e rv3 ru rw3
      exact .inl ⟨a, H4, rfl, g1, q3 _ _ _ g2 g3 (r3.sr.ext g2)⟩
    · unfold putL at e
      split at e
      · split at e
        · rename_i xs q4
          cases hn : ixN xs.length _ with
          | none => rw [hn] at e; cases e
          | some n =>
            rw [hn] at e
            cases e
            obtain ⟨a, vs, rfl, ha, g1, g2⟩ := r3.hr.lst q4 rv3
            obtain ⟨a1, a2⟩ := put_lst r3.hr q4 ha g1 (g2.set rw3 n)
            simp only [VR] at ru
            exact .inr ⟨a, vs, _, n, rfl, ru, g1, by rw [← g2.length]; exact hn, q3 _ _ _ a2 a1 (r3.sr.ext a2)⟩
        · cases e
      · cases e
  · exact q3.elim
theorem tab_of {K : PySem.W.Frag} {w : World} {a : Addr} {kvs : List (Str × String)} (h : ∃ es n, KDict K w a es n) (e : He.valsB K a (kvs.map fun p => (p.1, He.Dv.glo (Str.ofString p.2))) = true) : TabOk K (gOf K) w a (kvs.map fun p => (p.1, MV.glo p.2)) := by
  refine ⟨h, fun z v hl => ?_⟩
  have key : ∀ (l : List (Str × String)), (l.map fun p => (p.1, MV.glo p.2)).lookup z = some v → ∃ g, (z, g) ∈ l ∧ v = .glo g := by
    intro l
    induction l with
    | nil => intro h; cases h
    | cons p l ih =>
      intro h
      simp only [List.map_cons, List.lookup] at h
      split at h
      · rename_i e
        cases h
        have : z = p.1 := by simpa using e
        exact ⟨p.2, by rw [this]; exact List.mem_cons_self .., rfl⟩
      · obtain ⟨g, h1, h2⟩ := ih h
        exact ⟨g, List.mem_cons_of_mem _ h1, h2⟩
  obtain ⟨g, h1, rfl⟩ := key kvs hl
  obtain ⟨u, h2, h3⟩ := He.valsB_ok e (q := (z, He.Dv.glo (Str.ofString g))) (List.mem_map.mpr ⟨(z, g), h1, rfl⟩)
  exact ⟨u, _, h2, h3, fun ρ H => by simp [VR, gOf, He.Dv.v]⟩
end
section
variable {s s1 : Lo} {h h1 : MH} {x y v z : MV} {e : MX}
def KPA1 (r : Rz MV) (d k : ME) (s : Lo) : SR := r.bnS s fun v h1 => (d s h1).bnS s fun x h2 => (k s h2).bnS s fun y h3 => match putA x y v h3 with
  | some h4 => .nx s h4
  | none => .no
def KPA2 (r : Rz MV) (v : MV) (k : ME) (s : Lo) : SR := r.bnS s fun x h2 => (k s h2).bnS s fun y h3 => match putA x y v h3 with
  | some h4 => .nx s h4
  | none => .no
def KPA3 (r : Rz MV) (v x : MV) (s : Lo) : SR := r.bnS s fun y h3 => match putA x y v h3 with
  | some h4 => .nx s h4
  | none => .no
@[simp] theorem sPutA_ev {d k e} : sPutA d k e s h = KPA1 (e s h) d k s := rfl
@[simp] theorem KPA1_ok {d k} : KPA1 (.ok v h) d k s = KPA2 (d s h) v k s := rfl
@[simp] theorem KPA2_ok {k} : KPA2 (.ok x h) v k s = KPA3 (k s h) v x s := rfl
@[simp] theorem KPA3_ok : KPA3 (.ok y h) v x s = KNx (putA x y v h) s := rfl
theorem putA_dk {i kvs k} (e : h[i]? = some (.dk kvs)) (hk : keyM y = some k) : putA (.ref i) y v h = if kvs.length < SZ then some (h.set i (.dk (putM kvs k v))) else none := by
  simp [putA, isDM, putD, e, hk]
theorem putA_lst {i xs j} (e : h[i]? = some (.lst xs)) : putA (.ref i) (.int j) v h = (ixN xs.length j).map fun n => h.set i (.lst (xs.set n v)) := by
  simp [putA, isDM, putL, e]
theorem ixN_nat {n m : Nat} (h : m < n) : ixN n (m : Int) = some m := by
  unfold ixN
  simp; omega
end
end Mo
/-! Mo19: running the model by simp: loops over values, helpers of the plain proofs. -/
namespace Mo
open PySem L2
theorem gc_okE {f : MF} {xs : List MV} {h : MH} {v : MV} (e : ∃ g, f xs h = .ok v (h ++ g)) (hn : noref v = true) : gc f xs h = .ok v h := by
  obtain ⟨g, e⟩ := e
  exact gc_ok e hn
theorem gc_newE {f : MF} {xs : List MV} {h : MH} {o : MO} (e : ∃ k g, f xs h = .ok (.ref (h.length + k)) (h ++ g) ∧ g[k]? = some o) (hn : norefO o = true) : gc f xs h = .ok (.ref h.length) (h ++ [o]) := by
  obtain ⟨k, g, e, hk⟩ := e
  exact gc_new e hk hn
@[simp] theorem fMul_ev {i j : Int} {h : MH} : fMul (.int i) (.int j) h = if (-(2 ^ 64) < i ∧ i < 2 ^ 64) ∨ (-(2 ^ 64) < j ∧ j < 2 ^ 64) then some (.int (i * j), h) else none := rfl
@[simp] theorem fDiv_ev {i j : Int} {h : MH} : fDiv (.int i) (.int j) h = if 0 < j ∧ j < 1073741824 then some (.int (i / j), h) else none := rfl
@[simp] theorem fPow_ev {i j : Int} {h : MH} : fPow (.int i) (.int j) h = if 0 ≤ j ∧ j ≤ 1000000 ∧ i.natAbs < 2 ^ 64 then some (.int (i ^ j.toNat), h) else none := rfl
theorem gc_keep {f : MF} {xs : List MV} {h g : MH} {k : Nat} {o : MO} (e : f xs h = .ok (.ref (h.length + k)) (h ++ g)) (hk : g[k]? = some o) (hn : norefO o = false) : gc f xs h = .ok (.ref (h.length + k)) (h ++ g) := by
  unfold gc
  rw [e]
  dsimp only
  rw [if_neg (by intro z; exact absurd z.1 (by simp [noref])), dif_neg]
  intro ⟨o', k', g', h1, h2, h3, h4⟩
  have hk' : k = k' := by
    have := MV.ref.inj h1
    omega
  have hg : g = g' := List.append_cancel_left h2
  subst hg hk'
  rw [hk] at h3
  rw [← Option.some.inj h3, hn] at h4
  cases h4
theorem len1 {α : Type} : ∀ {l : List α}, l.length = 1 → ∃ a, l = [a]
  | [a], _ => ⟨a, rfl⟩
theorem len3 {α : Type} : ∀ {l : List α}, l.length = 3 → ∃ a b c, l = [a, b, c]
  | [a, b, c], _ => ⟨a, b, c, rfl⟩
theorem len4 {α : Type} : ∀ {l : List α}, l.length = 4 → ∃ a b c d, l = [a, b, c, d]
  | [a, b, c, d], _ => ⟨a, b, c, d, rfl⟩
theorem norefs_int : ∀ xs : List Int, norefs (xs.map MV.int) = true
  | [] => rfl
  | x :: xs => by simp [norefs, noref, norefs_int xs]
theorem norefs_str : ∀ xs : List PySem.Str, norefs (xs.map MV.str) = true
  | [] => rfl
  | x :: xs => by simp [norefs, noref, norefs_str xs]
theorem atI_2 {α : Type} {a b : α} {i : Int} : atI [a, b] (i % 2) = some (if i % 2 = 0 then a else b) := by
  have : i % 2 = 0 ∨ i % 2 = 1 := by omega
  rcases this with h | h <;> rw [h] <;> rfl
theorem atI_3 {α : Type} {a b c : α} {i : Int} : atI [a, b, c] (i % 3) = some (if i % 3 = 0 then a else if i % 3 = 1 then b else c) := by
  have : i % 3 = 0 ∨ i % 3 = 1 ∨ i % 3 = 2 := by omega
  rcases this with h | h | h <;> rw [h] <;> rfl
end Mo
namespace Mo
open PySem L2
def omv : Option Str → MV
  | none => .non
  | some x => .str x
theorem noref_omv (x : Option Str) : noref (omv x) = true := by cases x <;> rfl
theorem atI_b {α : Type} {a b : α} {c : Bool} : atI [a, b] (if c = true then 1 else 0) = some (if c = true then b else a) := by cases c <;> rfl
theorem ofString_app {a b : String} : Str.ofString a ++ Str.ofString b = Str.ofString (a ++ b) := by
  rw [PySem.Str.ofString_eq_toList, PySem.Str.ofString_eq_toList, PySem.Str.ofString_eq_toList, String.toList_append, List.map_append]
  show (⟨(a.toList.map Char.toNat).toArray ++ (b.toList.map Char.toNat).toArray⟩ : Str) = _
  simp
@[simp] theorem lookup_c {β : Type} {a k : Str} {b : β} {r : List (Str × β)} : List.lookup a ((k, b) :: r) = if (a == k) = true then some b else List.lookup a r := by
  simp only [List.lookup]
  cases a == k <;> rfl
@[simp] theorem lookup_n {β : Type} {a : Str} : List.lookup a ([] : List (Str × β)) = none := rfl
@[simp] theorem lookup_cs {β : Type} {a k : String} {b : β} {r : List (String × β)} : List.lookup a ((k, b) :: r) = if (a == k) = true then some b else List.lookup a r := by
  simp only [List.lookup]
  cases a == k <;> rfl
theorem ofString_len {a : String} : (Str.ofString a).length = a.toList.length := by
  rw [PySem.Str.ofString_eq_toList]
  show ((a.toList.map Char.toNat).toArray).size = _
  simp
end Mo
namespace Mo
open PySem L2
section
variable {s s1 : Lo} {h h1 : MH} {x y v z : MV} {e : MX}
def KFo (r : Rz MV) (g : MG) (b : MS) (s : Lo) : SR := r.bnS s fun v h1 => match v with
  | .str z => forG (getL (chars z)) g b (z.length + 1) 0 s h1
  | v => match asT v with
    | some xs => forG (getL xs) g b (xs.length + 1) 0 s h1
    | none => match seqOf h1 v with
      | some xs => forG (getSeq v) g b (xs.length + 1) 0 s h1
      | none => .no
@[simp] theorem sFor_ev {m g b} : sFor m g b s h = KFo (m s h) g b s := rfl
@[simp] theorem KFo_tup {xs g b} : KFo (.ok (.tup xs) h) g b s = forG (getL xs) g b (xs.length + 1) 0 s h := rfl
@[simp] theorem KFo_ktp {xs g b} : KFo (.ok (.ktp xs) h) g b s = forG (getL xs) g b (xs.length + 1) 0 s h := rfl
@[simp] theorem KFo_frl {xs g b} : KFo (.ok (.frl xs) h) g b s = forG (getSeq (.frl xs)) g b (xs.length + 1) 0 s h := rfl
@[simp] theorem KFo_err {g b} : KFo (.err e h) g b s = .err e s h := rfl
theorem KFo_ref {i xs g b} (q : h[i]? = some (.lst xs)) : KFo (.ok (.ref i) h) g b s = forG (getSeq (.ref i)) g b (xs.length + 1) 0 s h := by
  simp [KFo, Rz.bnS, asT, seqOf, q]
theorem getSeq_ref {i k xs} (q : h[i]? = some (.lst xs)) : getSeq (.ref i) k h = some xs[k]? := by simp [getSeq, seqOf, q]
def KFT (o : Option Lo) (get : Itm) (g : MG) (b : MS) (n i : Nat) (h : MH) : SR := match o with
  | some s1 => KFB (b s1 h) get g b n i
  | none => .no
@[simp] theorem KF_goT {get is b n i xs} : KF (some (some (.tup xs))) get (gT is) b n i s h = KFT (setAll is xs s) get (gT is) b n i h := by
  show (match setAll is xs s with
    | none => SR.no
    | some s1 => match b s1 h with
      | .nx s2 h2 => forG get (gT is) b n (i + 1) s2 h2
      | .ct s2 h2 => forG get (gT is) b n (i + 1) s2 h2
      | .bk s2 h2 => .nx s2 h2
      | r => r) = _
  unfold KFT KFB
  cases setAll is xs s with
  | none => rfl
  | some s1 => first | rfl | (dsimp only; done) | (cases b s1 h <;> rfl) | (dsimp only; cases b s1 h <;> rfl)
@[simp] theorem KFT_some {get g b n i} : KFT (some s1) get g b n i h = KFB (b s1 h) get g b n i := rfl
@[simp] theorem setAll_nil : setAll [] [] s = some s := rfl
@[simp] theorem setAll_cons {i is xs} : setAll (i :: is) (x :: xs) s = setAll is xs (s.set i (some x)) := rfl
end
end Mo
/-! Mo20: methods of texts. -/
namespace Mo
open PySem L2
def fStarts (x : MV) (xs : List MV) (h : MH) : OV := match x, xs with
  | .str a, [.str b] => some (.bl (Txt.startswith a b), h)
  | _, _ => none
def fEnds (x : MV) (xs : List MV) (h : MH) : OV := match x, xs with
  | .str a, [.str b] => some (.bl (Txt.endswith a b), h)
  | _, _ => none
def fRstripC (x : MV) (xs : List MV) (h : MH) : OV := match x, xs with
  | .str a, [.str b] => if a.length ≤ SZ then some (.str (Txt.rstripChars a b), h) else none
  | _, _ => none
def fSplit (x : MV) (xs : List MV) (h : MH) : OV := match x, xs with
  | .str a, [.str b] => if (b.length == 0) = false ∧ a.length + 2 ≤ SZ then some (.ref h.length, h ++ [.lst ((Txt.split a b).map .str)]) else none
  | _, _ => none
def strsM : List MV → Option (List Str)
  | [] => some []
  | .str x :: r => (strsM r).map fun ys => x :: ys
  | _ :: _ => none
def fJoin (x : MV) (xs : List MV) (h : MH) : OV := match x, xs with
  | .str a, [y] => match seqOf h y with
    | some zs => match strsM zs with
      | some ys => if (ys.map (·.length)).sum + ys.length * a.length ≤ 16777216 then some (.str (Txt.join a ys), h) else none
      | none => none
    | none => none
  | _, _ => none
section
variable {K : PySem.W.Frag} {G : String → Option V}
theorem strs_V {ρ : List Addr} {H : Hp} : ∀ {xs : List MV} {vs : List V} {ys : List Str}, strsM xs = some ys → VRs K G ρ H xs vs → vs = ys.map V.str
  | [], _, _, e, r => by simp only [VRs] at r; subst r; cases e; rfl
  | x :: xs, _, ys, e, r => by
    simp only [VRs] at r
    obtain ⟨v, vs, rfl, q, t⟩ := r
    cases x with
    | str z =>
      simp only [strsM] at e
      cases h : strsM xs with
      | none => rw [h] at e; cases e
      | some zs =>
        rw [h] at e; cases e
        simp only [VR] at q
        rw [q, strs_V h t]
        rfl
    | _ => simp [strsM] at e
theorem VRs.strs {ρ : List Addr} {H : Hp} : ∀ (xs : List Str), VRs K G ρ H (xs.map MV.str) (xs.map V.str)
  | [] => VRs.nil
  | x :: xs => VRs.cons (by simp [VR]) (VRs.strs xs)
theorem s_starts : MtS K G (fun x xs H Q => ∃ a b, x = .str a ∧ xs = [.str b] ∧ Q (.bl (Txt.startswith a b)) H) fStarts := by
  intro ρ H mh mh1 x z xs v vs Q hr rv rvs e k
  unfold fStarts at e
  split at e
  · obtain ⟨w, rfl, rw'⟩ := rvs.one
    simp only [VR] at rv rw'; subst rv rw'
    cases e
    exact ⟨_, _, rfl, rfl, k _ _ Ext.refl hr _ (by simp [VR])⟩
  · cases e
theorem s_ends : MtS K G (fun x xs H Q => ∃ a b, x = .str a ∧ xs = [.str b] ∧ Q (.bl (Txt.endswith a b)) H) fEnds := by
  intro ρ H mh mh1 x z xs v vs Q hr rv rvs e k
  unfold fEnds at e
  split at e
  · obtain ⟨w, rfl, rw'⟩ := rvs.one
    simp only [VR] at rv rw'; subst rv rw'
    cases e
    exact ⟨_, _, rfl, rfl, k _ _ Ext.refl hr _ (by simp [VR])⟩
  · cases e
theorem s_rstripC : MtS K G (fun x xs H Q => ∃ a b, x = .str a ∧ xs = [.str b] ∧ a.length ≤ sizeLine ∧ Q (.str (Txt.rstripChars a b)) H) fRstripC := by
  intro ρ H mh mh1 x z xs v vs Q hr rv rvs e k
  unfold fRstripC at e
  split at e
  · obtain ⟨w, rfl, rw'⟩ := rvs.one
    simp only [VR] at rv rw'; subst rv rw'
    split at e
    · rename_i hz
      cases e
      exact ⟨_, _, rfl, rfl, by rw [SZ_eq]; exact hz, k _ _ Ext.refl hr _ (by simp [VR])⟩
    · cases e
  · cases e
theorem s_split : MtS K G (fun x xs H Q => ∃ a b, x = .str a ∧ xs = [.str b] ∧ (b.length == 0) = false ∧ a.length + 2 ≤ sizeLine ∧ rNewStrs (Txt.split a b) H Q) fSplit := by
  intro ρ H mh mh1 x z xs v vs Q hr rv rvs e k
  unfold fSplit at e
  split at e
  · obtain ⟨w, rfl, rw'⟩ := rvs.one
    simp only [VR] at rv rw'; subst rv rw'
    split at e
    · rename_i hz
      cases e
      refine ⟨_, _, rfl, rfl, hz.1, by rw [SZ_eq]; exact hz.2, fun p hp => ?_⟩
      obtain ⟨a1, a2, a3⟩ := new_lst hr (VRs.strs _) hp
      exact k _ _ a2 a1 _ a3
    · cases e
  · cases e
theorem s_join : MtS K G (fun x xs H Q => ∃ a p, ∃ ys : List Str, x = .str a ∧ xs = [.ref p] ∧ (SqL K H p (ys.map V.str) ∨ SqT K H p (ys.map V.str)) ∧
    (ys.map (·.length)).sum + ys.length * a.length ≤ 16777216 ∧ Q (.str (Txt.join a ys)) H) fJoin := by
  intro ρ H mh mh1 x z xs v vs Q hr rv rvs e k
  unfold fJoin at e
  split at e
  · obtain ⟨w, rfl, rw'⟩ := rvs.one
    simp only [VR] at rv; subst rv
    split at e
    · rename_i zs hq
      split at e
      · rename_i ys hs
        split at e
        · rename_i hz
          cases e
          obtain ⟨p, us, rfl, g1, g2⟩ := seq_V hr hq rw'
          have := strs_V hs g2
          subst this
          exact ⟨_, _, ys, rfl, rfl, g1, hz, k _ _ Ext.refl hr _ (by simp [VR])⟩
        · cases e
      · cases e
    · cases e
  · cases e
end
section
variable {h : MH}
@[simp] theorem isS_str {z} : isS (.str z) h = true := rfl
@[simp] theorem fStarts_ev {a b} : fStarts (.str a) [.str b] h = some (.bl (Txt.startswith a b), h) := rfl
@[simp] theorem fEnds_ev {a b} : fEnds (.str a) [.str b] h = some (.bl (Txt.endswith a b), h) := rfl
@[simp] theorem fRstripC_ev {a b} : fRstripC (.str a) [.str b] h = if a.length ≤ SZ then some (.str (Txt.rstripChars a b), h) else none := rfl
@[simp] theorem fSplit_ev {a b} : fSplit (.str a) [.str b] h = if (b.length == 0) = false ∧ a.length + 2 ≤ SZ then some (.ref h.length, h ++ [.lst ((Txt.split a b).map .str)]) else none := rfl
end
end Mo
/-! Mo21: a call of an instance whose class has __call__. -/
namespace Mo
open PySem L2
section
variable {M : Model} {A : Around} {E : Value → Shared → Prop} {s : Shared} {pos : Pos} {x : Addr} {first : List Value} {Q : Value → Shared → Prop}
theorem ico_with {args : List (Bool × Sem Value)} {keywords : List (Option Str × Sem Value)} (hplain : (args.any (·.1) || keywords.any (·.1.isNone)) = false) 
    (h : wpAny M A (evalArgs (.ref x) true args keywords) (fun a s₁ => (∃ ox, s₁.heap.get? x = some ox ∧ ox.data = .plain) ∧ wpAny M A (PySem.call (.ref x) (first ++ a.pos) a.kw) Q E s₁) E s) : wpAny M A (callWith pos (.ref x) first args keywords) Q E s := by
  unfold callWith
  refine wpAny_bind (wpAny_holding (wpAny_mono h (fun a s₁ h₁ => wpAny_bind (wpAny_standAt ?_)) fun _ _ y => y))
  have L : PySem.W.Looks M s₁.heap (keeperOf (.ref x)) .caller := by
    obtain ⟨⟨ox, ha, hd⟩, _⟩ := h₁
    refine (PySem.W.Looks.ld (part := none) ha).andThen ?_
    simp only [hd]
    exact .now
  simp only [hplain]
  refine wpAny_bind (L.here ?_)
  have tail : ∀ {t : Sem Value}, wpAny M A t Q E s₁ → wpAny M A (t >>= fun r => holding [r] point >>= fun _ => pure r) Q E s₁ :=
    fun ht => wpAny_bind (wpAny_mono ht (fun r s₂ hr => wpAny_bind (wpAny_holding (wpAny_point (wpAny_pure hr)))) fun _ _ y => y)
  exact tail (wpAny_operateT h₁.2)
end
/-- x(..), x an instance of the class c -/
def eICall (c : String) (n : Nat) (f : MF) (a : ME) (as : MEs) : ME := fun s h => (a s h).bnd fun x h1 => match x with
  | .ref i => (as s h1).bnd fun xs h2 => match h2[i]? with
    | some (.ins c' _) => if c' = c ∧ xs.length + 1 = n then f (x :: xs) h2 else .no
    | _ => .no
  | _ => .no
section
variable {X : Cx} {G : String → Option V} {W : WX} {e : Expr} {es : List Expr} {mo : ME} {ms : MEs} {x : Str} {p pos : Pos} {k : Nat} {fa C : Addr} {fd : FuncData} {ps : List Str} {f : MF} {c : String}
theorem fnIn_of {K : PySem.W.Frag} {nm qual : Str} {params : Arguments} {body : List Stmt} {scope : Scope} {dvs : List V} {kws : List (Str × V)} (F : FunD K nm qual params body scope dvs kws fa fd) : PySem.W.fnIn K fa = true := by
  obtain ⟨oc, od, dV, kV, doc, pm, an, cdv, ct, osl, rfl, lk, _⟩ := F.ex
  unfold PySem.W.fnIn
  rw [lk]
theorem m_icall (hG : G c = some (.ref C)) (hm : Meth X.K C "__call__" fa) (hfn : PySem.W.fnIn X.K fa = true) (F : FnOk X.prog X.w X.K X.mg X.base (L2.CX X.prog X.w) k fa fd ps (SpM X.K G ps.length f)) (hr : Room k X.A) (hb : Binds X.K fd ps []) (tk : Takes X W)
    (ho : PE X (.Name x p) (RE X.K G W mo)) (ha : PA X (e :: es) (RA X.K G W ms)) (he : starEach (e :: es) X.env = (false, eval e X.env) :: starEach es X.env := by rfl) (hpl : (backTo pos (starEach es X.env)).any (·.1) = false := by rfl) :
    PE X (.Call (.Name x p) (e :: es) [] pos) (RE X.K G W (eICall c ps.length f mo ms)) := by
  refine ⟨fun pins s σ H Q I h => ?_⟩
  obtain ⟨ρ, sm, mh, r0, q⟩ := h
  refine wpAny_Call_Name_kw (thn (ho.run pins s σ H _ I (re_bnd r0 q (Q := fun v H1 => ∃ a, v = .ref a ∧ RA X.K G W ms σ H1 fun vs H2 => ∃ dx fs, H2 a = some (.ins C dx fs) ∧ SpM X.K G ps.length f (.ref a :: vs) H2 Q (WE W σ)) fun x ρ1 H1 mh1 v x1 r1 rv q1 => ?_)) fun u s1 ⟨v, H1, I1, ru, a, ev, q1⟩ => ?_)
  · split at q1
    · rename_i i
      have rv0 := rv
      simp only [VR] at rv0
      obtain ⟨a, rfl, ha⟩ := rv0
      refine ⟨a, rfl, ra_bnd r1 q1 fun xs ρ2 H2 mh2 vs x2 r2 rvs q2 => ?_⟩
      split at q2
      · rename_i c' fs q3
        split at q2
        · rename_i hc
          obtain ⟨rfl, hn⟩ := hc
          obtain ⟨a', C', dx, us, ea, hq, g1, g2, g3⟩ := r2.hr.ins q3 (rv.ext x2)
          cases ea
          rw [hG] at g1
          cases g1
          have rel := VRs.cons (rv.ext x2) rvs
          exact ⟨dx, us, g2, _, _, _, r2.hr, rel, by rw [← rel.length]; exact hn, ro_anyS q2⟩
        · exact q2.elim
      · exact q2.elim
    · exact q1.elim
  · subst ev
    obtain rfl : u = Value.ref a := ru
    have h1 := ha.run pos pins s1 σ H1 _ I1 q1
    rw [he] at h1 ⊢
    refine ico_with (by show ((false || (backTo pos (starEach es X.env)).any (·.1)) || false) = false; rw [hpl]; rfl) (Calls.evalArgs_plain (thn h1 fun us s2 ⟨vs, H2, I2, r, dx, fs, g, q2⟩ => ?_))
    obtain ⟨mA, O, _⟩ := ins_get I2.hok g
    obtain ⟨od, J, _⟩ := O.look
    refine ⟨⟨_, O.obj, rfl⟩, ?_⟩
    have r2 : Vals (.ref a :: vs) (.ref a :: us) := .cons rfl r
    have hl : ((.ref a :: us : List Value) ++ []).length = ps.length := by rw [List.append_nil, ← r2.length]; exact F.len _ _ _ _ q2
    refine wpAny_call (PySem.W.kco_code I2.kIn J rfl hm.at_ hm.fn hfn (codeAny_mono (F.run X.A X.stack s2 H2 ⟨.ref a :: us, []⟩ (.ref a :: us) (.ref a :: vs) Q (WE W σ) hr I2.env0 ?_ r2 q2) fun r s' hq => ?_))
    · have := hb s2 (.ref a :: us) I2.kIn hl
      rw [List.append_nil] at this
      exact this
    · cases r with
      | error e => exact passAt tk σ pins H2 s2 e s' I2 hq
      | ok fl =>
        cases fl with
        | ret u => exact I2.after hq
        | next => exact False.elim hq
        | brk => exact False.elim hq
        | cont => exact False.elim hq
end
end Mo
namespace Mo
open PySem L2
section
variable {s : Lo} {h : MH} {x : MV}
def KIC (r : Rz MV) (c : String) (n : Nat) (f : MF) (as : MEs) (s : Lo) : Rz MV := r.bnd fun x h1 => match x with
  | .ref i => (as s h1).bnd fun xs h2 => match h2[i]? with
    | some (.ins c' _) => if c' = c ∧ xs.length + 1 = n then f (x :: xs) h2 else .no
    | _ => .no
  | _ => .no
def KIC2 (r : Rz (List MV)) (c : String) (n : Nat) (f : MF) (i : Nat) : Rz MV := r.bnd fun xs h2 => match h2[i]? with
    | some (.ins c' _) => if c' = c ∧ xs.length + 1 = n then f (.ref i :: xs) h2 else .no
    | _ => .no
@[simp] theorem eICall_ev {c n f a as} : eICall c n f a as s h = KIC (a s h) c n f as s := rfl
@[simp] theorem KIC_ref {c n f as i} : KIC (.ok (.ref i) h) c n f as s = KIC2 (as s h) c n f i := rfl
theorem KIC2_ok {c n f i xs c' fs} (e : h[i]? = some (.ins c' fs)) : KIC2 (.ok xs h) c n f i = if c' = c ∧ xs.length + 1 = n then f (.ref i :: xs) h else .no := by
  simp only [KIC2, Rz.bnd, e]
end
end Mo
/-! Mo22: loops by invariants. -/
namespace Mo
open PySem L2
/-- how a turn may end: the next turn stands at P, the loop ends with R -/
def Turn (P : Lo → MH → Prop) (R : SR → Prop) : SR → Prop
  | .nx s h => P s h
  | .ct s h => P s h
  | .bk s h => R (.nx s h)
  | .no => False
  | r => R r
theorem KFB_turn {P : Lo → MH → Prop} {R R' : SR → Prop} {r : SR} {get : Itm} {g : MG} {b : MS} {n i : Nat} (t : Turn P R r) (hn : ∀ s h, P s h → R' (forG get g b n (i + 1) s h)) (hr : ∀ r, R r → R' r) : R' (KFB r get g b n i) := by
  cases r with
  | nx s h => exact hn s h t
  | ct s h => exact hn s h t
  | bk s h => exact hr _ t
  | rt v h => exact hr _ t
  | err v s h => exact hr _ t
  | no => exact t.elim
theorem forG_KFB {get : Itm} {g : MG} {b : MS} {n i : Nat} {s s1 : Lo} {h : MH} {x : MV} (e : get i h = some (some x)) (eg : g x s = some s1) : forG get g b (n + 1) i s h = KFB (b s1 h) get g b n i := by
  unfold forG KFB
  rw [e]
  all_goals (try dsimp only)
  all_goals (try rw [eg])
  all_goals (try dsimp only)
  all_goals (cases b s1 h <;> rfl)
/-- a loop by its invariant I (turn, slots, heap); R: what holds at the end -/
theorem forG_inv {get : Itm} {g : MG} {b : MS} {N : Nat} (I : Nat → Lo → MH → Prop) (R : SR → Prop)
    (end_ : ∀ s h, I N s h → get N h = some none ∧ R (.nx s h))
    (step : ∀ i s h, i < N → I i s h → ∃ x s1, get i h = some (some x) ∧ g x s = some s1 ∧ Turn (I (i + 1)) R (b s1 h)) :
    ∀ m i s h, i + m = N → I i s h → R (forG get g b (m + 1) i s h) := by
  intro m
  induction m with
  | zero =>
    intro i s h e hI
    have : i = N := by omega
    subst this
    obtain ⟨e1, e2⟩ := end_ s h hI
    unfold forG
    rw [e1]
    exact e2
  | succ m ih =>
    intro i s h e hI
    obtain ⟨x, s1, e1, e2, t⟩ := step i s h (by omega) hI
    rw [forG_KFB e1 e2]
    exact KFB_turn t (fun s h p => ih (i + 1) s h (by omega) p) fun _ z => z
theorem forL_inv {xs : List MV} {g : MG} {b : MS} {s : Lo} {h : MH} (I : Nat → Lo → MH → Prop) (R : SR → Prop) (h0 : I 0 s h)
    (step : ∀ i s h (hi : i < xs.length), I i s h → ∃ s1, g xs[i] s = some s1 ∧ Turn (I (i + 1)) R (b s1 h)) (end_ : ∀ s h, I xs.length s h → R (.nx s h)) :
    R (forG (getL xs) g b (xs.length + 1) 0 s h) := by
  refine forG_inv (N := xs.length) I R (fun s h z => ⟨by simp, end_ s h z⟩) (fun i s h hi z => ?_) xs.length 0 s h (by omega) h0
  obtain ⟨s1, e, t⟩ := step i s h hi z
  exact ⟨xs[i], s1, by simp [hi], e, t⟩
theorem forR_inv {lo : Int} {n : Nat} {g : MG} {b : MS} {s : Lo} {h : MH} (I : Nat → Lo → MH → Prop) (R : SR → Prop) (h0 : I 0 s h)
    (step : ∀ i s h, i < n → I i s h → ∃ s1, g (.int (lo + i)) s = some s1 ∧ Turn (I (i + 1)) R (b s1 h)) (end_ : ∀ s h, I n s h → R (.nx s h)) :
    R (forG (getR lo n) g b (n + 1) 0 s h) := by
  refine forG_inv (N := n) I R (fun s h z => ⟨by simp, end_ s h z⟩) (fun i s h hi z => ?_) n 0 s h (by omega) h0
  obtain ⟨s1, e, t⟩ := step i s h hi z
  exact ⟨_, s1, by simp [hi], e, t⟩
/-- over a list in the heap that stands still -/
theorem forS_inv {v : MV} {xs : List MV} {g : MG} {b : MS} {s : Lo} {h : MH} (I : Nat → Lo → MH → Prop) (R : SR → Prop) (h0 : I 0 s h) (hs : ∀ i s h, I i s h → seqOf h v = some xs)
    (step : ∀ i s h (hi : i < xs.length), I i s h → ∃ s1, g xs[i] s = some s1 ∧ Turn (I (i + 1)) R (b s1 h)) (end_ : ∀ s h, I xs.length s h → R (.nx s h)) :
    R (forG (getSeq v) g b (xs.length + 1) 0 s h) := by
  refine forG_inv (N := xs.length) I R (fun s h z => ⟨by simp [getSeq, hs _ _ _ z], end_ s h z⟩) (fun i s h hi z => ?_) xs.length 0 s h (by omega) h0
  obtain ⟨s1, e, t⟩ := step i s h hi z
  exact ⟨xs[i], s1, by simp [getSeq, hs _ _ _ z, hi], e, t⟩
theorem seqOf_ref {h : MH} {i : Nat} {xs : List MV} (e : h[i]? = some (.lst xs)) : seqOf h (.ref i) = some xs := by simp [seqOf, e]
@[simp] theorem turn_nx {P : Lo → MH → Prop} {R : SR → Prop} {s : Lo} {h : MH} : Turn P R (.nx s h) = P s h := rfl
@[simp] theorem turn_ct {P : Lo → MH → Prop} {R : SR → Prop} {s : Lo} {h : MH} : Turn P R (.ct s h) = P s h := rfl
@[simp] theorem turn_bk {P : Lo → MH → Prop} {R : SR → Prop} {s : Lo} {h : MH} : Turn P R (.bk s h) = R (.nx s h) := rfl
@[simp] theorem turn_rt {P : Lo → MH → Prop} {R : SR → Prop} {v : MV} {h : MH} : Turn P R (.rt v h) = R (.rt v h) := rfl
@[simp] theorem turn_err {P : Lo → MH → Prop} {R : SR → Prop} {v : MX} {s : Lo} {h : MH} : Turn P R (.err v s h) = R (.err v s h) := rfl
/-- a loop that fills the list at h.length -/
theorem acc_loop {α β : Type} {h : MH} {M : β → MV} {E : α → MV} {xs : List α} {get : Itm} {gs : MG} {b : MS} (f : α → List β) (S : Lo → Prop) (g0 : MH) (B : Nat)
    (hget : ∀ i acc g, get i (h ++ .lst acc :: (g0 ++ g)) = some ((xs[i]?).map E)) (hf : ∀ x, (f x).length ≤ 1)
    (step : ∀ x ∈ xs, ∀ s acc g, S s → acc.length ≤ B → ∃ s1 s2 g', gs (E x) s = some s1 ∧ S s2 ∧
      (b s1 (h ++ .lst (acc.map M) :: (g0 ++ g)) = .nx s2 (h ++ .lst ((acc ++ f x).map M) :: (g0 ++ (g ++ g'))) ∨ b s1 (h ++ .lst (acc.map M) :: (g0 ++ g)) = .ct s2 (h ++ .lst ((acc ++ f x).map M) :: (g0 ++ (g ++ g'))))) :
    ∀ s acc g, S s → acc.length + xs.length ≤ B → ∃ s' g', S s' ∧ forG get gs b (xs.length + 1) 0 s (h ++ .lst (acc.map M) :: (g0 ++ g)) = .nx s' (h ++ .lst ((acc ++ xs.flatMap f).map M) :: (g0 ++ (g ++ g'))) := by
  intro s acc g hS hB
  have fl : ∀ l : List α, (l.flatMap f).length ≤ l.length := by
    intro l
    induction l with
    | nil => exact Nat.le_refl _
    | cons a l ih => rw [List.flatMap_cons, List.length_append, List.length_cons]; have := hf a; omega
  refine forG_inv (N := xs.length) (fun i s h' => ∃ g', S s ∧ h' = h ++ .lst ((acc ++ (xs.take i).flatMap f).map M) :: (g0 ++ (g ++ g'))) (fun r => ∃ s' g', S s' ∧ r = .nx s' (h ++ .lst ((acc ++ xs.flatMap f).map M) :: (g0 ++ (g ++ g')))) ?_ ?_ xs.length 0 s (h ++ .lst (acc.map M) :: (g0 ++ g)) (by omega) ⟨[], hS, by simp⟩
  · rintro s h' ⟨g', h1, rfl⟩
    refine ⟨by rw [hget]; simp, s, g', h1, by rw [List.take_length]⟩
  · rintro i s h' hi ⟨g', h1, rfl⟩
    have hb : (acc ++ (xs.take i).flatMap f).length ≤ B := by
      rw [List.length_append]
      have := fl (xs.take i)
      rw [List.length_take] at this
      omega
    obtain ⟨s1, s2, g2, e1, e2, e3⟩ := step xs[i] (List.getElem_mem hi) s _ (g ++ g') h1 hb
    refine ⟨E xs[i], s1, by rw [hget]; simp [hi], e1, ?_⟩
    have he : (acc ++ (xs.take i).flatMap f) ++ f xs[i] = acc ++ (xs.take (i + 1)).flatMap f := by
      rw [List.take_succ_eq_append_getElem hi, List.flatMap_append]
      simp
    rcases e3 with e3 | e3 <;> rw [e3, he] <;> exact ⟨g' ++ g2, e2, by simp⟩
/-! while -/
def KW (r : Rz Bool) (c : MB) (b : MS) (n : Nat) (s : Lo) : SR := r.bnS s fun k h1 => if k = true then (match b s h1 with
      | .nx s2 h2 => whileG c b n s2 h2
      | .ct s2 h2 => whileG c b n s2 h2
      | .bk s2 h2 => .nx s2 h2
      | r => r) else .nx s h1
theorem whileG_inv {c : MB} {b : MS} (I : Nat → Lo → MH → Prop) (R : SR → Prop)
    (step : ∀ n s h, I n s h → (∃ h1, c s h = .ok false h1 ∧ R (.nx s h1)) ∨ (∃ h1, c s h = .ok true h1 ∧ Turn (fun s h => ∃ m, m < n ∧ I m s h) R (b s h1))) :
    ∀ N n s h, n < N → I n s h → R (whileG c b N s h) := by
  intro N
  induction N with
  | zero => intro n s h hn; omega
  | succ N ih =>
    intro n s h hn hI
    unfold whileG
    rcases step n s h hI with ⟨h1, e, r⟩ | ⟨h1, e, t⟩
    · rw [e]; exact r
    · rw [e]
      show R (match b s h1 with
      | .nx s2 h2 => whileG c b N s2 h2
      | .ct s2 h2 => whileG c b N s2 h2
      | .bk s2 h2 => .nx s2 h2
      | r => r)
      cases hb : b s h1 with
      | nx s2 h2 => rw [hb] at t; obtain ⟨m, hm, z⟩ := t; exact ih m s2 h2 (by omega) z
      | ct s2 h2 => rw [hb] at t; obtain ⟨m, hm, z⟩ := t; exact ih m s2 h2 (by omega) z
      | bk s2 h2 => rw [hb] at t; exact t
      | rt v2 h2 => rw [hb] at t; exact t
      | err v2 s2 h2 => rw [hb] at t; exact t
      | no => rw [hb] at t; exact t.elim
end Mo
/-! Mo23: a tuple or a list unpacked into names. -/
namespace Mo
open PySem L2
def unp (v : MV) (h : MH) : Option (List MV) := match asT v with
  | some xs => some xs
  | none => seqOf h v
def sAsgU (e : ME) (is : List Nat) : MS := fun s h => (e s h).bnS s fun v h1 => match (unp v h1).bind fun xs => setAll is xs s with
  | some s1 => .nx s1 h1
  | none => .no
section
variable {X : Cx} {G : String → Option V} {W : WX} {e : Expr} {es : List Expr} {m : ME} {pos pos' : Pos} {k : Nat} {u : TGs} {is : List Nat}
theorem pg_or {tg : Expr} {t t' : TG} (h : PG X tg t) (h' : PG X tg t') : PG X tg fun v σ H Q => t v σ H Q ∨ t' v σ H Q :=
  ⟨fun pins s σ H v w Q I r q => q.elim (fun q => h.run pins s σ H v w Q I r q) fun q => h'.run pins s σ H v w Q I r q⟩
theorem m_asgU (he : PE X e (RE X.K G W m)) (hc : X.calm = true) (hg : PGs X es u) (hgs : GSs X.K G u is)
    (hn : (assignEach es X.env).length = is.length := by rfl) (hst : (assignEach es X.env).findIdx? (·.1) = none := by rfl) (hs : swapsWithSole [.Tuple es k pos'] e pos.line X.env = pure false := by rfl) (hw : swappedStores [.Tuple es k pos'] e X.env = pure none := by rfl)
    (h1 : (assignEach [.Tuple es k pos'] X.env).map (·.2) = [assign (.Tuple es k pos') X.env] := by rfl) : PS X (.Assign [.Tuple es k pos'] e pos) (RS X.K G W (sAsgU m is)) := by
  refine ps_imp (ps_asg he (pg_or (pg_tup hc hg hn hst) (pg_lst hc hg hn hst)) hs hw h1) fun D σ H ⟨ρ, sm, mh, r0, q⟩ => ?_
  refine res_bnd r0 q fun v ρ1 H1 mh1 x x1 r1 rv q1 => ?_
  cases e1 : unp v mh1 with
  | none => rw [e1] at q1; exact False.elim q1
  | some xs =>
    rw [e1] at q1
    cases e2 : setAll is xs sm with
    | none => simp only [Option.bind, e2] at q1; exact False.elim q1
    | some s1 =>
      simp only [Option.bind, e2] at q1
      unfold unp at e1
      split at e1
      · rename_i ys h3
        cases e1
        obtain ⟨a, vs, rfl, h4, h5⟩ := rv.tup h3
        exact .inl ⟨a, vs, rfl, h4, by rw [← h5.length, setAll_len e2], hgs r1.hr r1.sr h5 e2 fun σ1 sr => RSE.nx (σ1 := σ1) q1 r1.hr sr⟩
      · obtain ⟨p, vs, rfl, hq, h5⟩ := seq_V r1.hr e1 rv
        rcases hq with hq | hq
        · exact .inr ⟨p, vs, rfl, hq, by rw [← h5.length, setAll_len e2], hgs r1.hr r1.sr h5 e2 fun σ1 sr => RSE.nx (σ1 := σ1) q1 r1.hr sr⟩
        · exact .inl ⟨p, vs, rfl, hq, by rw [← h5.length, setAll_len e2], hgs r1.hr r1.sr h5 e2 fun σ1 sr => RSE.nx (σ1 := σ1) q1 r1.hr sr⟩
end
section
variable {s s1 : Lo} {h : MH} {v : MV} {x : MX} {is : List Nat}
def KAU (r : Rz MV) (s : Lo) (is : List Nat) : SR := r.bnS s fun v h1 => match (unp v h1).bind fun xs => setAll is xs s with
  | some s1 => .nx s1 h1
  | none => .no
def KAU2 (o : Option Lo) (h : MH) : SR := match o with
  | some s1 => .nx s1 h
  | none => .no
@[simp] theorem sAsgU_ev {a} : sAsgU a is s h = KAU (a s h) s is := rfl
@[simp] theorem KAU_tup {xs} : KAU (.ok (.tup xs) h) s is = KAU2 (setAll is xs s) h := rfl
@[simp] theorem KAU_ktp {xs} : KAU (.ok (.ktp xs) h) s is = KAU2 (setAll is xs s) h := rfl
@[simp] theorem KAU_err : KAU (.err x h) s is = .err x s h := rfl
theorem KAU_ref {i xs} (e : h[i]? = some (.lst xs)) : KAU (.ok (.ref i) h) s is = KAU2 (setAll is xs s) h := by
  simp [KAU, Rz.bnS, unp, asT, seqOf, e, KAU2]
@[simp] theorem KAU2_some : KAU2 (some s1) h = .nx s1 h := rfl
/-! more runs -/
theorem fExtend_ref {i j ys zs} (e1 : h[i]? = some (.lst ys)) (e2 : h[j]? = some (.lst zs)) (hl : ys.length + zs.length ≤ SZ) : fExtend (.ref i) [.ref j] h = some (.non, h.set i (.lst (ys ++ zs))) := by
  simp [fExtend, e1, e2, hl]
end
end Mo
/-! Mo24: comparisons by own methods; classmethods; a class held by a name. -/
namespace Mo
open PySem L2
/-! ### own comparisons -/
section
variable {prog : Program} {w : World} {A : Around} {E : Value → Shared → Prop} {s : Shared} {K : PySem.W.Frag} {x C f : Addr} {ox : Obj} {od : Option Obj} {b tb : Value}
theorem ne_entry {Q : Fin → Shared → Prop} (hu : A.units < cLine) (X : K.In s.heap) (I : PySem.W.InstAt s.heap x ox C od) (he : PySem.W.findIn K (.ref C) "__eq__" = some (some (.ref f))) (hf : PySem.W.isFn K (.ref f) = true)
    (h : PySem.wpAny (model prog w) A (PySem.call (.ref f) [.ref x, b]) (fun v s' => ∃ k, v = .bool k ∧ Q (.done (.ret (.bool (!k)))) s') E s) : PySem.wpAny (model prog w) A (Builtin.«object.__ne__» ⟨[.ref x, b], []⟩) Q E s := by
  unfold Builtin.«object.__ne__»
  repeat (first
    | with_reducible refine wpAny_cRoomFor hu ?_
    | (refine wpAny_bind (m := callSpecialIfBound? (.ref x) (Str.ofString "__eq__") [b])
        (PySem.W.ifBound_K X I he hf (wpAny_mono h (fun r s' hr => by
          obtain ⟨k, rfl, hq⟩ := hr
          repeat (first | exact hq | exact wpAny_pure hq | exact wpAny_truthy_bool hq | (refine wpAny_bind (m := truthy (.bool _)) (wpAny_truthy_bool ?_)) | wp_step)) fun _ _ e => e)))
    | wp_step)
theorem ifBound_objNe {M : Model} {args : List Value} {Q : Option Value → Shared → Prop} (X : K.In s.heap) (I : PySem.W.InstAt s.heap x ox C od) (hs : PySem.W.findIn K (.ref C) "__ne__" = some (some (.builtin "object.__ne__")))
    (h : PySem.wpAny M A (PySem.call (.builtin "object.__ne__") (.ref x :: args)) (fun v => Q (some v)) E s) : PySem.wpAny M A (callSpecialIfBound? (.ref x) "__ne__" args) Q E s := by
  simp only [callSpecialIfBound?, bindSpecialIfBound?]
  refine wpAny_holding (wpAny_bind (wpAny_bind (wpAny_bind (I.type.here ((PySem.W.looks_findIn X hs).here ?_)))))
  refine wpAny_bind (wpAny_askSetting (wpAny_ite ?_))
  have fin : PySem.wpAny M A (PySem.call (.builtin "object.__ne__") ([.ref x] ++ args) >>= fun v => pure (some v)) Q E s := wpAny_bind (wpAny_mono h (fun v s' h' => wpAny_pure h') fun _ _ h' => h')
  split
  · exact wpAny_bind (wpAny_of_eq (F.cmp_object.ne.bind _) (wpAny_pure (by exact fin)))
  · exact wpAny_tryCatch (wpAny_bind (wpAny_of_eq (F.cmp_object.ne.bind _) (wpAny_pure (by exact fin))))
theorem ne_K {Q : Value → Shared → Prop} (hu : A.units + 1 < cLine) (X : K.In s.heap) (I : PySem.W.InstAt s.heap x ox C od) (hb : PySem.W.Looks (model prog w) s.heap (typeOf b) tb) (hn : PySem.W.notFirst K C tb = true) (hm : PySem.W.mroIn K C (.type "object") = some true)
    (hs : PySem.W.findIn K (.ref C) "__ne__" = some (some (.builtin "object.__ne__"))) (he : PySem.W.findIn K (.ref C) "__eq__" = some (some (.ref f))) (hf : PySem.W.isFn K (.ref f) = true)
    (h : PySem.wpAny (model prog w) A.in1 (PySem.call (.ref f) [.ref x, b]) (fun v s' => ∃ k, v = .bool k ∧ Q (.bool (!k)) s') E s) : PySem.wpAny (model prog w) A (richCompare .NotEq (.ref x) b) Q E s := by
  have one : PySem.wpAny (model prog w) A (tryCompare (.ref x) "__ne__" b) (fun r s' => ∃ v, r = some v ∧ Q v s') E s := by
    unfold tryCompare
    refine wpAny_bind (ifBound_objNe X I hs (wpAny_call (codeAny_call_builtin F.cmp_object.ne.plain F.cmpEntry_ne (PySem.W.check_slot F.cmpKind_ne F.cmpSplit_ne (I.type.andThen (PySem.W.looks_mroIn X hm)) (F.cmpArgs_ne _ _)
      (ne_entry (A := A.in1) hu X I he hf (wpAny_mono h (fun v s' hv => ?_) fun _ _ e => e))))))
    obtain ⟨k, rfl, hq⟩ := hv
    exact ⟨k, rfl, wpAny_pure ⟨_, rfl, hq⟩⟩
  unfold richCompare
  simp only [oneThing_ref]
  refine wpAny_holding (wpAny_bind (wpAny_cRoomFor (Nat.lt_of_succ_lt hu) ?_))
  refine wpAny_bind (I.type.here (wpAny_bind (hb.here ?_)))
  split
  · rename_i q
    have e : PySem.W.subIn K tb (.ref C) = some false := by
      rcases Bool.or_eq_true_iff.mp hn with e | e
      · rw [beq_iff_eq.mp e] at q; simp at q
      · exact beq_iff_eq.mp e
    refine wpAny_bind ((PySem.W.looks_subIn X e).here ?_)
    simp only [Bool.false_eq_true, if_false]
    refine wpAny_bind (wpAny_mono one (fun r s' z => ?_) fun _ _ e => e)
    obtain ⟨v, rfl, hq⟩ := z
    exact wpAny_pure hq
  · refine wpAny_bind (wpAny_pure ?_)
    simp only [Bool.false_eq_true, if_false]
    refine wpAny_bind (wpAny_mono one (fun r s' z => ?_) fun _ _ e => e)
    obtain ⟨v, rfl, hq⟩ := z
    exact wpAny_pure hq
end
end Mo
namespace Mo
open PySem L2
/-- a def that compares two instances of the class p.1 -/
structure OwnM (P : Program) (w : World) (K : PySem.W.Frag) (mg : Str → Option Value) (base : Heap) (G : String → Option V) (k : Nat) (name : Str) (p : String × MF) : Prop where
  ex : ∃ C fa fd ps, G p.1 = some (.ref C) ∧ Meth K C name fa ∧ FnOk P w K mg base (L2.CX P w) k fa fd ps (SpM K G ps.length p.2) ∧ Binds K fd ps [] ∧ ps.length = 2
/-- what != asks besides -/
structure NeC (K : PySem.W.Frag) (G : String → Option V) (c : String) : Prop where
  ex : ∃ C, G c = some (.ref C) ∧ PySem.W.mroIn K C (.type "object") = some true ∧ PySem.W.findIn K (.ref C) "__ne__" = some (some (.builtin "object.__ne__"))
def insC (h : MH) : MV → Option String
  | .ref i => match h[i]? with
    | some (.ins c _) => some c
    | _ => none
  | _ => none
def okOf (r : MR) (neg : Bool) : MR := match r with
  | .ok v h3 => if neg = true then (match v with
    | .bl k => .ok (.bl (!k)) h3
    | _ => .no) else .ok v h3
  | _ => .no
def ownRun (tab : List (String × MF)) (neg : Bool) (x y : MV) (h : MH) : MR := match insC h x, insC h y with
  | some c, some c' => if c = c' then match tab.lookup c with
    | some g => okOf (g [x, y] h) neg
    | none => .no
    else .no
  | _, _ => .no
def eOwn (tab : List (String × MF)) (neg : Bool) (a b : ME) : ME := fun s h => (a s h).bnd fun x h1 => (b s h1).bnd fun y h2 => ownRun tab neg x y h2
section
variable {X : Cx} {G : String → Option V} {W : WX} {a b : Expr} {ma mb : ME} {pos : Pos} {k : Nat} {tab : List (String × MF)} {op : CmpOp}
def rOwnM (K : PySem.W.Frag) (G : String → Option V) (tab : List (String × MF)) (neg : Bool) : R2 := fun x y H Q => ∃ a b p C dx dy fs gs, x = .ref a ∧ y = .ref b ∧ p ∈ tab ∧ G p.1 = some (.ref C) ∧ H a = some (.ins C dx fs) ∧ H b = some (.ins C dy gs) ∧
  SpM K G 2 p.2 [x, y] H (fun v H' => if neg = true then ∃ k, v = .bl k ∧ Q (.bl (!k)) H' else Q v H') (fun _ _ _ => False)
theorem op_ownM (hop : ∀ a b, compareOp op a b = richCompare op a b) (T : ∀ p ∈ tab, OwnM X.prog X.w X.K X.mg X.base G k (cmpInfo op).2.1 p) (hr : Room k X.A) : OpR X (compareOp op) (rOwnM X.K G tab false) := by
  intro pins s σ H x y v u Q I rx ry h
  rw [hop]
  obtain ⟨a, b, p, C, dx, dy, fs, gs, rfl, rfl, hp, hG, ha, hb, q⟩ := h
  obtain ⟨C', fa, fd, ps, g1, M, F, B, hl⟩ := (T p hp).ex
  rw [hG] at g1
  cases g1
  cases rx
  cases ry
  obtain ⟨mA, J, _⟩ := ins_get I.hok ha
  obtain ⟨mB, J', _⟩ := ins_get I.hok hb
  obtain ⟨od, J, _⟩ := J.look
  obtain ⟨od', J', _⟩ := J'.look
  obtain ⟨m, hF⟩ := I.fr
  refine PySem.W.cmp_K (op := op) (tb := .ref C) hr.units0 hF I.ok.mod.kin J J'.type (by simp [PySem.W.notFirst]) M.at_ M.fn ?_
  have r2 : Vals [V.ref a, V.ref b] [Value.ref a, Value.ref b] := .cons rfl (.cons rfl .nil)
  have q2 : SpM X.K G ps.length p.2 [V.ref a, V.ref b] H Q (fun _ _ _ => False) := by rw [hl]; exact q
  refine wpAny_call (codeAny_mono (F.run X.A X.stack s H ⟨[.ref a, .ref b], []⟩ [.ref a, .ref b] [.ref a, .ref b] Q _ hr I.env0 (by
    have := B s [.ref a, .ref b] I.kIn (by simp [hl])
    simpa using this) r2 q2) fun r s' hq => ?_)
  cases r with
  | error e =>
    obtain ⟨_, _, _, _, _, _, _, _, _, _, _, _, f⟩ := hq
    exact f.elim
  | ok fl =>
    cases fl with
    | ret w =>
      obtain ⟨z, H', I', rz, ez⟩ := I.after hq
      exact SlX.cmpback (P := EP X pins σ Q) rz ⟨z, H', I', rz, ez⟩
    | next => exact False.elim hq
    | brk => exact False.elim hq
    | cont => exact False.elim hq
theorem op_ownN (T : ∀ p ∈ tab, OwnM X.prog X.w X.K X.mg X.base G k "__eq__" p ∧ NeC X.K G p.1) (hr : Room (k + 1) X.A) : OpR X (compareOp .NotEq) (rOwnM X.K G tab true) := by
  intro pins s σ H x y v u Q I rx ry h
  show PySem.wpAny _ _ (richCompare .NotEq v u) _ _ _
  obtain ⟨a, b, p, C, dx, dy, fs, gs, rfl, rfl, hp, hG, ha, hb, q⟩ := h
  obtain ⟨⟨C', fa, fd, ps, g1, M, F, B, hl⟩⟩ := (T p hp).1
  obtain ⟨⟨C2, g2, mr, ne⟩⟩ := (T p hp).2
  rw [hG] at g1 g2
  cases g1
  cases g2
  cases rx
  cases ry
  obtain ⟨mA, J, _⟩ := ins_get I.hok ha
  obtain ⟨mB, J', _⟩ := ins_get I.hok hb
  obtain ⟨od, J, _⟩ := J.look
  obtain ⟨od', J', _⟩ := J'.look
  refine ne_K (tb := .ref C) (by have := hr.units; omega) I.kIn J J'.type (by simp [PySem.W.notFirst]) mr ne M.at_ M.fn ?_
  have r2 : Vals [V.ref a, V.ref b] [Value.ref a, Value.ref b] := .cons rfl (.cons rfl .nil)
  have q2 : SpM X.K G ps.length p.2 [V.ref a, V.ref b] H (fun v H' => ∃ k, v = .bl k ∧ Q (.bl (!k)) H') (fun _ _ _ => False) := by
    rw [hl]
    simpa using q
  have e0 : Env0 X.prog X.w X.K X.mg X.base X.A.in1 X.stack s H := by
    have e := I.env0
    exact ⟨e.frames, e.mod, e.bs, e.bsz, e.funs, e.frf, e.hok, e.bare⟩
  refine wpAny_call (codeAny_mono (F.run X.A.in1 X.stack s H ⟨[.ref a, .ref b], []⟩ [.ref a, .ref b] [.ref a, .ref b] _ _ hr.in1 e0 (by
    have := B s [.ref a, .ref b] I.kIn (by simp [hl])
    simpa using this) r2 q2) fun r s' hq => ?_)
  cases r with
  | error e =>
    obtain ⟨_, _, _, _, _, _, _, _, _, _, _, _, f⟩ := hq
    exact f.elim
  | ok fl =>
    cases fl with
    | ret w =>
      obtain ⟨z, H', I', rz, kk, ez, ez2⟩ := I.after hq
      subst ez
      cases rz
      exact ⟨kk, rfl, .bl (!kk), H', I', rfl, ez2⟩
    | next => exact False.elim hq
    | brk => exact False.elim hq
    | cont => exact False.elim hq
theorem own_re {neg : Bool} (hT : ∀ p ∈ tab, ∃ C, G p.1 = some (.ref C)) (σ : St) (H : Hp) (Q : VK) (h : RE X.K G W (eOwn tab neg ma mb) σ H Q) : tOp (rOwnM X.K G tab neg) (RE X.K G W ma) (RE X.K G W mb) σ H Q := by
  obtain ⟨ρ, sm, mh, r0, q⟩ := h
  refine re_bnd r0 q fun x ρ1 H1 mh1 v x1 r1 rv q1 => ?_
  refine re_bnd r1 q1 fun y ρ2 H2 mh2 w x2 r2 rw' q2 => ?_
  have rv2 := rv.ext x2
  unfold ownRun at q2
  split at q2
  · rename_i c c' h1 h2
    split at q2
    · rename_i hc
      subst hc
      split at q2
      · rename_i g hg
        have hm := lookup_mem hg
        obtain ⟨C, hC⟩ := hT _ hm
        have ins : ∀ {z : MV} {vz : V}, insC mh2 z = some c → VR X.K G ρ2 H2 z vz → ∃ a dx fs, vz = .ref a ∧ H2 a = some (.ins C dx fs) := by
          intro z vz hz rz
          unfold insC at hz
          split at hz
          · split at hz
            · rename_i i _ _ e
              cases hz
              obtain ⟨a, C', dx, us, rfl, ha, g1, g2, g3⟩ := r2.hr.ins e rz
              rw [hC] at g1
              cases g1
              exact ⟨a, dx, us, rfl, g2⟩
            · cases hz
          · cases hz
        obtain ⟨a, dx, fs, rfl, ha⟩ := ins h1 rv2
        obtain ⟨b, dy, gs, rfl, hb⟩ := ins h2 rw'
        refine ⟨a, b, (c, g), C, dx, dy, fs, gs, rfl, rfl, hm, hC, ha, hb, ρ2, [x, y], mh2, r2.hr, VRs.cons rv2 (VRs.cons rw' VRs.nil), rfl, ?_⟩
        unfold okOf at q2
        cases hq : g [x, y] mh2 with
        | ok v3 h3 =>
          rw [hq] at q2
          dsimp only at q2
          show RO X.K G _ [] _ ρ2 H2 (g [x, y] mh2)
          rw [hq]
          intro ρ3 H3 x3 hr3 v1 rv1
          cases neg with
          | false =>
            simp only [Bool.false_eq_true, if_false] at q2 ⊢
            exact q2 ρ3 H3 x3 hr3 v1 rv1
          | true =>
            simp only [if_true] at q2 ⊢
            cases v3 with
            | bl k =>
              simp only [VR] at rv1
              subst rv1
              exact ⟨k, rfl, q2 ρ3 H3 x3 hr3 _ (by simp [VR])⟩
            | _ => exact q2.elim
        | err e h3 => rw [hq] at q2; exact q2.elim
        | no => rw [hq] at q2; exact q2.elim
      · exact q2.elim
    · exact q2.elim
  · exact q2.elim
theorem m_own (hop : ∀ a b, compareOp op a b = richCompare op a b) (T : ∀ p ∈ tab, OwnM X.prog X.w X.K X.mg X.base G k (cmpInfo op).2.1 p) (hr : Room k X.A) (ha : PE X a (RE X.K G W ma)) (hb : PE X b (RE X.K G W mb)) (hm : behindInMarks op b = false) :
    PE X (.Compare a [op] [b] pos) (RE X.K G W (eOwn tab false ma mb)) :=
  pe_imp (pe_cmpR (op_ownM hop T hr) ha hb hm) (own_re fun p hp => let ⟨⟨C, _, _, _, e, _⟩⟩ := T p hp; ⟨C, e⟩)
theorem m_ownN (T : ∀ p ∈ tab, OwnM X.prog X.w X.K X.mg X.base G k "__eq__" p ∧ NeC X.K G p.1) (hr : Room (k + 1) X.A) (ha : PE X a (RE X.K G W ma)) (hb : PE X b (RE X.K G W mb)) (hm : behindInMarks .NotEq b = false) :
    PE X (.Compare a [.NotEq] [b] pos) (RE X.K G W (eOwn tab true ma mb)) :=
  pe_imp (pe_cmpR (op_ownN T hr) ha hb hm) (own_re fun p hp => let ⟨⟨C, _, _, _, e, _⟩⟩ := (T p hp).1; ⟨C, e⟩)
theorem tTest_imp {t t' : TE} (i : ∀ σ H Q, t' σ H Q → t σ H Q) (σ : St) (H : Hp) (Q : Bool → Hp → Prop) (h : tTest t' σ H Q) : tTest t σ H Q := i _ _ _ h
theorem m_ownT (hop : ∀ a b, compareOp op a b = richCompare op a b) (T : ∀ p ∈ tab, OwnM X.prog X.w X.K X.mg X.base G k (cmpInfo op).2.1 p) (hr : Room k X.A) (ha : PE X a (RE X.K G W ma)) (hb : PE X b (RE X.K G W mb)) (hm : behindInMarks op b = false) :
    PT X (.Compare a [op] [b] pos) (RT X.K G W (bB (eOwn tab false ma mb))) :=
  pt_imp (pt_cmpR (op_ownM hop T hr) ha hb hm) fun σ H Q h => own_re (fun p hp => let ⟨⟨C, _, _, _, e, _⟩⟩ := T p hp; ⟨C, e⟩) σ H _ (bB_re σ H Q h)
theorem m_ownNT (T : ∀ p ∈ tab, OwnM X.prog X.w X.K X.mg X.base G k "__eq__" p ∧ NeC X.K G p.1) (hr : Room (k + 1) X.A) (ha : PE X a (RE X.K G W ma)) (hb : PE X b (RE X.K G W mb)) (hm : behindInMarks .NotEq b = false) :
    PT X (.Compare a [.NotEq] [b] pos) (RT X.K G W (bB (eOwn tab true ma mb))) :=
  pt_imp (pt_cmpR (op_ownN T hr) ha hb hm) fun σ H Q h => own_re (fun p hp => let ⟨⟨C, _, _, _, e, _⟩⟩ := (T p hp).1; ⟨C, e⟩) σ H _ (bB_re σ H Q h)
end
section
variable {s : Lo} {h : MH} {x y : MV} {e : MX} {tab : List (String × MF)} {neg : Bool}
def KO1 (r : MR) (tab : List (String × MF)) (neg : Bool) (b : ME) (s : Lo) : MR := r.bnd fun x h1 => (b s h1).bnd fun y h2 => ownRun tab neg x y h2
def KO2 (r : MR) (tab : List (String × MF)) (neg : Bool) (x : MV) : MR := r.bnd fun y h2 => ownRun tab neg x y h2
@[simp] theorem eOwn_ev {a b} : eOwn tab neg a b s h = KO1 (a s h) tab neg b s := rfl
@[simp] theorem KO1_ok {b} : KO1 (.ok x h) tab neg b s = KO2 (b s h) tab neg x := rfl
@[simp] theorem KO2_ok : KO2 (.ok y h) tab neg x = ownRun tab neg x y h := rfl
theorem ownRun_ev {i j : Nat} {c : String} {fs gs : List (Str × MV)} {g : MF} (hi : h[i]? = some (.ins c fs)) (hj : h[j]? = some (.ins c gs)) (hg : tab.lookup c = some g) : ownRun tab neg (.ref i) (.ref j) h = okOf (g [.ref i, .ref j] h) neg := by
  simp [ownRun, insC, hi, hj, hg]
@[simp] theorem okOf_f {v : MV} : okOf (.ok v h) false = .ok v h := rfl
@[simp] theorem okOf_t {b : Bool} : okOf (.ok (.bl b) h) true = .ok (.bl (!b)) h := rfl
end
end Mo
namespace Mo
open PySem L2
/-! ### C.m(..), a classmethod; a class held by a name -/
theorem cread_of {K : PySem.W.Frag} {C : Addr} (hh : PySem.W.readsIn K C (.type "type") = true) : ClX.CRead K C (.type "type") := by
  refine ⟨hh, ?_⟩
  have h := hh
  unfold PySem.W.readsIn at h
  obtain ⟨h, _⟩ := He.ba h
  obtain ⟨h, _⟩ := He.ba h
  obtain ⟨h, h3⟩ := He.ba h
  obtain ⟨_, h2⟩ := He.ba h
  unfold PySem.W.specialIn
  rw [beq_iff_eq.mp h2, Option.bind_some]
  exact beq_iff_eq.mp h3
def okR (r : MR) : MR := match r with
  | .ok v h => .ok v h
  | _ => .no
def eCMeth (c : String) (n : Nat) (f : MF) (ms : MEs) : ME := fun s h => (ms s h).bnd fun xs h1 => if xs.length + 1 = n then okR (f (.glo c :: xs) h1) else .no
def eMkL (i : Nat) (c : String) (n l N : Nat) (f : MF) (g : List MV → List MV → List MV) (ms mk : MEs) : ME := fun s h => match s[i]? with
  | some (some (.glo d)) => if d = c then eMk c n l N f g ms mk s h else .no
  | _ => .no
section
variable {X : Cx} {G : String → Option V} {W : WX} {o e : Expr} {es : List Expr} {ms : MEs} {x m : Str} {p q pos apos : Pos} {k n i : Nat} {a1 fa C : Addr} {fd : FuncData} {ps : List Str} {f : MF} {c : String} {mc : Value} {g : List Value → List Value → List Value} {gM : List MV → List MV → List MV} {gV : List V → List V → List V}
theorem okR_ro {P : MV → List Addr → Hp → Prop} {W' : WX} {σ : St} {ρ : List Addr} {H : Hp} {r : MR} (h : RO X.K G W σ P ρ H (okR r)) : RO X.K G W' [] P ρ H r := by
  cases r with
  | ok v m => exact h
  | err e m => exact h.elim
  | no => exact h
theorem m_cmeth {pl : Sem Bool} (hG : G c = some (.ref C)) (r : ClX.CRead X.K C mc) (cm : ClX.CMet X.K C mc m a1 fa) (F : FnOk X.prog X.w X.K X.mg X.base (L2.CX X.prog X.w) k fa fd ps (SpM X.K G ps.length f)) (hr : Room k X.A) (hb : Binds X.K fd ps []) (ho : PE X o (tC (.ref C))) (ha : PA X (e :: es) (RA X.K G W ms))
    (hst : starEach (e :: es) X.env = (false, eval e X.env) :: starEach es X.env := by rfl) (hpl : (backTo pos (starEach es X.env)).any (·.1) = false := by rfl)
    (ht : eval (.Call (.Attribute o m apos) (e :: es) [] pos) X.env = (do
      let ov ← eval o X.env
      standAt apos.atName
      let (f, first) ← holding [ov] (getMethod ov m pl)
      callWith pos f first (backTo pos (starEach (e :: es) X.env)) (backToKw pos (keywordEach [] X.env))) := by rfl) :
    PE X (.Call (.Attribute o m apos) (e :: es) [] pos) (RE X.K G W (eCMeth c ps.length f ms)) := by
  refine pe_imp (ClX.pe_cmeth (pl := pl) (E := fun _ _ _ => False) ho r cm (F.raw hb .nil) hr (fun pins σ H s e s' I hq => by
    obtain ⟨_, _, _, _, _, _, _, _, _, _, _, _, f⟩ := hq
    exact f.elim) ha hst hpl ht) fun σ H Q ⟨ρ, sm, mh, r0, q⟩ => ?_
  refine ⟨rfl, ra_bnd r0 q fun xs ρ2 H2 mh2 vs x2 r2 rvs q2 => ?_⟩
  split at q2
  · rename_i hl
    have rel : VRs X.K G ρ2 H2 (.glo c :: xs) (.ref C :: vs) := VRs.cons (by simp only [VR]; exact ⟨hG, C, rfl⟩) rvs
    rw [List.append_nil]
    exact ⟨_, _, _, r2.hr, rel, by rw [← rel.length]; exact hl, okR_ro q2⟩
  · exact q2.elim
theorem m_makeL (hG : G c = some (.ref C)) (hgr : GR X.K G gM gV) (M : Mk X.K C fa) (F : FnOk X.prog X.w X.K X.mg X.base (L2.CX X.prog X.w) k fa fd ps (SpM X.K G ps.length f)) (hr : Room (k + 1) X.A) (hb : KBn X.K fd ps (n + 1) [] g gV) (tk : Takes X W) (ho : PE X (.Name x p) (tVar i))
    (ha : PA X (e :: es) (RA X.K G W ms)) (he : starEach (e :: es) X.env = (false, eval e X.env) :: starEach es X.env := by rfl) (hpl : (backTo pos (starEach es X.env)).any (·.1) = false := by rfl) :
    PE X (.Call (.Name x p) (e :: es) [] pos) (RE X.K G W (eMkL i c n 0 ps.length f gM ms aNil)) := by
  refine ⟨fun pins s σ H Q I ⟨ρ, sm, mh, r0, q⟩ => ?_⟩
  unfold eMkL at q
  cases e1 : sm[i]? with
  | none => rw [e1] at q; exact q.elim
  | some oo =>
    cases oo with
    | none => rw [e1] at q; exact q.elim
    | some v =>
      rw [e1] at q
      cases v with
      | glo d =>
        dsimp only at q
        split at q
        · rename_i hd
          subst hd
          obtain ⟨w, h1, h2⟩ := r0.sr.2 i _ e1
          simp only [VR] at h2
          have hw := h2.1
          rw [hG] at hw
          cases hw
          refine wpAny_Call_Name_kw (thn (ho.run pins s σ H (fun v H1 => v = .ref C ∧ H1 = H) I ⟨.ref C, h1, rfl, rfl⟩) fun u s1 ⟨v, H1, I1, ru, ev, eH⟩ => ?_)
          subst ev eH
          obtain rfl : u = Value.ref C := ru
          have h := make_re (σ := σ) (Q := Q) hG hgr ⟨ρ, sm, mh, r0, q⟩
          obtain ⟨ρ', sm', mh', r0', q'⟩ := h
          have h' : tMakeS C n 0 (SpM X.K G ps.length f) gV W (RA X.K G W ms) tNil σ H1 Q := ⟨ρ', sm', mh', r0', q'.mono Ext.refl fun v ρ H z vs rv => ra_nil (z vs rv)⟩
          refine PySem.W.callWith_K (h₀ := X.base) I1.ok.mod.kin M.kp (thn (ha.run pos pins s1 σ H1 _ I1 h') fun us s2 ⟨vs, H2, I2, r, q2⟩ => ⟨I2.kIn, ?_⟩) he hpl
          exact run_makeS (ks := []) (us := us) (ws := []) (vs := vs) (zs := []) M F hr hb (passAt tk σ) I2 r .nil q2.1 rfl q2.2.2
        · exact q.elim
      | _ => exact q.elim
end
section
variable {s : Lo} {h : MH}
def KCM (r : Rz (List MV)) (c : String) (n : Nat) (f : MF) : MR := r.bnd fun xs h1 => if xs.length + 1 = n then okR (f (.glo c :: xs) h1) else .no
@[simp] theorem eCMeth_ev {c n f ms} : eCMeth c n f ms s h = KCM (ms s h) c n f := rfl
@[simp] theorem KCM_ok {xs c n f} : KCM (.ok xs h) c n f = if xs.length + 1 = n then okR (f (.glo c :: xs) h) else .no := rfl
@[simp] theorem okR_ok {v : MV} : okR (.ok v h) = .ok v h := rfl
def KML (o : Option (Option MV)) (c : String) (n l N : Nat) (f : MF) (g : List MV → List MV → List MV) (ms mk : MEs) (s : Lo) (h : MH) : MR := match o with
  | some (some (.glo d)) => if d = c then eMk c n l N f g ms mk s h else .no
  | _ => .no
@[simp] theorem eMkL_ev {i c n l N f g ms mk} : eMkL i c n l N f g ms mk s h = KML s[i]? c n l N f g ms mk s h := rfl
@[simp] theorem KML_glo {c d n l N f g ms mk} : KML (some (some (.glo d))) c n l N f g ms mk s h = if d = c then eMk c n l N f g ms mk s h else .no := rfl
end
end Mo
namespace Mo
open PySem L2
/-! at written places of the heap -/
section
variable {h : MH} {i j : Nat} {f : Str} {cs : List String} {tab : List (String × MF)} {neg : Bool}
def KFA (o : Option MO) (f : Str) (cs : List String) (h : MH) : OV := match o with
  | some (.ins c fs) => if c ∈ cs then KX (fs.lookup f) h else none
  | _ => none
theorem fFld_at : fFld f cs (.ref i) h = KFA h[i]? f cs h := by
  unfold fFld KFA
  dsimp only
  cases h[i]? with
  | none => rfl
  | some o => cases o <;> simp [KX]
@[simp] theorem KFA_ins {c fs} : KFA (some (.ins c fs)) f cs h = if c ∈ cs then KX (fs.lookup f) h else none := rfl
def KOw (o o' : Option MO) (tab : List (String × MF)) (neg : Bool) (i j : Nat) (h : MH) : MR := match o, o' with
  | some (.ins c _), some (.ins c' _) => if c = c' then match tab.lookup c with
    | some g => okOf (g [.ref i, .ref j] h) neg
    | none => .no
    else .no
  | _, _ => .no
def KOx (o : Option MF) (neg : Bool) (i j : Nat) (h : MH) : MR := match o with
  | some g => okOf (g [.ref i, .ref j] h) neg
  | none => .no
theorem ownRun_at : ownRun tab neg (.ref i) (.ref j) h = KOw h[i]? h[j]? tab neg i j h := by
  unfold ownRun KOw insC
  dsimp only
  cases h[i]? with
  | none => rfl
  | some o =>
    cases h[j]? with
    | none => cases o <;> rfl
    | some o' => cases o <;> cases o' <;> rfl
@[simp] theorem KOw_ins {c c' fs gs} : KOw (some (.ins c fs)) (some (.ins c' gs)) tab neg i j h = if c = c' then KOx (tab.lookup c) neg i j h else .no := rfl
@[simp] theorem KOx_some {g} : KOx (some g) neg i j h = okOf (g [.ref i, .ref j] h) neg := rfl
end
end Mo
/-! Mo25: tuple.index. -/
namespace Mo
open PySem L2
def isKT (x : MV) (_ : MH) : Bool := match x with
  | .ktp _ => true
  | _ => false
def fTupIx (x : MV) (xs : List MV) (h : MH) : OV := match x, xs with
  | .ktp ys, [.str z] => match strsM ys with
    | some ss => (ss.findIdx? fun y => y == z).map fun j => (.int j, h)
    | none => none
  | _, _ => none
section
variable {K : PySem.W.Frag} {G : String → Option V}
theorem t_ktup : TyS K G "tuple" isKT := by
  intro ρ H mh x v hr rv h
  unfold isKT at h
  split at h
  · simp only [VR] at rv
    obtain ⟨a, vs, rfl, h1, _⟩ := rv
    exact .inr (.inl ⟨rfl, h1.2⟩)
  · cases h
theorem s_tup_index : MtS K G (fun x xs H Q => ∃ p, ∃ ys : List Str, ∃ z j, x = .ref p ∧ xs = [.str z] ∧ SqT K H p (ys.map V.str) ∧ ys[j]? = some z ∧ (∀ m, m < j → ys[m]? ≠ some z) ∧ Q (.int (j : Nat)) H) fTupIx := by
  intro ρ H mh mh1 x z xs v vs Q hr rv rvs e k
  unfold fTupIx at e
  split at e
  · rename_i ys z0
    split at e
    · rename_i ss hs
      cases hj : ss.findIdx? (fun y => y == z0) with
      | none => rw [hj] at e; cases e
      | some j =>
        rw [hj] at e
        cases e
        obtain ⟨w, rfl, rw'⟩ := rvs.one
        simp only [VR] at rw' rv
        subst rw'
        obtain ⟨a, us, rfl, h1, h2⟩ := rv
        have hu := strs_V hs h2
        subst hu
        obtain ⟨hl, e1, e2⟩ := List.findIdx?_eq_some_iff_getElem.mp hj
        refine ⟨a, ss, z0, j, rfl, rfl, h1.sq, ?_, fun m hm => ?_, k _ _ Ext.refl hr _ (by simp [VR])⟩
        · rw [List.getElem?_eq_getElem hl]
          simp at e1
          rw [e1]
        · have hm' : m < ss.length := by omega
          rw [List.getElem?_eq_getElem hm']
          intro q
          have := e2 m hm
          simp at this
          exact this (Option.some.inj q)
    · cases e
  · cases e
end
@[simp] theorem isKT_ktp {xs : List MV} {h : MH} : isKT (.ktp xs) h = true := rfl
end Mo
/-! Mo26: an own exception whose __init__ calls super().__init__ with a written text and stores its arguments. -/
namespace Mo
open PySem L2
abbrev KSE := PySem.W.ksEnv
/-- the context of such a body -/
def cxS (P : Program) (w : World) (K : PySem.W.Frag) (mg : Str → Option Value) (base : Heap) (N : List Str) (qual : Str) (scope : Scope) (f : Addr) (cd : Value) (cc : Addr) (A : Around) (outer : List Env) (s : Shared) (H : Hp) (E : XK) : Cx :=
  { cxOf (L2.CX P w) P w K mg base N qual scope f cd A outer s H E with
    A := A.deeper (KSE qual scope s.heap.objs.size f cd cc)
    env := KSE qual scope s.heap.objs.size f cd cc
    stack := KSE qual scope s.heap.objs.size f cd cc :: outer
    fn := fun y => !(y == ("__class__" : Str))
    xe := fun e s' => PySem.wpAny (model P w) (A.deeper (KSE qual scope s.heap.objs.size f cd cc)) (leaving (KSE qual scope s.heap.objs.size f cd cc) e) (fun _ s'' => L2.CX P w outer H s E e s'') (fun e' s'' => L2.CX P w outer H s E e' s'') s' }
structure SupScope (N ps : List Str) (sc : Scope) : Prop where
  kind : sc.kind = .function
  co : sc.isCoroutine = false
  gen : sc.isGenerator = false
  nd : N.Nodup
  pre : N.take ps.length = ps
  par : ∀ x ∈ ps, sc.names.lookup x = some .local
  nocell : ∀ y ∈ sc.names, y.2 ≠ .cell
  free : ∀ y ∈ sc.names, y.2 = .free → y.1 = "__class__"
theorem lookup_rev {ps : List Str} {us : List Value} (nd : ps.Nodup) {i : Nat} {y : Str} {u : Value} (h1 : ps[i]? = some y) (h2 : us[i]? = some u) : (ps.zip us).reverse.lookup y = some u := by
  have key : ∀ (l : List (Str × Value)), (l.map (·.1)).Nodup → (y, u) ∈ l → l.lookup y = some u := by
    intro l
    induction l with
    | nil => intro _ h; cases h
    | cons p l ih =>
      intro hn hm
      obtain ⟨z, v⟩ := p
      simp only [List.map_cons, List.nodup_cons] at hn
      rcases List.mem_cons.mp hm with e | hm2
      · cases e; simp [List.lookup]
      · have hne : (y == z) = false := by
          rw [beq_eq_false_iff_ne]
          intro e
          subst e
          exact hn.1 (List.mem_map.mpr ⟨(_, u), hm2, rfl⟩)
        simp only [List.lookup, hne]
        exact ih hn.2 hm2
  refine key _ ?_ ?_
  · rw [List.map_reverse]
    have : ((ps.zip us).map (·.1)).Nodup := by
      have e : (ps.zip us).map (·.1) = ps.take us.length := by
        clear h1 h2 key nd
        induction ps generalizing us with
        | nil => simp
        | cons p ps ih => cases us with
          | nil => simp
          | cons u us => simp [ih]
      rw [e]
      exact nd.sublist (List.take_sublist _ _)
    exact (List.reverse_perm _).nodup_iff.mpr this
  · rw [List.mem_reverse]
    have : (ps.zip us)[i]? = some (y, u) := by rw [List.getElem?_zip_eq_some]; exact ⟨h1, h2⟩
    exact List.mem_of_getElem? this
section
variable {P : Program} {w : World} {K : PySem.W.Frag} {mg : Str → Option Value} {base : Heap} {N ps : List Str} {qual : Str} {scope : Scope} {f cc C : Addr} {cd : Value} {A : Around} {outer : List Env} {s : Shared} {H : Hp} {E : XK} {us : List Value} {vs : List V}
theorem inv_startS {oc : Obj} {h₁ : Heap} {tk : Nat} (S : SupScope N ps scope) (hd : A.handled = none) (e0 : Env0 P w K mg base A outer s H) (hl : vs.length = ps.length) (r : Vals vs us) (hcc : K.lookup cc = some oc) (hcell : oc.data = .cell (some (.ref C)))
    (hns : h₁.Ns s.heap.objs.size fun x => (ps.zip us).reverse.lookup x) (hk : ∀ b o, s.heap.get? b = some o → h₁.get? b = some o) :
    Inv (cxS P w K mg base N qual scope f cd cc A outer s H E) [] (start N vs) H { s with heap := h₁, toks := tk } := by
  have noA : ∀ b : Addr, b ∉ (cxS P w K mg base N qual scope f cd cc A outer s H E).ex := fun b z => absurd (show b ∈ ([] : List Addr) from z) (by simp)
  have hbase : base.get? cc = some oc := e0.mod.kin _ _ hcc
  have hs := e0.bs _ _ hbase
  have only : ∀ (y : Str) (c : Addr), ([("__class__", cc)] : List (Str × Addr)).lookup y = some c → y = "__class__" ∧ c = cc := fun y c h => by
    simp only [List.lookup] at h
    split at h
    · rename_i q
      cases h
      exact ⟨by simpa using q, rfl⟩
    · cases h
  refine ⟨⟨e0.mod, S.kind, rfl, rfl, Nat.le_refl _, fun y z c h1 h2 => ?_, fun y hy => ?_, fun y c h1 h2 => ?_, fun _ => hd, Around.frames_deeper e0.frames, .inr ⟨rfl, rfl⟩, fun b z => absurd z (noA b), e0.bs, e0.bsz, fun b _ _ => noA b, fun b z => absurd z (noA b), e0.funs, e0.frf⟩,
    rfl, e0.bare, Un.kept hk, ⟨_, hns, fun i y v h1 h2 h3 => ?_⟩, fun y c h => ?_, e0.hok.fresh (Nat.le_refl _), fun y c h => ?_, fun p hp => absurd (show p ∈ ([] : List (Addr × Obj)) from hp) (by simp), e0.hok.kept hk, ?_⟩
  · exact (only y c h1).1.trans (only z c h2).1.symm
  · have hy : scope.names.lookup y = some .cell ∨ scope.names.lookup y = some .free := hy
    rcases hy with hy | hy
    · exact absurd rfl (S.nocell _ (PySem.mem_of_lookup hy))
    · have := S.free _ (PySem.mem_of_lookup hy) rfl
      dsimp only at this
      subst this
      exact ⟨cc, rfl⟩
  · have := (only y c h2).1
    subst this
    simp [cxS] at h1
  · have hi : i < vs.length := by
      unfold L2.start at h2
      by_cases hi : i < vs.length
      · exact hi
      · rw [List.getElem?_append_right (by simpa using hi)] at h2
        rw [List.getElem?_replicate] at h2
        split at h2 <;> cases h2
    have hva : vs[i]? = some v := by
      unfold L2.start at h2
      rw [List.getElem?_append_left (by simpa using hi), List.getElem?_map] at h2
      cases e : vs[i]? with
      | none => rw [e] at h2; cases h2
      | some a => rw [e] at h2; cases h2; rfl
    obtain ⟨u, hu, rv⟩ := r.get hva
    have hp : ps[i]? = some y := by
      rw [← S.pre, List.getElem?_take_of_lt (by omega)]; exact h1
    have ndP : ps.Nodup := by rw [← S.pre]; exact S.nd.sublist (List.take_sublist _ _)
    exact ⟨u, rv, .inl ⟨S.par y (List.mem_of_getElem? hp), lookup_rev ndP hp hu⟩⟩
  · have := (only y c h).2
    subst this
    exact ⟨some (.ref C), oc, hk _ _ hs.1, hcell⟩
  · have := (only y c h).2
    subst this
    exact hs.2
  · show _ = N.length
    unfold L2.start
    have hpl : ps.length ≤ N.length := by have := congrArg List.length S.pre; rw [List.length_take] at this; omega
    rw [List.length_append, List.length_map, List.length_replicate]
    omega
end
end Mo
namespace Mo
open PySem L2
/-! ### super().__init__(a written text) -/
section
variable {prog : Program} {w : World} {A : Around} {E : Value → Shared → Prop} {h : Heap} {g : Array GenState} {d : Drawn} {t : Nat} {os : OsState} {nm q : Str} {C N : Addr} {bs bm : List Value} {sn : List Str} {sub : List Value} {ab : Bool} {col : Option Bool} {dd : Option Addr} {k0 k1 k2 k3 k5 : Option Value}
/-- the built-in's wrapper, called -/
theorem vw_call {u e t0 : Addr} {r : List Value} {Q : Value → Shared → Prop} (hC : h.get? C = some (excClassObj nm q C N bs bm true sn sub ab col dd k0 k1 k2 k3 k5 "ValueError.__new__")) (he : h.get? e = some (HandSPX.excO C t0))
    (hu : h.get? u = some (PySem.W.kxs_mw "ValueError.__init__" e)) (hr : r.length ≤ sizeLine) (hq : ∀ h1 t1, (∀ b o, b ≠ e → h.get? b = some o → h1.get? b = some o) → h1.get? e = some (HandSPX.excO C t1) → Q .none ⟨h1, g, d, t, os⟩) :
    PySem.wpAny (model prog w) A (PySem.call (.ref u) r) Q E ⟨h, g, d, t, os⟩ := by
  have FB := F.excBase_ValueError
  refine wpAny_call (codeAny_of_tree (show PySem.wpAny _ A.in1 (callAny (.ref u) ⟨r, []⟩) _ _ _ from ?_))
  simp only [callAny]
  refine wpAny_bind (wpAny_load hu ?_)
  have c1 : (Value.type "method-wrapper" == Value.type "method" || Value.type "method-wrapper" == Value.type "builtin_function_or_method" || Value.type "method-wrapper" == Value.type "method-wrapper") = true := by decide
  simp only [PySem.W.kxs_mw, c1, if_true]
  refine PySem.W.KFB.if_so (by decide) (wpAny_bind (PySem.W.check_bound_init FB.toExcCallFacts hC he rfl (wpAny_bind (wpAny_pure (wpAny_pure ?_)))))
  exact ⟨plainId_quiet FB.init.plain _, codeAny_builtin FB.initEntry (PySem.W.exc_init_tree (cls := .ref C) (t0 := t0) (dv := none) (c2 := .none) (c3 := .none) (b4 := .bool false) he hr fun h1 k e1 _ => hq h1 _ k e1)⟩
end
/-- what of the text such a def must have; C: its class -/
structure SupF (P : Program) (K : PySem.W.Frag) (C cda cc : Addr) (prm : Arguments) (scope : Scope) : Prop where
  code : ∃ cl dd vs sl file tf, K.lookup cda = some ⟨cl, dd, .fields vs, sl⟩ ∧ vs[2]? = some (.str file tf) ∧ (P.main.file == file) = true
  cell : ∃ cl dd sl, K.lookup cc = some ⟨cl, dd, .cell (some (.ref C)), sl⟩
  arg : ∃ ar : Arg, (prm.posonlyargs ++ prm.args).head? = some ar ∧ ar.arg = "self"
  sup : scope.names.lookup ("super" : Str) = some .globalImplicit
  cls : scope.names.lookup ("__class__" : Str) = some .free
  slf : scope.names.lookup ("self" : Str) = some .local
  knd : scope.kind = .function
  top : (P.main.scope.names.lookup ("super" : Str)).isSome = false
  opq : PySem.W.nsIn K PySem.cStatics "thirdparty.any" = some none
  mro : PySem.W.mroIn K C (.ref C) = some true
  ini : PySem.W.ks_superIn K C C "__init__" = some (some (.builtin "ValueError.__init__"))
  isB : PySem.W.subIn K (.ref C) (.type "ValueError") = some true
section
variable {P : Program} {w : World} {K : PySem.W.Frag} {mg : Str → Option Value} {base : Heap} {N : List Str} {qual : Str} {scope : Scope} {f cc C cda a : Addr} {A : Around} {outer : List Env} {s0 s : Shared} {H0 H : Hp} {E : XK} {σ : L2.St} {body : List Stmt} {m : Str} {j : Nat}
  {p0 p1 p2 p3 p4 p5 : Pos} {prm : Arguments} {x : Str} {dV kV doc pm ct oc : Value} {an od : Option Addr} {osl : Array (Option Value)} {pl : Sem Bool} {QF : Flow → Shared → Prop} {EF : Value → Shared → Prop}
theorem sup_stmt (SF : SupF P K C cda cc prm scope) (T : OexC K C) (hN : N[0]? = some ("self" : Str)) (hm : mg "super" = none)
    (lk : K.lookup f = some ⟨oc, od, .func (PySem.W.ksFn x qual prm body scope dV kV doc pm an (.ref cda) ct cc), osl⟩)
    (I : Inv (cxS P w K mg base N qual scope f (.ref cda) cc A outer s0 H0 E) [] σ H s) (h0 : σ[0]? = some (some (.ref a))) (ha : H a = some (exo a C none))
    (he : eval (.Call (.Attribute (.Call (.Name "super" p0) [] [] p1) "__init__" p2) [.Constant (.str m) j p5] [] p3) (KSE qual scope s0.heap.objs.size f (.ref cda) cc) = (do
      let ov ← attributeBase (.Call (.Name "super" p0) [] [] p1) "__init__" (KSE qual scope s0.heap.objs.size f (.ref cda) cc) (eval (.Call (.Name "super" p0) [] [] p1) (KSE qual scope s0.heap.objs.size f (.ref cda) cc))
      standAt p2.atName
      let (f', first) ← holding [ov] (getMethod ov "__init__" pl)
      callWith p3 f' first (backTo p3 (starEach [.Constant (.str m) j p5] (KSE qual scope s0.heap.objs.size f (.ref cda) cc))) []))
    (hs : swapsWith (.Call (.Attribute (.Call (.Name "super" p0) [] [] p1) "__init__" p2) [.Constant (.str m) j p5] [] p3) none p4.line (KSE qual scope s0.heap.objs.size f (.ref cda) cc) = pure false)
    (hX : ∀ e s', (cxS P w K mg base N qual scope f (.ref cda) cc A outer s0 H0 E).xe e s' → EF e s') (hq : ∀ s', Inv (cxS P w K mg base N qual scope f (.ref cda) cc A outer s0 H0 E) [] σ H s' → QF .next s') :
    wpAt (model P w) (A.deeper (KSE qual scope s0.heap.objs.size f (.ref cda) cc)) (.func body (KSE qual scope s0.heap.objs.size f (.ref cda) cc))
      (exec (.Expr (.Call (.Attribute (.Call (.Name "super" p0) [] [] p1) "__init__" p2) [.Constant (.str m) j p5] [] p3) p4) (KSE qual scope s0.heap.objs.size f (.ref cda) cc)) QF EF s := by
  obtain ⟨cl1, dd1, vs1, sl1, file, tf, k1, k2, k3⟩ := SF.code
  obtain ⟨cl2, dd2, sl2, k4⟩ := SF.cell
  obtain ⟨ar, k5, k6⟩ := SF.arg
  obtain ⟨nmC, qC, NC, bsC, bmC, snC, subC, abC, colC, ddC, q0, q1, q2, q3, q5, hC, hbm⟩ := T.cls
  have KX : K.In s.heap := I.kIn
  obtain ⟨t0, hoa⟩ := exo_at I.hok ha
  have Ia : PySem.W.InstAt s.heap a _ C none := ⟨hoa, rfl, rfl, trivial⟩
  have hcls : PySem.W.clsIn K C = some { name := nmC, bases := bsC, mro := .ref C :: bmC, ns := NC, qualname := qC, hasDict := true, slotNames := snC, subclasses := subC, abstract := abC, collection := colC, hasDel := false } := by
    unfold PySem.W.clsIn
    rw [hC] <;> rfl
  obtain ⟨ml, hns, hloc⟩ := I.loc
  have hself : ml "self" = some (.ref a) := by
    obtain ⟨u, ru, l⟩ := hloc 0 "self" (.ref a) hN h0 (.inl SF.slf)
    obtain rfl : u = Value.ref a := ru
    rcases l with ⟨_, z⟩ | ⟨z, _⟩
    · exact z
    · have z : scope.names.lookup ("self" : Str) = some .cell ∨ scope.names.lookup ("self" : Str) = some .free := z
      rw [SF.slf] at z
      rcases z with z | z <;> cases z
  refine PySem.ks_wpAt_Expr_any (PySem.ks_wpAt_MethodCall (pl := pl) ?_ he) ?hi hs
  case hi => unfold interactive; rw [show (KSE qual scope s0.heap.objs.size f (.ref cda) cc).scope.kind = .function from SF.knd]; rfl
  obtain ⟨mb, b1, b2⟩ := I.mod.blt
  refine PySem.ks_wpAt_super_base (env := KSE qual scope s0.heap.objs.size f (.ref cda) cc) SF.sup SF.cls (by decide) rfl (KX _ _ lk) rfl k5 rfl (KX _ _ k1) rfl k2 k3 SF.top ?_
  refine PySem.W.ks_loadName_global SF.knd SF.sup (Calls.loadGlobal_builtin (env := KSE qual scope s0.heap.objs.size f (.ref cda) cc) (I.mod.glob.keeps I.bk) hm (b1.keeps I.bk) ((b2 "super" (by decide)).trans PyProof.Rows.Boot.«super») ⟨rfl, ?_⟩)
  refine wpAny_loadName_free SF.knd SF.cls rfl ⟨_, KX _ _ k4, rfl⟩ ?_
  refine wpAny_loadName_local SF.knd (by rw [k6]; exact SF.slf) hns (by rw [k6]; exact hself) ?_
  obtain ⟨hp, g, d, t, os⟩ := s
  have hCo := KX _ _ hC
  refine PySem.ks_wpAny_isType_cls hCo rfl ⟨rfl, ?_⟩
  refine PySem.ks_wpAny_call_super hCo rfl hoa rfl (fun c e => by cases e) (PySem.W.looks_mroIn KX SF.mro) fun h1 e1 k => ?_
  have I1 : Inv (cxS P w K mg base N qual scope f (.ref cda) cc A outer s0 H0 E) [] σ H ⟨h1, g, d, t, os⟩ := I.kept (t' := t) k
  have hsup := SF.ini
  unfold PySem.W.ks_superIn at hsup
  rw [hcls] at hsup
  have hal : PySem.W.alongIn K "__init__" (((Value.ref C :: bmC).dropWhile (· != .ref C)).drop 1) = some (some (.builtin "ValueError.__init__")) := hsup
  have Ja : PySem.W.InstAt h1 a _ C none := ⟨k _ _ hoa, rfl, rfl, trivial⟩
  refine PySem.W.kxs_getMethod PySem.W.kxs_ValueError e1 (PySem.W.looks_opaque I1.kIn SF.opq) (l₀ := .ref C :: bmC) (fun A Q E s k q => wpAny_bind ((PySem.W.looks_clsIn I1.kIn hcls) A _ E s k (wpAny_pure q))) rfl I1.kIn hal (Ja.type.andThen (PySem.W.looks_subIn I1.kIn SF.isB)) (PySem.W.ks_ne I1.kIn Ja hcls) (by decide) ?_
  have I2 := ClX.pin_new (t' := t + 1) (a := h1.objs.size) (o := PySem.W.kxs_mw "ValueError.__init__" a) (h' := h1.push (PySem.W.kxs_mw "ValueError.__init__" a)) I1 (fun b u z => Heap.get?_push_of_some _ z) (Nat.le_refl _) (Heap.get?_push_size h1 rfl) (fun v z => nomatch z)
  show PySem.wpAny _ _ (callWith p3 (.ref h1.objs.size) [] (backTo p3 (starEach [.Constant (.str m) j p5] (KSE qual scope s0.heap.objs.size f (.ref cda) cc))) []) _ _ _
  refine PySem.W.kxs_callWith (i := "ValueError.__init__") (x := a) rfl (Calls.evalArgs_plain ?_)
  have hargs : PA (cxS P w K mg base N qual scope f (.ref cda) cc A outer s0 H0 E) [.Constant (.str m) j p5] _ := pa_cons pe_str pa_nil
  refine wpAny_mono (hargs.run p3 _ _ σ H (fun vs H1 => vs = [.str m] ∧ H1 = H) I2 ⟨rfl, rfl⟩) (fun us s3 hx => ?_) fun _ _ y => ?_
  · obtain ⟨vs, H3, I3, r3, ev, eH⟩ := hx
    subst ev eH
    have hu := ClX.pin_at I3
    refine ⟨hu, ?_⟩
    obtain ⟨t3, ho3⟩ := exo_at I3.hok ha
    obtain ⟨hp3, g3, d3, tk3, os3⟩ := s3
    refine vw_call (I3.kIn _ _ hC) ho3 hu (by rw [List.nil_append, ← r3.length, sizeLine_eq]; show 1 ≤ 16777216; omega) fun h4 t4 k4' e4 => ?_
    have J := (ClX.unpin I3).write (t' := tk3) (x := a) (e := a) (o := exo a C none) (by rw [ha]; exact True.intro) (.inl rfl) k4' ⟨_, e4⟩ (exo_ok e4)
    have eu : upd H3 a (exo a C none) = H3 := by
      funext b
      by_cases hb : b = a
      · rw [hb, upd_same, ha]
      · rw [upd_ne hb]
    rw [eu] at J
    exact hq _ J
  · exact hX _ _ y
end
end Mo
namespace Mo
open PySem L2
section
variable {P : Program} {w : World} {K : PySem.W.Frag} {mg : Str → Option Value} {base : Heap} {N ps : List Str} {qual x : Str} {scope : Scope} {f cc C cda : Addr} {body rest : List Stmt} {m : Str} {j : Nat} {p0 p1 p2 p3 p4 p5 : Pos} {prm : Arguments} {dV kV doc pm ct oc : Value} {an od : Option Addr}
  {osl : Array (Option Value)} {k : Nat} {sp : Sp}
abbrev supCall (m : Str) (j : Nat) (p0 p1 p2 p3 p5 : Pos) : Expr := .Call (.Attribute (.Call (.Name "super" p0) [] [] p1) "__init__" p2) [.Constant (.str m) j p5] [] p3
def SupHe (m : Str) (j : Nat) (p0 p1 p2 p3 p5 : Pos) : Prop := ∀ env : Env, ∃ pl : Sem Bool, eval (supCall m j p0 p1 p2 p3 p5) env = (do
      let ov ← attributeBase (.Call (.Name "super" p0) [] [] p1) "__init__" env (eval (.Call (.Name "super" p0) [] [] p1) env)
      standAt p2.atName
      let (f', first) ← holding [ov] (getMethod ov "__init__" pl)
      callWith p3 f' first (backTo p3 (starEach [.Constant (.str m) j p5] env)) [])
theorem sup_hs (env : Env) : swapsWith (supCall m j p0 p1 p2 p3 p5) none p4.line env = pure false := rfl
/-- a def whose body begins with super().__init__(text) -/
theorem fn_super (he0 : SupHe m j p0 p1 p2 p3 p5) (SF : SupF P K C cda cc prm scope) (T : OexC K C) (hm : mg "super" = none) (lk : K.lookup f = some ⟨oc, od, .func (PySem.W.ksFn x qual prm (.Expr (supCall m j p0 p1 p2 p3 p5) p4 :: rest) scope dV kV doc pm an (.ref cda) ct cc), osl⟩)
    (hcd : PySem.W.codeIn K (.ref cda) qual = true) (S : SupScope N ps scope) (hN : N[0]? = some ("self" : Str)) (len : ∀ vs H Q E, sp vs H Q E → vs.length = ps.length)
    (hbody : ∀ (A : Around) (outer : List Env) (s : Shared) (H : Hp) (vs : List V) (Q : VK) (E : XK), sp vs H Q E →
      ∃ t a, PSs (cxS P w K mg base N qual scope f (.ref cda) cc A outer s H E) rest t ∧ t { nx := fun _ H' => Q .non H', rt := Q } (L2.start N vs) H ∧ vs[0]? = some (.ref a) ∧ H a = some (exo a C none)) :
    FnOk P w K mg base (L2.CX P w) (k + 1) f (PySem.W.ksFn x qual prm (.Expr (supCall m j p0 p1 p2 p3 p5) p4 :: rest) scope dV kV doc pm an (.ref cda) ct cc) ps sp := by
  refine ⟨len, fun A outer s H args us vs Q E hr e0 hb r hsp => ?_⟩
  have hl := len _ _ _ _ hsp
  have KX : K.In s.heap := e0.mod.kin.keeps fun b o e => (e0.bs b o e).1
  have lim : s.heap.NoLimit := e0.mod.nolimit.keeps fun b o e => (e0.bs b o e).1
  obtain ⟨t, a, ht, hq, h0, ha⟩ := hbody A outer s H vs Q E hsp
  obtain ⟨cl, dd, sl, hcell⟩ := SF.cell
  refine PySem.ks_codeAny_call_defAt hr.depth (KX _ _ lk) rfl lim (PySem.W.codeRec_of KX hcd) rfl hb S.nocell (fun ⟨n, v⟩ hy => S.par n (List.of_mem_zip hy).1) (fun h₁ hns hk => ?_) S.co S.gen S.kind
  have I := inv_startS (A := A) (outer := outer) (E := E) (f := f) (cc := cc) (cd := .ref cda) (C := C) (qual := qual) (tk := s.toks + (ps.zip us).length) S hr.hd e0 hl r hcell rfl hns hk
  have hσ : (L2.start N vs)[0]? = some (some (.ref a)) := by
    unfold L2.start
    have : 0 < vs.length := (List.getElem?_eq_some_iff.mp h0).1
    rw [List.getElem?_append_left (by simpa using this), List.getElem?_map, h0]; rfl
  obtain ⟨pl, he⟩ := he0 (KSE qual scope s.heap.objs.size f (.ref cda) cc)
  refine PySem.ks_wpAt_execs_cons (sup_stmt (pl := pl) SF T hN hm lk I hσ ha he (sup_hs _) (fun e s' y => y) fun s2 J => ?_)
  refine wpAt_of_wpAny (wpAny_mono (ht.run [] s2 (L2.start N vs) H _ J hq) (fun fl s' hs => ?_) fun e s' hs => hs)
  have fin : ∀ {σ' : L2.St} {H' : Hp} {v : V} {u : Value}, Inv (cxS P w K mg base N qual scope f (.ref cda) cc A outer s H E) [] σ' H' s' → RelV v u → Q v H' → CE outer P w H s Q u s' :=
    fun {σ' H' v u} J rv q => ⟨v, H', J.os, J.bare, J.base, J.hok, rv, q⟩
  cases fl with
  | ret u =>
    obtain ⟨v, σ', H', J, rv, q⟩ := hs
    exact fin J rv q
  | next =>
    obtain ⟨σ', H', J, q⟩ := hs
    exact fin (v := V.non) (u := Value.none) J rfl q
  | brk =>
    obtain ⟨_, _, _, q⟩ := hs
    exact False.elim q
  | cont =>
    obtain ⟨_, _, _, q⟩ := hs
    exact False.elim q
end
end Mo
/-! Mo27: own exceptions of one or two fields: their __init__, raise. -/
namespace Mo
open PySem L2
/-- what __init__ of an exception with one field does -/
def spS1 (C : Addr) (f1 : Str) : Sp := fun vs H Q _ => ∃ a y, vs = [.ref a, y] ∧ H a = some (exo a C none) ∧ ∀ dx, H dx = none → dx ≠ a → Q .non (upd (upd H dx (exd dx [(f1, y)])) a (exo a C (some dx)))
def spS2 (C : Addr) (f1 f2 : Str) : Sp := fun vs H Q _ => ∃ a y z, vs = [.ref a, y, z] ∧ H a = some (exo a C none) ∧
  ∀ dx, H dx = none → dx ≠ a → Q .non (upd (upd (upd H dx (exd dx [(f1, y)])) a (exo a C (some dx))) dx (exd dx [(f2, z), (f1, y)]))
section
variable {P : Program} {w : World} {K : PySem.W.Frag} {mg : Str → Option Value} {base : Heap} {y1 y2 f1 f2 : Str} {qual x : Str} {scope : Scope} {f cc C cda : Addr} {m : Str} {j : Nat} {p0 p1 p2 p3 p4 p5 q1 q2 q3 q4 q5 q6 q7 q8 : Pos} {prm : Arguments} {dV kV doc pm ct oc : Value} {an od : Option Addr}
  {osl : Array (Option Value)}
theorem fn_sup1 (he0 : SupHe m j p0 p1 p2 p3 p5) (SF : SupF P K C cda cc prm scope) (T : OexC K C) (hm : mg "super" = none) (hf1 : PySem.W.findIn K (.ref C) f1 = some none)
    (lk : K.lookup f = some ⟨oc, od, .func (PySem.W.ksFn x qual prm [.Expr (supCall m j p0 p1 p2 p3 p5) p4, .Assign [.Attribute (.Name "self" q1) f1 q2] (.Name y1 q3) q4] scope dV kV doc pm an (.ref cda) ct cc), osl⟩)
    (hcd : PySem.W.codeIn K (.ref cda) qual = true) (S : SupScope ["self", y1] ["self", y1] scope) (d1 : (y1 == ("__debug__" : Str)) = false := by decide) (d2 : (y1 == ("__classdict__" : Str)) = false := by decide) :
    FnOk P w K mg base (L2.CX P w) 1 f (PySem.W.ksFn x qual prm [.Expr (supCall m j p0 p1 p2 p3 p5) p4, .Assign [.Attribute (.Name "self" q1) f1 q2] (.Name y1 q3) q4] scope dV kV doc pm an (.ref cda) ct cc) ["self", y1] (spS1 C f1) := by
  refine fn_super he0 SF T hm lk hcd S rfl (fun vs H Q E h => by obtain ⟨a, y, rfl, _⟩ := h; rfl) fun A outer s H vs Q E h => ?_
  obtain ⟨a, y, rfl, ha, hq⟩ := h
  have v0 : PE (cxS P w K mg base ["self", y1] qual scope f (.ref cda) cc A outer s H E) (.Name "self" q1) (tVar 0) := pe_var rfl (.inl SF.slf)
  have v1 : PE (cxS P w K mg base ["self", y1] qual scope f (.ref cda) cc A outer s H E) (.Name y1 q3) (tVar 1) := pe_var rfl (.inl (S.par y1 (by simp))) d1 d2
  refine ⟨_, a, pss_one (ps_ost v0 v1), ?_, rfl, ha⟩
  refine ⟨y, rfl, .ref a, rfl, a, C, rfl, T, hf1, .inl ⟨ha, fun dx hd hn => hq dx hd hn⟩⟩
theorem fn_sup2 (he0 : SupHe m j p0 p1 p2 p3 p5) (SF : SupF P K C cda cc prm scope) (T : OexC K C) (hm : mg "super" = none) (hf1 : PySem.W.findIn K (.ref C) f1 = some none) (hf2 : PySem.W.findIn K (.ref C) f2 = some none)
    (lk : K.lookup f = some ⟨oc, od, .func (PySem.W.ksFn x qual prm [.Expr (supCall m j p0 p1 p2 p3 p5) p4, .Assign [.Attribute (.Name "self" q1) f1 q2] (.Name y1 q3) q4, .Assign [.Attribute (.Name "self" q5) f2 q6] (.Name y2 q7) q8] scope dV kV doc pm an (.ref cda) ct cc), osl⟩)
    (hcd : PySem.W.codeIn K (.ref cda) qual = true) (S : SupScope ["self", y1, y2] ["self", y1, y2] scope) (d1 : (y1 == ("__debug__" : Str)) = false := by decide) (d2 : (y1 == ("__classdict__" : Str)) = false := by decide) (d3 : (y2 == ("__debug__" : Str)) = false := by decide) (d4 : (y2 == ("__classdict__" : Str)) = false := by decide) :
    FnOk P w K mg base (L2.CX P w) 1 f (PySem.W.ksFn x qual prm [.Expr (supCall m j p0 p1 p2 p3 p5) p4, .Assign [.Attribute (.Name "self" q1) f1 q2] (.Name y1 q3) q4, .Assign [.Attribute (.Name "self" q5) f2 q6] (.Name y2 q7) q8] scope dV kV doc pm an (.ref cda) ct cc) ["self", y1, y2] (spS2 C f1 f2) := by
  refine fn_super he0 SF T hm lk hcd S rfl (fun vs H Q E h => by obtain ⟨a, y, z, rfl, _⟩ := h; rfl) fun A outer s H vs Q E h => ?_
  obtain ⟨a, y, z, rfl, ha, hq⟩ := h
  have v0 : PE (cxS P w K mg base ["self", y1, y2] qual scope f (.ref cda) cc A outer s H E) (.Name "self" q1) (tVar 0) := pe_var rfl (.inl SF.slf)
  have v1 : PE (cxS P w K mg base ["self", y1, y2] qual scope f (.ref cda) cc A outer s H E) (.Name y1 q3) (tVar 1) := pe_var rfl (.inl (S.par y1 (by simp))) d1 d2
  have w0 : PE (cxS P w K mg base ["self", y1, y2] qual scope f (.ref cda) cc A outer s H E) (.Name "self" q5) (tVar 0) := pe_var rfl (.inl SF.slf)
  have v2 : PE (cxS P w K mg base ["self", y1, y2] qual scope f (.ref cda) cc A outer s H E) (.Name y2 q7) (tVar 2) := pe_var rfl (.inl (S.par y2 (by simp))) d3 d4
  refine ⟨_, a, pss_cons (ps_ost v0 v1) (pss_one (ps_ost w0 v2)), ?_, rfl, ha⟩
  refine ⟨y, rfl, .ref a, rfl, a, C, rfl, T, hf1, .inl ⟨ha, fun dx hd hn => ?_⟩⟩
  refine ⟨z, rfl, .ref a, rfl, a, C, rfl, T, hf2, .inr ⟨dx, [(f1, y)], upd_same, ?_, by simp, hq dx hd hn⟩⟩
  rw [upd_ne hn, upd_same]
end
/-! ### raise C(..) -/
def sRaise (c : String) (fs : List Str) (ms : MEs) : MS := fun s h => (ms s h).bnS s fun xs h1 => if xs.length = fs.length then .err ⟨c, (fs.zip xs).reverse⟩ s h1 else .no
structure RaiM (P : Program) (w : World) (K : PySem.W.Frag) (mg : Str → Option Value) (base : Heap) (G : String → Option V) (c : String) (fs : List Str) (C : Addr) : Prop where
  g : G c = some (.ref C)
  oex : OexC K C
  run : ∃ fI fd ps sp, PySem.W.findIn K (.ref C) "__init__" = some (some (.ref fI)) ∧ PySem.W.typeIn K (.ref fI) = some (.type "function") ∧ FnOk P w K mg base (L2.CX P w) 1 fI fd ps sp ∧ Binds K fd ps [] ∧
    ((∃ f1, fs = [f1] ∧ sp = spS1 C f1) ∨ ∃ f1 f2, fs = [f1, f2] ∧ sp = spS2 C f1 f2)
section
variable {X : Cx} {G : String → Option V} {W : WX} {e : Expr} {es : List Expr} {ms : MEs} {x : Str} {p pos rpos : Pos} {c : String} {fs : List Str} {C : Addr}
theorem hr_exc {K : PySem.W.Frag} {ρ : List Addr} {H H' : Hp} {mh : MH} (hr : HR K G ρ H mh) (k : ∀ b o, H b = some o → H' b = some o) : HR K G ρ H' mh ∧ Ext K ρ H ρ H' := by
  have x : Ext K ρ H ρ H' := ⟨⟨[], by simp⟩, fun a vs h => k _ _ h, fun a vs h => h.elim (fun ⟨o, q⟩ => .inl ⟨o, k _ _ q⟩) .inr⟩
  exact ⟨⟨hr.len, hr.nd, fun i o e => let ⟨a, ha, q⟩ := hr.obj i o e; ⟨a, ha, q.keep x fun u hu => k _ _ hu⟩⟩, x⟩
theorem m_raise (R : RaiM X.prog X.w X.K X.mg X.base G c fs C) (hc : X.calm = true) (hr : Room 2 X.A) (tk : Takes X W) (hg : Gl X x) (hm : X.mg x = some (.ref C)) (ha : PA X (e :: es) (RA X.K G W ms))
    (hdb : (x == ("__debug__" : Str)) = false := by decide) (he : starEach (e :: es) X.env = (false, eval e X.env) :: starEach es X.env := by rfl) (hpl : (backTo pos (starEach es X.env)).any (·.1) = false := by rfl) :
    PS X (.Raise (some (.Call (.Name x p) (e :: es) [] pos)) none rpos) (RS X.K G W (sRaise c fs ms)) := by
  obtain ⟨g, T, fI, fd, ps, sp, iC, tI, F, hb, hsp⟩ := R
  refine ps_imp (ps_raise hc tk (pmk_oex T iC tI F hr hb .nil (fun pins σ H s e s' I hq => by
    obtain ⟨_, _, _, _, _, _, _, _, _, _, _, _, f⟩ := hq
    exact f.elim) hg hm ha hdb he hpl)) fun D σ H ⟨ρ, sm, mh, r0, q⟩ => ?_
  refine ras_bnd r0 q fun xs ρ1 H1 mh1 vs x1 r1 rvs q1 => ?_
  split at q1
  · rename_i hl
    rcases hsp with ⟨f1, rfl, rfl⟩ | ⟨f1, f2, rfl, rfl⟩
    · obtain ⟨z, rfl⟩ := len1 hl
      obtain ⟨v, rfl, rv⟩ := rvs.one
      refine ⟨by simp, fun a hna => ⟨a, v, rfl, upd_same, fun dx hd hn => ⟨rfl, dx, [(f1, v)], upd_same, ?_, ?_, ?_⟩⟩⟩
      · rw [upd_ne hn, upd_same]
      · rw [upd_ne hn] at hd; exact hd
      · rw [upd_ne hn] at hd
        have k : ∀ b o, H1 b = some o → (upd (del (upd (upd (upd H1 a (exo a C none)) dx (exd dx [(f1, v)])) a (exo a C (some dx))) a) dx (.xd [(f1, v)])) b = some o := fun b o hb => by
          rw [upd_ne (ne_of_none hb hd), del_ne (ne_of_none hb hna), upd_ne (ne_of_none hb hna), upd_ne (ne_of_none hb hd), upd_ne (ne_of_none hb hna)]
          exact hb
        obtain ⟨h1, h2⟩ := hr_exc r1.hr k
        exact q1 _ _ σ _ _ h2 h1 (r1.sr.ext h2) ⟨C, dx, _, g, rfl, rfl, r1.hr.notin hd, upd_same, v, [], rfl, rv.ext h2, rfl⟩
    · obtain ⟨z1, z2, rfl⟩ : ∃ a b, xs = [a, b] := by
        match xs, hl with
        | [a, b], _ => exact ⟨a, b, rfl⟩
      obtain ⟨v, u, rfl, rv, ru⟩ := rvs.two
      refine ⟨by simp, fun a hna => ⟨a, v, u, rfl, upd_same, fun dx hd hn => ⟨rfl, dx, [(f2, u), (f1, v)], ?_, upd_same, ?_, ?_⟩⟩⟩
      · rw [upd_ne (Ne.symm hn), upd_same]
      · rw [upd_ne hn] at hd; exact hd
      · rw [upd_ne hn] at hd
        have k : ∀ b o, H1 b = some o → (upd (del (upd (upd (upd (upd H1 a (exo a C none)) dx (exd dx [(f1, v)])) a (exo a C (some dx))) dx (exd dx [(f2, u), (f1, v)])) a) dx (.xd [(f2, u), (f1, v)])) b = some o := fun b o hb => by
          rw [upd_ne (ne_of_none hb hd), del_ne (ne_of_none hb hna), upd_ne (ne_of_none hb hd), upd_ne (ne_of_none hb hna), upd_ne (ne_of_none hb hd), upd_ne (ne_of_none hb hna)]
          exact hb
        obtain ⟨h1, h2⟩ := hr_exc r1.hr k
        exact q1 _ _ σ _ _ h2 h1 (r1.sr.ext h2) ⟨C, dx, _, g, rfl, rfl, r1.hr.notin hd, upd_same, u, _, rfl, ru.ext h2, v, [], rfl, rv.ext h2, rfl⟩
  · exact q1.elim
end
section
variable {s : Lo} {h : MH}
def KRa (r : Rz (List MV)) (s : Lo) (c : String) (fs : List Str) : SR := r.bnS s fun xs h1 => if xs.length = fs.length then .err ⟨c, (fs.zip xs).reverse⟩ s h1 else .no
@[simp] theorem sRaise_ev {c fs ms} : sRaise c fs ms s h = KRa (ms s h) s c fs := rfl
@[simp] theorem KRa_ok {xs c fs} : KRa (.ok xs h) s c fs = if xs.length = fs.length then .err ⟨c, (fs.zip xs).reverse⟩ s h else .no := rfl
end
end Mo
/-! Mo28: try / except of one class, with a name or without; the field of a caught exception, isinstance of it. -/
namespace Mo
open PySem L2
/-- the marks of a caught exception: its address, its dict's, its class -/
structure XA where
  a : Nat
  d : Nat
  c : String
/-- the suite has ended: its name goes -/
def finT (i : Nat) : SR → SR
  | .nx s h => .nx (s.set i none) h
  | .bk s h => .bk (s.set i none) h
  | .ct s h => .ct (s.set i none) h
  | .rt v h => .rt v h
  | _ => .no
def finO : SR → SR
  | .err _ _ _ => .no
  | r => r
open Classical in
/-- the same for all addresses -/
noncomputable def sUni (f : Nat → Nat → SR) : SR := if h : ∃ r, ∀ a d, f a d = r then h.choose else .no
theorem sUni_ok {f : Nat → Nat → SR} {r : SR} (h : sUni f = r) (hr : r ≠ .no) (a d : Nat) : f a d = r := by
  unfold sUni at h
  split at h
  · rename_i hx; rw [← h]; exact hx.choose_spec a d
  · exact absurd h.symm hr
@[simp] theorem sUni_const {r : SR} : sUni (fun _ _ => r) = r := by
  unfold sUni
  have hx : ∃ q, ∀ a d : Nat, (fun _ _ => r : Nat → Nat → SR) a d = q := ⟨r, fun _ _ => rfl⟩
  rw [dif_pos hx]
  exact (hx.choose_spec 0 0).symm
theorem sUni_eq {f : Nat → Nat → SR} {r : SR} (h : ∀ a d, f a d = r) : sUni f = r := by
  have : f = fun _ _ => r := by funext a d; exact h a d
  rw [this]; exact sUni_const
noncomputable def KTry (xt : String → Option Bool) (i : Nat) (su : XA → MS) : SR → SR
  | .err e s h => match xt e.c with
    | some true => sUni fun a d => finT i (su ⟨a, d, e.c⟩ (s.set i (some (.exa a d h.length))) (h ++ [.xd e.c e.fs]))
    | some false => .err e s h
    | none => .no
  | r => r
noncomputable def sTry (b : MS) (xt : String → Option Bool) (i : Nat) (su : XA → MS) : MS := fun s h => KTry xt i su (b s h)
noncomputable def KTryO (xt : String → Option Bool) (su : MS) : SR → SR
  | .err e s h => match xt e.c with
    | some true => finO (su s h)
    | some false => .err e s h
    | none => .no
  | r => r
noncomputable def sTryO (b : MS) (xt : String → Option Bool) (su : MS) : MS := fun s h => KTryO xt su (b s h)
/-- what the table says of the classes -/
structure ExmOk (K : PySem.W.Frag) (G : String → Option V) (cv : Value) (xt : String → Option Bool) : Prop where
  ok : ∀ c b C, xt c = some b → G c = some (.ref C) → PySem.W.exmOne K (.ref C) cv = some b
abbrev noW : WX := fun _ _ _ _ => False
section
variable {K : PySem.W.Frag} {G : String → Option V} {ρ : List Addr} {H : Hp} {mh : MH}
theorem HR.add {a : Addr} {o : MO} (h : HR K G ρ H mh) (hn : a ∉ ρ) (new : OR K G ρ H a o) : HR K G (ρ ++ [a]) H (mh ++ [o]) ∧ Ext K ρ H (ρ ++ [a]) H := by
  have x : Ext K ρ H (ρ ++ [a]) H := ⟨⟨[a], rfl⟩, fun _ _ q => q, fun _ _ q => q⟩
  refine ⟨⟨by simp [h.len], ?_, fun i u e => ?_⟩, x⟩
  · rw [List.nodup_append]
    refine ⟨h.nd, by simp, fun b hb c hc e => ?_⟩
    simp only [List.mem_singleton] at hc
    subst hc; subst e
    exact hn hb
  · by_cases hi : i < mh.length
    · rw [List.getElem?_append_left hi] at e
      obtain ⟨b, hb, q⟩ := h.obj i u e
      exact ⟨b, x.at hb, q.keep x fun _ z => z⟩
    · have hi' : i = mh.length := by
        have := (List.getElem?_eq_some_iff.mp e).1
        simp at this
        omega
      subst hi'
      rw [List.getElem?_append_right (Nat.le_refl _)] at e
      simp at e
      subst e
      refine ⟨a, ?_, new.keep x fun _ z => z⟩
      rw [← h.len, List.getElem?_append_right (Nat.le_refl _)]
      simp
theorem SRl.gone {s : Lo} {σ : St} {i : Nat} (h : SRl K G ρ H s σ) : SRl K G ρ H (s.set i none) (σ.set i none) := by
  refine ⟨by simp [h.1], fun j x e => ?_⟩
  by_cases hj : i = j
  · subst hj
    by_cases hl : i < s.length
    · rw [List.getElem?_set_self hl] at e; cases e
    · rw [List.getElem?_eq_none (by simp; omega)] at e; cases e
  · rw [List.getElem?_set_ne hj] at e
    obtain ⟨w, a, b⟩ := h.2 j x e
    exact ⟨w, by rw [List.getElem?_set_ne hj]; exact a, b⟩
end
section
variable {X : Cx} {G : String → Option V} {W : WX} {sts body suite : List Stmt} {b₀ : Stmt} {st : Stmt} {xt : String → Option Bool} {i : Nat} {x n : Str} {c : Value} {np pos pos' : Pos} {b : MS} {su : XA → MS} {so : MS}
theorem pss_ex {ι : Sort _} {t : ι → TS} (h : ∀ j, PSs X sts (t j)) : PSs X sts (fun D σ H => ∃ j, t j D σ H) :=
  ⟨fun pins s σ H D I ⟨j, q⟩ => (h j).run pins s σ H D I q⟩
theorem pss_and {p : Prop} {t : TS} (h : p → PSs X sts t) : PSs X sts (fun D σ H => p ∧ t D σ H) :=
  ⟨fun pins s σ H D I ⟨hp, q⟩ => (h hp).run pins s σ H D I q⟩
/-- what a suite may know of the exception that it holds -/
structure Held (X : Cx) (G : String → Option V) (xt : String → Option Bool) (y : XA) (cls : Value) (d : Option Addr) (C : Addr) : Prop where
  g : G y.c = some (.ref C)
  cls : cls = .ref C
  d : d = some y.d
  xt : xt y.c = some true
/-- the suite's reading -/
def tSu (X : Cx) (G : String → Option V) (xt : String → Option Bool) (su : XA → MS) (a : Addr) (cls : Value) (d : Option Addr) : TS := fun D σ H =>
  ∃ (y : XA) (C : Addr), (y.a = a ∧ Held X G xt y cls d C) ∧ RS X.K G noW (su y) D σ H
theorem m_try_as (E : ExmOk X.K G c xt) (hs : X.stack = X.env :: X.outer) (hf : X.env.frame = some X.env.locals) (hN : X.N.Nodup) (hi : X.N[i]? = some n) (hln : X.env.kindOf n = some .local) (hc : Names X x c) (tk : Takes X W)
    (hb : ∀ (W : WX) (pn : List (Addr × Obj)) (xe : Value → Shared → Prop), Takes (X.tr pn xe) W → PassesOwn (model X.prog X.w) X.A X.env xe → PSs (X.tr pn xe) body (RS X.K G W b))
    (hsu : ∀ (y : XA) (oe : Obj) (cls : Value) (d : Option Addr) (C : Addr) (pn : List (Addr × Obj)), Zc cls d oe → (∃ vs, oe.data = .fields vs) → Held X G xt y cls d C → PSs (X.suite y.a ((y.a, oe) :: pn)) (b₀ :: suite) (RS X.K G noW (su y))) :
    PS X (.Try body [.ExceptHandler (some (.Name x np)) (some n) (b₀ :: suite) pos'] [] [] pos) (RS X.K G W (sTry b xt i su)) := by
  refine ps_imp (ps_try_as (tb := fun W => RS X.K G W b) (ts := tSu X G xt su) (Wout := W) hs hf hN hi hln hc tk hb (fun a oe cls d pn hz hv => ?_)) fun D σ H ⟨ρ, sm, mh, r, q⟩ => ⟨ρ, sm, mh, r, ?_⟩
  · exact pss_ex fun y => pss_ex fun C => pss_and fun ⟨ha, hh⟩ => by subst ha; exact hsu y oe cls d C pn hz hv hh
  · unfold sTry at q
    cases e : b sm mh with
    | nx s m => rw [e] at q; exact q
    | rt v m => rw [e] at q; exact q
    | bk s m => rw [e] at q; exact q
    | ct s m => rw [e] at q; exact q
    | no => rw [e] at q; exact q
    | err v s m =>
      rw [e] at q
      intro ρ1 H1 σ1 cls d x1 hr sr er
      obtain ⟨C, a', vs, g, rfl, rfl, hnr, ha, hfs⟩ := id er
      unfold KTry at q
      cases ex : xt v.c with
      | none => simp only [ex] at q; exact q.elim
      | some bb =>
        refine ⟨bb, E.ok _ _ _ ex g, ?_, ?_⟩
        · rintro rfl a hna
          simp only [ex] at q
          refine ⟨⟨a, a', v.c⟩, C, ⟨rfl, g, rfl, rfl, ex⟩, ?_⟩
          obtain ⟨hr2, x2⟩ := hr.add (o := .xd v.c v.fs) hnr ⟨vs, ha, hfs⟩
          refine ⟨ρ1 ++ [a'], s.set i (some (.exa a a' m.length)), m ++ [.xd v.c v.fs], ⟨hr2, (sr.ext x2).set (by rw [VR]; exact ⟨rfl, by rw [← hr.len, List.getElem?_append_right (Nat.le_refl _)]; simp⟩)⟩, ?_⟩
          have x3 := x1.trans x2
          generalize hF : sUni _ = F at q
          have hne : F ≠ .no := by rintro rfl; exact q
          have hk := sUni_ok hF hne a a'
          subst hk
          cases eT : su ⟨a, a', v.c⟩ (s.set i (some (.exa a a' m.length))) (m ++ [.xd v.c v.fs]) with
          | nx s2 m2 => simp only [eT, finT] at q; exact fun ρ2 H2 σ2 e2 a2 b2 => q ρ2 H2 _ (x3.trans e2) a2 b2.gone
          | bk s2 m2 => simp only [eT, finT] at q; exact fun ρ2 H2 σ2 e2 a2 b2 => q ρ2 H2 _ (x3.trans e2) a2 b2.gone
          | ct s2 m2 => simp only [eT, finT] at q; exact fun ρ2 H2 σ2 e2 a2 b2 => q ρ2 H2 _ (x3.trans e2) a2 b2.gone
          | rt u m2 => simp only [eT, finT] at q; exact fun ρ2 H2 v2 e2 a2 b2 => q ρ2 H2 _ (x3.trans e2) a2 b2
          | err u s2 m2 => simp only [eT, finT] at q; exact q.elim
          | no => simp only [eT, finT] at q; exact q.elim
        · rintro rfl
          simp only [ex] at q
          exact q ρ1 H1 σ1 _ _ x1 hr sr er
theorem m_try_only (E : ExmOk X.K G c xt) (hs : X.stack = X.env :: X.outer) (hf : X.env.frame = some X.env.locals) (hc : Names X x c) (tk : Takes X W)
    (hb : ∀ (W : WX) (pn : List (Addr × Obj)) (xe : Value → Shared → Prop), Takes (X.tr pn xe) W → PassesOwn (model X.prog X.w) X.A X.env xe → PSs (X.tr pn xe) body (RS X.K G W b))
    (hsu : ∀ (a : Addr) (oe : Obj) (cls : Value) (d : Option Addr) (pn : List (Addr × Obj)), Zc cls d oe → (∃ vs, oe.data = .fields vs) → PSs (X.suite a ((a, oe) :: pn)) (b₀ :: suite) (RS X.K G noW so)) :
    PS X (.Try body [.ExceptHandler (some (.Name x np)) none (b₀ :: suite) pos'] [] [] pos) (RS X.K G W (sTryO b xt so)) := by
  refine ps_imp (ps_try_only (tb := fun W => RS X.K G W b) (ts := fun _ _ _ => RS X.K G noW so) (Wout := W) hs hf hc tk hb hsu) fun D σ H ⟨ρ, sm, mh, r, q⟩ => ⟨ρ, sm, mh, r, ?_⟩
  unfold sTryO at q
  cases e : b sm mh with
  | nx s m => rw [e] at q; exact q
  | rt v m => rw [e] at q; exact q
  | bk s m => rw [e] at q; exact q
  | ct s m => rw [e] at q; exact q
  | no => rw [e] at q; exact q
  | err v s m =>
    rw [e] at q
    intro ρ1 H1 σ1 cls d x1 hr sr er
    obtain ⟨C, a', vs, g, rfl, rfl, hnr, ha, hfs⟩ := id er
    unfold KTryO at q
    cases ex : xt v.c with
    | none => simp only [ex] at q; exact q.elim
    | some bb =>
      refine ⟨bb, E.ok _ _ _ ex g, ?_, ?_⟩
      · rintro rfl a hna
        simp only [ex] at q
        refine ⟨ρ1, s, m, ⟨hr, sr⟩, ?_⟩
        cases eT : so s m with
        | nx s2 m2 => simp only [eT, finO] at q; exact RSE.mono (W := noW) (D := D) (r := .nx s2 m2) x1 q
        | bk s2 m2 => simp only [eT, finO] at q; exact RSE.mono (W := noW) (D := D) (r := .bk s2 m2) x1 q
        | ct s2 m2 => simp only [eT, finO] at q; exact RSE.mono (W := noW) (D := D) (r := .ct s2 m2) x1 q
        | rt u m2 => simp only [eT, finO] at q; exact RSE.mono (W := noW) (D := D) (r := .rt u m2) x1 q
        | err u s2 m2 => simp only [eT, finO] at q; exact q.elim
        | no => simp only [eT, finO] at q; exact q.elim
      · rintro rfl
        simp only [ex] at q
        exact q ρ1 H1 σ1 _ _ x1 hr sr er
end
/-! ### e.f, isinstance(e, C) -/
def xdAt (y : XA) (v : MV) (h : MH) : Option (List (Str × MV)) := match v with
  | .exa a d k => if a = y.a ∧ d = y.d then match h[k]? with
    | some (.xd c fs) => if c = y.c then some fs else none
    | _ => none else none
  | _ => none
def KXf (y : XA) (f : Str) (v : MV) (h : MH) : Rz MV := match xdAt y v h with
  | some fs => match fs.lookup f with
    | some u => .ok u h
    | none => .no
  | none => .no
def eXf (y : XA) (m : ME) (f : Str) : ME := fun s h => (m s h).bnd (KXf y f)
def fXi (y : XA) (own : Own) (xs : List MV) (h : MH) : OV := match xs with
  | [x, c] => match xdAt y x h with
    | some _ => ob (isiM own (.glo y.c) c) h
    | none => none
  | _ => none
structure XfOk (K : PySem.W.Frag) (G : String → Option V) (xt : String → Option Bool) (f : Str) : Prop where
  ok : ∀ c C, xt c = some true → G c = some (.ref C) → XfC K C ∧ PySem.W.findIn K (.ref C) f = some none
/-- what isinstance of an exception says -/
structure XiOk (K : PySem.W.Frag) (G : String → Option V) (own : Own) : Prop where
  gref : ∀ s v, G s = some v → ∃ C, v = .ref C
  ok : ∀ c t b C cv, isiM own (.glo c) t = some b → G c = some (.ref C) → clsV G t = some cv → PySem.W.kitOne K (.ref C) cv = some b ∧ L2.ExcC K C
def rIsD (K : PySem.W.Frag) (D a : Addr) (d : Option Addr) : List V → Hp → VK → Prop := fun xs H Q => ∃ (c : V) (cv : Value) (b : Bool) (dd : Addr) (fs : List (Str × V)), xs = [.ref a, c] ∧ d = some dd ∧ H dd = some (.xd fs) ∧ (∀ u, RelV c u → u = cv) ∧ PySem.W.kitOne K (.ref D) cv = some b ∧ L2.ExcC K D ∧ Q (.bl b) H
theorem call_isD {X : Cx} {a D : Addr} {oe : Obj} {d : Option Addr} {pn : List (Addr × Obj)} (hz : Zc (.ref D) d oe) (hf : ∃ vs, oe.data = .fields vs) : CallR (X.suite a ((a, oe) :: pn)) (.builtin "isinstance") (rIsD X.K D a d) := by
  intro pins s σ H xs us Q I r h
  obtain ⟨c, cv, b, dd, fs, rfl, rfl, hd, hcv, e, C, q⟩ := h
  cases r with
  | cons rx rr =>
    cases rr with
    | cons rt rr =>
      cases rr
      cases rx
      have ec := hcv _ rt
      subst ec
      obtain ⟨hget, _⟩ := I.pin (a, oe) (List.mem_append.mpr (.inl List.mem_cons_self))
      obtain ⟨vs, hv⟩ := hf
      have hx : ObjOk X.prog X.w H s.heap dd (.xd fs) := I.hok dd _ hd
      obtain ⟨mA, hns, hr⟩ := hx
      obtain ⟨od, ho, hl⟩ := lookIn_ns hns
      have J : PySem.W.InstAt s.heap a oe D (some od) := ⟨hget, hz.1, by unfold PySem.W.notCls; rw [hv] <;> rfl, by rw [hz.2]; exact ho⟩
      have hcl : (PySem.W.clsIn X.K D).isSome = true := by
        obtain ⟨cd, hc, _⟩ := PySem.W.any_some C.hd
        rw [hc]; rfl
      exact PySem.W.kia_one (PySem.W.kitx_exc hcl C.hg C.hk C.hs C.ha C.hn C.ht C.hm) I.kIn J e (fun z => nomatch z) fun tk => ⟨.bl b, H, I.kept (t' := tk) fun _ _ z => z, rfl, q⟩
section
variable {X : Cx} {G : String → Option V} {y : XA} {oe : Obj} {cls : Value} {d : Option Addr} {C : Addr} {pn : List (Addr × Obj)} {xt : String → Option Bool} {own : Own} {e : Expr} {es : List Expr} {m : ME} {ms : MEs} {f x : Str} {p pos : Pos}
theorem xdAt_ok {K : PySem.W.Frag} {ρ : List Addr} {H : Hp} {mh : MH} {v : MV} {w : V} {fs : List (Str × MV)} (hr : HR K G ρ H mh) (rv : VR K G ρ H v w) (h : xdAt y v mh = some fs) : w = .ref y.a ∧ ∃ vs, H y.d = some (.xd vs) ∧ FRs K G ρ H fs vs := by
  unfold xdAt at h
  split at h
  · rename_i a d k
    split at h
    · rename_i hc
      obtain ⟨rfl, rfl⟩ := hc
      split at h
      · rename_i c fs' e
        split at h
        · cases h
          simp only [VR] at rv
          obtain ⟨vs, h1, h2⟩ := hr.get e rv.2
          exact ⟨rv.1, vs, h1, h2⟩
        · cases h
      · cases h
    · cases h
  · cases h
theorem m_xf (hC : XfOk X.K G xt f) (L : Held X G xt y cls d C) (hz : Zc cls d oe) (hf : ∃ vs, oe.data = .fields vs) (he : PE (X.suite y.a ((y.a, oe) :: pn)) e (RE X.K G noW m)) (hb : attributeBase e f X.env (eval e X.env) = eval e X.env := by rfl) :
    PE (X.suite y.a ((y.a, oe) :: pn)) (.Attribute e f pos) (RE X.K G noW (eXf y m f)) := by
  obtain ⟨T, hno⟩ := hC.ok _ _ L.xt L.g
  refine pe_imp (pe_xf T hno hz hf he hb) fun σ H Q ⟨ρ, sm, mh, r0, q⟩ => ?_
  refine re_bnd r0 q fun v ρ1 H1 mh1 w x1 r1 rv q1 => ?_
  unfold KXf at q1
  cases e1 : xdAt y v mh1 with
  | none => rw [e1] at q1; exact q1.elim
  | some fs =>
    rw [e1] at q1
    obtain ⟨rfl, vs, h1, h2⟩ := xdAt_ok r1.hr rv e1
    cases e2 : fs.lookup f with
    | none => simp only [e2] at q1; exact q1.elim
    | some u =>
      simp only [e2] at q1
      obtain ⟨z, l1, l2⟩ := (lookupF_V h2).1 _ e2
      exact ⟨rfl, L.cls, y.d, vs, z, L.d, h1, l1, RO.ok (P := PV X.K G Q) q1 r1.hr _ l2⟩
theorem s_xi (T : XiOk X.K G own) (L : Held X G xt y cls d C) : CallS X.K G (rIsD X.K C y.a d) (fXi y own) := by
  intro ρ H mh mh1 xs z vs Q hr rvs e k
  unfold fXi at e
  split at e
  · rename_i x c
    obtain ⟨v, w, rfl, rv, rw'⟩ := rvs.two
    cases h1 : xdAt y x mh with
    | none => rw [h1] at e; cases e
    | some fs =>
      rw [h1] at e
      cases h2 : isiM own (.glo y.c) c with
      | none => simp only [h2] at e; cases e
      | some b =>
        simp only [h2] at e; cases e
        obtain ⟨rfl, us, g1, g2⟩ := xdAt_ok hr rv h1
        obtain ⟨cv, c1, c2⟩ : ∃ cv, clsV G c = some cv ∧ ∀ u, RelV w u → u = cv := by
          rcases isiM_cls h2 with ⟨n, rfl⟩ | ⟨s, rfl⟩
          · simp only [VR] at rw'; subst rw'; exact ⟨_, rfl, fun u r => by cases r; rfl⟩
          · simp only [VR] at rw'
            obtain ⟨D, rfl⟩ := T.gref s w rw'.1
            exact ⟨.ref D, by simp [clsV, rw'.1], fun u r => by cases r; rfl⟩
        obtain ⟨t1, t2⟩ := T.ok _ _ _ _ _ h2 L.g c1
        exact ⟨w, cv, b, y.d, us, rfl, L.d, g1, c2, t1, t2, k _ _ Ext.refl hr _ (by simp [VR])⟩
  · cases e
theorem m_xi (T : XiOk X.K G own) (L : Held X G xt y cls d C) (hz : Zc cls d oe) (hf : ∃ vs, oe.data = .fields vs) (hg : Gl X "isinstance") (hm : X.mg "isinstance" = none) (ha : PA (X.suite y.a ((y.a, oe) :: pn)) (e :: es) (RA X.K G noW ms))
    (he : starEach (e :: es) X.env = (false, eval e X.env) :: starEach es X.env := by rfl) (hpl : (backTo pos (starEach es X.env)).any (·.1) = false := by rfl) :
    PE (X.suite y.a ((y.a, oe) :: pn)) (.Call (.Name "isinstance" p) (e :: es) [] pos) (RE X.K G noW (eA (fXi y own) ms)) := by
  have hc := L.cls
  subst hc
  exact m_callB (X := X.suite y.a ((y.a, oe) :: pn)) (r := rIsD X.K C y.a d) (call_isD hz hf) (s_xi T L) hg hm rfl ha (by decide) (by decide) he hpl
end
/-! ### the tables -/
def xtOf (tab : List (String × Bool)) : String → Option Bool := fun c => tab.lookup c
def xtB (K : PySem.W.Frag) (x : String) (tab : List (String × Bool)) : Bool := tab.all fun e => decide (PySem.W.exmOne K (.ref (He.ga K (Str.ofString e.1))) (.ref (He.ga K (Str.ofString x))) = some e.2)
theorem lookup_mem' {tab : List (String × Bool)} {c : String} {b : Bool} (h : tab.lookup c = some b) : (c, b) ∈ tab := by
  induction tab with
  | nil => cases h
  | cons p l ih =>
    obtain ⟨k, v⟩ := p
    simp only [List.lookup] at h
    split at h
    · rename_i e; cases h; rw [beq_iff_eq] at e; subst e; exact List.mem_cons_self
    · exact List.mem_cons_of_mem _ (ih h)
theorem exm_tab {K : PySem.W.Frag} {x : String} {tab : List (String × Bool)} (h : xtB K x tab = true) : ExmOk K (gOf K) (.ref (He.ga K (Str.ofString x))) (xtOf tab) := ⟨fun c b C hb hG => by
  have := List.all_eq_true.mp h _ (lookup_mem' hb)
  simp only [gOf, Option.some.injEq, V.ref.injEq] at hG
  subst hG
  exact of_decide_eq_true this⟩
def xfOkB (K : PySem.W.Frag) (f : Str) (tab : List (String × Bool)) : Bool := tab.all fun e => !e.2 || (xfB K (He.ga K (Str.ofString e.1)) && decide (PySem.W.findIn K (.ref (He.ga K (Str.ofString e.1))) f = some none))
theorem xf_tab {K : PySem.W.Frag} {f : Str} {tab : List (String × Bool)} (h : xfOkB K f tab = true) : XfOk K (gOf K) (xtOf tab) f := ⟨fun c C hb hG => by
  have := List.all_eq_true.mp h _ (lookup_mem' hb)
  simp only [gOf, Option.some.injEq, V.ref.injEq] at hG
  subst hG
  simp only [Bool.not_true, Bool.false_or] at this
  obtain ⟨h1, h2⟩ := He.ba this
  exact ⟨xfB_ok h1, of_decide_eq_true h2⟩⟩
def excB (K : PySem.W.Frag) (C : Addr) : Bool := He.eqO (PySem.W.findIn K (.ref C) "__getattribute__") (some (some (.builtin "BaseException.__getattribute__"))) && (He.eqO (PySem.W.findIn K (.ref C) "__getattr__") (some none) && (decide (PySem.W.subIn K (.ref C) (.type "BaseException") = some true) &&
  (PySem.W.hasDictIn K C && (He.eqO (PySem.W.findIn K (.ref C) "__class__") (some (some (.builtin "object.__class__"))) && (He.eqO (PySem.W.specialIn K (.builtin "object.__class__") "__get__") (some (some (.builtin "getset_descriptor.__get__"))) &&
  (decide (PySem.W.takesIn K (.builtin "object.__class__") = some true) && decide (PySem.W.mroIn K C (.type "object") = some true)))))))
theorem excB_ok {K : PySem.W.Frag} {C : Addr} (h : excB K C = true) : L2.ExcC K C := by
  unfold excB at h
  obtain ⟨h1, h⟩ := He.ba h
  obtain ⟨h2, h⟩ := He.ba h
  obtain ⟨h3, h⟩ := He.ba h
  obtain ⟨h4, h⟩ := He.ba h
  obtain ⟨h5, h⟩ := He.ba h
  obtain ⟨h6, h⟩ := He.ba h
  obtain ⟨h7, h8⟩ := He.ba h
  exact ⟨He.eqO_ok h1, He.eqO_ok h2, of_decide_eq_true h3, h4, He.eqO_ok h5, He.eqO_ok h6, of_decide_eq_true h7, of_decide_eq_true h8⟩
def xiB (K : PySem.W.Frag) (tab : OTab) : Bool := tab.all fun e => e.1.1 && (decide (PySem.W.kitOne K (valT K e.1) (valT K e.2.1) = some e.2.2) && excB K (He.ga K (Str.ofString e.1.2)))
theorem xi_tab {K : PySem.W.Frag} {tab : OTab} (h : xiB K tab = true) : XiOk K (gOf K) (ownOf tab) := by
  refine ⟨fun s v h => ⟨_, (Option.some.inj h).symm⟩, fun c t b C cv e hG hc => ?_⟩
  simp only [gOf, Option.some.injEq, V.ref.injEq] at hG
  subst hG
  cases t with
  | ty n =>
    simp only [clsV, Option.some.injEq] at hc
    subst hc
    have := List.all_eq_true.mp h _ (ownOf_mem (show ownOf tab (true, c) (false, n) = some b from e))
    obtain ⟨_, h2⟩ := He.ba this
    obtain ⟨h3, h4⟩ := He.ba h2
    exact ⟨of_decide_eq_true h3, excB_ok h4⟩
  | glo n =>
    simp only [clsV, gOf, Option.some.injEq] at hc
    subst hc
    have := List.all_eq_true.mp h _ (ownOf_mem (show ownOf tab (true, c) (true, n) = some b from e))
    obtain ⟨_, h2⟩ := He.ba this
    obtain ⟨h3, h4⟩ := He.ba h2
    exact ⟨of_decide_eq_true h3, excB_ok h4⟩
  | _ => simp [isiM] at e
/-! ### running -/
section
variable {s : Lo} {h : MH} {y : XA}
@[simp] theorem sTry_ev {b xt i su} : sTry b xt i su s h = KTry xt i su (b s h) := rfl
@[simp] theorem sTryO_ev {b xt su} : sTryO b xt su s h = KTryO xt su (b s h) := rfl
@[simp] theorem KTry_nx {xt i su} : KTry xt i su (.nx s h) = .nx s h := rfl
@[simp] theorem KTry_rt {xt i su v} : KTry xt i su (.rt v h) = .rt v h := rfl
@[simp] theorem KTryO_nx {xt su} : KTryO xt su (.nx s h) = .nx s h := rfl
@[simp] theorem KTryO_rt {xt su v} : KTryO xt su (.rt v h) = .rt v h := rfl
theorem KTry_err {xt i su e} (hx : xt e.c = some true) : KTry xt i su (.err e s h) = sUni fun a d => finT i (su ⟨a, d, e.c⟩ (s.set i (some (.exa a d h.length))) (h ++ [.xd e.c e.fs])) := by
  unfold KTry; simp only [hx]
theorem KTryO_err {xt su e} (hx : xt e.c = some true) : KTryO xt su (.err e s h) = finO (su s h) := by
  unfold KTryO; simp only [hx]
@[simp] theorem finT_nx {i} : finT i (.nx s h) = .nx (s.set i none) h := rfl
@[simp] theorem finT_rt {i v} : finT i (.rt v h) = .rt v h := rfl
@[simp] theorem finO_nx : finO (.nx s h) = .nx s h := rfl
@[simp] theorem finO_rt {v} : finO (.rt v h) = .rt v h := rfl
@[simp] theorem eXf_ev {m f} : eXf y m f s h = (m s h).bnd (KXf y f) := rfl
theorem xdAt_eq {k fs} (e : h[k]? = some (.xd y.c fs)) : xdAt y (.exa y.a y.d k) h = some fs := by
  unfold xdAt
  simp [e]
end
end Mo
/-! Mo29: list comprehensions of one clause. -/
namespace Mo
open PySem L2
def wipeM (s : Lo) : List Nat → Lo
  | [] => s
  | v :: vs => (wipeM s vs).set v none
/-- an error in the block: not modelled -/
def Rz.bdN {α β : Type} (r : Rz α) (k : α → MH → Rz β) : Rz β := match r with
  | .ok v h => k v h
  | _ => .no
/-- the list at k grows -/
def putLc (k : Nat) (y : MV) (h : MH) : Option MH := match h[k]? with
  | some (.lst acc) => if acc.length < SZ then some (h.set k (.lst (acc ++ [y]))) else none
  | _ => none
def lcG (get : Itm) (g : MG) (c : MB) (m : ME) (k : Nat) : Nat → Nat → Lo → MH → Rz MV
  | 0, _, _, _ => .no
  | n + 1, i, s, h => match get i h with
    | none => .no
    | some none => .ok (.ref k) h
    | some (some x) => match g x s with
      | none => .no
      | some s1 => (c s1 h).bdN fun b h1 => if b = true then (m s1 h1).bdN fun y h2 => match putLc k y h2 with
          | some h3 => lcG get g c m k n (i + 1) s h3
          | none => .no
        else lcG get g c m k n (i + 1) s h1
def bYes : MB := fun _ h => .ok true h
def lcV (g : MG) (c : MB) (m : ME) (s : Lo) (v : MV) (h : MH) : Rz MV := match v with
  | .str z => lcG (getL (chars z)) g c m h.length (z.length + 1) 0 s (h ++ [.lst []])
  | v => match asT v with
    | some xs => lcG (getL xs) g c m h.length (xs.length + 1) 0 s (h ++ [.lst []])
    | none => match seqOf h v with
      | some xs => lcG (getSeq v) g c m h.length (xs.length + 1) 0 s (h ++ [.lst []])
      | none => .no
def eLc (it : ME) (g : MG) (c : MB) (m : ME) (vs : List Nat) : ME := fun s h => (it s h).bnd fun v h1 => lcV g c m (wipeM s vs) v h1
def eLcR (rg : List MV → Option (Int × Nat)) (as : MEs) (g : MG) (c : MB) (m : ME) (vs : List Nat) : ME := fun s h => (as s h).bnd fun xs h1 => match rg xs with
  | some (lo, n) => lcG (getR lo n) g c m h1.length (n + 1) 0 (wipeM s vs) (h1 ++ [.lst []])
  | none => .no
/-- a target of own slots -/
def GW (K : PySem.W.Frag) (G : String → Option V) (t : TG) (g : MG) (us : List Nat) : Prop :=
  ∀ {ρ : List Addr} {H : Hp} {sm s1 : Lo} {σ : St} {x : MV} {v : V} {mh : MH} {Q : St → Hp → Prop}, HR K G ρ H mh → SRl K G ρ H sm σ → VR K G ρ H x v → g x sm = some s1 → (∀ σ1, SRl K G ρ H s1 σ1 → wipe σ1 us = wipe σ us → Q σ1 H) → t v σ H Q
def GWs (K : PySem.W.Frag) (G : String → Option V) (t : TGs) (is us : List Nat) : Prop :=
  ∀ {ρ : List Addr} {H : Hp} {sm s1 : Lo} {σ : St} {xs : List MV} {vs : List V} {mh : MH} {Q : St → Hp → Prop}, HR K G ρ H mh → SRl K G ρ H sm σ → VRs K G ρ H xs vs → setAll is xs sm = some s1 → (∀ σ1, SRl K G ρ H s1 σ1 → wipe σ1 us = wipe σ us → Q σ1 H) → t vs σ H Q
section
variable {K : PySem.W.Frag} {G : String → Option V} {W : WX}
theorem wipe_get (σ : St) (j : Nat) : ∀ us : List Nat, (wipe σ us)[j]? = if j ∈ us ∧ j < σ.length then some none else σ[j]?
  | [] => by simp [wipe]
  | v :: us => by
    unfold wipe
    have ih := wipe_get σ j us
    by_cases e : v = j
    · subst e
      by_cases hl : v < σ.length
      · rw [List.getElem?_set_self (by rw [wipe_length]; exact hl)]
        simp [hl]
      · rw [List.getElem?_eq_none (by simp [wipe_length]; omega)]
        simp [hl]
    · rw [List.getElem?_set_ne e, ih]
      have : (j ∈ v :: us) ↔ j ∈ us := by simp [Ne.symm e]
      simp only [this]
theorem wipe_set {σ : St} {i : Nat} {v : Option V} {us : List Nat} (hi : i ∈ us) : wipe (σ.set i v) us = wipe σ us := by
  apply List.ext_getElem?
  intro j
  rw [wipe_get, wipe_get]
  simp only [List.length_set]
  by_cases e : i = j
  · subst e
    by_cases hl : i < σ.length
    · simp [hi, hl]
    · have h1 : σ[i]? = none := List.getElem?_eq_none (by omega)
      have h2 : (σ.set i v)[i]? = none := List.getElem?_eq_none (by simp; omega)
      simp [hl]
  · rw [List.getElem?_set_ne e]
theorem wipe_wipe {σ : St} {us : List Nat} : wipe (wipe σ us) us = wipe σ us := by
  apply List.ext_getElem?
  intro j
  rw [wipe_get, wipe_get, wipe_length]
  by_cases h : j ∈ us ∧ j < σ.length <;> simp [h]
theorem SRl.wipe {ρ : List Addr} {H : Hp} {s : Lo} {σ : St} (h : SRl K G ρ H s σ) : ∀ us : List Nat, SRl K G ρ H (wipeM s us) (L2.wipe σ us)
  | [] => h
  | v :: us => (SRl.wipe h us).gone
theorem gw_name {i : Nat} {us : List Nat} (hi : i ∈ us) : GW K G (gName i) (gN i) us := by
  intro ρ H sm s1 σ x v mh Q hr sr rv e k
  cases e
  exact k _ (sr.set rv) (wipe_set hi)
theorem gws_nil {us : List Nat} : GWs K G gNil [] us := by
  intro ρ H sm s1 σ xs vs mh Q hr sr rvs e k
  cases xs with
  | nil => simp only [VRs] at rvs; subst rvs; cases e; exact ⟨rfl, k _ sr rfl⟩
  | cons x xs => cases e
theorem gws_cons {i : Nat} {is us : List Nat} {u : TGs} (hi : i ∈ us) (h : GWs K G u is us) : GWs K G (gCons (gName i) u) (i :: is) us := by
  intro ρ H sm s1 σ xs vs mh Q hr sr rvs e k
  cases xs with
  | nil => cases e
  | cons x xs =>
    simp only [VRs] at rvs
    obtain ⟨v, r, rfl, q, t⟩ := rvs
    exact ⟨v, r, rfl, h hr (sr.set q) t e fun σ1 s1 e1 => k σ1 s1 (e1.trans (wipe_set hi))⟩
theorem gw_tup {is us : List Nat} {u : TGs} (h : GWs K G u is us) : GW K G (gTup K is.length u) (gT is) us := by
  intro ρ H sm s1 σ x v mh Q hr sr rv e k
  unfold gT at e
  cases e1 : asT x with
  | none => rw [e1] at e; cases e
  | some xs =>
    rw [e1] at e
    have e' : setAll is xs sm = some s1 := e
    obtain ⟨a, vs, rfl, h1, h2⟩ := rv.tup e1
    exact ⟨a, vs, rfl, h1, by rw [← h2.length, setAll_len e'], h hr sr h2 e' k⟩
theorem lc_sim {ρ0 ρ : List Addr} {H0 H : Hp} {J : It} {get : Itm} {t : TG} {g : MG} {c : MB} {m : ME} {us : List Nat} {n : Nat} {sm : Lo} {σ : St} {mh : MH} {Q : VK} {D : Addr} (T : ItS K G ρ0 H0 J get) (hg : GW K G t g us) (x0 : Ext K ρ0 H0 ρ H) (r0 : Rl K G ρ H sm σ mh)
    (hD : H D = none) (h : RO K G W σ (PV K G Q) ρ H (lcG get g c m mh.length n 0 (wipeM sm us) (mh ++ [.lst []]))) :
    ∃ W' : Nat → Nat → Hp → Prop, (∃ q, W' 0 q (upd H D (.lst []))) ∧ ∀ i q H, W' i q H →
      (J.stop i H ∧ Q (.ref D) H) ∨ (J.go i H ∧ ∃ Nx : Hp → Prop, (∀ H', Nx H' → ∃ m', m' < q ∧ W' (i + 1) m' H') ∧ ∀ x H', J.yld i H x H' → t x (wipe σ us) H' fun σ2 H2 => wipe σ2 us = wipe σ us ∧ RT K G noW c σ2 H2 fun b H3 =>
        if b = true then RE K G noW m σ2 H3 fun y H4 => ∃ acc, H4 D = some (.lst acc) ∧ acc.length < sizeLine ∧ Nx (upd H4 D (.lst (acc ++ [y]))) else Nx H3) := by
  let P : Nat → Nat → Hp → Prop := fun i q H => ∃ ρ mh', Ext K ρ0 H0 ρ H ∧ HR K G ρ H mh' ∧ ρ[mh.length]? = some D ∧ SRl K G ρ H (wipeM sm us) (wipe σ us) ∧ RO K G W σ (PV K G Q) ρ H (lcG get g c m mh.length q i (wipeM sm us) mh')
  refine ⟨P, ⟨n, ?_⟩, ?_⟩
  · obtain ⟨h1, x1⟩ := r0.hr.new (u := .lst []) (o := .lst []) hD ⟨[], upd_same, VRs.nil⟩
    exact ⟨ρ ++ [D], mh ++ [.lst []], x0.trans x1, h1, by rw [← r0.hr.len, List.getElem?_append_right (Nat.le_refl _)]; simp, (r0.sr.wipe us).ext x1, h.ext x1⟩
  rintro i q H1 ⟨ρ1, mh1, x, hr, hk, sr, q1⟩
  cases q with
  | zero => exact False.elim q1
  | succ q =>
    unfold lcG at q1
    cases e : get i mh1 with
    | none => rw [e] at q1; exact False.elim q1
    | some o =>
      rw [e] at q1
      cases o with
      | none => exact .inl ⟨T.stop x hr e, RO.ok (P := PV K G Q) q1 hr _ (by simp only [VR]; exact ⟨D, rfl, hk⟩)⟩
      | some v =>
        refine .inr ⟨T.go x hr e, fun H' => P (i + 1) q H', fun H' z => ⟨q, Nat.lt_succ_self _, z⟩, fun y H' hy => ?_⟩
        obtain ⟨ρ', x', hr', rv⟩ := T.yld x hr e hy
        dsimp only at q1
        cases e2 : g v (wipeM sm us) with
        | none => rw [e2] at q1; exact False.elim q1
        | some s1 =>
          rw [e2] at q1
          refine hg hr' (sr.ext x') rv e2 fun σ1 sr1 w1 => ⟨w1.trans wipe_wipe, ρ', s1, mh1, ⟨hr', sr1⟩, ?_⟩
          dsimp only at q1
          cases e3 : c s1 mh1 with
          | no => rw [e3] at q1; exact False.elim q1
          | err z m1 => rw [e3] at q1; exact False.elim q1
          | ok b mh2 =>
            rw [e3] at q1
            dsimp only [Rz.bdN] at q1
            intro ρ2 H2 x2 hr2
            have xx := x'.trans x2
            cases b with
            | false =>
              rw [if_neg Bool.false_ne_true] at q1
              dsimp only [PB]
              rw [if_neg Bool.false_ne_true]
              exact ⟨ρ2, mh2, x.trans xx, hr2, xx.at hk, sr.ext xx, q1.ext xx⟩
            | true =>
              rw [if_pos rfl] at q1
              dsimp only [PB]
              rw [if_pos rfl]
              refine ⟨ρ2, s1, mh2, ⟨hr2, sr1.ext x2⟩, ?_⟩
              cases e4 : m s1 mh2 with
              | no => rw [e4] at q1; exact False.elim q1
              | err z m1 => rw [e4] at q1; exact False.elim q1
              | ok u mh3 =>
                rw [e4] at q1
                dsimp only at q1
                intro ρ3 H3 x3 hr3 u1 ru
                have x4 := xx.trans x3
                unfold putLc at q1
                split at q1
                · rename_i h4 e5
                  split at e5
                  · rename_i acc e6
                    split at e5
                    · rename_i hl
                      cases e5
                      obtain ⟨vs, g1, g2⟩ := hr3.get e6 (x4.at hk)
                      refine ⟨vs, g1, by rw [SZ_eq, ← g2.length]; exact hl, ?_⟩
                      obtain ⟨w1, w2⟩ := hr3.write (u := .lst (vs ++ [u1])) (o1 := .lst (acc ++ [u])) e6 (x4.at hk) ⟨_, upd_same, (g2.append (VRs.cons ru VRs.nil)).ext (ext_write g1 (by simp [Plain]))⟩
                      have x5 := x4.trans w2
                      exact ⟨ρ3, _, x.trans x5, w1, x5.at hk, sr.ext x5, q1.ext x5⟩
                    · cases e5
                  · cases e5
                · exact False.elim q1
end
section
variable {X : Cx} {G : String → Option V} {W : WX} {elt tg iter a b' : Expr} {ifs : List Expr} {scope : Scope} {own : List (Str × Nat)} {pos spos p cpos : Pos} {mi m : ME} {ms : MEs} {c : MB} {t : TG} {g : MG}
theorem takes_no : Takes X noW := fun u s' h => by
  obtain ⟨a, B, sI, pins, σ, H, cls, d, h⟩ := h
  exact (h.2.2.2.2.2.2.2.2).elim
theorem m_tests0 : PTs X [] (RT X.K G noW bYes) := ⟨fun pins s σ H Q I ⟨ρ, sm, mh, r, q⟩ => pts_nil.run pins s σ H Q I (RO.ok (P := PB Q) q r.hr)⟩
theorem m_tests1 {e : Expr} (h : PT X e (RT X.K G noW c)) : PTs X [e] (RT X.K G noW c) := pts_one h
theorem lc_re {us : List Nat} (hgw : GW X.K G t g us) (σ : St) (H : Hp) (Q : VK) (h : RE X.K G W (eLc mi g c m us) σ H Q) :
    tLc (iList X.K (RE X.K G W mi)) t (RT X.K G noW c) (RE X.K G noW m) us σ H Q ∨ tLc (iTup X.K (RE X.K G W mi)) t (RT X.K G noW c) (RE X.K G noW m) us σ H Q ∨ tLc (iStr (RE X.K G W mi)) t (RT X.K G noW c) (RE X.K G noW m) us σ H Q := by
  obtain ⟨ρ, sm, mh, r, q⟩ := h
  unfold eLc at q
  cases e : mi sm mh with
  | no => rw [e] at q; exact False.elim q
  | err v m1 =>
    rw [e] at q
    refine .inl ⟨ρ, sm, mh, r, ?_⟩
    rw [e]
    exact q
  | ok v m1 =>
    have run : ∀ {Q : VK}, (∀ ρ1 H1 w, Ext X.K ρ H ρ1 H1 → Rl X.K G ρ1 H1 sm σ m1 → VR X.K G ρ1 H1 v w → Q w H1) → RE X.K G W mi σ H Q := fun {Q} k => by
      refine ⟨ρ, sm, mh, r, ?_⟩
      rw [e]
      exact fun ρ1 H1 x hr w rv => k ρ1 H1 w x (r.at x hr) rv
    rw [e] at q
    dsimp only [Rz.bnd, lcV] at q
    split at q
    · rename_i z
      refine .inr (.inr (run fun ρ1 H1 w x1 r1 rv => ?_))
      simp only [VR] at rv
      subst rv
      exact ⟨z, rfl, fun D hD => lc_sim its_str hgw (Ext.refl (ρ := ρ1)) r1 hD (RO.ext q x1)⟩
    · split at q
      · rename_i xs hx
        refine .inr (.inl (run fun ρ1 H1 w x1 r1 rv => ?_))
        obtain ⟨a, vs, rfl, h1, h2⟩ := rv.tup hx
        exact ⟨a, rfl, ⟨vs, h1⟩, fun D hD => lc_sim (its_tup rv hx) hgw (Ext.refl (ρ := ρ1)) r1 hD (RO.ext q x1)⟩
      · rename_i hx
        split at q
        · rename_i xs hq
          refine .inl (run fun ρ1 H1 w x1 r1 rv => ?_)
          obtain ⟨a, vs, rfl, h1, h2⟩ := seq_V r1.hr hq rv
          refine ⟨a, rfl, ?_, fun D hD => lc_sim (its_list rv hx) hgw (Ext.refl (ρ := ρ1)) r1 hD (RO.ext q x1)⟩
          rcases h1 with h1 | h1
          · exact ⟨vs, h1⟩
          · have z : ∃ vs, SqL X.K H1 a vs := by
              cases v with
              | ref i =>
                simp only [seqOf] at hq
                split at hq
                · rename_i q2
                  obtain ⟨b, ws, e1, _, h3, _⟩ := r1.hr.lst q2 rv
                  cases e1
                  exact ⟨ws, SqL.of h3⟩
                · cases hq
              | frl ys =>
                simp only [VR] at rv
                obtain ⟨b, ws, e1, h3, _⟩ := rv
                cases e1
                exact ⟨ws, h3.sq⟩
              | tup _ => simp [asT] at hx
              | ktp _ => simp [asT] at hx
              | _ => simp [seqOf] at hq
            exact z
        · exact False.elim q
abbrev InBlk (X : Cx) (scope : Scope) (p : Cx → Prop) : Prop := ∀ (s : Shared) (H : Hp) (C : Addr) (cl : List (Str × Addr)) (fp : List Addr), p (X.blk s H scope (compEnvC scope cl C X.env) fp)
theorem m_lc (hc : X.calm = true) (hN : X.N.Nodup) (ok : BlkOk X.N X.env.scope scope own) (hi : PE X iter (RE X.K G W mi)) (hgw : GW X.K G t g (own.map (·.2)))
    (hg : InBlk X scope fun Y => PG Y tg t) (ht : InBlk X scope fun Y => PTs Y ifs (RT X.K G noW c)) (he : InBlk X scope fun Y => PE Y elt (RE X.K G noW m)) (hs : ∀ x, foldedSetIterable iter X.env x = pure x := by intro _; rfl) :
    PE X (.ListComp elt [⟨tg, iter, ifs, 0⟩] scope pos) (RE X.K G W (eLc mi g c m (own.map (·.2)))) :=
  pe_imp (pe_alt (pe_lc hc hN (pi_list hi) ok hg ht he hs) (pe_alt (pe_lc hc hN (pi_tup hi) ok hg ht he hs) (pe_lc hc hN (pi_str hi) ok hg ht he hs))) fun σ H Q h => lc_re hgw σ H Q h
theorem m_setLc {i : Nat} {y : Str} {py : Pos} (hc : X.calm = true) (hN : X.N.Nodup) (hy : X.N[i]? = some y) (hyl : X.env.scope.names.lookup y = some .local) (hsw : swapsWith (.ListComp elt [⟨tg, iter, ifs, 0⟩] scope pos) (some (.Name y py)) spos.line X.env = pure true)
    (ok : BlkOk X.N X.env.scope scope own) (hi : PE X iter (RE X.K G W mi)) (hgw : GW X.K G t g (own.map (·.2)))
    (hg : InBlk X scope fun Y => PG Y tg t) (ht : InBlk X scope fun Y => PTs Y ifs (RT X.K G noW c)) (he : InBlk X scope fun Y => PE Y elt (RE X.K G noW m)) (hs : ∀ x, foldedSetIterable iter X.env x = pure x := by intro _; rfl) :
    PS X (.Assign [.Name y py] (.ListComp elt [⟨tg, iter, ifs, 0⟩] scope pos) spos) (RS X.K G W (sAsg (eLc mi g c m (own.map (·.2))) (gN i))) :=
  ps_imp (ps_alt (ps_setLc hc hN hy hyl hsw (pi_list hi) ok hg ht he hs) (ps_alt (ps_setLc hc hN hy hyl hsw (pi_tup hi) ok hg ht he hs) (ps_setLc hc hN hy hyl hsw (pi_str hi) ok hg ht he hs)))
    fun D σ H h => asg_re gs_name (te := fun σ H Q => tLc (iList X.K (RE X.K G W mi)) t (RT X.K G noW c) (RE X.K G noW m) (own.map fun y : Str × Nat => y.2) σ H Q ∨ tLc (iTup X.K (RE X.K G W mi)) t (RT X.K G noW c) (RE X.K G noW m) (own.map fun y : Str × Nat => y.2) σ H Q ∨ tLc (iStr (RE X.K G W mi)) t (RT X.K G noW c) (RE X.K G noW m) (own.map fun y : Str × Nat => y.2) σ H Q) (fun σ H Q h => lc_re hgw σ H Q h) D σ H h
end
/-! ### running -/
section
variable {s : Lo} {h : MH} {get : Itm} {g : MG} {c : MB} {m : ME}
def KCo (r : Rz MV) (g : MG) (c : MB) (m : ME) (s : Lo) : Rz MV := r.bnd (lcV g c m s)
def KCoR (r : Rz (List MV)) (rg : List MV → Option (Int × Nat)) (g : MG) (c : MB) (m : ME) (s : Lo) : Rz MV := r.bnd fun xs h1 => match rg xs with
  | some (lo, n) => lcG (getR lo n) g c m h1.length (n + 1) 0 s (h1 ++ [.lst []])
  | none => .no
theorem eLc_ev {it us} : eLc it g c m us s h = KCo (it s h) g c m (wipeM s us) := rfl
theorem KCo_ok {v} : KCo (.ok v h) g c m s = lcV g c m s v h := rfl
theorem lcV_str {z} : lcV g c m s (.str z) h = lcG (getL (chars z)) g c m h.length (z.length + 1) 0 s (h ++ [.lst []]) := rfl
theorem lcV_tup {v xs} (e : asT v = some xs) : lcV g c m s v h = lcG (getL xs) g c m h.length (xs.length + 1) 0 s (h ++ [.lst []]) := by
  unfold lcV
  split
  · simp [asT] at e
  · rw [e]
theorem lcV_ref {i xs} (e : seqOf h (.ref i) = some xs) : lcV g c m s (.ref i) h = lcG (getSeq (.ref i)) g c m h.length (xs.length + 1) 0 s (h ++ [.lst []]) := by
  unfold lcV
  simp only [asT, e]
theorem lcV_frl {xs} : lcV g c m s (.frl xs) h = lcG (getL xs) g c m h.length (xs.length + 1) 0 s (h ++ [.lst []]) := by
  unfold lcV
  simp only [asT, seqOf]
  congr 1
theorem lcG_run {xs : List MV} {f : MV → MV} {p : MV → Bool} (hl : xs.length ≤ SZ) (hget : ∀ i acc, i ≤ xs.length → get i (h ++ [.lst acc]) = some xs[i]?)
    (hstep : ∀ x ∈ xs, ∃ s1, g x s = some s1 ∧ ∀ acc, c s1 (h ++ [.lst acc]) = .ok (p x) (h ++ [.lst acc]) ∧ (p x = true → m s1 (h ++ [.lst acc]) = .ok (f x) (h ++ [.lst acc]))) :
    lcG get g c m h.length (xs.length + 1) 0 s (h ++ [.lst []]) = .ok (.ref h.length) (h ++ [.lst ((xs.filter p).map f)]) := by
  have key : ∀ k i, i + k = xs.length → lcG get g c m h.length (k + 1) i s (h ++ [.lst (((xs.take i).filter p).map f)]) = .ok (.ref h.length) (h ++ [.lst ((xs.filter p).map f)]) := by
    intro k
    induction k with
    | zero =>
      intro i hi
      have hi' : i = xs.length := by omega
      subst hi'
      unfold lcG
      rw [hget _ _ (Nat.le_refl _)]
      simp
    | succ k ih =>
      intro i hi
      have hlt : i < xs.length := by omega
      unfold lcG
      rw [hget _ _ (by omega), List.getElem?_eq_getElem hlt]
      obtain ⟨s1, e1, e2⟩ := hstep xs[i] (List.getElem_mem hlt)
      obtain ⟨e3, e4⟩ := e2 (((xs.take i).filter p).map f)
      have ht : xs.take (i + 1) = xs.take i ++ [xs[i]] := by rw [List.take_succ, List.getElem?_eq_getElem hlt]; rfl
      have n := ih (i + 1) (by omega)
      rw [ht, List.filter_append, List.map_append] at n
      simp only [e1, e3, Rz.bdN]
      cases hp : p xs[i] with
      | false =>
        simp only [List.filter_cons, hp, List.filter_nil] at n
        simpa using n
      | true =>
        simp only [List.filter_cons, hp, List.filter_nil] at n
        rw [if_pos rfl, e4 hp]
        have hle : (((xs.take i).filter p).map f).length < SZ := by
          rw [List.length_map]
          have := List.length_filter_le p (xs.take i)
          rw [List.length_take] at this
          omega
        have hput : putLc h.length (f xs[i]) (h ++ [.lst (((xs.take i).filter p).map f)]) = some (h ++ [.lst (((xs.take i).filter p).map f ++ [f xs[i]])]) := by
          unfold putLc
          rw [List.getElem?_append_right (Nat.le_refl _)]
          simp only [Nat.sub_self, List.getElem?_cons_zero, if_pos hle]
          simp [List.set_append_right]
        simp only [hput]
        simpa using n
  have := key xs.length 0 (by omega)
  simpa using this
theorem lcL_run {xs : List MV} {f : MV → MV} {p : MV → Bool} (hl : xs.length ≤ SZ)
    (hstep : ∀ x ∈ xs, ∃ s1, g x s = some s1 ∧ ∀ acc, c s1 (h ++ [.lst acc]) = .ok (p x) (h ++ [.lst acc]) ∧ (p x = true → m s1 (h ++ [.lst acc]) = .ok (f x) (h ++ [.lst acc]))) :
    lcG (getL xs) g c m h.length (xs.length + 1) 0 s (h ++ [.lst []]) = .ok (.ref h.length) (h ++ [.lst ((xs.filter p).map f)]) := lcG_run hl (fun _ _ _ => rfl) hstep
/-- over a list that stands in the heap -/
theorem lcS_run {i : Nat} {xs : List MV} {f : MV → MV} {p : MV → Bool} (hl : xs.length ≤ SZ) (hx : h[i]? = some (.lst xs))
    (hstep : ∀ x ∈ xs, ∃ s1, g x s = some s1 ∧ ∀ acc, c s1 (h ++ [.lst acc]) = .ok (p x) (h ++ [.lst acc]) ∧ (p x = true → m s1 (h ++ [.lst acc]) = .ok (f x) (h ++ [.lst acc]))) :
    lcV g c m s (.ref i) h = .ok (.ref h.length) (h ++ [.lst ((xs.filter p).map f)]) := by
  rw [lcV_ref (xs := xs) (by simp [seqOf, hx])]
  refine lcG_run hl (fun j acc _ => ?_) hstep
  unfold getSeq
  have hlt := (List.getElem?_eq_some_iff.mp hx).1
  simp only [seqOf, List.getElem?_append_left hlt, hx]
  rfl
end
end Mo
/-! Mo30: comprehensions over ranges; the facts of raise by tests. -/
namespace Mo
open PySem L2
section
variable {X : Cx} {G : String → Option V} {W : WX} {elt tg a b' : Expr} {ifs : List Expr} {scope : Scope} {own : List (Str × Nat)} {pos spos p cpos py : Pos} {m : ME} {ms : MEs} {c : MB} {t : TG} {g : MG} {i : Nat} {y : Str}
theorem lcr1_re {us : List Nat} (hgw : GW X.K G t g us) (σ : St) (H : Hp) (Q : VK) (h : RE X.K G W (eLcR rng1 ms g c m us) σ H Q) : tLc (iRng1 (RA X.K G W ms)) t (RT X.K G noW c) (RE X.K G noW m) us σ H Q := by
  obtain ⟨ρ, sm, mh, r, q⟩ := h
  refine ra_bnd r q fun xs ρ1 H1 mh1 vs x1 r1 rvs q1 => ?_
  unfold rng1 at q1
  split at q1
  · rename_i e
    split at e
    · rename_i j
      obtain ⟨v, rfl, rv⟩ := rvs.one
      simp only [VR] at rv
      subst rv
      split at e
      · rename_i hj
        cases e
        exact ⟨j, rfl, hj.1, hj.2, fun D hD => lc_sim its_rng hgw (Ext.refl (ρ := ρ1)) r1 hD q1⟩
      · cases e
    · cases e
  · exact False.elim q1
theorem lcr2_re {us : List Nat} (hgw : GW X.K G t g us) (σ : St) (H : Hp) (Q : VK) (h : RE X.K G W (eLcR rng2 ms g c m us) σ H Q) : tLc (iRng2 (RA X.K G W ms)) t (RT X.K G noW c) (RE X.K G noW m) us σ H Q := by
  obtain ⟨ρ, sm, mh, r, q⟩ := h
  refine ra_bnd r q fun xs ρ1 H1 mh1 vs x1 r1 rvs q1 => ?_
  unfold rng2 at q1
  split at q1
  · rename_i e
    split at e
    · rename_i i j
      obtain ⟨v, v2, rfl, rv, rv2⟩ := rvs.two
      simp only [VR] at rv rv2
      subst rv rv2
      split at e
      · rename_i hj
        cases e
        exact ⟨_, _, rfl, hj, fun D hD => lc_sim its_rng hgw (Ext.refl (ρ := ρ1)) r1 hD q1⟩
      · cases e
    · cases e
  · exact False.elim q1
theorem m_lcR1 (hc : X.calm = true) (hN : X.N.Nodup) (ok : BlkOk X.N X.env.scope scope own) (hgl : Gl X "range") (hm : X.mg "range" = none) (ha : PA X [a] (RA X.K G W ms)) (hgw : GW X.K G t g (own.map (·.2)))
    (hg : InBlk X scope fun Y => PG Y tg t) (ht : InBlk X scope fun Y => PTs Y ifs (RT X.K G noW c)) (he : InBlk X scope fun Y => PE Y elt (RE X.K G noW m)) (hs : starEach [a] X.env = [(false, eval a X.env)] := by rfl) (hs2 : ∀ x, foldedSetIterable (.Call (.Name "range" p) [a] [] cpos) X.env x = pure x := by intro _; rfl) :
    PE X (.ListComp elt [⟨tg, .Call (.Name "range" p) [a] [] cpos, ifs, 0⟩] scope pos) (RE X.K G W (eLcR rng1 ms g c m (own.map (·.2)))) :=
  pe_imp (pe_lc hc hN (pi_range1 hgl hm ha hs) ok hg ht he hs2) fun σ H Q h => lcr1_re hgw σ H Q h
theorem m_lcR2 (hc : X.calm = true) (hN : X.N.Nodup) (ok : BlkOk X.N X.env.scope scope own) (hgl : Gl X "range") (hm : X.mg "range" = none) (ha : PA X [a, b'] (RA X.K G W ms)) (hgw : GW X.K G t g (own.map (·.2)))
    (hg : InBlk X scope fun Y => PG Y tg t) (ht : InBlk X scope fun Y => PTs Y ifs (RT X.K G noW c)) (he : InBlk X scope fun Y => PE Y elt (RE X.K G noW m)) (hs : starEach [a, b'] X.env = [(false, eval a X.env), (false, eval b' X.env)] := by rfl) (hs1 : starEach [b'] X.env = [(false, eval b' X.env)] := by rfl)
    (hs2 : ∀ x, foldedSetIterable (.Call (.Name "range" p) [a, b'] [] cpos) X.env x = pure x := by intro _; rfl) :
    PE X (.ListComp elt [⟨tg, .Call (.Name "range" p) [a, b'] [] cpos, ifs, 0⟩] scope pos) (RE X.K G W (eLcR rng2 ms g c m (own.map (·.2)))) :=
  pe_imp (pe_lc hc hN (pi_range2 hgl hm ha hs hs1) ok hg ht he hs2) fun σ H Q h => lcr2_re hgw σ H Q h
theorem m_setLcR1 (hc : X.calm = true) (hN : X.N.Nodup) (hy : X.N[i]? = some y) (hyl : X.env.scope.names.lookup y = some .local) (hsw : swapsWith (.ListComp elt [⟨tg, .Call (.Name "range" p) [a] [] cpos, ifs, 0⟩] scope pos) (some (.Name y py)) spos.line X.env = pure true)
    (ok : BlkOk X.N X.env.scope scope own) (hgl : Gl X "range") (hm : X.mg "range" = none) (ha : PA X [a] (RA X.K G W ms)) (hgw : GW X.K G t g (own.map (·.2)))
    (hg : InBlk X scope fun Y => PG Y tg t) (ht : InBlk X scope fun Y => PTs Y ifs (RT X.K G noW c)) (he : InBlk X scope fun Y => PE Y elt (RE X.K G noW m)) (hs : starEach [a] X.env = [(false, eval a X.env)] := by rfl) (hs2 : ∀ x, foldedSetIterable (.Call (.Name "range" p) [a] [] cpos) X.env x = pure x := by intro _; rfl) :
    PS X (.Assign [.Name y py] (.ListComp elt [⟨tg, .Call (.Name "range" p) [a] [] cpos, ifs, 0⟩] scope pos) spos) (RS X.K G W (sAsg (eLcR rng1 ms g c m (own.map (·.2))) (gN i))) :=
  ps_imp (ps_setLc hc hN hy hyl hsw (pi_range1 hgl hm ha hs) ok hg ht he hs2) fun D σ H h => asg_re gs_name (fun σ H Q h => lcr1_re hgw σ H Q h) D σ H h
theorem m_setLcR2 (hc : X.calm = true) (hN : X.N.Nodup) (hy : X.N[i]? = some y) (hyl : X.env.scope.names.lookup y = some .local) (hsw : swapsWith (.ListComp elt [⟨tg, .Call (.Name "range" p) [a, b'] [] cpos, ifs, 0⟩] scope pos) (some (.Name y py)) spos.line X.env = pure true)
    (ok : BlkOk X.N X.env.scope scope own) (hgl : Gl X "range") (hm : X.mg "range" = none) (ha : PA X [a, b'] (RA X.K G W ms)) (hgw : GW X.K G t g (own.map (·.2)))
    (hg : InBlk X scope fun Y => PG Y tg t) (ht : InBlk X scope fun Y => PTs Y ifs (RT X.K G noW c)) (he : InBlk X scope fun Y => PE Y elt (RE X.K G noW m)) (hs : starEach [a, b'] X.env = [(false, eval a X.env), (false, eval b' X.env)] := by rfl) (hs1 : starEach [b'] X.env = [(false, eval b' X.env)] := by rfl)
    (hs2 : ∀ x, foldedSetIterable (.Call (.Name "range" p) [a, b'] [] cpos) X.env x = pure x := by intro _; rfl) :
    PS X (.Assign [.Name y py] (.ListComp elt [⟨tg, .Call (.Name "range" p) [a, b'] [] cpos, ifs, 0⟩] scope pos) spos) (RS X.K G W (sAsg (eLcR rng2 ms g c m (own.map (·.2))) (gN i))) :=
  ps_imp (ps_setLc hc hN hy hyl hsw (pi_range2 hgl hm ha hs hs1) ok hg ht he hs2) fun D σ H h => asg_re gs_name (fun σ H Q h => lcr2_re hgw σ H Q h) D σ H h
end
section
variable {X : Cx} {G : String → Option V} {W : WX} {e : Expr} {es : List Expr} {mo : ME} {ms : MEs} {x : Str} {p pos : Pos} {k n : Nat} {fa C : Addr} {fd : FuncData} {ps : List Str} {f : MF} {c : String}
theorem m_icallN (hG : G c = some (.ref C)) (hm : Meth X.K C "__call__" fa) (hfn : PySem.W.fnIn X.K fa = true) (F : FnOk X.prog X.w X.K X.mg X.base (L2.CX X.prog X.w) k fa fd ps (SpM X.K G n f)) (hn : ps.length = n) (hr : Room k X.A) (hb : Binds X.K fd ps []) (tk : Takes X W)
    (ho : PE X (.Name x p) (RE X.K G W mo)) (ha : PA X (e :: es) (RA X.K G W ms)) (he : starEach (e :: es) X.env = (false, eval e X.env) :: starEach es X.env := by rfl) (hpl : (backTo pos (starEach es X.env)).any (·.1) = false := by rfl) :
    PE X (.Call (.Name x p) (e :: es) [] pos) (RE X.K G W (eICall c n f mo ms)) := by
  subst hn
  exact m_icall hG hm hfn F hr hb tk ho ha he hpl
end
/-! ### the facts of raise -/
def oexB (K : PySem.W.Frag) (C : Addr) : Bool := (match K.lookup C with
  | some ⟨.type t, _, .cls cd, sl⟩ => decide (t = "type") && ((match cd.mro with | .ref c :: bm => decide (c = C) && PySem.HandSPX.refsVE bm | _ => false) && (cd.hasDict && (!cd.hasDel && (match sl.toList with | [_, _, _, _, k, _] => k == some (.builtin "ValueError.__new__") | _ => false))))
  | _ => false) && (decide (PySem.W.findIn K (.ref C) "__setattr__" = some (some (.builtin "object.__setattr__"))) && (decide (PySem.W.subIn K (.ref C) (.type "BaseException") = some true) && (decide (PySem.W.typeIn K (.ref C) = some (.type "type")) && PySem.W.keepIn K (.ref C))))
theorem oex_of {K : PySem.W.Frag} {C : Addr} (h : oexB K C = true) : OexC K C := by
  unfold oexB at h
  obtain ⟨h1, h⟩ := He.ba h
  obtain ⟨h2, h⟩ := He.ba h
  obtain ⟨h3, h⟩ := He.ba h
  obtain ⟨h4, h5⟩ := He.ba h
  refine ⟨?_, of_decide_eq_true h2, of_decide_eq_true h3, of_decide_eq_true h4, h5⟩
  split at h1
  · rename_i t dd cd sl e
    obtain ⟨a1, h1⟩ := He.ba h1
    obtain ⟨a2, h1⟩ := He.ba h1
    obtain ⟨a3, h1⟩ := He.ba h1
    obtain ⟨a4, a5⟩ := He.ba h1
    have a1 := of_decide_eq_true a1
    subst a1
    obtain ⟨nm, bs, mro, ns, qn, hd, sn, sub, ab, col, del⟩ := cd
    dsimp only at a2 a3 a4
    rcases mro with _ | ⟨c0, bm⟩
    · cases a2
    · cases c0 with
      | ref c =>
        obtain ⟨a6, a7⟩ := He.ba a2
        have a6 := of_decide_eq_true a6
        subst a6
        generalize hl : sl.toList = l at a5
        split at a5
        · rename_i k0 k1 k2 k3 k4 k5
          have hs : sl = #[k0, k1, k2, k3, k4, k5] := by rw [← Array.toList_inj, hl]
          subst hs
          have a8 : k4 = some (.builtin "ValueError.__new__") := beq_iff_eq.mp a5
          subst a8 a3
          have a9 : del = false := by simpa using a4
          subst a9
          exact ⟨nm, qn, ns, bs, bm, sn, sub, ab, col, dd, k0, k1, k2, k3, k5, e, a7⟩
        · cases a5
      | _ => cases a2
  · cases h1
def ccOf (K : PySem.W.Frag) (f : Addr) : Addr := match K.lookup f with
  | some ⟨_, _, .func fd, _⟩ => (match fd.closure with | [(_, c)] => c | _ => 0)
  | _ => 0
def cdOf (K : PySem.W.Frag) (f : Addr) : Addr := match K.lookup f with
  | some ⟨_, _, .func fd, _⟩ => (match fd.code with | .ref c => c | _ => 0)
  | _ => 0
def supB (K : PySem.W.Frag) (fl : Str) (C f : Addr) (qual : Str) : Bool := decide (PySem.W.findIn K (.ref C) "__init__" = some (some (.ref f))) && (decide (PySem.W.typeIn K (.ref f) = some (.type "function")) &&
  ((match K.lookup f with | some ⟨_, _, .func fd, _⟩ => (fd.code == .ref (cdOf K f)) && (fd.defaults == .none) | _ => false) && (PySem.W.codeIn K (.ref (cdOf K f)) qual &&
  ((match K.lookup (cdOf K f) with | some ⟨_, _, .fields vs, _⟩ => (match (vs[2]? : Option Value) with | some (Value.str fi _) => fl == fi | _ => false) | _ => false) &&
  ((match K.lookup (ccOf K f) with | some ⟨_, _, .cell (some (.ref D)), _⟩ => decide (D = C) | _ => false) &&
  (decide (PySem.W.nsIn K PySem.cStatics "thirdparty.any" = some none) && (decide (PySem.W.mroIn K C (.ref C) = some true) && (decide (PySem.W.ks_superIn K C C "__init__" = some (some (.builtin "ValueError.__init__"))) && decide (PySem.W.subIn K (.ref C) (.type "ValueError") = some true)))))))))
def fnC (K : PySem.W.Frag) (f : Addr) (qual : Str) (prm : Arguments) (body : List Stmt) (scope : Scope) : Prop := He5.fnA K f = some (("__init__" : Str), qual, prm, FuncBody.stmts body, scope, mainGlobals, [(("__class__" : Str), ccOf K f)], builtinsNs)
/-- an own exception's __init__ stands at f -/
structure ExcI (K : PySem.W.Frag) (fl : Str) (C f : Addr) (qual : Str) (prm : Arguments) (body : List Stmt) (scope : Scope) : Prop where
  lk : ∃ oc od osl kV doc pm an ct, K.lookup f = some ⟨oc, od, .func (PySem.W.ksFn "__init__" qual prm body scope .none kV doc pm an (.ref (cdOf K f)) ct (ccOf K f)), osl⟩
  ini : PySem.W.findIn K (.ref C) "__init__" = some (some (.ref f))
  tI : PySem.W.typeIn K (.ref f) = some (.type "function")
  cd : PySem.W.codeIn K (.ref (cdOf K f)) qual = true
  fil : ∃ cl dd vs sl file tf, K.lookup (cdOf K f) = some ⟨cl, dd, .fields vs, sl⟩ ∧ vs[2]? = some (.str file tf) ∧ (fl == file) = true
  cell : ∃ cl dd sl, K.lookup (ccOf K f) = some ⟨cl, dd, .cell (some (.ref C)), sl⟩
  opq : PySem.W.nsIn K PySem.cStatics "thirdparty.any" = some none
  mro : PySem.W.mroIn K C (.ref C) = some true
  sup : PySem.W.ks_superIn K C C "__init__" = some (some (.builtin "ValueError.__init__"))
  isB : PySem.W.subIn K (.ref C) (.type "ValueError") = some true
theorem exci_of {K : PySem.W.Frag} {fl : Str} {C f : Addr} {qual : Str} {prm : Arguments} {body : List Stmt} {scope : Scope} (e : fnC K f qual prm body scope) (h : supB K fl C f qual = true) : ExcI K fl C f qual prm body scope := by
  unfold supB at h
  obtain ⟨h1, h⟩ := He.ba h
  obtain ⟨h2, h⟩ := He.ba h
  obtain ⟨h3, h⟩ := He.ba h
  obtain ⟨h4, h⟩ := He.ba h
  obtain ⟨h5, h⟩ := He.ba h
  obtain ⟨h6, h⟩ := He.ba h
  obtain ⟨h7, h⟩ := He.ba h
  obtain ⟨h8, h⟩ := He.ba h
  obtain ⟨h9, h10⟩ := He.ba h
  refine ⟨?_, of_decide_eq_true h1, of_decide_eq_true h2, h4, ?_, ?_, of_decide_eq_true h7, of_decide_eq_true h8, of_decide_eq_true h9, of_decide_eq_true h10⟩
  · unfold fnC He5.fnA at e
    split at h3
    · rename_i oc od fd osl q
      rw [q] at e
      obtain ⟨a1, a2⟩ := He.ba h3
      obtain ⟨n1, n2, n3, n4, n5, n6, n7, n8, n9, n10, n11, n12, n13, n14, n15⟩ := fd
      have b1 : n13 = .ref (cdOf K f) := beq_iff_eq.mp a1
      have b2 : n8 = .none := beq_iff_eq.mp a2
      dsimp only at e
      simp only [Option.some.injEq, Prod.mk.injEq] at e
      obtain ⟨rfl, rfl, rfl, rfl, rfl, rfl, e7, rfl⟩ := e
      rw [e7, b1, b2] at q
      exact ⟨oc, od, osl, _, _, _, _, _, q⟩
    · cases h3
  · split at h5
    · rename_i cl dd vs sl q
      split at h5
      · rename_i fi tf q2
        exact ⟨cl, dd, vs, sl, fi, tf, q, q2, h5⟩
      · cases h5
    · cases h5
  · split at h6
    · rename_i cl dd D sl q
      have := of_decide_eq_true h6
      subst this
      exact ⟨cl, dd, sl, q⟩
    · cases h6
structure PFa (P : Program) (fl : Str) : Prop where
  file : P.main.file = fl
  top : (P.main.scope.names.lookup ("super" : Str)).isSome = false
section
variable {P : Program} {w : World} {K : PySem.W.Frag} {mg : Str → Option Value} {base : Heap} {fl qual y1 y2 f1 f2 m : Str} {C f : Addr} {prm : Arguments} {scope : Scope} {c : String} {j : Nat} {p0 p1 p2 p3 p4 p5 q1 q2 q3 q4 q5 q6 q7 q8 : Pos}
theorem supF_of {body : List Stmt} (hP : PFa P fl) (I : ExcI K fl C f qual prm body scope) (ha : ∃ ar : Arg, (prm.posonlyargs ++ prm.args).head? = some ar ∧ ar.arg = "self") (h1 : scope.names.lookup ("super" : Str) = some .globalImplicit) (h2 : scope.names.lookup ("__class__" : Str) = some .free)
    (h3 : scope.names.lookup ("self" : Str) = some .local) (h4 : scope.kind = .function) : SupF P K C (cdOf K f) (ccOf K f) prm scope :=
  ⟨by rw [hP.file]; exact I.fil, I.cell, ha, h1, h2, h3, h4, hP.top, I.opq, I.mro, I.sup, I.isB⟩
theorem rai1 (hP : PFa P fl) (I : ExcI K fl C f qual prm [.Expr (supCall m j p0 p1 p2 p3 p5) p4, .Assign [.Attribute (.Name "self" q1) f1 q2] (.Name y1 q3) q4] scope) (O : OexC K C) (g : gOf K c = some (.ref C)) (hm : mg "super" = none) (hf1 : PySem.W.findIn K (.ref C) f1 = some none)
    (he0 : SupHe m j p0 p1 p2 p3 p5) (S : SupScope ["self", y1] ["self", y1] scope) (ha : ∃ ar : Arg, (prm.posonlyargs ++ prm.args).head? = some ar ∧ ar.arg = "self") (h1 : scope.names.lookup ("super" : Str) = some .globalImplicit) (h2 : scope.names.lookup ("__class__" : Str) = some .free)
    (hb : ∀ (kV doc pm : Value) (an : Option Addr) (cdv ct : Value) (cc : Addr) (us : List Value), us.length = 2 → bindArgs (PySem.W.ksFn "__init__" qual prm [.Expr (supCall m j p0 p1 p2 p3 p5) p4, .Assign [.Attribute (.Name "self" q1) f1 q2] (.Name y1 q3) q4] scope .none kV doc pm an cdv ct cc) ⟨us, []⟩ = pure ([("self" : Str), y1].zip us))
    (d1 : (y1 == ("__debug__" : Str)) = false := by decide) (d2 : (y1 == ("__classdict__" : Str)) = false := by decide) : RaiM P w K mg base (gOf K) c [f1] C := by
  obtain ⟨oc, od, osl, kV, doc, pm, an, ct, lk⟩ := I.lk
  exact ⟨g, O, f, _, _, _, I.ini, I.tI, fn_sup1 he0 (supF_of hP I ha h1 h2 (S.par _ (by simp)) S.kind) O hm hf1 lk I.cd S d1 d2, .all fun us hl => hb _ _ _ _ _ _ _ us hl, .inl ⟨f1, rfl, rfl⟩⟩
theorem rai2 (hP : PFa P fl) (I : ExcI K fl C f qual prm [.Expr (supCall m j p0 p1 p2 p3 p5) p4, .Assign [.Attribute (.Name "self" q1) f1 q2] (.Name y1 q3) q4, .Assign [.Attribute (.Name "self" q5) f2 q6] (.Name y2 q7) q8] scope) (O : OexC K C) (g : gOf K c = some (.ref C)) (hm : mg "super" = none)
    (hf1 : PySem.W.findIn K (.ref C) f1 = some none) (hf2 : PySem.W.findIn K (.ref C) f2 = some none)
    (he0 : SupHe m j p0 p1 p2 p3 p5) (S : SupScope ["self", y1, y2] ["self", y1, y2] scope) (ha : ∃ ar : Arg, (prm.posonlyargs ++ prm.args).head? = some ar ∧ ar.arg = "self") (h1 : scope.names.lookup ("super" : Str) = some .globalImplicit) (h2 : scope.names.lookup ("__class__" : Str) = some .free)
    (hb : ∀ (kV doc pm : Value) (an : Option Addr) (cdv ct : Value) (cc : Addr) (us : List Value), us.length = 3 → bindArgs (PySem.W.ksFn "__init__" qual prm [.Expr (supCall m j p0 p1 p2 p3 p5) p4, .Assign [.Attribute (.Name "self" q1) f1 q2] (.Name y1 q3) q4, .Assign [.Attribute (.Name "self" q5) f2 q6] (.Name y2 q7) q8] scope .none kV doc pm an cdv ct cc) ⟨us, []⟩ = pure ([("self" : Str), y1, y2].zip us))
    (d1 : (y1 == ("__debug__" : Str)) = false := by decide) (d2 : (y1 == ("__classdict__" : Str)) = false := by decide) (d3 : (y2 == ("__debug__" : Str)) = false := by decide) (d4 : (y2 == ("__classdict__" : Str)) = false := by decide) : RaiM P w K mg base (gOf K) c [f1, f2] C := by
  obtain ⟨oc, od, osl, kV, doc, pm, an, ct, lk⟩ := I.lk
  exact ⟨g, O, f, _, _, _, I.ini, I.tI, fn_sup2 he0 (supF_of hP I ha h1 h2 (S.par _ (by simp)) S.kind) O hm hf1 hf2 lk I.cd S d1 d2 d3 d4, .all fun us hl => hb _ _ _ _ _ _ _ us hl, .inr ⟨f1, f2, rfl, rfl⟩⟩
end
end Mo
/-! Mo31: running the model: == of lists, names, joined texts. -/
namespace Mo
open PySem L2
section
variable {h : MH} {i j n : Nat} {s : Lo} {v : MV} {xs ys : List MV}
theorem eV_at {k : Nat} (e : s[k]? = some (some v)) : eV k s h = .ok v h := by simp only [eV, e]
theorem mRc_ll (h1 : h[i]? = some (.lst xs)) (h2 : h[j]? = some (.lst ys)) : mRc h (.ref i) (.ref j) = if xs.length = ys.length then eqs (mEq 7 h) xs ys else some false := by
  simp only [mRc, scM, flM, mEqS, asT, lstAt, h1, h2]
  rfl
theorem mEq_ll (h1 : h[i]? = some (.lst xs)) (h2 : h[j]? = some (.lst ys)) : mEq (n + 1) h (.ref i) (.ref j) = if i = j then some true else if xs.length = ys.length then eqs (mEq n h) xs ys else some false := by
  rw [mEq]
  simp only [flM, sameR, mEqS, asT, lstAt, h1, h2, Bool.and_self, Bool.false_eq_true, if_false]
  by_cases e : i = j
  · simp [e]
  · simp [e]
theorem eqs_strs : ∀ a b : List Str, a.length = b.length → eqs (mEq n h) (a.map .str) (b.map .str) = some (decide (a = b))
  | [], [], _ => by simp
  | x :: a, y :: b, e => by
    have := eqs_strs a b (by simpa using e)
    simp only [List.map_cons, eqs_cons, mEq_ss, this, KQ_some, List.cons.injEq]
    congr 1
    by_cases e1 : x = y <;> by_cases e2 : a = b <;> simp [e1, e2]
  | [], _ :: _, e => by simp at e
  | _ :: _, [], e => by simp at e
theorem eqs_ints : ∀ a b : List Int, a.length = b.length → eqs (mEq n h) (a.map .int) (b.map .int) = some (decide (a = b))
  | [], [], _ => by simp
  | x :: a, y :: b, e => by
    have := eqs_ints a b (by simpa using e)
    simp only [List.map_cons, eqs_cons, mEq_ii, this, KQ_some, List.cons.injEq]
    congr 1
    by_cases e1 : x = y <;> by_cases e2 : a = b <;> simp [e1, e2]
  | [], _ :: _, e => by simp at e
  | _ :: _, [], e => by simp at e
theorem mRc_strs {a b : List Str} (h1 : h[i]? = some (.lst (a.map .str))) (h2 : h[j]? = some (.lst (b.map .str))) : mRc h (.ref i) (.ref j) = some (decide (a = b)) := by
  rw [mRc_ll h1 h2]
  simp only [List.length_map]
  by_cases e : a.length = b.length
  · rw [if_pos e, eqs_strs a b e]
  · rw [if_neg e, decide_eq_false fun z => e (by rw [z])]
theorem mRc_ints {a b : List Int} (h1 : h[i]? = some (.lst (a.map .int))) (h2 : h[j]? = some (.lst (b.map .int))) : mRc h (.ref i) (.ref j) = some (decide (a = b)) := by
  rw [mRc_ll h1 h2]
  simp only [List.length_map]
  by_cases e : a.length = b.length
  · rw [if_pos e, eqs_ints a b e]
  · rw [if_neg e, decide_eq_false fun z => e (by rw [z])]
theorem mEq_strs {a b : List Str} (h1 : h[i]? = some (.lst (a.map .str))) (h2 : h[j]? = some (.lst (b.map .str))) : mEq (n + 1) h (.ref i) (.ref j) = some (decide (a = b)) := by
  rw [mEq_ll h1 h2]
  by_cases d : i = j
  · subst d
    rw [h1] at h2
    have e : a.map MV.str = b.map MV.str := by simpa using h2
    have : a = b := List.map_inj_right (f := MV.str) (fun x y z => by simpa using z) |>.mp e
    rw [if_pos rfl, decide_eq_true this]
  · rw [if_neg d]
    simp only [List.length_map]
    by_cases e : a.length = b.length
    · rw [if_pos e, eqs_strs a b e]
    · rw [if_neg e, decide_eq_false fun z => e (by rw [z])]
/-- x in a list of texts -/
theorem inL_strs {x : Str} : ∀ a : List Str, inL (fun y => mEq 7 h y (.str x)) (a.map .str) = some (decide (x ∈ a))
  | [] => by simp
  | y :: a => by
    rw [List.map_cons, inL_cons, inL_strs a, mEq_ss, KI_some]
    congr 1
    by_cases e : y = x
    · subst e; simp
    · have : ¬ x = y := fun z => e z.symm
      simp [e, this]
theorem fIn_strs {x : Str} {a : List Str} (e : h[i]? = some (.lst (a.map .str))) : fInA (.str x) (.ref i) h = some (.bl (decide (x ∈ a)), h) := by
  unfold fInA
  rw [if_neg (by rw [isDM_lst e]; decide), fIn_ref e, inL_strs]
  rfl
theorem fNotIn_strs {x : Str} {a : List Str} (e : h[i]? = some (.lst (a.map .str))) : fNotInA (.str x) (.ref i) h = some (.bl (!decide (x ∈ a)), h) := by
  unfold fNotInA
  rw [if_neg (by rw [isDM_lst e]; decide), fNotIn_ref e, inL_strs]
  rfl
theorem fIn_ktps {x : Str} {a : List Str} : fInA (.str x) (.ktp (a.map .str)) h = some (.bl (decide (x ∈ a)), h) := by
  unfold fInA
  rw [if_neg (by simp [isDM]), fIn_ktp, inL_strs]
  rfl
theorem fNotIn_ktps {x : Str} {a : List Str} : fNotInA (.str x) (.ktp (a.map .str)) h = some (.bl (!decide (x ∈ a)), h) := by
  unfold fNotInA
  rw [if_neg (by simp [isDM]), fNotIn_ktp, inL_strs]
  rfl
end
end Mo
/-! Mo32: an own __iter__ that gives iter(self.f), walked by for and by comprehensions; a caught exception at its place. -/
namespace Mo
open PySem L2
theorem KXf_at {h : MH} {y : XA} {k : Nat} {f : Str} {fs : List (Str × MV)} {u : MV} (e : h[k]? = some (.xd y.c fs)) (l : fs.lookup f = some u) : KXf y f (.exa y.a y.d k) h = .ok u h := by
  unfold KXf
  rw [xdAt_eq e]
  simp only [l]
theorem fXi_at {h : MH} {y : XA} {k : Nat} {own : Own} {t : MV} {fs : List (Str × MV)} (e : h[k]? = some (.xd y.c fs)) : fXi y own [.exa y.a y.d k, t] h = ob (isiM own (.glo y.c) t) h := by
  simp only [fXi, xdAt_eq e]
theorem app_at {h : MH} {i : Nat} {o : MO} {t : MH} (e : h[i]? = some o) : (h ++ t)[i]? = some o := by
  rw [List.getElem?_append_left (List.getElem?_eq_some_iff.mp e).1]; exact e
/-- __iter__ at fi gives iter(self.f) -/
def ItrOk (P : Program) (w : World) (K : PySem.W.Frag) (mg : Str → Option Value) (base : Heap) (k : Nat) (fi : Addr) (f : Str) (C : Addr) : Prop :=
  ∀ (A : Around) (outer : List Env) (s : Shared) (H : Hp) (a dx l : Addr) (fs : List (Str × V)) (zs : List V), Room k A → Env0 P w K mg base A outer s H → H a = some (.ins C dx fs) → fs.lookup f = some (.ref l) → SqL K H l zs →
    codeAny (model P w) A (.call (.ref fi) ⟨[.ref a], []⟩) (CR (L2.CX P w) outer P w H s (fun v H' => ∃ it, v = .ref it ∧ H it = none ∧ s.heap.objs.size ≤ it ∧ H' = upd H it (ItO l it 0)) (fun _ _ _ => False)) s
theorem itr_of {P : Program} {w : World} {K : PySem.W.Frag} {mg : Str → Option Value} {base : Heap} {k : Nat} {qual : Str} {params : Arguments} {body : List Stmt} {scope : Scope} {fi C : Addr} {fd : FuncData} {f : Str}
    (F : FunD K "__iter__" qual params body scope [] [] fi fd) (S : FnScope ["self"] ["self"] scope) (B : Binds K fd ["self"] []) (hC : ∀ a C' dx fs (H : Hp), H a = some (.ins C' dx fs) → C' = C → Cls K C ∧ NoAttr K C f)
    (hb : ∀ (cdv : Value) (A : Around) (outer : List Env) (s : Shared) (H : Hp) (E : XK), Room k (A.deeper (PyProof.Rows.envOfC qual scope s.heap.objs.size fi cdv)) →
      PSs (cxOf (L2.CX P w) P w K mg base ["self"] qual scope fi cdv A outer s H E) body (tRet (tCB (ItX.rIterN K s.heap.objs.size) (tCons (tFld K (tVar 0) f) tNil)))) : ItrOk P w K mg base (k + 1) fi f C := by
  intro A outer s H a dx l fs zs hr e0 ha hl hz
  obtain ⟨oc, od, dV, kV, doc, pm, an, cdv, ct, osl, rfl, lk, hcd, _, _⟩ := F.ex
  have r2 : Vals [V.ref a] [Value.ref a] := .cons rfl .nil
  have KX : K.In s.heap := e0.mod.kin.keeps fun b o e => (e0.bs b o e).1
  have lim : s.heap.NoLimit := e0.mod.nolimit.keeps fun b o e => (e0.bs b o e).1
  have hkind : ∀ y ∈ (["self"] : List Str).zip [Value.ref a], scope.names.lookup y.1 = some .local ∨ (scope.names.lookup y.1 = some .cell ∧ ((cellsFrom (s.heap.objs.size + 1) scope.names []).lookup y.1).isSome = true) := fun ⟨n, v⟩ hy => by
    rcases S.par n (List.of_mem_zip hy).1 with q | q
    · exact .inl q
    · exact .inr ⟨q, PySem.W.cellsFrom_some _ _ _ (.inl q)⟩
  have hb2 := B s [Value.ref a] KX rfl
  simp only [List.append_nil] at hb2
  refine codeAny_call_function hr.depth (KX _ _ lk) rfl S.co S.gen rfl (PySem.W.codeRec_of KX hcd) (hb2 _ _ _ _ ?_)
  refine wpAny_newFunctionEnv_cells S.kind hkind fun env he s1 x => ?_
  subst he
  refine ⟨lim.keeps x.toInCall.keep, codeAny_func ?_⟩
  have ht := hb cdv A outer s H (fun _ _ _ => False) (hr.deeper _)
  have I : Inv (cxOf (L2.CX P w) P w K mg base ["self"] qual scope fi cdv A outer s H (fun _ _ _ => False)) [] (start ["self"] [V.ref a]) H s1 := inv_start S hr.hd e0 (by rfl) r2 x
  obtain ⟨hc1, hc2⟩ := hC a C dx fs H ha rfl
  have hq : (tRet (tCB (ItX.rIterN K s.heap.objs.size) (tCons (tFld K (tVar 0) f) tNil))) { nx := fun _ H' => False, rt := fun v H' => ∃ it, v = .ref it ∧ H it = none ∧ s.heap.objs.size ≤ it ∧ H' = upd H it (ItO l it 0) } (start ["self"] [V.ref a]) H := by
    refine ⟨.ref a, rfl, a, C, dx, fs, .ref l, rfl, ha, hc1, hc2, hl, ?_⟩
    exact ⟨l, zs, rfl, hz, fun it hn hs => ⟨it, rfl, hn, hs, rfl⟩⟩
  refine wpAny_mono (ht.run [] s1 (start ["self"] [V.ref a]) H _ I hq) (fun fl s' hs => ?_) fun e s' hs => hs
  cases fl with
  | ret u =>
    obtain ⟨v, σ', H', J, rv, q⟩ := hs
    exact ⟨v, H', J.os, J.bare, J.base, J.hok, rv, q⟩
  | next =>
    obtain ⟨σ', H', J, q⟩ := hs
    exact False.elim q
  | brk =>
    obtain ⟨_, _, _, q⟩ := hs
    exact False.elim q
  | cont =>
    obtain ⟨_, _, _, q⟩ := hs
    exact False.elim q
/-- what a class must have for it -/
structure ItrC (K : PySem.W.Frag) (C fi : Addr) : Prop where
  it : PySem.W.findIn K (.ref C) "__iter__" = some (some (.ref fi))
  itF : PySem.W.isFn K (.ref fi) = true
theorem itlF0 {K : PySem.W.Frag} {a : Addr} : ItX.ItlF K a 0 = Itl K a := by
  unfold ItX.ItlF
  simp only [Nat.zero_add]
/-- walking an instance of C -/
def iOwnL (K : PySem.W.Frag) (C : Addr) (f : Str) (te : TE) : TI := fun σ H R => te σ H fun v H1 => ∃ a dx fs l zs, v = .ref a ∧ H1 a = some (.ins C dx fs) ∧ fs.lookup f = some (.ref l) ∧ SqL K H1 l zs ∧ R (Itl K l) H1
section
variable {X : Cx} {tg e : Expr} {te : TE} {C fi : Addr} {f : Str} {k : Nat}
theorem pi_ownL (hc : ItrC X.K C fi) (F : ItrOk X.prog X.w X.K X.mg X.base k fi f C) (hr : Room k X.A) (he : PE X e te) : PI X tg e (iOwnL X.K C f te) := by
  refine ⟨fun pins s σ H R I h => ?_⟩
  refine thn (he.run pins s σ H _ I h) fun v s1 ⟨x, H1, I1, r1, q1⟩ => ?_
  obtain ⟨a, dx, fs, l, zs, e, ha, hl, hz, q⟩ := q1
  subst e
  cases r1
  obtain ⟨mA, J, _⟩ := ins_get I1.hok ha
  obtain ⟨od, J, _⟩ := J.look
  obtain ⟨m0, hF⟩ := I1.fr
  refine PySem.W.owit_iter hF I1.ok.mod.kin J hc.it hc.itF ?_
  refine wpAny_call (codeAny_mono (F X.A X.stack s1 H1 a dx l fs zs hr I1.env0 ha hl hz) fun r s' hq' => ?_)
  cases r with
  | error e =>
    obtain ⟨_, _, _, _, _, _, _, _, _, _, _, _, z⟩ := hq'
    exact z.elim
  | ok fl =>
    cases fl with
    | next => exact False.elim hq'
    | brk => exact False.elim hq'
    | cont => exact False.elim hq'
    | ret u =>
      obtain ⟨v, H', I', rv, it, ev, hn, hsz, eH⟩ := I1.after hq'
      subst ev
      subst eH
      cases rv
      have hi : upd H1 it (ItO l it 0) it = some (ItO l it 0) := upd_same
      have eo := itO_get I' hi
      have st : s'.heap.IsListIter it l (0 + 0) := ⟨_, eo, rfl, rfl⟩
      have hT : s'.TypeIs (.ref it) "list_iterator" := ⟨_, eo, rfl⟩
      unfold PySem.W.OwitIt
      refine wpAny_specialOf (name := Str.ofString "__next__") hT slot_listiter_next.lookup ?_
      show PIE X pins σ tg R (Value.ref it) s'
      have hi' := hi
      unfold ItO at hi'
      have hd : ItX.dropH (upd H1 it (ItO l it 0)) it = H1 := ItX.dropH_upd hn
      have I2 := ItX.inv_drop I' hi'
      rw [hd] at I2
      have T := ItX.turn_listF (P := X.prog) (w := X.w) (K := X.K) (tg := tg) l it 0
      rw [itlF0] at T
      refine ⟨it, [it], _, _, H1, rfl, I2, T, st, fun b hb => ?_, q⟩
      have e : b = it := by simpa using hb
      rw [e]
      have fp := ItX.inv_fp I' hi (Nat.le_trans I1.sz hsz)
      rw [hd] at fp
      exact fp
end
/-! ### in the model -/
def fItr (c : String) (f : Str) (x : MV) (h : MH) : OV := match x with
  | .ref i => match h[i]? with
    | some (.ins c' fs) => if c' = c then (match fs.lookup f with
      | some (.ref j) => match h[j]? with
        | some (.lst _) => some (.ref j, h)
        | _ => none
      | _ => none) else none
    | _ => none
  | _ => none
theorem fItr_at {h : MH} {i j : Nat} {c : String} {f : Str} {fs : List (Str × MV)} {xs : List MV} (e : h[i]? = some (.ins c fs)) (l : fs.lookup f = some (.ref j)) (ej : h[j]? = some (.lst xs)) : fItr c f (.ref i) h = some (.ref j, h) := by
  simp only [fItr, e, l, ej, if_true]
theorem pi_imp {X : Cx} {tg e : Expr} {wi wi' : TI} (h : PI X tg e wi) (i : ∀ σ H R, wi' σ H R → wi σ H R) : PI X tg e wi' := ⟨fun pins s σ H R I q => h.run pins s σ H R I (i σ H R q)⟩
section
variable {X : Cx} {G : String → Option V} {W : WX} {tg iter e : Expr} {body : List Stmt} {m : ME} {C fi : Addr} {c : String} {f : Str} {k : Nat} {t : TG} {g : MG} {b : MS} {pos : Pos}
theorem m_itr (hG : G c = some (.ref C)) (hc : ItrC X.K C fi) (F : ItrOk X.prog X.w X.K X.mg X.base k fi f C) (hr : Room k X.A) (he : PE X e (RE X.K G W m)) : PI X tg e (iList X.K (RE X.K G W (e1 (fItr c f) m))) := by
  refine pi_imp (pi_ownL hc F hr he) fun σ H R h => ?_
  obtain ⟨ρ, sm, mh, r, q⟩ := h
  refine re_bnd r q fun x ρ1 H1 mh1 v x1 r1 rv q1 => ?_
  obtain ⟨z, h1, ez, kz⟩ := ro_lift q1
  unfold fItr at ez
  split at ez
  · split at ez
    · rename_i i c' fs hi
      split at ez
      · rename_i hcc
        subst hcc
        split at ez
        · rename_i j hj
          split at ez
          · rename_i xs hx
            cases ez
            obtain ⟨a, C', dx, vs, rfl, _, hG', ha, hf⟩ := r1.hr.ins hi rv
            rw [hG] at hG'
            cases hG'
            obtain ⟨l, hl, rl⟩ := (lookupF_V (f := f) hf).1 _ hj
            obtain ⟨p, ws, rfl, _, hp, _⟩ := r1.hr.lst hx rl
            obtain ⟨p', e1, _, q'⟩ := kz ρ1 H1 Ext.refl r1.hr _ rl
            cases e1
            exact ⟨a, dx, vs, p, ws, rfl, ha, hl, SqL.of hp, q'⟩
          · cases ez
        · cases ez
      · cases ez
    · cases ez
  · cases ez
/-! ### for and comprehensions over it -/
def sForL (it : ME) (g : MG) (b : MS) : MS := fun s h => (it s h).bnS s fun v h1 => match v with
  | .ref i => match h1[i]? with
    | some (.lst xs) => forG (getSeq (.ref i)) g b (xs.length + 1) 0 s h1
    | _ => .no
  | _ => .no
theorem m_forI (hp : PassesOwn (model X.prog X.w) X.A X.env X.xe) (hc : X.calm = true) (hi : PI X tg iter (iList X.K (RE X.K G W m))) (hg : PG X tg t) (hgs : GS X.K G t g) (hb : PSs X body (RS X.K G W b))
    (hs : ∀ x, foldedSetIterable iter X.env x = pure x := by intro _; rfl) : PS X (.For tg iter body [] pos) (RS X.K G W (sForL m g b)) := by
  refine ps_imp (ps_for hp hc hi hg hb hs) fun D σ H ⟨ρ, sm, mh, r, q⟩ => ?_
  refine res_bnd (m := m) r q fun v ρ1 H1 mh1 x x1 r1 rv q1 => ?_
  split at q1
  · split at q1
    · rename_i i xs hx
      obtain ⟨a, vs, rfl, ha, h1, h2⟩ := r1.hr.lst hx rv
      exact ⟨a, rfl, ⟨vs, SqL.of h1⟩, for_sim (its_list rv rfl) hgs (Ext.refl (ρ := ρ1)) r1 q1⟩
    · exact False.elim q1
  · exact False.elim q1
end
section
variable {X : Cx} {G : String → Option V} {W : WX} {elt tg iter : Expr} {ifs : List Expr} {scope : Scope} {own : List (Str × Nat)} {pos spos : Pos} {mi m : ME} {c : MB} {t : TG} {g : MG}
def eLcL (it : ME) (g : MG) (c : MB) (m : ME) (vs : List Nat) : ME := fun s h => (it s h).bnd fun v h1 => match v with
  | .ref i => match h1[i]? with
    | some (.lst xs) => lcG (getSeq (.ref i)) g c m h1.length (xs.length + 1) 0 (wipeM s vs) (h1 ++ [.lst []])
    | _ => .no
  | _ => .no
theorem lcl_re {us : List Nat} (hgw : GW X.K G t g us) (σ : St) (H : Hp) (Q : VK) (h : RE X.K G W (eLcL mi g c m us) σ H Q) : tLc (iList X.K (RE X.K G W mi)) t (RT X.K G noW c) (RE X.K G noW m) us σ H Q := by
  obtain ⟨ρ, sm, mh, r, q⟩ := h
  refine re_bnd (m := mi) r q fun v ρ1 H1 mh1 x x1 r1 rv q1 => ?_
  split at q1
  · split at q1
    · rename_i i xs hx
      obtain ⟨a, vs, rfl, ha, h1, h2⟩ := r1.hr.lst hx rv
      exact ⟨a, rfl, ⟨vs, SqL.of h1⟩, fun D hD => lc_sim (its_list rv rfl) hgw (Ext.refl (ρ := ρ1)) r1 hD q1⟩
    · exact False.elim q1
  · exact False.elim q1
theorem m_lcI (hc : X.calm = true) (hN : X.N.Nodup) (ok : BlkOk X.N X.env.scope scope own) (hi : PI X tg iter (iList X.K (RE X.K G W mi))) (hgw : GW X.K G t g (own.map (·.2)))
    (hg : InBlk X scope fun Y => PG Y tg t) (ht : InBlk X scope fun Y => PTs Y ifs (RT X.K G noW c)) (he : InBlk X scope fun Y => PE Y elt (RE X.K G noW m)) (hs : ∀ x, foldedSetIterable iter X.env x = pure x := by intro _; rfl) :
    PE X (.ListComp elt [⟨tg, iter, ifs, 0⟩] scope pos) (RE X.K G W (eLcL mi g c m (own.map (·.2)))) :=
  pe_imp (pe_lc hc hN hi ok hg ht he hs) fun σ H Q h => lcl_re hgw σ H Q h
theorem m_setLcI {i : Nat} {y : Str} {py : Pos} (hc : X.calm = true) (hN : X.N.Nodup) (hy : X.N[i]? = some y) (hyl : X.env.scope.names.lookup y = some .local) (hsw : swapsWith (.ListComp elt [⟨tg, iter, ifs, 0⟩] scope pos) (some (.Name y py)) spos.line X.env = pure true)
    (ok : BlkOk X.N X.env.scope scope own) (hi : PI X tg iter (iList X.K (RE X.K G W mi))) (hgw : GW X.K G t g (own.map (·.2)))
    (hg : InBlk X scope fun Y => PG Y tg t) (ht : InBlk X scope fun Y => PTs Y ifs (RT X.K G noW c)) (he : InBlk X scope fun Y => PE Y elt (RE X.K G noW m)) (hs : ∀ x, foldedSetIterable iter X.env x = pure x := by intro _; rfl) :
    PS X (.Assign [.Name y py] (.ListComp elt [⟨tg, iter, ifs, 0⟩] scope pos) spos) (RS X.K G W (sAsg (eLcL mi g c m (own.map (·.2))) (gN i))) :=
  ps_imp (ps_setLc hc hN hy hyl hsw hi ok hg ht he hs) fun D σ H h => asg_re gs_name (te := fun σ H Q => tLc (iList X.K (RE X.K G W mi)) t (RT X.K G noW c) (RE X.K G noW m) (own.map fun y : Str × Nat => y.2) σ H Q) (fun σ H Q h => lcl_re hgw σ H Q h) D σ H h
end
/-! ### running -/
section
variable {s : Lo} {h : MH} {g : MG} {b : MS} {c : MB} {m : ME}
theorem sForL_at {it : ME} {i : Nat} {h1 : MH} {xs : List MV} (e : it s h = .ok (.ref i) h1) (q : h1[i]? = some (.lst xs)) : sForL it g b s h = forG (getSeq (.ref i)) g b (xs.length + 1) 0 s h1 := by
  simp only [sForL, e, Rz.bnS, q]
theorem eLcL_at {it : ME} {us : List Nat} {i : Nat} {h1 : MH} {xs : List MV} (e : it s h = .ok (.ref i) h1) (q : h1[i]? = some (.lst xs)) : eLcL it g c m us s h = lcV g c m (wipeM s us) (.ref i) h1 := by
  rw [lcV_ref (xs := xs) (by simp [seqOf, q])]
  simp only [eLcL, e, Rz.bnd, q]
end
end Mo
/-! Mo33: xs[::-1]; len at a place. -/
namespace Mo
open PySem L2
theorem fLen_ref {h : MH} {i : Nat} {xs : List MV} (e : h[i]? = some (.lst xs)) : fLen [.ref i] h = some (.int xs.length, h) := by simp only [fLen, e]
theorem fLen_dk {h : MH} {i : Nat} {xs : List (Key × MV)} (e : h[i]? = some (.dk xs)) : fLen [.ref i] h = some (.int xs.length, h) := by simp only [fLen, e]
def fRevL (x : MV) (h : MH) : OV := match x with
  | .ref i => match h[i]? with
    | some (.lst xs) => some (.ref h.length, h ++ [.lst xs.reverse])
    | _ => none
  | _ => none
theorem fRevL_at {h : MH} {i : Nat} {xs : List MV} (e : h[i]? = some (.lst xs)) : fRevL (.ref i) h = some (.ref h.length, h ++ [.lst xs.reverse]) := by simp only [fRevL, e]
section
variable {X : Cx} {G : String → Option V} {W : WX} {e : Expr} {m : ME} {k : Nat} {p1 p2 p3 pos : Pos}
theorem m_revL (he : PE X e (RE X.K G W m)) : PE X (.Subscript e (.Slice none none (some (.UnaryOp .USub (.Constant (.int 1) k p1) p2)) p3) pos) (RE X.K G W (e1 fRevL m)) := by
  refine pe_imp (pe_revL he) fun σ H Q ⟨ρ, sm, mh, r, q⟩ => ?_
  refine re_bnd r q fun x ρ1 H1 mh1 v x1 r1 rv q1 => ?_
  obtain ⟨z, h1, ez, kz⟩ := ro_lift q1
  unfold fRevL at ez
  split at ez
  · split at ez
    · rename_i i xs hx
      cases ez
      obtain ⟨a, vs, rfl, _, h1, h2⟩ := r1.hr.lst hx rv
      refine ⟨a, vs, rfl, SqL.of h1, fun p hp => ?_⟩
      obtain ⟨a1, a2, a3⟩ := new_lst r1.hr h2.reverse hp
      exact kz _ _ a2 a1 _ a3
    · cases ez
  · cases ez
end
end Mo
/-! Mo34: a written dict with one tuple key; len of dicts with tuple keys. -/
namespace Mo
open PySem L2
/-- {t: v}, t a tuple -/
def tDisp1T (tk tv : TE) : TE := fun σ H Q => ∀ p, H p = none → tk σ (upd H p (.dT [])) fun x H1 => tv σ H1 fun y H2 => H2 p = some (.dT []) ∧ ∃ b ks, x = .ref b ∧ H2 b = some (.tup (ks.map kV)) ∧ Q (.ref p) (upd H2 p (.dT [(ks, y)]))
theorem pe_disp1T {X : Cx} {pos : Pos} {k v : Expr} {tk tv : TE} (hu : X.A.units + 1 < cLine) (hk : PE X k tk) (hv : PE X v tv) : PE X (.Dict [some k] [v] pos) (tDisp1T tk tv) := by
  refine ⟨fun pins s σ H Q I q => ?_⟩
  have hn := I.hok.fresh (Nat.le_refl s.heap.objs.size)
  have I1 := I.laid (a := s.heap.objs.size) (o := .dT []) (h' := s.heap.push { cls := .type "dict", data := .dict #[] }) (t' := s.toks) (fun _ _ q => Heap.get?_push_of_some _ q) (Nat.le_refl _) (dt_empty s.heap I.big)
  have hsh := zip_pairTrees [some k] [v] X.env pos (by rfl) (by rfl)
  have hpl := pairTrees_length [some k] [v] X.env pos (by rfl) (by rfl)
  rw [arm_eval_Dict, hsh, dictDisplay_pairs (pairTrees [some k] [v] X.env pos) (fun z => by rw [z] at hpl; cases hpl) (by rw [hpl]; show 1 < 17; decide)]
  have P := pps_cons (X := X) (pos := pos) hk hv pps_nil
  refine wpAny_bind (wpAny_standAt (wpAny_bind (wpAny_subDictH (knd := tupleKind (mixKind X.prog X.w)) (Q := fun d s' => wpAny _ _ (pure (Value.ref d)) _ _ s') (show X.A.units < cLine by omega) (by rw [hpl]; show 1 ≤ 15; decide) ?_)))
  have q' : tPairs [(tk, tv)] σ (upd H s.heap.objs.size (.dT [])) (fun ps H2 => match ps with
      | [(x, y)] => H2 s.heap.objs.size = some (.dT []) ∧ ∃ b ks, x = .ref b ∧ H2 b = some (.tup (ks.map kV)) ∧ Q (.ref s.heap.objs.size) (upd H2 s.heap.objs.size (.dT [(ks, y)]))
      | _ => False) := q _ hn
  refine thn (P.run pins _ σ _ _ I1 q') fun ws s2 ⟨ps, H2, I2, rel, q3⟩ => ?_
  cases rel with
  | nil => exact False.elim q3
  | @cons p0 w0 ps0 ws0 h0 t0 =>
    cases t0 with
    | cons _ _ => exact False.elim q3
    | nil =>
    obtain ⟨x0, y0⟩ := p0
    obtain ⟨e, b, ks, ex, hb, q2⟩ := q3
    obtain ⟨u1, u2⟩ := w0
    obtain ⟨r1, r2⟩ := h0
    subst ex
    cases (show u1 = Value.ref b from r1)
    obtain ⟨z, hd, xs, rx, dd⟩ := dt_of I2.hok e
    cases rx
    refine ⟨[(ks, b, u2)], ⟨rfl, rfl, key_of I2.hok hb, trivial⟩, dd, fun h' tk' dd' hs => wpAny_pure ⟨.ref s.heap.objs.size, _, ?_, rfl, q2⟩⟩
    obtain ⟨qo, es, epp, hq, h2, h3, h4, h5, h6⟩ := dd'
    refine d_write I2 (by rw [e]; exact True.intro) hs ⟨qo, hq⟩ ⟨by rw [sizeLine_eq]; show 1 ≤ 16777216; decide, hd, _, .cons ⟨rfl, ?_, r2⟩ .nil, qo, es, epp, hq, h2, h3, h4, h6⟩
    rw [upd_ne (ne_of hb e (fun z => nomatch z))]
    exact hb
/-! ### in the model -/
def eDt1 (k v : ME) : ME := fun s h => (k s (h ++ [.dt []])).bnd fun x h1 => (v s h1).bnd fun y h2 => match x, h2[h.length]? with
  | .tup ks, some (.dt []) => match keysM ks with
    | some k => .ok (.ref h.length) (h2.set h.length (.dt [(k, y)]))
    | none => .no
  | _, _ => .no
section
variable {X : Cx} {G : String → Option V} {W : WX} {e v : Expr} {mk mv : ME} {kk : Nat} {pos : Pos}
theorem m_disp1T (hr : Room kk X.A) (hk : PE X e (RE X.K G W mk)) (hv : PE X v (RE X.K G W mv)) : PE X (.Dict [some e] [v] pos) (RE X.K G W (eDt1 mk mv)) := by
  refine pe_imp (pe_disp1T (units1 hr) hk hv) fun σ H Q ⟨ρ, sm, mh, r, q⟩ => fun p hp => ?_
  obtain ⟨h1, h2⟩ := r.hr.new (u := .dT []) (o := .dt []) hp ⟨[], upd_same, rfl⟩
  have pv : VR X.K G (ρ ++ [p]) (upd H p (.dT [])) (.ref mh.length) (.ref p) := by simp only [VR]; exact ⟨p, rfl, by rw [← r.hr.len]; simp⟩
  unfold eDt1 at q
  refine re_bnd (r.at h2 h1) (RO.ext q h2) fun x ρ1 H1 mh1 u x1 r1 rv q1 => ?_
  refine re_bnd r1 q1 fun y ρ2 H2 mh2 w x2 r2 rw' q2 => ?_
  split at q2
  · rename_i ks hd
    split at q2
    · rename_i k hks
      obtain ⟨b, ws, e1, hb, e2, e3⟩ := r2.hr.dt hd ((pv.ext x1).ext x2)
      cases e1
      simp only [KRs] at e3
      subst e3
      simp only [VR] at rv
      obtain ⟨c, us, rfl, h5, h6⟩ := rv
      have h7 := keysM_V hks (h6.ext x2)
      subst h7
      have h5' := x2.tup _ _ h5
      have hx : Ext X.K ρ2 H2 ρ2 (upd H2 p (.dT [(k, w)])) := ext_write e2 (by simp [Plain])
      obtain ⟨b1, b2⟩ := r2.hr.write (u := .dT [(k, w)]) (o1 := .dt [(k, y)]) hd hb ⟨_, upd_same, by simp only [KRs]; exact ⟨w, [], rfl, rw'.ext hx, rfl⟩⟩
      exact ⟨e2, c, k, rfl, h5', q2 _ _ b2 b1 _ (((pv.ext x1).ext x2).ext b2)⟩
    · exact q2.elim
  · exact q2.elim
end
/-! len -/
def fLenT (xs : List MV) (h : MH) : OV := match xs with
  | [.ref i] => match h[i]? with
    | some (.dt ys) => some (.int ys.length, h)
    | _ => fLen xs h
  | _ => fLen xs h
theorem fLenT_dt {h : MH} {i : Nat} {xs : List (List Key × MV)} (e : h[i]? = some (.dt xs)) : fLenT [.ref i] h = some (.int xs.length, h) := by simp only [fLenT, e]
theorem fLenT_ref {h : MH} {i : Nat} {xs : List MV} (e : h[i]? = some (.lst xs)) : fLenT [.ref i] h = some (.int xs.length, h) := by simp only [fLenT, e, fLen]
section
variable {X : Cx} {G : String → Option V}
theorem c_lenT : CallR X (.builtin "len") (fun xs H Q => rLenA X.K xs H Q ∨ rLenT xs H Q) := c_len.or call_len_dT
theorem s_lenT : CallS X.K G (fun xs H Q => rLenA X.K xs H Q ∨ rLenT xs H Q) fLenT := by
  intro ρ H mh mh1 xs z vs Q hr rvs e k
  unfold fLenT at e
  split at e
  · split at e
    · rename_i i ys hd
      cases e
      obtain ⟨v, rfl, rv⟩ := rvs.one
      obtain ⟨b, ws, rfl, hb, e2, e3⟩ := hr.dt hd rv
      refine .inr ⟨_, _, rfl, e2, k _ _ Ext.refl hr _ ?_⟩
      simp only [VR]; rw [KRs.length e3]
    · exact .inl (s_len hr rvs e k)
  · exact .inl (s_len hr rvs e k)
end
end Mo
/-! Mo35: try with several except clauses, each with a name. -/
namespace Mo
open PySem PySem.Spec PyProof.Rows L2
/-- a clause that binds slot i: the slot is empty behind it -/
def offE (D : Ends) (i : Nat) : Ends := { nx := fun σ H => D.nx (σ.set i none) H, rt := D.rt, bk := fun σ H => D.bk (σ.set i none) H, ct := fun σ H => D.ct (σ.set i none) H }
abbrev Cl := Value × Nat × (Addr → Value → Option Addr → TS)
/-- the clauses in turn -/
def wNamed (K : PySem.W.Frag) (Wout : WX) (D : Ends) : List Cl → WX
  | [] => Wout
  | (c, i, ts) :: r => fun cls d σ H => ∃ b, PySem.W.exmOne K cls c = some b ∧ (b = true → ∀ a, H a = none → ts a cls d (offE D i) (σ.set i (some (.ref a))) H) ∧ (b = false → wNamed K Wout D r cls d σ H)
/-- the clauses fit their readings -/
inductive ClsOk (X : Cx) : List ExceptHandler → List Cl → Prop
  | nil : ClsOk X [] []
  | cons {x n : Str} {c : Value} {i : Nat} {ts : Addr → Value → Option Addr → TS} {b₀ : Stmt} {suite : List Stmt} {np pos' : Pos} {hds : List ExceptHandler} {l : List Cl} (hi : X.N[i]? = some n) (hln : X.env.kindOf n = some .local) (hc : Names X x c)
      (hsu : ∀ (a : Addr) (oe : Obj) (cls : Value) (d : Option Addr) (pn : List (Addr × Obj)), Zc cls d oe → (∃ vs, oe.data = .fields vs) → PSs (X.suite a ((a, oe) :: pn)) (b₀ :: suite) (ts a cls d)) (r : ClsOk X hds l) :
      ClsOk X (.ExceptHandler (some (.Name x np)) (some n) (b₀ :: suite) pos' :: hds) ((c, i, ts) :: l)
section
variable {X : Cx} {body : List Stmt} {h₀ : ExceptHandler} {hds : List ExceptHandler} {l : List Cl} {pos : Pos} {tb : WX → TS} {Wout : WX}
theorem ps_try_named (hs : X.stack = X.env :: X.outer) (hf : X.env.frame = some X.env.locals) (hN : X.N.Nodup) (tk : Takes X Wout)
    (hb : ∀ (W : WX) (pn : List (Addr × Obj)) (xe : Value → Shared → Prop), Takes (X.tr pn xe) W → PassesOwn (model X.prog X.w) X.A X.env xe → PSs (X.tr pn xe) body (tb W))
    (hh : ClsOk X (h₀ :: hds) l) : PS X (.Try body (h₀ :: hds) [] [] pos) (fun D σ H => tb (wNamed X.K Wout D l) D σ H) := by
  constructor
  intro pins s σ H D I want
  have ok := I.ok
  have fr : X.A.frames = some (X.env :: X.outer) := by rw [ok.frames, hs]
  let after : Value → Shared → Prop := fun e s₁ => wpAny (model X.prog X.w) X.A (noteFrame e X.env) (fun _ s₂ => wpAny (model X.prog X.w) X.A (setFlight e none) (fun _ s₃ =>
    wpAny (model X.prog X.w) X.A (handleBy e X.env (h₀ :: hds)) (SP X pins D) X.xe s₃) X.xe s₂) X.xe s₁
  have caught : Takes (X.tr (X.pn ++ pins) after) (wNamed X.K Wout D l) := by
    rintro u s' ⟨a, B, sI, pins', σ', H', cls, d, rfl, J', nb, up, sky, na, os, ag, w⟩
    have J : Inv X pins σ' H' sI := J'.ofTry ok
    rw [show (X.tr (X.pn ++ pins) after).stack = X.env :: X.outer from hs] at sky
    show wpAny (model X.prog X.w) X.A (noteFrame (.ref a) X.env) _ _ _
    refine Sky.land Zc.steady fr hf sky fun h3 fl3 up3 => ?_
    have J3 : Inv X pins σ' H' { s' with heap := h3 } := J.landed nb fl3.1 (up.trans up3) os ag
    obtain ⟨oe3, vs3, he3, hz3, hd3⟩ := fl3.there
    have away : a ∉ frs (X.env :: X.outer) := fun hm => by
      obtain ⟨_, o', e', hnf⟩ := fl3.2.2.1.mem hm
      rw [he3] at e'; cases e'
      exact hnf _ hd3
    have nL : a ≠ X.env.locals := fun z => away (List.mem_filterMap.mpr ⟨X.env, List.mem_cons_self, by rw [hf, z]⟩)
    have nF : a ∉ X.fs := fun hm => by
      obtain ⟨e, he, q⟩ := List.mem_filterMap.mp hm
      exact away (List.mem_filterMap.mpr ⟨e, List.mem_cons_of_mem _ he, q⟩)
    have S3 := J3.suite he3 hd3 na nL nF
    suffices go : ∀ {hds' : List ExceptHandler} {l' : List Cl}, ClsOk X hds' l' → wNamed X.K Wout D l' cls d σ' H' →
        wpAny (model X.prog X.w) X.A (handleBy (.ref a) X.env hds') (SP X pins D) X.xe { s' with heap := h3 } from go hh w
    intro hds' l' hk
    induction hk with
    | nil =>
      intro w'
      refine wpAny_handleBy_nil ?_
      obtain ⟨_, _, _, oe, vs, T, oT, ts', he, hz, hd, h1, hr⟩ := id fl3
      unfold PySem.passOn
      refine wpAny_bind (wpAny_field he hd h1 ?_)
      rw [if_neg (show ¬ ((Value.ref T == Value.none) = true) from by simp)]
      have fin : wpAny (model X.prog X.w) X.A (setFlight (.ref a) X.env.frame) (fun _ s4 => wpAny (model X.prog X.w) X.A (throw (.ref a) : Sem Flow) (SP X pins D) X.xe s4) X.xe { s' with heap := h3 } := by
        rw [hf]
        exact HandSPX.setFlight_upZ fl3 fun h4 hh4 up4 => wpAny_throw (tk _ _ ⟨a, B, sI, pins, σ', H', cls, d, rfl, J, nb, (up.trans up3).trans up4, .inr (.inr (by rw [hs]; exact hh4)), na, os, ag, w'⟩)
      first
        | exact wpAny_bind (wpAny_pure (wpAny_bind fin))
        | exact wpAny_bind fin
    | @cons x n c i ts b₀ suite np pos' hds2 l2 hi hln hc hsu r ih =>
      rintro ⟨b, hb1, hyes, hno⟩
      have hloc : Loc X.env.scope n := .inl hln
      refine wpAny_handleBy_cons (codeAny_handlers_test ?_) (by intro q; cases q)
      have LT : PySem.W.Looks (model X.prog X.w) h3 (typeOf (.ref a)) cls := fun A Q E s k q => wpAny_typeOf_ref (k _ _ he3) (by rw [hz3.1]; exact q)
      have LM := PySem.W.exm_one (M := model X.prog X.w) (J3.kIn) LT hb1
      have test : ∀ {Q : Value → Shared → Prop} {E : Value → Shared → Prop}, Q c { s' with heap := h3 } → wpAny (model X.prog X.w) (X.A.mark (some (.ref a))) (eval (.Name x np) X.env) Q E { s' with heap := h3 } := fun {Q E} q => by
        obtain ⟨hg, hdbg, hm | ⟨hm, hv, hnn⟩⟩ := hc
        · exact ld_glob (X := X.suite a ((a, oe3) :: (X.pn ++ pins))) S3 hg hm q hdbg
        · exact ld_blt (X := X.suite a ((a, oe3) :: (X.pn ++ pins))) S3 hg hm hv q hnn hdbg
      refine test (LM.here ?_)
      cases b with
      | false => exact ih (hno rfl)
      | true =>
        refine codeAny_handlers_suite_as ?_
        refine HandSPX.lands_againZ fl3 fun h4 fl4 up4 => ?_
        have J4 : Inv X pins σ' H' { s' with heap := h4 } := J.landed nb fl4.1 ((up.trans up3).trans up4) os ag
        obtain ⟨oe4, vs4, he4, hz4, hd4⟩ := fl4.there
        have S4 := J4.suite he4 hd4 na nL nF
        refine store_ok (X := X.suite a ((a, oe4) :: (X.pn ++ pins))) (v := .ref a) S4 hN hi hloc rfl (fun s5 S5 => ?_) (.inr hln)
        refine wpAny_mono ((hsu a oe4 cls d (X.pn ++ pins) hz4 ⟨_, hd4⟩).run [] s5 _ H' _ S5 (hyes rfl a na)) (fun f s6 hsp => ?_) (fun _ _ z => False.elim z)
        have off : ∀ {σ6 : L2.St} {H6 : Hp} {Q : Shared → Prop}, Inv (X.suite a ((a, oe4) :: (X.pn ++ pins))) [] σ6 H6 s6 → (∀ s7, Inv X pins (σ6.set i none) H6 s7 → Q s7) →
            wpAny (model X.prog X.w) X.A (do bindName X.env n .none; unbindBehindTheSuite X.env n pos') (fun _ s7 => Q s7) X.xe s6 := fun S6 hq => gone_ok (S6.unsuite ok) hN hi hln hq
        cases f with
        | ret u =>
          obtain ⟨v6, σ6, H6, S6, r6, q6⟩ := hsp
          exact off S6 fun s7 J7 => ⟨_, _, _, J7, r6, q6⟩
        | next =>
          obtain ⟨σ6, H6, S6, q6⟩ := hsp
          exact off S6 fun s7 J7 => ⟨_, _, J7, q6⟩
        | brk =>
          obtain ⟨σ6, H6, S6, q6⟩ := hsp
          exact off S6 fun s7 J7 => ⟨_, _, J7, q6⟩
        | cont =>
          obtain ⟨σ6, H6, S6, q6⟩ := hsp
          exact off S6 fun s7 J7 => ⟨_, _, J7, q6⟩
  refine wpAny_Try_except (wpAny_mono ((hb (wNamed X.K Wout D l) (X.pn ++ pins) after caught PassesOwn.looking).run [] s σ H D (I.toTry _) want) (fun f s1 hsp => ?_) fun e s1 he => he)
  cases f with
  | ret u =>
    obtain ⟨v, σ', H', J', r, q⟩ := hsp
    exact ⟨v, σ', H', J'.ofTry ok, r, q⟩
  | next =>
    obtain ⟨σ', H', J', q⟩ := hsp
    exact wpAny_execs_nil ⟨σ', H', J'.ofTry ok, q⟩
  | brk =>
    obtain ⟨σ', H', J', q⟩ := hsp
    exact ⟨σ', H', J'.ofTry ok, q⟩
  | cont =>
    obtain ⟨σ', H', J', q⟩ := hsp
    exact ⟨σ', H', J'.ofTry ok, q⟩
end
end Mo
/-! Mo36: its model. -/
namespace Mo
open PySem L2
abbrev ClM := (String → Option Bool) × Nat × (XA → MS)
noncomputable def KTryN : List ClM → SR → SR
  | [], r => r
  | (xt, i, su) :: cl, r => match r with
    | .err e s h => match xt e.c with
      | some true => sUni fun a d => finT i (su ⟨a, d, e.c⟩ (s.set i (some (.exa a d h.length))) (h ++ [.xd e.c e.fs]))
      | some false => KTryN cl (.err e s h)
      | none => .no
    | r => r
noncomputable def sTryN (b : MS) (cl : List ClM) : MS := fun s h => KTryN cl (b s h)
section
variable {X : Cx} {G : String → Option V} {W : WX}
inductive HM (X : Cx) (G : String → Option V) : List ExceptHandler → List Cl → List ClM → Prop
  | nil : HM X G [] [] []
  | cons {x n : Str} {c : Value} {i : Nat} {xt : String → Option Bool} {su : XA → MS} {b₀ : Stmt} {suite : List Stmt} {np pos' : Pos} {hds : List ExceptHandler} {l : List Cl} {ms : List ClM} (E : ExmOk X.K G c xt) (hi : X.N[i]? = some n) (hln : X.env.kindOf n = some .local) (hc : Names X x c)
      (hsu : ∀ (y : XA) (oe : Obj) (cls : Value) (d : Option Addr) (C : Addr) (pn : List (Addr × Obj)), Zc cls d oe → (∃ vs, oe.data = .fields vs) → Held X G xt y cls d C → PSs (X.suite y.a ((y.a, oe) :: pn)) (b₀ :: suite) (RS X.K G noW (su y))) (r : HM X G hds l ms) :
      HM X G (.ExceptHandler (some (.Name x np)) (some n) (b₀ :: suite) pos' :: hds) ((c, i, tSu X G xt su) :: l) ((xt, i, su) :: ms)
theorem HM.cls {hds : List ExceptHandler} {l : List Cl} {ms : List ClM} (h : HM X G hds l ms) : ClsOk X hds l := by
  induction h with
  | nil => exact .nil
  | cons E hi hln hc hsu r ih =>
    exact .cons hi hln hc (fun a oe cls d pn hz hv => pss_ex fun y => pss_ex fun C => pss_and fun ⟨ha, hh⟩ => by subst ha; exact hsu y oe cls d C pn hz hv hh) ih
theorem HM.err {D : Ends} {hds : List ExceptHandler} {l : List Cl} {ms : List ClM} (h : HM X G hds l ms) : ∀ {v} {s : Lo} {m : MH} {ρ : List Addr} {H : Hp}, RSE X.K G W D ρ H (KTryN ms (.err v s m)) →
    ∀ (ρ1 : List Addr) (H1 : Hp) (σ1 : St) (cls : Value) (d : Option Addr), Ext X.K ρ H ρ1 H1 → HR X.K G ρ1 H1 m → SRl X.K G ρ1 H1 s σ1 → ER X.K G ρ1 H1 v cls d → wNamed X.K W D l cls d σ1 H1 := by
  induction h with
  | nil => intro v s m ρ H q ρ1 H1 σ1 cls d x1 hr sr er; exact q ρ1 H1 σ1 cls d x1 hr sr er
  | cons E hi hln hc hsu r ih =>
    rename_i x n c i xt su b₀ suite np pos' hds l ms
    intro v s m ρ H q ρ1 H1 σ1 cls d x1 hr sr er
    obtain ⟨C, a', vs, g, rfl, rfl, hnr, ha, hfs⟩ := id er
    unfold KTryN at q
    dsimp only at q
    cases ex : xt v.c with
    | none => simp only [ex] at q; exact q.elim
    | some bb =>
      refine ⟨bb, E.ok _ _ _ ex g, ?_, ?_⟩
      · rintro rfl a hna
        simp only [ex] at q
        refine ⟨⟨a, a', v.c⟩, C, ⟨rfl, g, rfl, rfl, ex⟩, ?_⟩
        obtain ⟨hr2, x2⟩ := hr.add (o := .xd v.c v.fs) hnr ⟨vs, ha, hfs⟩
        refine ⟨ρ1 ++ [a'], s.set i (some (.exa a a' m.length)), m ++ [.xd v.c v.fs], ⟨hr2, (sr.ext x2).set (by rw [VR]; exact ⟨rfl, by rw [← hr.len, List.getElem?_append_right (Nat.le_refl _)]; simp⟩)⟩, ?_⟩
        have x3 := x1.trans x2
        generalize hF : sUni _ = F at q
        have hne : F ≠ .no := by rintro rfl; exact q
        have hk := sUni_ok hF hne a a'
        subst hk
        cases eT : su ⟨a, a', v.c⟩ (s.set i (some (.exa a a' m.length))) (m ++ [.xd v.c v.fs]) with
        | nx s2 m2 => simp only [eT, finT] at q; exact fun ρ2 H2 σ2 e2 a2 b2 => q ρ2 H2 _ (x3.trans e2) a2 b2.gone
        | bk s2 m2 => simp only [eT, finT] at q; exact fun ρ2 H2 σ2 e2 a2 b2 => q ρ2 H2 _ (x3.trans e2) a2 b2.gone
        | ct s2 m2 => simp only [eT, finT] at q; exact fun ρ2 H2 σ2 e2 a2 b2 => q ρ2 H2 _ (x3.trans e2) a2 b2.gone
        | rt u m2 => simp only [eT, finT] at q; exact fun ρ2 H2 v2 e2 a2 b2 => q ρ2 H2 _ (x3.trans e2) a2 b2
        | err u s2 m2 => simp only [eT, finT] at q; exact q.elim
        | no => simp only [eT, finT] at q; exact q.elim
      · rintro rfl
        simp only [ex] at q
        exact ih q ρ1 H1 σ1 _ _ x1 hr sr er
theorem KTryN_nx {cl : List ClM} {s : Lo} {m : MH} : KTryN cl (.nx s m) = .nx s m := by cases cl <;> rfl
theorem KTryN_bk {cl : List ClM} {s : Lo} {m : MH} : KTryN cl (.bk s m) = .bk s m := by cases cl <;> rfl
theorem KTryN_ct {cl : List ClM} {s : Lo} {m : MH} : KTryN cl (.ct s m) = .ct s m := by cases cl <;> rfl
theorem KTryN_rt {cl : List ClM} {v : MV} {m : MH} : KTryN cl (.rt v m) = .rt v m := by cases cl <;> rfl
theorem KTryN_no {cl : List ClM} : KTryN cl .no = .no := by cases cl <;> rfl
theorem m_try_named {body : List Stmt} {h₀ : ExceptHandler} {hds : List ExceptHandler} {l : List Cl} {ms : List ClM} {pos : Pos} {b : MS} (hs : X.stack = X.env :: X.outer) (hf : X.env.frame = some X.env.locals) (hN : X.N.Nodup) (tk : Takes X W)
    (hb : ∀ (W : WX) (pn : List (Addr × Obj)) (xe : Value → Shared → Prop), Takes (X.tr pn xe) W → PassesOwn (model X.prog X.w) X.A X.env xe → PSs (X.tr pn xe) body (RS X.K G W b))
    (h : HM X G (h₀ :: hds) l ms) : PS X (.Try body (h₀ :: hds) [] [] pos) (RS X.K G W (sTryN b ms)) := by
  refine ps_imp (ps_try_named (tb := fun W => RS X.K G W b) (Wout := W) hs hf hN tk hb h.cls) fun D σ H ⟨ρ, sm, mh, r, q⟩ => ⟨ρ, sm, mh, r, ?_⟩
  unfold sTryN at q
  cases e : b sm mh with
  | nx s m => rw [e, KTryN_nx] at q; exact q
  | rt v m => rw [e, KTryN_rt] at q; exact q
  | bk s m => rw [e, KTryN_bk] at q; exact q
  | ct s m => rw [e, KTryN_ct] at q; exact q
  | no => rw [e, KTryN_no] at q; exact q
  | err v s m => rw [e] at q; exact fun ρ1 H1 σ1 cls d x1 hr sr er => h.err q ρ1 H1 σ1 cls d x1 hr sr er
end
end Mo
/-! Mo37: str of a number. -/
namespace Mo
open PySem L2
def fStrI (xs : List MV) (h : MH) : OV := match xs with
  | [.int i] => if i.natAbs.log2 < 1920 then some (.str (toString i), h) else none
  | _ => none
theorem fStrI_ok {i : Int} {h : MH} (e : i.natAbs.log2 < 1920) : fStrI [.int i] h = some (.str (toString i), h) := if_pos e
section
variable {K : PySem.W.Frag} {G : String → Option V}
theorem s_strI : CallS K G (fun xs H Q => ∃ i, xs = [.int i] ∧ i.natAbs.log2 < 1920 ∧ Q (.str (toString i)) H) fStrI := by
  intro ρ H mh mh1 xs z vs Q hr rvs e k
  unfold fStrI at e
  split at e
  · rename_i i
    split at e
    · rename_i hl
      cases e
      obtain ⟨w, rfl, rv⟩ := rvs.one
      simp only [VR] at rv
      subst rv
      exact ⟨i, rfl, hl, k _ _ Ext.refl hr _ (by simp [VR])⟩
    · cases e
  · cases e
end
end Mo
/-! Mo38: for and if within a generator's body. -/
namespace Mo
open PySem PySem.Spec PyProof.Rows GenW L2
section
variable {M : Model} {A : Around} {R : GenEnd} {Y : Protocol} {n : Nat} {s₀ : Shared} {c : Code} {fs : List Frame} {s : Shared} {env : Env}
  {K : Flow → Sem PySem.Fin} {H : Value → Sem PySem.Fin} {gd : Bool → Bool} {lv : List Value → List Value}
theorem seg_For {target iter : Expr} {body orelse : List Stmt} {pos : Pos} (hs : ∀ x, foldedSetIterable iter env x = pure x)
    (h : wpAny M (A.over c fs) (eval iter env) (fun x s₁ => wpAny M (A.over c fs) (pyIter x) (fun it s₂ => ∀ p, Seg M A R Y n s₀ (.forLoop target it body orelse env) (M.den (.forLoop target it body orelse env))
      (.ret (fun r => ((match r with | .ok f => (.pure f : Sem Flow) | .error e => .raise e).onRaise fun (x : Value) => do
        if (← field x 1) == Value.none then unsupported "frame.own-activation:exception-without-traceback"
        setFlight x env.frame).wrap K H gd lv) none (gd false) (lv []) c p [] :: fs) s₂) (fun e s' => Seg M A R Y n s₀ c (H e) fs s') s₁) (fun e s' => Seg M A R Y n s₀ c (H e) fs s') s) :
    Seg M A R Y n s₀ c ((exec (.For target iter body orelse pos) env).wrap K H gd lv) fs s := by
  rw [exec_For]
  refine seg_bind_wrap (wpAny_standAt ?_)
  refine seg_bind_wrap (wpAny_mono h (fun x s₁ h1 => ?_) fun _ _ q => q)
  refine seg_bind_wrap (wpAny_of_eq (hs x) ?_)
  refine seg_bind_wrap (wpAny_standAt ?_)
  refine seg_bind_wrap (wpAny_holding (wpAny_mono h1 (fun it s₂ h2 => ?_) fun _ _ q => q))
  exact seg_call h2
theorem seg_If {test : Expr} {body orelse : List Stmt} {pos : Pos}
    (h : wpAny M (A.over c fs) (isTrue test env (eval test env)) (fun b s₁ => if b = true then Seg M A R Y n s₀ c ((execs body env).wrap K H gd lv) fs s₁ else Seg M A R Y n s₀ c ((execs orelse env).wrap K H gd lv) fs s₁)
      (fun e s' => Seg M A R Y n s₀ c (H e) fs s') s) : Seg M A R Y n s₀ c ((exec (.If test body orelse pos) env).wrap K H gd lv) fs s := by
  show Seg M A R Y n s₀ c ((standAt pos >>= fun _ => isTrue test env (eval test env) >>= fun b => if b = true then execs body env else execs orelse env).wrap K H gd lv) fs s
  refine seg_bind_wrap (wpAny_standAt ?_)
  refine seg_bind_wrap (wpAny_mono h (fun b s₁ h1 => ?_) fun _ _ q => q)
  cases b with
  | true => exact h1
  | false => exact h1
end
section
variable {prog : Program} {w : World} {A : Around} {R : GenEnd} {Y : Protocol} {n : Nat} {s₀ : Shared} {fs : List Frame} {s : Shared} {env : Env}
abbrev notedSeg (prog : Program) (w : World) (A : Around) (R : GenEnd) (Y : Protocol) (n : Nat) (s₀ : Shared) (c : Code) (fs : List Frame) (env : Env) (x : Value) (s' : Shared) : Prop :=
  Seg (model prog w) A R Y n s₀ c ((do noteFrame x env; theTreesLotGoes x : Sem Unit).wrap (fun _ => .raise x) .raise id id) fs s'
theorem seg_forLoop {target : Expr} {it : Value} {body orelse : List Stmt}
    (h : wpAny (model prog w) (A.over (.forLoop target it body orelse env) fs) (pyNext it) (fun r s₁ => match r with
      | none => Seg (model prog w) A R Y n s₀ (.forLoop target it body orelse env) (.pure (.again (.block orelse env))) fs s₁
      | some v => wpAny (model prog w) (A.over (.forLoop target it body orelse env) fs) (letOwnedTupleGo target it v) (fun _ s₁' =>
          wpAny (model prog w) (A.over (.forLoop target it body orelse env) fs) (assign target env v) (fun _ s₂ =>
            Seg (model prog w) A R Y n s₀ (.forLoop target it body orelse env) ((execs body env).wrap (fun f => match f with
              | .next | .cont => .pure (.again (.forLoop target it body orelse env))
              | .brk => .pure (.done .next)
              | .ret v => .pure (.done (.ret v))) (fun e => (do noteFrame e env; theTreesLotGoes e : Sem Unit).wrap (fun _ => .raise e) .raise id id) id id) fs s₂)
            (notedSeg prog w A R Y n s₀ (.forLoop target it body orelse env) fs env) s₁') (notedSeg prog w A R Y n s₀ (.forLoop target it body orelse env) fs env) s₁)
      (notedSeg prog w A R Y n s₀ (.forLoop target it body orelse env) fs env) s) :
    Seg (model prog w) A R Y n s₀ (.forLoop target it body orelse env) ((model prog w).den (.forLoop target it body orelse env)) fs s := by
  show Seg _ A R Y n s₀ _ ((forTurn target it body orelse env).onRaise (fun x => do noteFrame x env; theTreesLotGoes x)) fs s
  unfold forTurn
  rw [Sem.onRaise_eq_wrap]
  have eH : (fun (e : Value) => ((do noteFrame e env; theTreesLotGoes e : Sem Unit).bind fun _ => (.raise e : Sem PySem.Fin))) = fun e => (do noteFrame e env; theTreesLotGoes e : Sem Unit).wrap (fun _ => .raise e) .raise id id := by
    funext e; rw [Sem.bind_eq_wrap]
  rw [eH]
  refine seg_bind_wrap (wpAny_standAt ?_)
  refine seg_bind_wrap (wpAny_onRaise (wpAny_mono h (fun r s₁ h1 => ?_) fun _ _ q => wpAny_standAt q))
  cases r with
  | none => exact h1
  | some v =>
    refine seg_bind_wrap (wpAny_mono h1 (fun _ s2 h2 => ?_) fun _ _ q => q)
    refine seg_bind_wrap (wpAny_mono h2 (fun _ s3 h3 => ?_) fun _ _ q => q)
    rw [Sem.bind_eq_wrap', Sem.wrap_wrap]
    refine Eq.mp (congrArg (fun z => Seg (model prog w) A R Y n s₀ (.forLoop target it body orelse env) z fs s3) (Sem.wrap_congr (execs body env) _ _ (fun f => ?_) (fun e => ?_)).symm) h3
    · cases f <;> rfl
    · rfl
end
section
variable {X : Cx}
def tGIf (c : TT) (t u : TGn) : TGn := fun D ys σ H => c σ H fun b H1 => if b = true then t D ys σ H1 else u D ys σ H1
theorem gs_if {test : Expr} {a b : List Stmt} {pos : Pos} {tc : TT} {t u : TGn} (hc : PT X test tc) (ha : L2.GSs X a t) (hb : L2.GSs X b u) : L2.GS X (.If test a b pos) (tGIf tc t u) := by
  refine ⟨fun A S ip R n ys s₀ c fs K J gd lv s σ H D g hn k hI ht => ?_⟩
  obtain ⟨acc, cc, r, I⟩ := hI
  refine seg_If ?_
  rw [g.over]
  refine wpAny_mono (hc.run _ s σ H _ I ht) (fun d s1 ⟨H1, I1, q1⟩ => ?_) fun x s' hx => k.exc n s₀ x s' hx
  cases d with
  | true => exact ha.run A S ip R n ys s₀ c fs K J gd lv s1 σ H1 D g hn k ⟨acc, cc, r, I1⟩ q1
  | false => exact hb.run A S ip R n ys s₀ c fs K J gd lv s1 σ H1 D g hn k ⟨acc, cc, r, I1⟩ q1
def tGFor (wi : TI) (g : TG) (tb : TGn) : TGn := fun D ys σ H => wi σ H fun J H1 => ∃ W : Nat → Nat → List V → L2.St → Hp → Prop, (∃ m, W 0 m ys σ H1) ∧ ∀ i m ys σ H, W i m ys σ H →
  (J.stop i H ∧ D.nx ys σ H) ∨ (J.go i H ∧ ∃ N : List V → L2.St → Hp → Prop, (∀ ys' σ' H', N ys' σ' H' → ∃ m', m' < m ∧ W (i + 1) m' ys' σ' H') ∧ ∀ x H', J.yld i H x H' → g x σ H' fun σ2 H2 => tb { D with nx := N, ct := N, bk := D.nx } ys σ2 H2)
theorem gc_ip {S : Addr} {ip ip' : List (Addr × Obj)} {A : Around} {c : Code} {fs : List Frame} {gd : Bool → Bool} (g : GC X S ip A c fs gd) (h : ∀ p ∈ ip', p.1 ≠ S) : GC X S ip' A c fs gd := ⟨g.pn, h, g.apart, g.over, g.split, g.guard, g.gd⟩
theorem gs_for {tg iter : Expr} {body : List Stmt} {wi : TI} {g : TG} {tb : TGn} {pos : Pos} (hp : PassesOwn (model X.prog X.w) X.A X.env X.xe) (hc : X.calm = true) (hi : PI X tg iter wi) (hg : PG X tg g) (hb : L2.GSs X body tb)
    (hs : ∀ x, foldedSetIterable iter X.env x = pure x := by intro _; rfl) : L2.GS X (.For tg iter body [] pos) (tGFor wi g tb) := by
  refine ⟨fun A S ip R n ys s₀ c fs K J gd lv s σ H D gc hn k hI ht => ?_⟩
  obtain ⟨acc, cc, r, I⟩ := hI
  refine seg_For hs ?_
  rw [gc.over]
  have exc1 : ∀ e s', X.xe e s' → Seg (model X.prog X.w) A R (GY X S) n s₀ c (J e) fs s' := fun e s' hx => k.exc n s₀ e s' hx
  refine wpAny_mono (hi.run _ s σ H _ I ht) (fun v s1 h1 => ?_) exc1
  refine wpAny_mono h1 (fun itv s2 h2 => ?_) exc1
  obtain ⟨it, fp, tn, Jt, H2, e, I2, T, st2, f2, W, ⟨m0, w0⟩, turn⟩ := h2
  subst e
  intro p
  have hSfp : ∀ b ∈ fp, b ≠ S := fun b hb z => (f2 b hb).2.2.2.2.2 (S, lstObj acc cc) (List.mem_append_right _ List.mem_cons_self) z.symm
  have gl := fun (kk : Result → Sem PySem.Fin) => gc_loop (k := kk) (c' := .forLoop tg (.ref it) body [] X.env) (l := lv []) (kp := []) (p := p) gc rfl rfl
  have glb := fun (kk : Result → Sem PySem.Fin) => gc_loop (k := kk) (c' := .block [] X.env) (l := lv []) (kp := []) (p := p) gc rfl rfl
  -- what stays true of the iterator's objects through the loop
  have fstat : ∀ b ∈ fp, b ≠ X.env.locals ∧ b ∉ X.fs ∧ (b ∈ X.ex ∨ X.s_0.heap.objs.size ≤ b) ∧ (∀ x c, X.env.cells.lookup x = some c → c ≠ b) ∧ (∀ p ∈ X.pn ++ ip, p.1 ≠ b) := fun b hb => by
    obtain ⟨_, q1, q2, q3, q4, q5⟩ := f2 b hb
    exact ⟨q1, q2, q3, q4, fun p hp => (List.mem_append.mp hp).elim (fun z => q5 p (List.mem_append_left _ z)) fun z => q5 p (List.mem_append_right _ (List.mem_cons_of_mem _ z))⟩
  have stat : ∀ {H' : Hp} {acc' : Array Value} {c' : Nat}, (∀ b ∈ fp, H' b = none) → ∀ b ∈ fp, FpOk X ((S, lstObj acc' c') :: ip) H' b := fun hn b hb => by
    obtain ⟨q1, q2, q3, q4, q5⟩ := fstat b hb
    refine ⟨hn b hb, q1, q2, q3, q4, fun p hp => ?_⟩
    rcases List.mem_append.mp hp with z | z
    · exact q5 p (List.mem_append_left _ z)
    · rcases List.mem_cons.mp z with z | z
      · rw [z]; exact fun y => hSfp b hb y.symm
      · exact q5 p (List.mem_append_right _ z)
  have loop : ∀ (m n : Nat) (ys : List V) (s₀ s : Shared) (i : Nat) (σ : L2.St) (H : Hp), n + ys.length = sizeLine → W i m ys σ H → GI X S ip ys σ H s → tn i s.heap → (∀ b ∈ fp, H b = none) →
      Seg (model X.prog X.w) A R (GY X S) n s₀ (.forLoop tg (.ref it) body [] X.env) ((model X.prog X.w).den (.forLoop tg (.ref it) body [] X.env))
        (.ret (fun r => ((match r with | .ok f => (.pure f : Sem Flow) | .error e => .raise e).onRaise (cameBack X.env)).wrap K J gd lv) none (gd false) (lv []) c p [] :: fs) s := by
    intro m
    induction m using Nat.strongRecOn with
    | ind m ih =>
      intro n ys s₀ s3 i σ3 H3 hn w3 hI3 st3 fr3
      have ee : ∀ (n : Nat) (s₀ : Shared) (x : Value) (s' : Shared), X.xe x s' → Seg (model X.prog X.w) A R (GY X S) n s₀ (.forLoop tg (.ref it) body [] X.env)
          ((do noteFrame x X.env; theTreesLotGoes x : Sem Unit).wrap (fun _ => .raise x) .raise id id)
          (.ret (fun r => ((match r with | .ok f => (.pure f : Sem Flow) | .error e => .raise e).onRaise (cameBack X.env)).wrap K J gd lv) none (gd false) (lv []) c p [] :: fs) s' := fun n s₀ x s' hx => by
        refine seg_wrap ?_
        rw [(gl _).over]
        refine wpAny_bind (wpAny_mono (hp x s' hx) (fun _ s'' hcb => wpAny_theTreesLotGoes ?_) fun y s'' hcb => ?_)
        · exact seg_leaf (.error x) (seg_cameBack gc k hcb)
        · exact seg_leaf (.error y) (seg_cameBack gc k hcb)
      refine seg_forLoop ?_
      rw [(gl _).over]
      obtain ⟨acc3, cc3, r3, I3⟩ := hI3
      rcases turn i m ys σ3 H3 w3 with ⟨stop, qn⟩ | ⟨go, N, hN, step⟩
      · refine wpAny_mono (T.done X rfl rfl rfl hc i _ s3 σ3 H3 X.xe I3 (stat fr3) st3 stop) (fun r s4 hr4 => ?_) (fun e s' hx => ee n s₀ e s' hx)
        obtain ⟨hr, I4⟩ := hr4
        subst hr
        refine seg_again (c' := .block [] X.env) rfl ?_
        show Seg _ A R (GY X S) n s₀ _ (((execs [] X.env).onRaise (fun x => do noteFrame x X.env; theTreesLotGoes x)) >>= fun f => (.pure (.done f) : Sem PySem.Fin)) _ s4
        exact seg_leaf (.ok .next) (k.ok n ys s₀ s4 .next hn ⟨σ3, H3, ⟨acc3, cc3, r3, I4⟩, qn⟩)
      · refine wpAny_mono (T.item X rfl rfl rfl hc i _ s3 σ3 H3 X.xe I3 (stat fr3) st3 go) (fun r s4 hr4 => ?_) (fun e s' hx => ee n s₀ e s' hx)
        obtain ⟨u, hr, h4⟩ := hr4
        subst hr
        refine wpAny_mono h4 (fun _ s5 h5 => ?_) (fun e s' hx => ee n s₀ e s' hx)
        obtain ⟨x, H5, I5, r5, y5, st5, fr5⟩ := h5
        have I5' := I5.pinned (stat fr5) (T.obj _ _ st5)
        refine wpAny_mono (hg.run _ s5 σ3 H5 x u _ I5' r5 (step x H5 y5)) (fun _ s6 h6 => ?_) (fun e s' hx => ee n s₀ e s' hx)
        obtain ⟨σ6, H6, I6, q6⟩ := h6
        have ipS : ∀ p ∈ ip ++ pinsAt fp s5.heap, p.1 ≠ S := fun p hp => (List.mem_append.mp hp).elim (fun z => gc.ip p z) fun z => hSfp p.1 (of_pinsAt z).1
        have again : ∀ (n' : Nat) (ys' : List V) (s₀' s7 : Shared) (σ7 : L2.St) (H7 : Hp), n' + ys'.length = sizeLine → GI X S (ip ++ pinsAt fp s5.heap) ys' σ7 H7 s7 → N ys' σ7 H7 →
            Seg (model X.prog X.w) A R (GY X S) n' s₀' (.forLoop tg (.ref it) body [] X.env) (.pure (.again (.forLoop tg (.ref it) body [] X.env)))
              (.ret (fun r => ((match r with | .ok f => (.pure f : Sem Flow) | .error e => .raise e).onRaise (cameBack X.env)).wrap K J gd lv) none (gd false) (lv []) c p [] :: fs) s7 := fun n' ys' s₀' s7 σ7 H7 hn' hI7 n7 => by
          obtain ⟨acc7, cc7, r7, I7⟩ := hI7
          obtain ⟨m', hm, w7⟩ := hN ys' σ7 H7 n7
          refine seg_again rfl (ih m' hm n' ys' s₀' s7 (i + 1) σ7 H7 hn' w7 ⟨acc7, cc7, r7, I7.pins_of fun p hp => I7.pin p ?_⟩ (T.keep _ _ _ st5 fun b hb o e => (I7.pin (b, o) ?_).1) fun b hb => ?_)
          · rcases List.mem_cons.mp hp with z | z
            · exact List.mem_append_right _ (by rw [z]; exact List.mem_cons_self)
            · exact List.mem_append_right _ (List.mem_cons_of_mem _ (List.mem_append_left _ z))
          · exact List.mem_append_right _ (List.mem_cons_of_mem _ (List.mem_append_right _ (mem_pinsAt hb e)))
          · obtain ⟨o, e, d⟩ := T.obj _ _ st5 b hb
            exact (I7.pin (b, o) (List.mem_append_right _ (List.mem_cons_of_mem _ (List.mem_append_right _ (mem_pinsAt hb e))))).2.1
        have drop : ∀ {ys' : List V} {σ7 : L2.St} {H7 : Hp} {s7 : Shared}, GI X S (ip ++ pinsAt fp s5.heap) ys' σ7 H7 s7 → GI X S ip ys' σ7 H7 s7 := fun {ys' σ7 H7 s7} hI7 => by
          obtain ⟨acc7, cc7, r7, I7⟩ := hI7
          refine ⟨acc7, cc7, r7, I7.pins_of fun p hp => I7.pin p ?_⟩
          rcases List.mem_cons.mp hp with z | z
          · exact List.mem_append_right _ (by rw [z]; exact List.mem_cons_self)
          · exact List.mem_append_right _ (List.mem_cons_of_mem _ (List.mem_append_left _ z))
        refine hb.run A S (ip ++ pinsAt fp s5.heap) R n ys s₀ _ _ _ _ id id s6 σ6 H6 { D with nx := N, ct := N, bk := D.nx } (gc_ip (gl _) ipS) hn ⟨fun n' ys' s₀' s7 f hn' hs => ?_, fun n' s₀' x s7 hx => ee n' s₀' x s7 hx⟩ ⟨acc3, cc3, r3, I6.pins_of fun p hp => I6.pin p ?_⟩ q6
        · cases f with
          | next => obtain ⟨σ7, H7, I7, n7⟩ := hs; exact again n' ys' s₀' s7 σ7 H7 hn' I7 n7
          | cont => obtain ⟨σ7, H7, I7, n7⟩ := hs; exact again n' ys' s₀' s7 σ7 H7 hn' I7 n7
          | brk =>
            obtain ⟨σ7, H7, I7, n7⟩ := hs
            exact seg_leaf (.ok .next) (k.ok n' ys' s₀' s7 .next hn' ⟨σ7, H7, drop I7, n7⟩)
          | ret v =>
            obtain ⟨x7, σ7, H7, I7, rv, n7⟩ := hs
            exact seg_leaf (.ok (.ret v)) (k.ok n' ys' s₀' s7 (.ret v) hn' ⟨x7, σ7, H7, drop I7, rv, n7⟩)
        · exact List.mem_append_right _ hp
  exact loop m0 n ys s₀ s2 0 σ H2 hn w0 ⟨acc, cc, r, I2⟩ st2 fun b hb => (f2 b hb).1
end
end Mo
/-! Mo39: the model of a generator that is drained at once: list(g(..)). -/
namespace Mo
open PySem PySem.Spec PyProof.Rows GenW L2
abbrev MGn := List MV → Lo → MH → List MV × SR
def gPl (m : MS) : MGn := fun ys s h => (ys, m s h)
def gNx : MGn := fun ys s h => (ys, .nx s h)
def gKY (ys : List MV) (s : Lo) : Rz MV → List MV × SR
  | .ok v h1 => (ys ++ [v], .nx s h1)
  | .err e h1 => (ys, .err e s h1)
  | .no => (ys, .no)
def gYld (e : ME) : MGn := fun ys s h => if ys.length < SZ then gKY ys s (e s h) else (ys, .no)
def gKS (b : MGn) : List MV × SR → List MV × SR
  | (zs, .nx s1 h1) => b zs s1 h1
  | r => r
def gSq (a b : MGn) : MGn := fun ys s h => gKS b (a ys s h)
def gKI (a b : MGn) (ys : List MV) (s : Lo) : Rz Bool → List MV × SR
  | .ok k h1 => if k = true then a ys s h1 else b ys s h1
  | .err e h1 => (ys, .err e s h1)
  | .no => (ys, .no)
def gIf (c : MB) (a b : MGn) : MGn := fun ys s h => gKI a b ys s (c s h)
/-- a turn's end -/
def gKT (again : MGn) : List MV × SR → List MV × SR
  | (zs, .nx s2 h2) => again zs s2 h2
  | (zs, .ct s2 h2) => again zs s2 h2
  | (zs, .bk s2 h2) => (zs, .nx s2 h2)
  | r => r
def gWhG (c : MB) (b : MGn) : Nat → MGn
  | 0, ys, _, _ => (ys, .no)
  | n + 1, ys, s, h => gKI (fun ys s h => gKT (gWhG c b n) (b ys s h)) gNx ys s (c s h)
def gFoG (get : Itm) (g : MG) (b : MGn) : Nat → Nat → MGn
  | 0, _, ys, _, _ => (ys, .no)
  | n + 1, i, ys, s, h => match get i h with
    | none => (ys, .no)
    | some none => (ys, .nx s h)
    | some (some x) => match g x s with
      | none => (ys, .no)
      | some s1 => gKT (gFoG get g b n (i + 1)) (b ys s1 h)
def gKF (g : MG) (b : MGn) (ys : List MV) (s : Lo) : Rz MV → List MV × SR
  | .ok v h1 => match asT v with
    | some xs => gFoG (getL xs) g b (xs.length + 1) 0 ys s h1
    | none => match seqOf h1 v with
      | some xs => gFoG (getSeq v) g b (xs.length + 1) 0 ys s h1
      | none => (ys, .no)
  | .err e h1 => (ys, .err e s h1)
  | .no => (ys, .no)
def gFor (it : ME) (g : MG) (b : MGn) : MGn := fun ys s h => gKF g b ys s (it s h)
section
variable {K : PySem.W.Frag} {G : String → Option V} {W : WX}
def RGE (K : PySem.W.Frag) (G : String → Option V) (W : WX) (D : GEnds) (ρ : List Addr) (H : Hp) (r : List MV × SR) : Prop :=
  match r.2 with
  | .nx sm1 mh1 => ∀ ρ1 H1 σ1 ys1, Ext K ρ H ρ1 H1 → HR K G ρ1 H1 mh1 → SRl K G ρ1 H1 sm1 σ1 → VRs K G ρ1 H1 r.1 ys1 → D.nx ys1 σ1 H1
  | .bk sm1 mh1 => ∀ ρ1 H1 σ1 ys1, Ext K ρ H ρ1 H1 → HR K G ρ1 H1 mh1 → SRl K G ρ1 H1 sm1 σ1 → VRs K G ρ1 H1 r.1 ys1 → D.bk ys1 σ1 H1
  | .ct sm1 mh1 => ∀ ρ1 H1 σ1 ys1, Ext K ρ H ρ1 H1 → HR K G ρ1 H1 mh1 → SRl K G ρ1 H1 sm1 σ1 → VRs K G ρ1 H1 r.1 ys1 → D.ct ys1 σ1 H1
  | .rt v mh1 => ∀ ρ1 H1 v1 ys1, Ext K ρ H ρ1 H1 → HR K G ρ1 H1 mh1 → VR K G ρ1 H1 v v1 → VRs K G ρ1 H1 r.1 ys1 → D.rt ys1 v1 H1
  | .err e sm1 mh1 => ∀ ρ1 H1 σ1 cls d, Ext K ρ H ρ1 H1 → HR K G ρ1 H1 mh1 → SRl K G ρ1 H1 sm1 σ1 → ER K G ρ1 H1 e cls d → W cls d σ1 H1
  | .no => False
def RG (K : PySem.W.Frag) (G : String → Option V) (W : WX) (m : MGn) : TGn := fun D ys σ H => ∃ ρ sm mh yms, Rl K G ρ H sm σ mh ∧ VRs K G ρ H yms ys ∧ RGE K G W D ρ H (m yms sm mh)
theorem RGE.mono {D : GEnds} {ρ ρ1 : List Addr} {H H1 : Hp} {r : List MV × SR} (x : Ext K ρ H ρ1 H1) (h : RGE K G W D ρ H r) : RGE K G W D ρ1 H1 r := by
  obtain ⟨zs, r⟩ := r
  cases r with
  | nx s m => exact fun ρ2 H2 σ1 ys1 e a b c => h ρ2 H2 σ1 ys1 (x.trans e) a b c
  | bk s m => exact fun ρ2 H2 σ1 ys1 e a b c => h ρ2 H2 σ1 ys1 (x.trans e) a b c
  | ct s m => exact fun ρ2 H2 σ1 ys1 e a b c => h ρ2 H2 σ1 ys1 (x.trans e) a b c
  | rt v m => exact fun ρ2 H2 σ1 ys1 e a b c => h ρ2 H2 σ1 ys1 (x.trans e) a b c
  | err v s m => exact fun ρ2 H2 σ1 c d e a b => h ρ2 H2 σ1 c d (x.trans e) a b
  | no => exact h
variable {X : Cx} {st : Stmt} {sts : List Stmt}
theorem gs_imp {t t' : TGn} (h : L2.GS X st t) (i : ∀ D ys σ H, t' D ys σ H → t D ys σ H) : L2.GS X st t' :=
  ⟨fun A S ip R n ys s₀ c fs K J gd lv s σ H D g hn k hI ht => h.run A S ip R n ys s₀ c fs K J gd lv s σ H D g hn k hI (i D ys σ H ht)⟩
theorem gss_imp {t t' : TGn} (h : L2.GSs X sts t) (i : ∀ D ys σ H, t' D ys σ H → t D ys σ H) : L2.GSs X sts t' :=
  ⟨fun A S ip R n ys s₀ c fs K J gd lv s σ H D g hn k hI ht => h.run A S ip R n ys s₀ c fs K J gd lv s σ H D g hn k hI (i D ys σ H ht)⟩
theorem gs_alt {t t' : TGn} (h : L2.GS X st t) (h' : L2.GS X st t') : L2.GS X st (fun D ys σ H => t D ys σ H ∨ t' D ys σ H) :=
  ⟨fun A S ip R n ys s₀ c fs K J gd lv s σ H D g hn k hI ht => ht.elim (fun q => h.run A S ip R n ys s₀ c fs K J gd lv s σ H D g hn k hI q) fun q => h'.run A S ip R n ys s₀ c fs K J gd lv s σ H D g hn k hI q⟩
theorem g_ps {m : MS} (h : PS X st (RS X.K G W m)) : L2.GS X st (RG X.K G W (gPl m)) := by
  refine gs_imp (gs_ps h) fun D ys σ H ⟨ρ, sm, mh, yms, r, ry, q⟩ => ⟨ρ, sm, mh, r, ?_⟩
  unfold gPl RGE at q
  dsimp only at q
  cases e : m sm mh with
  | nx s1 m1 => rw [e] at q; exact fun ρ1 H1 σ1 x a b => q ρ1 H1 σ1 ys x a b (ry.ext x)
  | bk s1 m1 => rw [e] at q; exact fun ρ1 H1 σ1 x a b => q ρ1 H1 σ1 ys x a b (ry.ext x)
  | ct s1 m1 => rw [e] at q; exact fun ρ1 H1 σ1 x a b => q ρ1 H1 σ1 ys x a b (ry.ext x)
  | rt v m1 => rw [e] at q; exact fun ρ1 H1 σ1 x a b => q ρ1 H1 σ1 ys x a b (ry.ext x)
  | err v s1 m1 => rw [e] at q; exact q
  | no => rw [e] at q; exact q
theorem g_nil : L2.GSs X [] (RG X.K G W gNx) :=
  gss_imp L2.gss_nil fun D ys σ H ⟨ρ, sm, mh, yms, r, ry, q⟩ => q ρ H σ ys Ext.refl r.hr r.sr ry
theorem g_cons {a b : MGn} (h : L2.GS X st (RG X.K G W a)) (h' : L2.GSs X sts (RG X.K G W b)) : L2.GSs X (st :: sts) (RG X.K G W (gSq a b)) := by
  refine gss_imp (L2.gss_cons h h') fun D ys σ H ⟨ρ, sm, mh, yms, r, ry, q⟩ => ⟨ρ, sm, mh, yms, r, ry, ?_⟩
  unfold gSq at q
  cases e : a yms sm mh with
  | mk zs r1 =>
    rw [e] at q
    cases r1 with
    | nx s1 m1 => exact fun ρ1 H1 σ1 ys1 x a1 b1 c1 => ⟨ρ1, s1, m1, zs, ⟨a1, b1⟩, c1, RGE.mono x q⟩
    | bk s1 m1 => exact q
    | ct s1 m1 => exact q
    | rt v m1 => exact q
    | err v s1 m1 => exact q
    | no => exact q
theorem g_one {a : MGn} (h : L2.GS X st (RG X.K G W a)) : L2.GSs X [st] (RG X.K G W a) := by
  refine gss_imp (L2.gss_cons h L2.gss_nil) fun D ys σ H q => q
theorem g_yld {e : Expr} {m : ME} {yp pos : Pos} (he : PE X e (RE X.K G W m)) (hco : X.env.scope.isCoroutine = false := by rfl) (hi : interactive X.env = false := by rfl) : L2.GS X (.Expr (.Yield (some e) yp) pos) (RG X.K G W (gYld m)) := by
  refine gs_imp (gs_yield he hco hi) fun D ys σ H ⟨ρ, sm, mh, yms, r, ry, q⟩ => ?_
  unfold gYld at q
  split at q
  · rename_i hl
    refine ⟨by rw [← ry.length]; exact hl, ρ, sm, mh, r, ?_⟩
    cases e1 : m sm mh with
    | no => rw [e1] at q; exact False.elim q
    | err v m1 => rw [e1] at q; exact fun ρ1 H1 cls d x hr er => q ρ1 H1 σ cls d x hr (r.sr.ext x) er
    | ok v m1 => rw [e1] at q; exact fun ρ1 H1 x hr w rv => q ρ1 H1 σ (ys ++ [w]) x hr (r.sr.ext x) ((ry.ext x).append (VRs.cons rv VRs.nil))
  · exact False.elim q
theorem g_if {c : Expr} {a b : List Stmt} {pos : Pos} {mc : MB} {ma mb : MGn} (hc : PT X c (RT X.K G W mc)) (ha : L2.GSs X a (RG X.K G W ma)) (hb : L2.GSs X b (RG X.K G W mb)) : L2.GS X (.If c a b pos) (RG X.K G W (gIf mc ma mb)) := by
  refine gs_imp (gs_if hc ha hb) fun D ys σ H ⟨ρ, sm, mh, yms, r, ry, q⟩ => ⟨ρ, sm, mh, r, ?_⟩
  unfold gIf at q
  cases e1 : mc sm mh with
  | no => rw [e1] at q; exact q
  | err v m1 => rw [e1] at q; exact fun ρ1 H1 cls d x hr er => q ρ1 H1 σ cls d x hr (r.sr.ext x) er
  | ok v m1 =>
    rw [e1] at q
    intro ρ1 H1 x hr
    unfold gKI at q
    dsimp only at q
    cases v with
    | true => exact ⟨ρ1, sm, m1, yms, r.at x hr, ry.ext x, RGE.mono x q⟩
    | false => exact ⟨ρ1, sm, m1, yms, r.at x hr, ry.ext x, RGE.mono x q⟩
/-- a turn of a loop -/
theorem turn_rg {again b : MGn} {D : GEnds} {N : List V → L2.St → Hp → Prop} {ρ : List Addr} {sm : Lo} {mh : MH} {yms : List MV} {ys : List V} {σ : L2.St} {H : Hp} (r : Rl X.K G ρ H sm σ mh) (ry : VRs X.K G ρ H yms ys) (q : RGE X.K G W D ρ H (gKT again (b yms sm mh)))
    (hN : ∀ ρ1 H1 σ1 ys1 sm1 mh1 zs, Ext X.K ρ H ρ1 H1 → Rl X.K G ρ1 H1 sm1 σ1 mh1 → VRs X.K G ρ1 H1 zs ys1 → RGE X.K G W D ρ1 H1 (again zs sm1 mh1) → N ys1 σ1 H1) :
    RG X.K G W b { D with nx := N, ct := N, bk := D.nx } ys σ H := by
  refine ⟨ρ, sm, mh, yms, r, ry, ?_⟩
  cases e : b yms sm mh with
  | mk zs r1 =>
    rw [e] at q
    cases r1 with
    | nx s1 m1 => exact fun ρ1 H1 σ1 ys1 x a1 b1 c1 => hN ρ1 H1 σ1 ys1 s1 m1 zs x ⟨a1, b1⟩ c1 (RGE.mono x q)
    | ct s1 m1 => exact fun ρ1 H1 σ1 ys1 x a1 b1 c1 => hN ρ1 H1 σ1 ys1 s1 m1 zs x ⟨a1, b1⟩ c1 (RGE.mono x q)
    | bk s1 m1 => exact q
    | rt v m1 => exact q
    | err v s1 m1 => exact q
    | no => exact q
theorem g_while {c : Expr} {body : List Stmt} {pos : Pos} {n : Nat} {mc : MB} {b : MGn} (hp : PassesOwn (model X.prog X.w) X.A X.env X.xe) (hc : PT X c (RT X.K G W mc)) (hb : L2.GSs X body (RG X.K G W b)) : L2.GS X (.While c body [] pos) (RG X.K G W (gWhG mc b n)) := by
  refine gs_imp (gs_while hp hc hb) fun D ys σ H ⟨ρ, sm, mh, yms, r, ry, q⟩ => ?_
  refine ⟨fun m ys σ H => ∃ ρ sm mh yms, Rl X.K G ρ H sm σ mh ∧ VRs X.K G ρ H yms ys ∧ RGE X.K G W D ρ H (gWhG mc b m yms sm mh), ⟨n, ρ, sm, mh, yms, r, ry, q⟩, ?_⟩
  rintro m ys σ H ⟨ρ, sm, mh, yms, r, ry, q⟩
  cases m with
  | zero => exact False.elim q
  | succ m =>
    unfold gWhG at q
    refine ⟨ρ, sm, mh, r, ?_⟩
    cases e1 : mc sm mh with
    | no => rw [e1] at q; exact q
    | err v m1 => rw [e1] at q; exact fun ρ1 H1 cls d x hr er => q ρ1 H1 σ cls d x hr (r.sr.ext x) er
    | ok v m1 =>
      rw [e1] at q
      intro ρ1 H1 x hr
      unfold gKI at q
      dsimp only at q
      cases v with
      | false => exact q ρ1 H1 σ ys x hr (r.sr.ext x) (ry.ext x)
      | true =>
        exact ⟨fun ys' σ' H' => ∃ ρ sm mh yms, Rl X.K G ρ H' sm σ' mh ∧ VRs X.K G ρ H' yms ys' ∧ RGE X.K G W D ρ H' (gWhG mc b m yms sm mh), fun ys' σ' H' z => ⟨m, Nat.lt_succ_self _, z⟩,
          turn_rg (r.at x hr) (ry.ext x) (RGE.mono x q) fun ρ2 H2 σ2 ys2 sm2 mh2 zs x2 r2 ry2 q2 => ⟨ρ2, sm2, mh2, zs, r2, ry2, q2⟩⟩
theorem gfor_sim {ρ0 ρ : List Addr} {H0 H : Hp} {J : It} {get : Itm} {t : TG} {g : MG} {b : MGn} {D : GEnds} {n : Nat} {sm : Lo} {σ : L2.St} {mh : MH} {yms : List MV} {ys : List V} (T : ItS X.K G ρ0 H0 J get) (hg : Mo.GS X.K G t g) (x0 : Ext X.K ρ0 H0 ρ H) (r0 : Rl X.K G ρ H sm σ mh) (ry0 : VRs X.K G ρ H yms ys)
    (h : RGE X.K G W D ρ H (gFoG get g b n 0 yms sm mh)) :
    ∃ W' : Nat → Nat → List V → L2.St → Hp → Prop, (∃ m, W' 0 m ys σ H) ∧ ∀ i m ys σ H, W' i m ys σ H →
      (J.stop i H ∧ D.nx ys σ H) ∨ (J.go i H ∧ ∃ N : List V → L2.St → Hp → Prop, (∀ ys' σ' H', N ys' σ' H' → ∃ m', m' < m ∧ W' (i + 1) m' ys' σ' H') ∧ ∀ x H', J.yld i H x H' → t x σ H' fun σ2 H2 => RG X.K G W b { D with nx := N, ct := N, bk := D.nx } ys σ2 H2) := by
  refine ⟨fun i m ys σ H => ∃ ρ sm mh yms, Ext X.K ρ0 H0 ρ H ∧ Rl X.K G ρ H sm σ mh ∧ VRs X.K G ρ H yms ys ∧ RGE X.K G W D ρ H (gFoG get g b m i yms sm mh), ⟨n, ρ, sm, mh, yms, x0, r0, ry0, h⟩, ?_⟩
  rintro i m ys σ H ⟨ρ, sm, mh, yms, x, r, ry, q⟩
  cases m with
  | zero => exact False.elim q
  | succ m =>
    unfold gFoG at q
    cases e : get i mh with
    | none => rw [e] at q; exact False.elim q
    | some o =>
      rw [e] at q
      cases o with
      | none => exact .inl ⟨T.stop x r.hr e, q ρ H σ ys Ext.refl r.hr r.sr ry⟩
      | some v =>
        refine .inr ⟨T.go x r.hr e, fun ys' σ' H' => ∃ ρ sm mh yms, Ext X.K ρ0 H0 ρ H' ∧ Rl X.K G ρ H' sm σ' mh ∧ VRs X.K G ρ H' yms ys' ∧ RGE X.K G W D ρ H' (gFoG get g b m (i + 1) yms sm mh), fun ys' σ' H' z => ⟨m, Nat.lt_succ_self _, z⟩, fun y H' hy => ?_⟩
        obtain ⟨ρ', x', hr', rv⟩ := T.yld x r.hr e hy
        dsimp only at q
        cases e2 : g v sm with
        | none => rw [e2] at q; exact False.elim q
        | some s1 =>
          rw [e2] at q
          refine hg hr' (r.sr.ext x') rv e2 fun σ1 sr1 => ?_
          dsimp only at q
          exact turn_rg ⟨hr', sr1⟩ (ry.ext x') (RGE.mono x' q) fun ρ2 H2 σ2 ys2 sm2 mh2 zs x2 r2 ry2 q2 => ⟨ρ2, sm2, mh2, zs, (x.trans x').trans x2, r2, ry2, q2⟩
theorem g_for {tg iter : Expr} {body : List Stmt} {pos : Pos} {m : ME} {t : TG} {g : MG} {b : MGn} (hp : PassesOwn (model X.prog X.w) X.A X.env X.xe) (hc : X.calm = true) (hi : PE X iter (RE X.K G W m)) (hg : PG X tg t) (hgs : Mo.GS X.K G t g) (hb : L2.GSs X body (RG X.K G W b))
    (hs : ∀ x, foldedSetIterable iter X.env x = pure x := by intro _; rfl) : L2.GS X (.For tg iter body [] pos) (RG X.K G W (gFor m g b)) := by
  refine gs_imp (gs_alt (gs_for hp hc (pi_list hi) hg hb hs) (gs_for hp hc (pi_tup hi) hg hb hs)) fun D ys σ H ⟨ρ, sm, mh, yms, r, ry, q⟩ => ?_
  unfold gFor at q
  cases e : m sm mh with
  | no => rw [e] at q; exact False.elim q
  | err v m1 =>
    rw [e] at q
    refine .inl ⟨ρ, sm, mh, r, ?_⟩
    rw [e]
    exact fun ρ1 H1 cls d x hr er => q ρ1 H1 σ cls d x hr (r.sr.ext x) er
  | ok v m1 =>
    have run : ∀ {Q : VK}, (∀ ρ1 H1 w, Ext X.K ρ H ρ1 H1 → Rl X.K G ρ1 H1 sm σ m1 → VR X.K G ρ1 H1 v w → Q w H1) → RE X.K G W m σ H Q := fun {Q} k => by
      refine ⟨ρ, sm, mh, r, ?_⟩
      rw [e]
      exact fun ρ1 H1 x hr w rv => k ρ1 H1 w x (r.at x hr) rv
    rw [e] at q
    unfold gKF at q
    dsimp only at q
    split at q
    · rename_i xs hx
      refine .inr (run fun ρ1 H1 w x1 r1 rv => ?_)
      obtain ⟨a, vs, rfl, h1, h2⟩ := rv.tup hx
      exact ⟨a, rfl, ⟨vs, h1⟩, gfor_sim (its_tup rv hx) hgs (Ext.refl (ρ := ρ1)) r1 (ry.ext x1) (RGE.mono x1 q)⟩
    · rename_i hx
      split at q
      · rename_i xs hq
        refine .inl (run fun ρ1 H1 w x1 r1 rv => ?_)
        obtain ⟨a, vs, rfl, h1, h2⟩ := seq_V r1.hr hq rv
        refine ⟨a, rfl, ?_, gfor_sim (its_list rv hx) hgs (Ext.refl (ρ := ρ1)) r1 (ry.ext x1) (RGE.mono x1 q)⟩
        rcases h1 with h1 | h1
        · exact ⟨vs, h1⟩
        · have z : ∃ vs, SqL X.K H1 a vs := by
            cases v with
            | ref i =>
              simp only [seqOf] at hq
              split at hq
              · rename_i q2
                obtain ⟨b, ws, e1, _, h3, _⟩ := r1.hr.lst q2 rv
                cases e1
                exact ⟨ws, SqL.of h3⟩
              · cases hq
            | frl ys =>
              simp only [VR] at rv
              obtain ⟨b, ws, e1, h3, _⟩ := rv
              cases e1
              exact ⟨ws, h3.sq⟩
            | tup _ => simp [asT] at hx
            | ktp _ => simp [asT] at hx
            | _ => simp [seqOf] at hq
          exact z
      · exact False.elim q
/-! ### the def -/
def mGen (n : Nat) (b : MGn) : List MV → MH → Option (List MV × MH) := fun xs h => match b [] (xs.map some ++ List.replicate (n - xs.length) none) h with
  | (ys, .nx _ h1) => some (ys, h1)
  | _ => none
def SpGM (K : PySem.W.Frag) (G : String → Option V) (n : Nat) (f : List MV → MH → Option (List MV × MH)) : SpG := fun vs H Q _ => ∃ ρ xs mh ys mh1, HR K G ρ H mh ∧ VRs K G ρ H xs vs ∧ vs.length = n ∧ f xs mh = some (ys, mh1) ∧
  ∀ ρ1 H1 ys1, Ext K ρ H ρ1 H1 → HR K G ρ1 H1 mh1 → VRs K G ρ1 H1 ys ys1 → Q ys1 H1
theorem fn_gen {P : Program} {w : World} {mg : Str → Option Value} {base : Heap} {x qual : Str} {params : Arguments} {body : List Stmt} {scope : Scope} {dvs : List V} {kws : List (Str × V)} {f : Addr} {fd : FuncData} {N ps : List Str} {k : Nat} {b : MGn} (F : FunD K x qual params body scope dvs kws f fd) (S : GScope N ps scope)
    (hb : ∀ (cdv : Value) (A : Around) (outer : List Env) (s : Shared) (H : Hp) (E : XK) (pn : List (Addr × Obj)), Room k (A.deeper (PyProof.Rows.envOfC qual scope s.heap.objs.size f cdv)) →
      L2.GSs (gcxOf P w K mg base N qual scope f cdv A outer s H E pn) body (RG K G noW b)) :
    GFn P w K mg base (k + 1) f fd ps (SpGM K G ps.length (mGen N.length b)) := by
  obtain ⟨oc, od, dV, kV, doc, pm, an, cdv, ct, osl, rfl, lk, hcd, _, _⟩ := F.ex
  refine gfn_of lk hcd S (fun vs H Q E h => h.choose_spec.choose_spec.choose_spec.choose_spec.choose_spec.2.2.1) fun A outer s H vs Q E pn hr h => ⟨_, hb cdv A outer s H E pn hr, ?_⟩
  obtain ⟨ρ, xs, mh, ys, mh1, h1, h2, h3, h4, h5⟩ := h
  refine ⟨ρ, _, mh, [], ⟨h1, h2.at (n := N.length)⟩, VRs.nil, ?_⟩
  unfold mGen at h4
  cases e : b [] (xs.map some ++ List.replicate (N.length - xs.length) none) mh with
  | mk zs r =>
    rw [e] at h4
    cases r with
    | nx s m =>
      cases h4
      exact fun ρ1 H1 σ1 ys1 x hr sr ry => h5 ρ1 H1 ys1 x hr ry
    | _ => cases h4
/-! ### list(g(..)) -/
def gKL (f : List MV → MH → Option (List MV × MH)) (n : Nat) (xs : List MV) (h : MH) : Rz MV := if xs.length = n then match f xs h with
  | some (ys, h2) => .ok (.ref h2.length) (h2 ++ [.lst ys])
  | none => .no else .no
def eGen (n : Nat) (f : List MV → MH → Option (List MV × MH)) (ms : MEs) : ME := fun s h => (ms s h).bnd (gKL f n)
theorem noCX {P : Program} {w : World} {outer : List Env} {H : Hp} {s s' : Shared} {e : Value} (h : L2.CX P w outer H s (fun _ _ _ => False) e s') : False := by
  obtain ⟨_, _, _, _, _, _, _, _, _, _, _, _, w⟩ := h
  exact w
theorem m_listG {k n : Nat} {fa : Addr} {fd : FuncData} {ps : List Str} {f : List MV → MH → Option (List MV × MH)} {ms : MEs} {x nm : Str} {p pos p' pos' : Pos} {e : Expr} {es : List Expr}
    (F : GFn X.prog X.w X.K X.mg X.base k fa fd ps (SpGM X.K G n f)) (hr : Room k X.A) (hg : Gl X x) (hm : X.mg x = some (.ref fa)) (hk : PySem.W.keepIn X.K (.ref fa) = true) (hb : Binds X.K fd ps []) (ha : PA X (e :: es) (RA X.K G W ms))
    (hr3 : Room (k + 3) X.A) (hgl : Gl X nm) (hml : X.mg nm = none) (hv : bootBuiltins nm = some (.type "list"))
    (hdb : (x == ("__debug__" : Str)) = false := by decide) (he : starEach (e :: es) X.env = (false, eval e X.env) :: starEach es X.env := by rfl) (hpl : (backTo pos' (starEach es X.env)).any (·.1) = false := by rfl)
    (hnm : nm ≠ "__name__" := by decide) (hdb2 : (nm == ("__debug__" : Str)) = false := by decide)
    (he2 : starEach [Expr.Call (.Name x p') (e :: es) [] pos'] X.env = (false, eval (Expr.Call (.Name x p') (e :: es) [] pos') X.env) :: starEach [] X.env := by rfl) :
    PE X (.Call (.Name nm p) [.Call (.Name x p') (e :: es) [] pos'] [] pos) (RE X.K G W (eGen n f ms)) := by
  refine pe_imp (pe_listG (E := fun _ _ _ => False) (pgen_call F hr hg hm hk hb .nil ha hdb he hpl) (fun _ _ _ _ _ _ _ h => (noCX h).elim) (fun _ _ _ h => h.elim) hr3 hgl hml hv hnm hdb2 he2) fun σ H Q h => ?_
  · obtain ⟨ρ, sm, mh, r0, q⟩ := h
    refine ra_bnd r0 q fun xs ρ1 H1 mh1 vs x1 r1 rvs q1 => ?_
    unfold gKL at q1
    split at q1
    · rename_i hl
      cases e : f xs mh1 with
      | none => rw [e] at q1; exact False.elim q1
      | some z =>
        obtain ⟨ys, h2⟩ := z
        rw [e] at q1
        refine ⟨ρ1, xs, mh1, ys, h2, r1.hr, by rw [List.append_nil]; exact rvs, by rw [List.append_nil, ← rvs.length]; exact hl, e, fun ρ2 H2 ys1 x2 hr2 ry a hn => ?_⟩
        obtain ⟨n1, n2⟩ := hr2.new hn (o := .lst ys) (u := .lst ys1) ⟨ys1, upd_same, ry.ext (ext_new hn)⟩
        exact q1 _ _ (x2.trans n2) n1 _ (by simp only [VR]; exact ⟨a, rfl, by rw [← hr2.len]; simp⟩)
    · exact False.elim q1
end
end Mo
/-! Mo40: a dict of True whose keys may be tuples of the text's top. -/
namespace Mo
open PySem PySem.Spec PyProof.Rows L2
/-- is among the keys -/
def inK (ks : List Key) (l : List (List Key)) : Bool := l.any fun z => decide (z = ks)
abbrev hsOf (P : Program) (w : World) : List Key → Int := (tupleKind (mixKind P w)).hash
section
variable {P : Program} {w : World} {K : PySem.W.Frag} {H : Hp} {h : Heap} {a b : Addr} {ks : List Key} {xs : List (List Key × Addr)}
theorem KeyAt.is (ok : HOk P w H h) (kin : K.In h) (q : KeyAt K H b ks) : (tupleKind (mixKind P w)).is h ks b := by
  rcases q with q | ⟨⟨o, its, n, h1, h2, h3, _, h4⟩, _⟩
  · exact key_of ok q
  · exact ⟨o, its, n, kin _ _ h1, h2, h3, items_are h4⟩
abbrev trus (xs : List (List Key × Addr)) : List (List Key × Addr × Value) := xs.map fun x => (x.1, x.2, .bool true)
theorem dx_dict (hp : dxP (hsOf P w) a xs h) (hk : ∀ x ∈ xs, (tupleKind (mixKind P w)).is h x.1 x.2) : h.DictOfH (tupleKind (mixKind P w)) a (trus xs) := by
  obtain ⟨_, _, nd, o, es, ep, h1, h2, h3, h4⟩ := hp
  refine ⟨o, es, ep, h1, h2, h3, ?_, fun x hx => ?_, ?_⟩
  · rw [h4, List.map_map]; rfl
  · obtain ⟨y, hy, rfl⟩ := List.mem_map.mp hx
    exact hk y hy
  · rw [List.map_map]; exact nd
theorem at_trus : (atKey (trus xs) ks).isSome = inK ks (xs.map (fun x : List Key × Addr => x.1)) := by
  unfold atKey inK
  induction xs with
  | nil => rfl
  | cons x xs ih =>
    simp only [trus, List.map_cons, List.find?_cons, List.any_cons] at ih ⊢
    by_cases e : x.1 = ks
    · simp [e]
    · simp only [e, decide_false, Bool.false_or]
      exact ih
end
section
variable {X : Cx} {pins : List (Addr × Obj)} {σ : L2.St} {H : Hp} {s : Shared} {a b : Addr} {ks : List Key} {xs : List (List Key × Addr)} {E : Value → Shared → Prop} {A : Around}
theorem dx_of (I : Inv X pins σ H s) (e : H a = some (.ext (dxP (hsOf X.prog X.w) a xs))) (hk : ∀ x ∈ xs, KeyAt X.K H x.2 x.1) : (a == sysModules) = false ∧ xs.length ≤ sizeLine ∧ s.heap.DictOfH (tupleKind (mixKind X.prog X.w)) a (trus xs) := by
  obtain ⟨q, _, _⟩ := (show ObjOk X.prog X.w H s.heap a (.ext (dxP (hsOf X.prog X.w) a xs)) from I.hok a _ e)
  exact ⟨q.1, q.2.1, dx_dict q fun x hx => (hk x hx).is I.hok I.kIn⟩
theorem dx_new {P : Program} {w : World} {H' : Hp} {h' : Heap} (hd : (a == sysModules) = false) (hl : xs.length ≤ sizeLine) (dd : h'.DictOfH (tupleKind (mixKind P w)) a (trus xs)) : ObjOk P w H' h' a (.ext (dxP (hsOf P w) a xs)) := by
  obtain ⟨o, es, ep, h1, h2, h3, h4, _, h6⟩ := dd
  have h6' : (xs.map (fun x : List Key × Addr => x.1)).Nodup := by
    rw [List.map_map] at h6; exact h6
  refine ⟨⟨hd, hl, h6', o, es, ep, h1, h2, h3, by rw [h4, List.map_map]; rfl⟩, ⟨o, h1⟩, fun g1 g2 q k => ?_⟩
  obtain ⟨p1, p2, p3, o', es', ep', p4, p5, p6, p7⟩ := q
  exact ⟨p1, p2, p3, o', es', ep', k _ p4, p5, p6, p7⟩
abbrev rDx (X : Cx) (f : Bool → Bool) : R2 := fun y x H Q => ∃ (a b : Addr) (ks : List Key), x = .ref a ∧ y = .ref b ∧ KeyAt X.K H b ks ∧
  ((∃ xs : List (List Key × Addr), H a = some (.ext (dxP (hsOf X.prog X.w) a xs)) ∧ (∀ z ∈ xs, KeyAt X.K H z.2 z.1) ∧ Q (.bl (f (inK ks (xs.map (fun x : List Key × Addr => x.1))))) H) ∨
   ∃ kvs : List (List Key × V), H a = some (.dT kvs) ∧ Q (.bl (f (valV kvs ks).isSome)) H)
theorem op_inX (hu : X.A.units + 1 < cLine) : OpR X (compareOp .In) (rDx X fun b => b) := by
  intro pins s σ H x y v u Q I rx ry h
  obtain ⟨a, b, ks, rfl, rfl, hk, ⟨xs, e, ha, q⟩ | ⟨kvs, e, q⟩⟩ := h
  · cases (show u = Value.ref a from ry)
    cases (show v = Value.ref b from rx)
    obtain ⟨hd, hl, dd⟩ := dx_of I e ha
    refine wpAny_in_heap (tupleKind_room_in1 hu) (hk.is I.hok I.kIn) hd dd ?_
    rw [at_trus]
    exact ⟨.bl (inK ks (xs.map (fun x : List Key × Addr => x.1))), H, I.tok _, rfl, q⟩
  · cases (show u = Value.ref a from ry)
    cases (show v = Value.ref b from rx)
    obtain ⟨z, hd, xs, rel, dd⟩ := dt_of I.hok e
    refine wpAny_in_heap (tupleKind_room_in1 hu) (hk.is I.hok I.kIn) hd dd ?_
    have q' := (rel.val ks).isSome_eq
    rw [Option.isSome_map] at q'
    rw [← q']
    exact ⟨.bl (valV kvs ks).isSome, H, I.tok _, rfl, q⟩
theorem op_notInX (hu : X.A.units + 1 < cLine) : OpR X (compareOp .NotIn) (rDx X fun b => !b) := by
  intro pins s σ H x y v u Q I rx ry h
  obtain ⟨a, b, ks, rfl, rfl, hk, ⟨xs, e, ha, q⟩ | ⟨kvs, e, q⟩⟩ := h
  · cases (show u = Value.ref a from ry)
    cases (show v = Value.ref b from rx)
    obtain ⟨hd, hl, dd⟩ := dx_of I e ha
    refine wpAny_notIn_heap (tupleKind_room_in1 hu) (hk.is I.hok I.kIn) hd dd ?_
    rw [at_trus]
    exact ⟨.bl (!inK ks (xs.map (fun x : List Key × Addr => x.1))), H, I.tok _, rfl, q⟩
  · cases (show u = Value.ref a from ry)
    cases (show v = Value.ref b from rx)
    obtain ⟨z, hd, xs, rel, dd⟩ := dt_of I.hok e
    refine wpAny_notIn_heap (tupleKind_room_in1 hu) (hk.is I.hok I.kIn) hd dd ?_
    have q' := (rel.val ks).isSome_eq
    rw [Option.isSome_map] at q'
    rw [← q']
    exact ⟨.bl (!(valV kvs ks).isSome), H, I.tok _, rfl, q⟩
/-- d[y], y a tuple, maybe of the text's top -/
def tXGet (K : PySem.W.Frag) (td ty : TE) : TE := fun σ H Q => td σ H fun x H1 => ty σ H1 fun y H2 => ∃ (a b : Addr) (ks : List Key) (kvs : List (List Key × V)) (v : V), x = .ref a ∧ y = .ref b ∧ KeyAt K H2 b ks ∧ H2 a = some (.dT kvs) ∧ valV kvs ks = some v ∧ Q v H2
theorem pe_xget {o i : Expr} {pos : Pos} {td ty : TE} (hu : X.A.units + 1 < cLine) (ho : PE X o td) (hi : PE X i ty) (hs : NoSl i) : PE X (.Subscript o i pos) (tXGet X.K td ty) := by
  refine ⟨fun pins s σ H Q I h => ?_⟩
  refine subD_of PySem.F.slot_dict_getitem.lookup hs (thn (ho.run pins s σ H _ I h) fun u s1 ⟨x, H1, I1, rx, q1⟩ => thn (hi.run pins s1 σ H1 _ I1 q1) fun iv s2 ⟨y, H2, I2, ry, a, b, ks, kvs, v, ex, ey, hk, e, l, q2⟩ => ?_)
  subst ex ey
  obtain rfl : u = Value.ref a := rx
  cases (show iv = Value.ref b from ry)
  obtain ⟨z, hd, xs, rel, dd⟩ := dt_of I2.hok e
  refine ⟨dd.typeIs, ?_⟩
  obtain ⟨w', hw, rw'⟩ := RelO.some_of (v := v) (o := (atKey xs ks).map (·.2)) (by rw [← l]; exact rel.val ks)
  obtain ⟨p, hp, hp2⟩ := Option.map_eq_some_iff.mp hw
  refine wpAny_getItem_heap (tupleKind_room_in1 hu) (hk.is I2.hok I2.kIn) dd hp ?_
  rw [hp2]
  exact ⟨v, H2, I2.tok _, rw', q2⟩
/-- {} -/
def tDxNew (X : Cx) : TE := fun _ H Q => ∀ p, H p = none → Q (.ref p) (upd H p (.ext (dxP (hsOf X.prog X.w) p [])))
theorem pe_dxnew {pos : Pos} : PE X (.Dict [] [] pos) (tDxNew X) := ⟨fun pins s σ H Q I h =>
  wpAny_Dict_empty ⟨.ref s.heap.objs.size, _, I.laid (a := s.heap.objs.size) (o := .ext (dxP (hsOf X.prog X.w) s.heap.objs.size [])) (t' := s.toks) (fun _ _ q => Heap.get?_push_of_some _ q) (Nat.le_refl _)
    (dx_new (xs := []) (beq_eq_false_iff_ne.mpr (Ne.symm (Nat.ne_of_lt I.big))) (Nat.zero_le _) ⟨_, #[], 0, Heap.get?_push_size _ rfl, ⟨rfl, rfl, rfl⟩, rfl, rfl, fun x hx => by simp at hx, List.nodup_nil⟩), rfl, h _ (I.hok.fresh (Nat.le_refl _))⟩⟩
/-- {t: True} -/
def tDx1 (X : Cx) (tk tv : TE) : TE := fun σ H Q => ∀ p, H p = none → tk σ (upd H p (.dT [])) fun x H1 => tv σ H1 fun y H2 => H2 p = some (.dT []) ∧ y = .bl true ∧ ∃ (b : Addr) (ks : List Key), x = .ref b ∧ KeyAt X.K H2 b ks ∧ Q (.ref p) (upd H2 p (.ext (dxP (hsOf X.prog X.w) p [(ks, b)])))
theorem pe_dx1 {pos : Pos} {k v : Expr} {tk tv : TE} (hu : X.A.units + 1 < cLine) (hk : PE X k tk) (hv : PE X v tv) : PE X (.Dict [some k] [v] pos) (tDx1 X tk tv) := by
  refine ⟨fun pins s σ H Q I q => ?_⟩
  have hn := I.hok.fresh (Nat.le_refl s.heap.objs.size)
  have I1 := I.laid (a := s.heap.objs.size) (o := .dT []) (h' := s.heap.push { cls := .type "dict", data := .dict #[] }) (t' := s.toks) (fun _ _ q => Heap.get?_push_of_some _ q) (Nat.le_refl _) (dt_empty s.heap I.big)
  have hsh := zip_pairTrees [some k] [v] X.env pos (by rfl) (by rfl)
  have hpl := pairTrees_length [some k] [v] X.env pos (by rfl) (by rfl)
  rw [arm_eval_Dict, hsh, dictDisplay_pairs (pairTrees [some k] [v] X.env pos) (fun z => by rw [z] at hpl; cases hpl) (by rw [hpl]; show 1 < 17; decide)]
  have P := pps_cons (X := X) (pos := pos) hk hv pps_nil
  refine wpAny_bind (wpAny_standAt (wpAny_bind (wpAny_subDictH (knd := tupleKind (mixKind X.prog X.w)) (Q := fun d s' => wpAny _ _ (pure (Value.ref d)) _ _ s') (show X.A.units < cLine by omega) (by rw [hpl]; show 1 ≤ 15; decide) ?_)))
  have q' : tPairs [(tk, tv)] σ (upd H s.heap.objs.size (.dT [])) (fun ps H2 => match ps with
      | [(x, y)] => H2 s.heap.objs.size = some (.dT []) ∧ y = .bl true ∧ ∃ (b : Addr) (ks : List Key), x = .ref b ∧ KeyAt X.K H2 b ks ∧ Q (.ref s.heap.objs.size) (upd H2 s.heap.objs.size (.ext (dxP (hsOf X.prog X.w) s.heap.objs.size [(ks, b)])))
      | _ => False) := q _ hn
  refine thn (P.run pins _ σ _ _ I1 q') fun ws s2 ⟨ps, H2, I2, rel, q3⟩ => ?_
  cases rel with
  | nil => exact False.elim q3
  | @cons p0 w0 ps0 ws0 h0 t0 =>
    cases t0 with
    | cons _ _ => exact False.elim q3
    | nil =>
    obtain ⟨x0, y0⟩ := p0
    obtain ⟨e, ey, b, ks, ex, hb, q2⟩ := q3
    obtain ⟨u1, u2⟩ := w0
    obtain ⟨r1, r2⟩ := h0
    subst ex
    cases (show u1 = Value.ref b from r1)
    subst ey
    have e2 : u2 = .bool true := r2
    subst e2
    obtain ⟨z, hd, xs, rx, dd⟩ := dt_of I2.hok e
    cases rx
    refine ⟨[(ks, b, .bool true)], ⟨rfl, rfl, hb.is I2.hok I2.kIn, trivial⟩, dd, fun h' tk' dd' hs => wpAny_pure ⟨.ref s.heap.objs.size, _, ?_, rfl, q2⟩⟩
    obtain ⟨qo, _, _, hq, _⟩ := id dd'
    exact d_write I2 (by rw [e]; exact True.intro) hs ⟨qo, hq⟩ (dx_new (xs := [(ks, b)]) hd (by rw [sizeLine_eq]; show 1 ≤ 16777216; decide) dd')
/-- d[t] = True -/
def rSetX (X : Cx) : TSet := fun o i v H Q => ∃ (a b : Addr) (ks : List Key) (xs : List (List Key × Addr)), o = .ref a ∧ i = .ref b ∧ v = .bl true ∧ KeyAt X.K H b ks ∧ H a = some (.ext (dxP (hsOf X.prog X.w) a xs)) ∧ (∀ z ∈ xs, KeyAt X.K H z.2 z.1) ∧ xs.length < sizeLine ∧ inK ks (xs.map (fun x : List Key × Addr => x.1)) = false ∧ Q (upd H a (.ext (dxP (hsOf X.prog X.w) a (xs ++ [(ks, b)]))))
theorem stored_tru : ∀ {xs : List (List Key × Addr)} {ks : List Key} {b : Addr}, inK ks (xs.map (fun x : List Key × Addr => x.1)) = false → storedH (trus xs) ks b (.bool true) = trus (xs ++ [(ks, b)]) := by
  intro xs ks b h
  unfold storedH
  have : (atKey (trus xs) ks).isSome = false := by rw [at_trus]; exact h
  first
    | (rw [if_neg (by rw [this]; exact Bool.false_ne_true)]; simp [trus])
    | (simp only [Option.isSome_eq_false_iff, Option.isNone_iff_eq_none] at this; simp [this, trus])
theorem set_dx (hu : X.A.units + 1 < cLine) : PSet X (rSetX X) := by
  intro pins s σ H o i v ov iv u Q I ro ri rv h
  obtain ⟨a, b, ks, xs, rfl, rfl, rfl, hk, e, ha, hl, hn, q⟩ := h
  cases (show ov = Value.ref a from ro)
  cases (show iv = Value.ref b from ri)
  have eu : u = .bool true := rv
  subst eu
  obtain ⟨hd, _, dd⟩ := dx_of I e ha
  refine wpAny_setItem_heap (hsz := by show (trus xs).length ≤ _; rw [List.length_map]; omega) (tupleKind_room_in1 hu) (hk.is I.hok I.kIn) dd fun h' dd' hs => ⟨_, ?_, q⟩
  rw [stored_tru hn] at dd'
  obtain ⟨qo, _, _, hq, _⟩ := id dd'
  exact d_write I (by rw [e]; exact True.intro) hs ⟨qo, hq⟩ (dx_new hd (by simp; omega) dd')
/-- len -/
def rLenX (X : Cx) : List V → Hp → VK → Prop := fun vs H Q => ∃ (a : Addr) (xs : List (List Key × Addr)), vs = [.ref a] ∧ H a = some (.ext (dxP (hsOf X.prog X.w) a xs)) ∧ (∀ z ∈ xs, KeyAt X.K H z.2 z.1) ∧ Q (.int ((xs.length : Nat) : Int)) H
theorem call_len_dx : CallR X (.builtin "len") (rLenX X) := by
  intro pins s σ H vs us Q I r h
  obtain ⟨p, xs, rfl, hp, ha, q⟩ := h
  obtain ⟨u, rfl, rx⟩ := vals1 r
  obtain rfl : u = .ref p := rx
  obtain ⟨hd, hl, dd⟩ := dx_of I hp ha
  have hz : (trus xs).length = xs.length := by rw [List.length_map]
  refine call_len_dictH hd dd (by rw [hz]; rw [sizeLine_eq] at hl; omega) ?_
  rw [hz]
  exact ⟨.int ((xs.length : Nat) : Int), H, I.tok _, ⟨_, rfl⟩, q⟩
end
end Mo
/-! Mo41: its model. -/
namespace Mo
open PySem L2
def keyX : MV → Option (List Key)
  | .tup ys => keysM ys
  | .ktp ys => keysM ys
  | _ => none
open Classical in
noncomputable def fDX (hs0 : List Key → Int) (f : Bool → Bool) (y x : MV) (h : MH) : OV := match x with
  | .ref i => match h[i]? with
    | some (.dx hs ks) => if hs = hs0 then (keyX y).map fun k => (.bl (f (inK k ks)), h) else none
    | some (.dt kvs) => (keyX y).map fun k => (.bl (f (valM kvs k).isSome), h)
    | _ => none
  | _ => none
noncomputable abbrev fInX (hs0 : List Key → Int) := fDX hs0 fun b => b
noncomputable abbrev fNotInX (hs0 : List Key → Int) := fDX hs0 fun b => !b
def fIxX (x y : MV) (h : MH) : OV := match x with
  | .ref i => match h[i]? with
    | some (.dt kvs) => ((keyX y).bind (valM kvs)).map fun v => (v, h)
    | _ => none
  | _ => none
open Classical in
noncomputable def putX (hs0 : List Key → Int) (d k v : MV) (h : MH) : Option MH := match d, v with
  | .ref i, .bl true => match h[i]? with
    | some (.dx hs ks) => match keyX k with
      | some k => if hs = hs0 ∧ ks.length < SZ ∧ inK k ks = false then some (h.set i (.dx hs (ks ++ [k]))) else none
      | none => none
    | _ => none
  | _, _ => none
noncomputable def sPutX (hs0 : List Key → Int) (d k e : ME) : MS := fun s h => (e s h).bnS s fun v h1 => (d s h1).bnS s fun x h2 => (k s h2).bnS s fun y h3 => match putX hs0 x y v h3 with
  | some h4 => .nx s h4
  | none => .no
def eDx0 (hs0 : List Key → Int) : ME := fun _ h => .ok (.ref h.length) (h ++ [.dx hs0 []])
def eDx1 (hs0 : List Key → Int) (k v : ME) : ME := fun s h => (k s (h ++ [.dt []])).bnd fun x h1 => (v s h1).bnd fun y h2 => match y, keyX x, h2[h.length]? with
  | .bl true, some k, some (.dt []) => .ok (.ref h.length) (h2.set h.length (.dx hs0 [k]))
  | _, _, _ => .no
open Classical in
noncomputable def fLenX (hs0 : List Key → Int) (xs : List MV) (h : MH) : OV := match xs with
  | [.ref i] => match h[i]? with
    | some (.dx hs ks) => if hs = hs0 then some (.int ks.length, h) else none
    | _ => fLenT xs h
  | _ => fLenT xs h
section
variable {K : PySem.W.Frag} {G : String → Option V} {ρ : List Addr} {H : Hp} {mh : MH}
theorem keyX_V {y : MV} {w : V} {ks : List Key} (e : keyX y = some ks) (r : VR K G ρ H y w) : ∃ b, w = .ref b ∧ KeyAt K H b ks := by
  cases y with
  | tup ys =>
    simp only [VR] at r
    obtain ⟨b, ws, rfl, h5, h6⟩ := r
    have := keysM_V e h6
    subst this
    exact ⟨b, rfl, .inl h5⟩
  | ktp ys =>
    simp only [VR] at r
    obtain ⟨b, ws, rfl, h5, h6⟩ := r
    have := keysM_V e h6
    subst this
    exact ⟨b, rfl, .inr h5⟩
  | _ => cases e
theorem HR.dx (hr : HR K G ρ H mh) {i : Nat} {hs : List Key → Int} {ks : List (List Key)} {v : V} (e : mh[i]? = some (.dx hs ks)) (r : VR K G ρ H (.ref i) v) :
    ∃ a xs, v = .ref a ∧ ρ[i]? = some a ∧ H a = some (.ext (dxP hs a xs)) ∧ xs.map (fun x : List Key × Addr => x.1) = ks ∧ ∀ x ∈ xs, KeyAt K H x.2 x.1 := by
  simp only [VR] at r
  obtain ⟨a, rfl, ha⟩ := r
  obtain ⟨xs, h1, h2, h3⟩ := hr.get e ha
  exact ⟨a, xs, rfl, ha, h1, h2, h3⟩
theorem KeyAt.ext {ρ1 : List Addr} {H1 : Hp} {b : Addr} {ks : List Key} (x : Ext K ρ H ρ1 H1) (q : KeyAt K H b ks) : KeyAt K H1 b ks := q.imp_left (x.tup _ _)
end
section
variable {X : Cx} {G : String → Option V} {W : WX}
theorem s_dX {f : Bool → Bool} : R2S X.K G (rDx X f) (fDX (hsOf X.prog X.w) f) := by
  intro ρ H mh mh1 y x z w v Q hr ry rx e k
  unfold fDX at e
  split at e
  · split at e
    · rename_i hs ks q
      split at e
      · rename_i hh
        subst hh
        cases hk : keyX y with
        | none => rw [hk] at e; cases e
        | some kk =>
          rw [hk] at e; cases e
          obtain ⟨a, xs, rfl, _, h2, rfl, h4⟩ := hr.dx q rx
          obtain ⟨b, rfl, hb⟩ := keyX_V hk ry
          exact ⟨a, b, kk, rfl, rfl, hb, .inl ⟨xs, h2, h4, k _ _ Ext.refl hr _ (by simp [VR])⟩⟩
      · cases e
    · rename_i kvs q
      cases hk : keyX y with
      | none => rw [hk] at e; cases e
      | some kk =>
        rw [hk] at e; cases e
        obtain ⟨a, vs, rfl, _, h2, h3⟩ := hr.dt q rx
        obtain ⟨b, rfl, hb⟩ := keyX_V hk ry
        obtain ⟨q1, q2⟩ := valM_V (k := kk) h3
        refine ⟨a, b, kk, rfl, rfl, hb, .inr ⟨vs, h2, k _ _ Ext.refl hr _ ?_⟩⟩
        simp only [VR]
        cases hv : valM kvs kk with
        | none => rw [q2 hv]; rfl
        | some z =>
          obtain ⟨u, hu, _⟩ := q1 z hv
          rw [hu]; rfl
    · cases e
  · cases e
theorem m_ixX {k : Nat} {o i : Expr} {mo mi : ME} {pos : Pos} (hr : Room k X.A) (ho : PE X o (RE X.K G W mo)) (hi : PE X i (RE X.K G W mi)) (hs : NoSl i := by exact fun _ _ => rfl) : PE X (.Subscript o i pos) (RE X.K G W (e2 fIxX mo mi)) := by
  refine pe_imp (pe_xget (units1 hr) ho hi hs) fun σ H Q ⟨ρ, sm, mh, r, q⟩ => ?_
  unfold e2 at q
  refine re_bnd r q fun x ρ1 H1 mh1 v x1 r1 rv q1 => ?_
  refine re_bnd r1 q1 fun y ρ2 H2 mh2 w x2 r2 rw' q2 => ?_
  obtain ⟨z, h3, e, kk⟩ := ro_lift q2
  unfold fIxX at e
  split at e
  · split at e
    · rename_i kvs hd
      cases hk : keyX y with
      | none => rw [hk] at e; cases e
      | some ks =>
        rw [hk] at e
        cases hv : valM kvs ks with
        | none => simp [hv] at e
        | some zz =>
          simp [hv] at e
          obtain ⟨e1, e2⟩ := e
          subst e1 e2
          obtain ⟨a, vs, rfl, _, h2, h3⟩ := r2.hr.dt hd (rv.ext x2)
          obtain ⟨b, rfl, hb⟩ := keyX_V hk rw'
          obtain ⟨q1', _⟩ := valM_V (k := ks) h3
          obtain ⟨u, hu, ru⟩ := q1' _ hv
          exact ⟨a, b, ks, vs, u, rfl, rfl, hb, h2, hu, kk _ _ Ext.refl r2.hr _ ru⟩
    · cases e
  · cases e
theorem m_dx0 {pos : Pos} : PE X (.Dict [] [] pos) (RE X.K G W (eDx0 (hsOf X.prog X.w))) := pe_imp pe_dxnew fun σ H Q ⟨ρ, sm, mh, r, q⟩ => fun p hp => by
  obtain ⟨h1, h2⟩ := r.hr.new (u := .ext (dxP (hsOf X.prog X.w) p [])) (o := .dx (hsOf X.prog X.w) []) hp ⟨[], upd_same, rfl, fun x hx => by simp at hx⟩
  exact q _ _ h2 h1 _ (by simp only [VR]; exact ⟨p, rfl, by rw [← r.hr.len]; simp⟩)
theorem m_dx1 {e v : Expr} {mk mv : ME} {kk : Nat} {pos : Pos} (hr : Room kk X.A) (hk : PE X e (RE X.K G W mk)) (hv : PE X v (RE X.K G W mv)) : PE X (.Dict [some e] [v] pos) (RE X.K G W (eDx1 (hsOf X.prog X.w) mk mv)) := by
  refine pe_imp (pe_dx1 (units1 hr) hk hv) fun σ H Q ⟨ρ, sm, mh, r, q⟩ => fun p hp => ?_
  obtain ⟨h1, h2⟩ := r.hr.new (u := .dT []) (o := .dt []) hp ⟨[], upd_same, rfl⟩
  have pv : VR X.K G (ρ ++ [p]) (upd H p (.dT [])) (.ref mh.length) (.ref p) := by simp only [VR]; exact ⟨p, rfl, by rw [← r.hr.len]; simp⟩
  unfold eDx1 at q
  refine re_bnd (r.at h2 h1) (RO.ext q h2) fun x ρ1 H1 mh1 u x1 r1 rv q1 => ?_
  refine re_bnd r1 q1 fun y ρ2 H2 mh2 w x2 r2 rw' q2 => ?_
  split at q2
  · rename_i k hkx hd
    obtain ⟨b, ws, e1, hb, e2, e3⟩ := r2.hr.dt hd ((pv.ext x1).ext x2)
    cases e1
    simp only [KRs] at e3
    subst e3
    obtain ⟨c, rfl, h5⟩ := keyX_V hkx rv
    simp only [VR] at rw'
    subst rw'
    have h5' := h5.ext x2
    have hx : Ext X.K ρ2 H2 ρ2 (upd H2 p (.ext (dxP (hsOf X.prog X.w) p [(k, c)]))) := ext_write e2 (by simp [Plain])
    obtain ⟨b1, b2⟩ := r2.hr.write (u := .ext (dxP (hsOf X.prog X.w) p [(k, c)])) (o1 := .dx (hsOf X.prog X.w) [k]) hd hb ⟨[(k, c)], upd_same, rfl, fun x hx' => by rw [List.mem_singleton.mp hx']; exact h5'.ext hx⟩
    exact ⟨e2, rfl, c, k, rfl, h5', q2 _ _ b2 b1 _ (((pv.ext x1).ext x2).ext b2)⟩
  · exact q2.elim
theorem m_putX {o i value : Expr} {mo mi me : ME} {pos pos' : Pos} {k : Nat} (hr : Room k X.A) (ho : PE X o (RE X.K G W mo)) (hi : PE X i (RE X.K G W mi)) (hv : PE X value (RE X.K G W me)) (hs : swapsWithSole [.Subscript o i pos'] value pos.line X.env = pure false := by rfl) (hw : swappedStores [.Subscript o i pos'] value X.env = pure none := by rfl)
    (h1 : (assignEach [.Subscript o i pos'] X.env).map (·.2) = [assign (.Subscript o i pos') X.env] := by rfl)
    (ha : ∀ v, assign (.Subscript o i pos') X.env v = (do
      let ov ← holding [v] (eval o X.env)
      let iv ← holding [v, ov] (eval i X.env)
      standAt pos'
      holding [v, ov, iv] (setItem ov iv v)
      release [v, ov, iv] []) := by intro _; rfl) :
    PS X (.Assign [.Subscript o i pos'] value pos) (RS X.K G W (sPutX (hsOf X.prog X.w) mo mi me)) := by
  refine ps_imp (ps_asg hv (pg_sub ho hi (set_dx (units1 hr)) ha) hs hw h1) fun D σ H ⟨ρ, sm, mh, r0, q⟩ => ?_
  refine res_bnd r0 q fun y ρ1 H1 mh1 w x1 r1 rw1 q1 => ?_
  refine res_bnd r1 q1 fun x ρ2 H2 mh2 v x2 r2 rv q2 => ?_
  refine res_bnd r2 q2 fun z ρ3 H3 mh3 u x3 r3 ru q3 => ?_
  have rv3 := rv.ext x3
  have rw3 := (rw1.ext x2).ext x3
  split at q3
  · rename_i h4 e
    unfold putX at e
    split at e
    · split at e
      · rename_i hs ks hd
        split at e
        · rename_i kk hkx
          split at e
          · rename_i hc
            obtain ⟨rfl, hc1, hc2⟩ := hc
            cases e
            obtain ⟨a, xs, rfl, ha', h2, rfl, h4'⟩ := r3.hr.dx hd rv3
            obtain ⟨b, rfl, hb⟩ := keyX_V hkx ru
            simp only [VR] at rw3
            subst rw3
            have hx : Ext X.K ρ3 H3 ρ3 (upd H3 a (.ext (dxP (hsOf X.prog X.w) a (xs ++ [(kk, b)])))) := ext_write h2 (by simp [Plain])
            obtain ⟨b1, b2⟩ := r3.hr.write (u := .ext (dxP (hsOf X.prog X.w) a (xs ++ [(kk, b)]))) (o1 := .dx (hsOf X.prog X.w) (xs.map (fun x : List Key × Addr => x.1) ++ [kk])) hd ha'
              ⟨xs ++ [(kk, b)], upd_same, by simp, fun x hx' => by
                rcases List.mem_append.mp hx' with z | z
                · exact (h4' x z).ext hx
                · rw [List.mem_singleton.mp z]; exact hb.ext hx⟩
            exact ⟨a, b, kk, xs, rfl, rfl, rfl, hb, h2, h4', by rw [SZ_eq]; simpa using hc1, hc2, q3 _ _ _ b2 b1 (r3.sr.ext b2)⟩
          · cases e
        · cases e
      · cases e
    · cases e
  · exact q3.elim
theorem c_lenX : CallR X (.builtin "len") (fun xs H Q => (rLenA X.K xs H Q ∨ rLenT xs H Q) ∨ rLenX X xs H Q) := c_lenT.or call_len_dx
theorem s_lenX : CallS X.K G (fun xs H Q => (rLenA X.K xs H Q ∨ rLenT xs H Q) ∨ rLenX X xs H Q) (fLenX (hsOf X.prog X.w)) := by
  intro ρ H mh mh1 xs z vs Q hr rvs e k
  unfold fLenX at e
  split at e
  · split at e
    · rename_i i hs ks hd
      split at e
      · rename_i hh
        subst hh
        cases e
        obtain ⟨v, rfl, rv⟩ := rvs.one
        obtain ⟨a, xs, rfl, _, h2, rfl, h4⟩ := hr.dx hd rv
        refine .inr ⟨a, xs, rfl, h2, h4, k _ _ Ext.refl hr _ ?_⟩
        simp only [VR]; rw [List.length_map]
      · cases e
    · exact .inl (s_lenT hr rvs e k)
  · exact .inl (s_lenT hr rvs e k)
end
/-! ### running -/
section
variable {h : MH} {hs : List Key → Int} {i : Nat} {ks : List (List Key)} {kvs : List (List Key × MV)} {k : List Key} {y : MV} {f : Bool → Bool}
theorem fDX_dx (e : h[i]? = some (.dx hs ks)) (hk : keyX y = some k) : fDX hs f y (.ref i) h = some (.bl (f (inK k ks)), h) := by simp [fDX, e, hk]
theorem fDX_dt (e : h[i]? = some (.dt kvs)) (hk : keyX y = some k) : fDX hs f y (.ref i) h = some (.bl (f (valM kvs k).isSome), h) := by simp [fDX, e, hk]
theorem fIxX_dt {v : MV} (e : h[i]? = some (.dt kvs)) (hk : keyX y = some k) (hv : valM kvs k = some v) : fIxX (.ref i) y h = some (v, h) := by simp [fIxX, e, hk, hv]
theorem putX_dx (e : h[i]? = some (.dx hs ks)) (hk : keyX y = some k) (hl : ks.length < SZ) (hn : inK k ks = false) : putX hs (.ref i) y (.bl true) h = some (h.set i (.dx hs (ks ++ [k]))) := by
  simp [putX, e, hk, hl, hn]
theorem fLenX_dx (e : h[i]? = some (.dx hs ks)) : fLenX hs [.ref i] h = some (.int ks.length, h) := by simp [fLenX, e]
theorem fLenX_dt (e : h[i]? = some (.dt kvs)) : fLenX hs [.ref i] h = some (.int kvs.length, h) := by
  have : fLenX hs [.ref i] h = fLenT [.ref i] h := by simp only [fLenX, e]
  rw [this, fLenT_dt e]
variable {s : Lo} {v : MV} {a b c : ME}
@[simp] theorem eDx0_ev : eDx0 hs s h = .ok (.ref h.length) (h ++ [.dx hs []]) := rfl
noncomputable def KPX1 (r : Rz MV) (hs0 : List Key → Int) (d k : ME) (s : Lo) : SR := r.bnS s fun v h1 => (d s h1).bnS s fun x h2 => (k s h2).bnS s fun y h3 => match putX hs0 x y v h3 with
  | some h4 => .nx s h4
  | none => .no
noncomputable def KPX2 (r : Rz MV) (hs0 : List Key → Int) (v : MV) (k : ME) (s : Lo) : SR := r.bnS s fun x h2 => (k s h2).bnS s fun y h3 => match putX hs0 x y v h3 with
  | some h4 => .nx s h4
  | none => .no
noncomputable def KPX3 (r : Rz MV) (hs0 : List Key → Int) (v x : MV) (s : Lo) : SR := r.bnS s fun y h3 => match putX hs0 x y v h3 with
  | some h4 => .nx s h4
  | none => .no
variable {d kk e : ME} {x : MV}
@[simp] theorem sPutX_ev : sPutX hs d kk e s h = KPX1 (e s h) hs d kk s := rfl
@[simp] theorem KPX1_ok : KPX1 (.ok v h) hs d kk s = KPX2 (d s h) hs v kk s := rfl
@[simp] theorem KPX2_ok : KPX2 (.ok x h) hs v kk s = KPX3 (kk s h) hs v x s := rfl
@[simp] theorem KPX3_ok : KPX3 (.ok y h) hs v x s = KNx (putX hs x y v h) s := rfl
theorem eDx1_ev {v : ME} {k : List Key} {y : MV} (hy : ∀ h, kk s h = .ok y h) (hk : keyX y = some k) (hv : ∀ h, v s h = .ok (.bl true) h) : eDx1 hs kk v s h = .ok (.ref h.length) (h ++ [.dx hs [k]]) := by
  unfold eDx1
  rw [hy]
  simp [Rz.bnd, hv, hk]
/-! generators -/
variable {ys : List MV} {g : MG} {bb : MGn}
@[simp] theorem gPl_ev {m : MS} : gPl m ys s h = (ys, m s h) := rfl
@[simp] theorem gSq_ev {aa : MGn} : gSq aa bb ys s h = gKS bb (aa ys s h) := rfl
@[simp] theorem gKS_nx : gKS bb (ys, .nx s h) = bb ys s h := rfl
@[simp] theorem gNx_ev : gNx ys s h = (ys, .nx s h) := rfl
theorem gYld_ev {ee : ME} (hl : ys.length < SZ) : gYld ee ys s h = gKY ys s (ee s h) := if_pos hl
@[simp] theorem gKY_ok : gKY ys s (.ok v h) = (ys ++ [v], .nx s h) := rfl
@[simp] theorem gIf_ev {mc : MB} {aa : MGn} : gIf mc aa bb ys s h = gKI aa bb ys s (mc s h) := rfl
@[simp] theorem gKI_ok {b : Bool} {aa : MGn} : gKI aa bb ys s (.ok b h) = if b = true then aa ys s h else bb ys s h := rfl
@[simp] theorem gFor_ev {it : ME} : gFor it g bb ys s h = gKF g bb ys s (it s h) := rfl
theorem gKF_ref {i : Nat} {xs : List MV} (e : h[i]? = some (.lst xs)) : gKF g bb ys s (.ok (.ref i) h) = gFoG (getSeq (.ref i)) g bb (xs.length + 1) 0 ys s h := by
  simp [gKF, asT, seqOf, e]
end
end Mo
/-! Mo42: encode, decode("ascii"), int(text), f-strings, C.f(self, ..). -/
namespace Mo
open PySem PySem.Spec PyProof.Rows L2
open PySem.W (KSb.Asc KSb.enc KSb.codes)
namespace Asci
open Builtin
theorem found {b : Array UInt8} {p : Nat} (h : (b.getD p 0).toNat < 128) : _codecs.asciiDecoder.find true b p = .text [(b.getD p 0).toNat] (p + 1) := by
  show (let c := (b.getD p 0).toNat; if c < 128 then _codecs.Found.char c (p + 1) else .bad (p + 1) "ordinal not in range(128)" false) = _
  dsimp only
  rw [if_pos h]
  rfl
theorem run {b : Array UInt8} (ha : ∀ p, p < b.size → (b.getD p 0).toNat < 128) (hz : b.size ≤ 16777216) (id : String) :
    _codecs.runDecoder id _codecs.asciiDecoder none true b 0 [] = pure ((b.toList.map UInt8.toNat).toArray, b.size) := by
  have big : ∀ p, ¬ ((PySem.W.KBdo.out b p).size > sizeLine) := fun p => by
    have h := PySem.W.KBdo.out_size b p
    rw [sizeLine_eq]
    omega
  unfold _codecs.runDecoder
  refine (PySem.W.KBdo.loop_bind (mk := fun p => ((p, PySem.W.KBdo.out b p, ({} : _codecs.Faults)) : Nat × Array Nat × _codecs.Faults)) (n := b.size) (fun x p hp => ?_)).trans ?_
  · simp only [if_neg (big p), if_neg (Nat.not_le.mpr hp), found (ha p hp), PySem.W.KBdo.out_next hp]
  · show pure (PySem.W.KBdo.out b b.size, b.size) = _
    rw [PySem.W.KBdo.out_whole]
section
variable {b : Array UInt8} {c : UInt8} {cs : List UInt8} {t u : Tok} {x : PySem.Str} {n : Nat}
theorem road_eq {id : String} : _codecs.decodeRoad id b (PySem.Str.ofString "ascii") none [] = (_codecs.runDecoder id _codecs.asciiDecoder none true b 0 [] >>= fun r => mkStr ⟨r.1⟩) := by kernel_rfl
theorem meets_text {t1 t2 : Tok} {d : PySem.Str} (hd : ∀ id, _codecs.runDecoder id _codecs.asciiDecoder none true b 0 [] = pure (x.cps, n)) :
    Meets («_codecs.decode.text» ⟨[.bytes b t, .str (PySem.Str.ofString "ascii") t1, .none, .str d t2], []⟩) (fun _ R s => x.length ≤ sizeLine ∧ R (.ok (.ret (.str x s.toks))) { s with toks := s.toks + 1 }) := by
  refine .of_wp fun prog w A R s hS => ?_
  obtain ⟨hsz, h⟩ := hS
  show wpAny _ _ (Bytes.bytesLike _ (.bytes b t) >>= fun r => _) _ _ s
  refine wpAny_bind (wpAny_of_eq PySem.W.KBd.like_eq ?_)
  refine wpAny_bind (wpAny_of_eq PySem.W.KBd.held_eq ?_)
  show wpAny _ _ (_codecs.decodeRoad _ b (PySem.Str.ofString "ascii") none [] >>= fun v => _) _ _ s
  rw [road_eq, hd]
  refine wpAny_bind (wpAny_bind (wpAny_pure ?_))
  exact wpAny_mkStr (wpAny_pure ⟨_, rfl, h⟩) hsz
theorem entry_eq : «bytes.decode» ⟨[.bytes (c :: cs).toArray t, .str (PySem.Str.ofString "ascii") u], []⟩ = (mkStr (PySem.Str.ofString "utf-8") >>= fun _ => mkStr (PySem.Str.ofString "ascii") >>= fun e => mkStr (PySem.Str.ofString "bytes.decode") >>= fun d =>
    PySem.call (.builtin "_codecs.decode.text") [.bytes (c :: cs).toArray t, e, .none, d] >>= fun v => ret v) := by kernel_rfl
theorem entry_0 : «bytes.decode» ⟨[.bytes #[] t, .str (PySem.Str.ofString "ascii") u], []⟩ = (rule "bytes.decode.empty" >>= fun _ => mkStr PySem.Str.empty >>= fun v => ret v) := by kernel_rfl
theorem meets_decode (hd : ∀ id, _codecs.runDecoder id _codecs.asciiDecoder none true (c :: cs).toArray 0 [] = pure (x.cps, n)) :
    Meets («bytes.decode» ⟨[.bytes (c :: cs).toArray t, .str (PySem.Str.ofString "ascii") u], []⟩) (fun _ R s => x.length ≤ sizeLine ∧ ∀ t' k, R (.ok (.ret (.str x t'))) { s with toks := k }) := by
  refine .of_wp fun prog w A R s hS => ?_
  obtain ⟨hsz, h⟩ := hS
  rw [entry_eq]
  refine wpAny_bind (wpAny_mkStr ?_ (by decide))
  refine wpAny_bind (wpAny_mkStr ?_ (by decide))
  refine wpAny_bind (wpAny_mkStr ?_ (by decide))
  exact wpAny_bind (call_function_meets PySem.W.KBd.kind_text PySem.W.KBd.plain_text PySem.W.KBd.entry_text (PySem.W.KBd.args_text _ _ _ _) (meets_text hd) ⟨hsz, wpAny_pure ⟨_, rfl, h _ _⟩⟩)
theorem meets_empty : Meets («bytes.decode» ⟨[.bytes #[] t, .str (PySem.Str.ofString "ascii") u], []⟩) (fun _ R s => ∀ t' k, R (.ok (.ret (.str PySem.Str.empty t'))) { s with toks := k }) := by
  refine .of_wp fun prog w A R s h => ?_
  rw [entry_0]
  exact wpAny_bind (wpAny_rule (wpAny_bind (wpAny_mkStr (wpAny_pure ⟨_, rfl, h _ _⟩) (by decide))))
theorem args2 (a b : Value) : argsOk "bytes.decode" ⟨[a, b], []⟩ := by
  unfold argsOk; rw [signature?_of (id := "bytes.decode") (n := ['e', 'd', 'o', 'c', 'e', 'd']) (o := ['s', 'e', 't', 'y', 'b']) (by kernel_rfl) PySem.W.FB.owner_bytes]; kernel_rfl
end
/-- the text of bytes -/
def txt (b : Array UInt8) : PySem.Str := ⟨(b.toList.map UInt8.toNat).toArray⟩
section
variable {prog : Program} {w : World} {A : Around} {E : Value → Shared → Prop} {s : Shared} {b : Array UInt8} {t u : Tok}
theorem decode_K {Q : Value → Shared → Prop} (ha : ∀ c ∈ b.toList, c.toNat < 128) (hz : b.size ≤ 16777216) (h : ∀ t' k, Q (.str (txt b) t') { s with toks := k }) :
    wpAny (model prog w) A (PySem.call (.builtin "bytes.decode") [.bytes b t, .str (PySem.Str.ofString "ascii") u]) Q E s := by
  have hrun := run (b := b) (fun p hp => by
    have : b.getD p 0 ∈ b.toList := by
      simp only [Array.getD, hp, dif_pos]
      exact Array.getElem_mem_toList hp
    exact ha _ this) hz
  obtain ⟨l⟩ := b
  cases l with
  | nil => exact call_meets PySem.W.FB.slot_bytes_decode (PySem.W.typeIs_bytes _ _ _) PySem.W.FB.entry_bytes_decode (args2 _ _) meets_empty fun t' k => h t' k
  | cons c r =>
    refine call_meets PySem.W.FB.slot_bytes_decode (PySem.W.typeIs_bytes _ _ _) PySem.W.FB.entry_bytes_decode (args2 _ _) (meets_decode (x := txt (List.toArray (c :: r))) (n := (List.toArray (c :: r)).size) fun id => hrun id) ⟨?_, h⟩
    show ((List.toArray (c :: r)).toList.map UInt8.toNat).toArray.size ≤ sizeLine
    rw [List.size_toArray, List.length_map, sizeLine_eq]
    simpa using hz
end
end Asci
section
variable {X : Cx}
/-- e.decode("ascii") -/
def tDecA (te tx : TE) : TE := fun σ H Q => te σ H fun x H1 => ∃ b : Array UInt8, x = .byt b ∧ tx σ H1 fun y H2 => y = .str "ascii" ∧ (∀ c ∈ b.toList, c.toNat < 128) ∧ b.size ≤ 16777216 ∧ Q (.str (Asci.txt b)) H2
theorem pe_decA {o e : Expr} {to te : TE} {apos cpos : Pos} (ho : PE X o to) (he : PE X e te)
    (hbase : attributeBase o "decode" X.env (eval o X.env) = eval o X.env := by rfl)
    (hfew : ((backTo cpos (starEach [e] X.env)).all (fun x => !x.1) && (backToKw cpos (keywordEach [] X.env)).all (fun x => x.1.isSome)
      && decide ([e].length + ([] : List Keyword).length + (if ([] : List Keyword).isEmpty then 0 else 1) < 30)) = true := by rfl)
    (hline : (apos.endLine == cpos.line) = true := by rfl) (hs : starEach [e] X.env = (false, eval e X.env) :: starEach [] X.env := by rfl) (hplain : (backTo cpos (starEach [] X.env)).any (·.1) = false := by rfl) :
    PE X (.Call (.Attribute o "decode" apos) [e] [] cpos) (tDecA to te) := by
  refine ⟨fun pins s σ H Q I h => ?_⟩
  refine wpAny_Call_method_late hbase hfew hline rfl (thn (ho.run pins s σ H _ I h) fun v s1 ⟨x, H1, I1, r1, b, ex, q1⟩ => ?_)
  subst ex
  obtain ⟨t, rfl⟩ := r1
  refine ⟨"bytes", "bytes.decode", PySem.W.FB.plainAttrs_bytes, PySem.W.FB.slot_bytes_decode, PySem.W.FB.type_bytes_decode, PySem.W.typeIs_bytes _ _ _, (fun _ ee => by cases ee), ?_⟩
  have hA := (pa_cons he pa_nil hs).run cpos pins s1 σ H1 (fun vs H2 => match vs with
    | [y] => y = .str "ascii" ∧ (∀ c ∈ b.toList, c.toNat < 128) ∧ b.size ≤ 16777216 ∧ Q (.str (Asci.txt b)) H2
    | _ => False) I1 q1
  rw [hs] at hA ⊢
  refine Calls.callWith_builtin (by show (false || (backTo cpos (starEach [] X.env)).any (·.1)) = false; rw [hplain] <;> rfl) (Calls.evalArgs_plain ?_)
  refine thn hA fun us s2 ⟨vs, H2, I2, r2, q2⟩ => ?_
  cases r2 with
  | nil => exact q2.elim
  | @cons y u ys us' ry rys =>
    cases rys with
    | cons _ _ => exact q2.elim
    | nil =>
      obtain ⟨ey, h1, h2, q3⟩ := q2
      subst ey
      obtain ⟨t2, rfl⟩ := ry
      exact Asci.decode_K h1 h2 fun t' k => ⟨.str (Asci.txt b), H2, I2.tok k, ⟨t', rfl⟩, q3⟩
theorem bInts_inj {b c : Array UInt8} (h : PySem.W.KBw.bInts b = PySem.W.KBw.bInts c) : b = c := by
  apply Array.toList_inj.mp
  unfold PySem.W.KBw.bInts at h
  refine (List.map_inj_right (f := fun c : UInt8 => ((c.toNat : Nat) : Int)) fun x y e => ?_).mp h
  exact UInt8.toNat_inj.mp (by exact_mod_cast e)
theorem mt_enc : MtR X "str.encode" (fun x xs H Q => ∃ a, x = .str a ∧ xs = [] ∧ (PySem.W.KSb.Asc a ∧ a.length ≤ 16777216) ∧ Q (.byt (PySem.W.KSb.enc a)) H) :=
  mt0 (C := fun a => PySem.W.KSb.Asc a ∧ a.length ≤ 16777216) (g := fun a => .byt (PySem.W.KSb.enc a)) fun a t s Q hc h => PySem.W.KSb.encode_K hc.1 hc.2 fun c t' k e _ _ => by
    have : c = PySem.W.KSb.enc a := bInts_inj (e.trans (PySem.W.KSb.enc_ints hc.1).symm)
    rw [this]
    exact h _ k ⟨t', rfl⟩
end
/-! ### in the model -/
instance (a : PySem.Str) : Decidable (PySem.W.KSb.Asc a) := by unfold PySem.W.KSb.Asc; infer_instance
def fEnc (x : MV) (xs : List MV) (h : MH) : OV := match x, xs with
  | .str a, [] => if PySem.W.KSb.Asc a ∧ a.length ≤ 16777216 then some (.byt (PySem.W.KSb.enc a), h) else none
  | _, _ => none
def fDecA (x y : MV) (h : MH) : OV := match x, y with
  | .byt b, .str e => if e = Str.ofString "ascii" ∧ (∀ c ∈ b.toList, c.toNat < 128) ∧ b.size ≤ 16777216 then some (.str (Asci.txt b), h) else none
  | _, _ => none
def KDec (r : Rz MV) (me : ME) (s : Lo) : Rz MV := r.bnd fun x h1 => match x with
  | .byt b => (me s h1).bnd fun y h2 => lift (fDecA (.byt b) y h2)
  | _ => .no
def eDecA (mo me : ME) : ME := fun s h => KDec (mo s h) me s
def fIntT (xs : List MV) (h : MH) : OV := match xs with
  | [.int i] => some (.int i, h)
  | [.bl b] => some (.int (if b then 1 else 0), h)
  | [.str a] => if a.length ≤ 640 then (PySem.intText? a).map fun n => (.int n, h) else none
  | _ => none
section
variable {X : Cx} {G : String → Option V} {W : WX}
theorem s_enc : MtS X.K G (fun x xs H Q => ∃ a, x = .str a ∧ xs = [] ∧ (PySem.W.KSb.Asc a ∧ a.length ≤ 16777216) ∧ Q (.byt (PySem.W.KSb.enc a)) H) fEnc := by
  intro ρ H mh mh1 x z xs v vs Q hr rv rvs e k
  unfold fEnc at e
  split at e
  · rename_i a
    split at e
    · rename_i hc
      cases e
      simp only [VR] at rv
      simp only [VRs] at rvs
      subst rv rvs
      exact ⟨a, rfl, rfl, hc, k _ _ Ext.refl hr _ (by simp [VR])⟩
    · cases e
  · cases e
theorem m_decA {o e : Expr} {mo me : ME} {apos cpos : Pos} (ho : PE X o (RE X.K G W mo)) (he : PE X e (RE X.K G W me))
    (hbase : attributeBase o "decode" X.env (eval o X.env) = eval o X.env := by rfl)
    (hfew : ((backTo cpos (starEach [e] X.env)).all (fun x => !x.1) && (backToKw cpos (keywordEach [] X.env)).all (fun x => x.1.isSome)
      && decide ([e].length + ([] : List Keyword).length + (if ([] : List Keyword).isEmpty then 0 else 1) < 30)) = true := by rfl)
    (hline : (apos.endLine == cpos.line) = true := by rfl) (hs : starEach [e] X.env = (false, eval e X.env) :: starEach [] X.env := by rfl) (hplain : (backTo cpos (starEach [] X.env)).any (·.1) = false := by rfl) :
    PE X (.Call (.Attribute o "decode" apos) [e] [] cpos) (RE X.K G W (eDecA mo me)) := by
  refine pe_imp (pe_decA ho he hbase hfew hline hs hplain) fun σ H Q ⟨ρ, sm, mh, r, q⟩ => ?_
  unfold eDecA KDec at q
  refine re_bnd r q fun x ρ1 H1 mh1 v x1 r1 rv q1 => ?_
  cases x with
  | byt b =>
    simp only [VR] at rv
    subst rv
    refine ⟨b, rfl, re_bnd r1 q1 fun y ρ2 H2 mh2 w x2 r2 rw' q2 => ?_⟩
    obtain ⟨z, h3, e, kk⟩ := ro_lift q2
    unfold fDecA at e
    split at e
    · rename_i b' e' eb
      cases eb
      split at e
      · rename_i hc
        cases e
        simp only [VR] at rw'
        subst rw'
        exact ⟨by rw [hc.1], hc.2.1, hc.2.2, kk _ _ Ext.refl r2.hr _ (by simp [VR])⟩
      · cases e
    · cases e
  | _ => exact q1.elim
end
end Mo
/-! Mo43: int(text), f-strings, C.f(self, ..). -/
namespace Mo
open PySem PySem.Spec PyProof.Rows L2
section
variable {X : Cx} {G : String → Option V} {W : WX}
theorem c_intT : CallR X (.type "int") (fun xs H Q => ((∃ i, xs = [.int i] ∧ Q (.int i) H) ∨ ∃ k, xs = [.bl k] ∧ Q (.int (if k then 1 else 0)) H) ∨ ∃ a n, xs = [.str a] ∧ PySem.intText? a = some n ∧ a.length ≤ 640 ∧ Q (.int n) H) := call_int1.or call_int_str
theorem s_intT : CallS X.K G (fun xs H Q => ((∃ i, xs = [.int i] ∧ Q (.int i) H) ∨ ∃ k, xs = [.bl k] ∧ Q (.int (if k then 1 else 0)) H) ∨ ∃ a n, xs = [.str a] ∧ PySem.intText? a = some n ∧ a.length ≤ 640 ∧ Q (.int n) H) fIntT := by
  intro ρ H mh mh1 xs z vs Q hr rvs e k
  unfold fIntT at e
  split at e
  · obtain ⟨v, rfl, rv⟩ := rvs.one
    simp only [VR] at rv; subst rv
    cases e
    exact .inl (.inl ⟨_, rfl, k _ _ Ext.refl hr _ (by simp [VR])⟩)
  · obtain ⟨v, rfl, rv⟩ := rvs.one
    simp only [VR] at rv; subst rv
    cases e
    exact .inl (.inr ⟨_, rfl, k _ _ Ext.refl hr _ (by simp [VR])⟩)
  · rename_i a
    obtain ⟨v, rfl, rv⟩ := rvs.one
    simp only [VR] at rv; subst rv
    split at e
    · rename_i hl
      cases hn : PySem.intText? a with
      | none => rw [hn] at e; cases e
      | some n =>
        rw [hn] at e
        cases e
        exact .inr ⟨a, n, rfl, hn, hl, k _ _ Ext.refl hr _ (by simp [VR])⟩
    · cases e
  · cases e
/-! ### f-strings -/
def KFm (x : MV) (h : MH) : Rz MV := match x with
  | .str y => if y.length ≤ SZ then .ok (.str y) h else .no
  | .int i => if i.natAbs.log2 < 1920 then .ok (.str (toString i)) h else .no
  | _ => .no
def eFmt (m : ME) : ME := fun s h => (m s h).bnd KFm
theorem m_fmt {e : Expr} {m : ME} {pos : Pos} (he : PE X e (RE X.K G W m)) : PE X (.FormattedValue e (-1) none pos) (RE X.K G W (eFmt m)) := by
  refine pe_imp (pe_fmt he) fun σ H Q ⟨ρ, sm, mh, r, q⟩ => ?_
  unfold eFmt at q
  refine re_bnd r q fun x ρ1 H1 mh1 v x1 r1 rv q1 => ?_
  cases x with
  | str y =>
    simp only [VR] at rv
    subst rv
    unfold KFm at q1
    dsimp only at q1
    split at q1
    · rename_i hl
      exact .inl ⟨y, rfl, by rw [← SZ_eq] at *; exact hl, q1 _ _ Ext.refl r1.hr _ (by simp [VR])⟩
    · exact q1.elim
  | int i =>
    simp only [VR] at rv
    subst rv
    unfold KFm at q1
    dsimp only at q1
    split at q1
    · rename_i hl
      exact .inr ⟨i, rfl, hl, q1 _ _ Ext.refl r1.hr _ (by simp [VR])⟩
    · exact q1.elim
  | _ => exact q1.elim
/-- a text behind the texts so far -/
def KJs (r : Str → Lo → MH → Rz MV) (acc : Str) (s : Lo) (x : MV) (h : MH) : Rz MV := match x with
  | .str y => if (acc ++ y).length ≤ SZ then r (acc ++ y) s h else .no
  | _ => .no
def jsM : List ME → Str → Lo → MH → Rz MV
  | [], acc, _, h => .ok (.str acc) h
  | m :: ms, acc, s, h => (m s h).bnd (KJs (jsM ms) acc s)
def eJs (ms : List ME) : ME := jsM ms Str.empty
inductive PJM (X : Cx) (G : String → Option V) (W : WX) : List Expr → List ME → Prop where
  | nil : PJM X G W [] []
  | cons {e : Expr} {m : ME} {es : List Expr} {ms : List ME} (h : PE X e (RE X.K G W m)) (r : PJM X G W es ms) : PJM X G W (e :: es) (m :: ms)
theorem PJM.pj {es : List Expr} {ms : List ME} (h : PJM X G W es ms) : PJ X es (ms.map (RE X.K G W)) := by
  induction h with
  | nil => exact .nil
  | cons h r ih => exact .cons h ih
theorem js_sim {σ : L2.St} : ∀ (ms : List ME) (acc : Str) (ρ : List Addr) (sm : Lo) (mh : MH) (H : Hp) (Q : V → Hp → Prop), Rl X.K G ρ H sm σ mh → RO X.K G W σ (PV X.K G Q) ρ H (jsM ms acc sm mh) → tJs (ms.map (RE X.K G W)) acc σ H (fun out H1 => Q (.str out) H1)
  | [], acc, ρ, sm, mh, H, Q, r, q => q ρ H Ext.refl r.hr _ (by simp [VR])
  | m :: ms, acc, ρ, sm, mh, H, Q, r, q => by
    show RE X.K G W m σ H _
    unfold jsM at q
    refine re_bnd r q fun x ρ1 H1 mh1 v x1 r1 rv q1 => ?_
    cases x with
    | str y =>
      simp only [VR] at rv
      subst rv
      unfold KJs at q1
      dsimp only at q1
      split at q1
      · rename_i hl
        exact ⟨y, rfl, by rw [← SZ_eq] at *; exact hl, js_sim ms (acc ++ y) ρ1 sm mh1 H1 Q r1 q1⟩
      · exact q1.elim
    | _ => exact q1.elim
theorem m_joined {v1 v2 : Expr} {rest : List Expr} {ms : List ME} {pos : Pos} (h : PJM X G W (v1 :: v2 :: rest) ms) : PE X (.JoinedStr (v1 :: v2 :: rest) pos) (RE X.K G W (eJs ms)) :=
  pe_imp (pe_joined h.pj) fun σ H Q ⟨ρ, sm, mh, r, q⟩ => js_sim ms Str.empty ρ sm mh H Q r q
/-! ### C.f(x, ..) -/
theorem pe_cfun {CX : CXT} {k : Nat} {C g : Addr} {mc : Value} {sp : Sp} {E : XK} {o e : Expr} {es : List Expr} {m : Str} {pos apos : Pos} {t : TA} {pl : Sem Bool} (he : PE X o (tC (.ref C))) (r : ClX.CRead X.K C mc) (c : ClX.CVal X.K C mc m (.ref g) (.ref g)) (hk : PySem.W.keepIn X.K (.ref g) = true)
    (F : FnR X.prog X.w X.K X.mg X.base CX k g sp) (hr : Room k X.A) (hx : Passes CX X E) (ha : PA X (e :: es) t)
    (hst : starEach (e :: es) X.env = (false, eval e X.env) :: starEach es X.env := by rfl) (hpl : (backTo pos (starEach es X.env)).any (·.1) = false := by rfl)
    (ht : eval (.Call (.Attribute o m apos) (e :: es) [] pos) X.env = (do
      let ov ← eval o X.env
      standAt apos.atName
      let (f, first) ← holding [ov] (getMethod ov m pl)
      callWith pos f first (backTo pos (starEach (e :: es) X.env)) (backToKw pos (keywordEach [] X.env))) := by rfl) :
    PE X (.Call (.Attribute o m apos) (e :: es) [] pos) (fun σ H Q => t σ H fun vs H2 => sp vs H2 Q E) := by
  refine ⟨fun pins s σ H Q I h => ?_⟩
  refine PySem.W.methodCall_KW (pl := pl) (thn (he.run pins s σ H (fun x H1 => x = .ref C ∧ t σ H1 fun vs H2 => sp vs H2 Q E) I ⟨rfl, h⟩) fun u s1 ⟨x, H1, I1, rx, ex, q⟩ => ?_) ht
  subst ex
  obtain rfl : u = Value.ref C := rx
  refine PySem.W.method_cls I1.kIn r.ga (ClX.getcval_ok I1 r c fun s2 I2 => ?_)
  refine PySem.W.callWith_K (first := []) (h₀ := X.base) I2.ok.mod.kin hk (thn (ha.run pos pins s2 σ H1 _ I2 q) fun us s3 ⟨vs, H2, I3, rv, q2⟩ => ⟨I3.kIn, ?_⟩) hst hpl
  exact wpAny_call (run_fnR F hr hx I3 rv q2)
def KCF (n : Nat) (f : MF) (xs : List MV) (h : MH) : Rz MV := if xs.length = n then okR (f xs h) else .no
def eCFn (n : Nat) (f : MF) (ms : MEs) : ME := fun s h => (ms s h).bnd (KCF n f)
theorem m_cfun {k : Nat} {C fa : Addr} {mc : Value} {fd : FuncData} {ps : List Str} {f : MF} {ms : MEs} {o e : Expr} {es : List Expr} {m : Str} {pos apos : Pos} {pl : Sem Bool} (r : ClX.CRead X.K C mc) (c : ClX.CVal X.K C mc m (.ref fa) (.ref fa)) (hk : PySem.W.keepIn X.K (.ref fa) = true)
    (F : FnOk X.prog X.w X.K X.mg X.base (L2.CX X.prog X.w) k fa fd ps (SpM X.K G ps.length f)) (hr : Room k X.A) (hb : Binds X.K fd ps []) (ho : PE X o (tC (.ref C))) (ha : PA X (e :: es) (RA X.K G W ms))
    (hst : starEach (e :: es) X.env = (false, eval e X.env) :: starEach es X.env := by rfl) (hpl : (backTo pos (starEach es X.env)).any (·.1) = false := by rfl)
    (ht : eval (.Call (.Attribute o m apos) (e :: es) [] pos) X.env = (do
      let ov ← eval o X.env
      standAt apos.atName
      let (f, first) ← holding [ov] (getMethod ov m pl)
      callWith pos f first (backTo pos (starEach (e :: es) X.env)) (backToKw pos (keywordEach [] X.env))) := by rfl) :
    PE X (.Call (.Attribute o m apos) (e :: es) [] pos) (RE X.K G W (eCFn ps.length f ms)) := by
  refine pe_imp (pe_cfun (pl := pl) (E := fun _ _ _ => False) ho r c hk (F.raw hb .nil) hr (fun pins σ H s e s' I hq => (noCX hq).elim) ha hst hpl ht) fun σ H Q ⟨ρ, sm, mh, r0, q⟩ => ?_
  refine ra_bnd r0 q fun xs ρ2 H2 mh2 vs x2 r2 rvs q2 => ?_
  unfold KCF at q2
  split at q2
  · rename_i hl
    rw [List.append_nil]
    exact ⟨_, _, _, r2.hr, rvs, by rw [← rvs.length]; exact hl, okR_ro q2⟩
  · exact q2.elim
end
end Mo
/-! Mo44: tests of facts; running. -/
namespace Mo
open PySem PySem.Spec PyProof.Rows L2
def cvB (K : PySem.W.Frag) (C : Addr) (f : Str) (g : Addr) : Bool := match PySem.W.findCls K (.ref C) (.type "type") f with
  | some (.val v) => decide (v = .ref g)
  | _ => false
theorem cval_of {K : PySem.W.Frag} {C g : Addr} {f : Str} (h : cvB K C f g = true) : ClX.CVal K C (.type "type") f (.ref g) (.ref g) := by
  unfold cvB at h
  split at h
  · rename_i v e
    have := of_decide_eq_true h
    subst this
    exact ⟨e, rfl⟩
  · cases h
def fDivW (x y : MV) (h : MH) : OV := match x, y with
  | .int i, .int j => if 0 < j ∧ j < 4611686018427387904 then some (.int (i / j), h) else none
  | _, _ => none
@[simp] theorem fDivW_ev {i j : Int} {h : MH} : fDivW (.int i) (.int j) h = if 0 < j ∧ j < 4611686018427387904 then some (.int (i / j), h) else none := rfl
theorem s_divW {X : Cx} {G : String → Option V} : R2S X.K G (rI CDivW fun i j => .int (i / j)) fDivW := s_ints fun x y h z h1 e => by
  unfold fDivW at e
  split at e
  · split at e
    · rename_i hc; cases e; exact ⟨_, _, rfl, rfl, wide_div (b := 62) hc.1 (by omega) (by decide) (by decide), rfl, rfl⟩
    · cases e
  · cases e
section
variable {s : Lo} {h : MH} {m me : ME} {ms : List ME} {acc : Str} {f : MF} {n : Nat} {as : MEs} {xs : List MV} {v : MV} {x : MX}
theorem eFmt_ev {v : MV} {h1 : MH} (e : m s h = .ok v h1) : eFmt m s h = KFm v h1 := by unfold eFmt; rw [e]; rfl
theorem KFm_str {y : Str} (hl : y.length ≤ SZ) : KFm (.str y) h = .ok (.str y) h := if_pos hl
theorem KFm_int {i : Int} (hl : i.natAbs.log2 < 1920) : KFm (.int i) h = .ok (.str (toString i)) h := if_pos hl
theorem jsM_nil : jsM [] acc s h = .ok (.str acc) h := rfl
theorem jsM_cons {y : Str} {h1 : MH} (e : m s h = .ok (.str y) h1) (hl : (acc ++ y).length ≤ SZ) : jsM (m :: ms) acc s h = jsM ms (acc ++ y) s h1 := by
  conv => lhs; unfold jsM
  rw [e]
  show KJs (jsM ms) acc s (.str y) h1 = _
  exact if_pos hl
def KCFn (r : Rz (List MV)) (n : Nat) (f : MF) : Rz MV := r.bnd (KCF n f)
@[simp] theorem eCFn_ev : eCFn n f as s h = KCFn (as s h) n f := rfl
@[simp] theorem KCFn_ok : KCFn (.ok xs h) n f = if xs.length = n then okR (f xs h) else .no := rfl
@[simp] theorem eDecA_ev : eDecA m me s h = KDec (m s h) me s := rfl
@[simp] theorem KDec_ok {b : Array UInt8} : KDec (.ok (.byt b) h) me s = K3 (me s h) fDecA (.byt b) := rfl
end
end Mo
/-! Mo45: list(bytes), ord. -/
namespace Mo
open PySem PySem.Spec PyProof.Rows L2
section
variable {X : Cx} {G : String → Option V}
def fListB (xs : List MV) (h : MH) : OV := match xs with
  | [.byt b] => if b.size ≤ 16777216 then some (.ref h.length, h ++ [.lst ((bi b).map .int)]) else none
  | _ => none
theorem VRs_ints {K : PySem.W.Frag} {ρ : List Addr} {H : Hp} : ∀ l : List Int, VRs K G ρ H (l.map MV.int) (l.map V.int)
  | [] => by simp [VRs]
  | x :: l => by simp only [List.map_cons, VRs]; exact ⟨_, _, rfl, by simp [VR], VRs_ints l⟩
theorem c_listB (hc : X.calm = true) : CallR X (.type "list") (r1 kLstB) := call_r1 (rl_listB hc)
theorem s_listB : CallS X.K G (r1 kLstB) fListB := by
  intro ρ H mh mh1 xs z vs Q hr rvs e k
  unfold fListB at e
  split at e
  · obtain ⟨v, rfl, rv⟩ := rvs.one
    simp only [VR] at rv; subst rv
    split at e
    · rename_i b hz
      cases e
      refine ⟨b, rfl, by rw [sizeLine_eq]; exact hz, fun l hl => ?_⟩
      obtain ⟨a1, a2, a3⟩ := new_lst hr (VRs_ints (bi b)) hl
      exact k _ _ a2 a1 _ a3
    · cases e
  · cases e
def fOrd (xs : List MV) (h : MH) : OV := match xs with
  | [.str x] => if x.length = 1 then some (.int (x.cps.getD 0 0 : Nat), h) else none
  | _ => none
theorem s_ord : CallS X.K G (fun xs H Q => ∃ x, xs = [.str x] ∧ x.length = 1 ∧ Q (.int (x.cps.getD 0 0 : Nat)) H) fOrd := by
  intro ρ H mh mh1 xs z vs Q hr rvs e k
  unfold fOrd at e
  split at e
  · obtain ⟨v, rfl, rv⟩ := rvs.one
    simp only [VR] at rv; subst rv
    split at e
    · rename_i x hz
      cases e
      exact ⟨x, rfl, hz, k _ _ Ext.refl hr _ (by simp [VR])⟩
    · cases e
  · cases e
@[simp] theorem fListB_ev {b : Array UInt8} {h : MH} : fListB [.byt b] h = if b.size ≤ 16777216 then some (.ref h.length, h ++ [.lst ((bi b).map .int)]) else none := rfl
@[simp] theorem fOrd_ev {x : Str} {h : MH} : fOrd [.str x] h = if x.length = 1 then some (.int (x.cps.getD 0 0 : Nat), h) else none := rfl
end
end Mo
/-! Mo46: own `in`, len, op= (no errors). -/
namespace Mo
open PySem L2
/-- a def of the class p.1 that an operator calls -/
structure OwnD (P : Program) (w : World) (K : PySem.W.Frag) (mg : Str → Option Value) (base : Heap) (G : String → Option V) (k : Nat) (name : Str) (n : Nat) (p : String × MF) : Prop where
  ex : ∃ C fa fd ps, G p.1 = some (.ref C) ∧ Meth K C name fa ∧ FnOk P w K mg base (L2.CX P w) k fa fd ps (SpM K G ps.length p.2) ∧ Binds K fd ps [] ∧ ps.length = n
theorem passNo {X : Cx} (σ : St) : PassesAt (L2.CX X.prog X.w) X σ (fun _ _ _ => False) := by
  intro pins H s e s' I c
  obtain ⟨_, _, _, _, _, _, _, _, _, _, _, _, f⟩ := c
  exact f.elim
section
variable {X : Cx} {G : String → Option V} {W : WX} {k n : Nat} {f : MF} {C fa : Addr} {fd : FuncData} {ps : List Str}
theorem ownD_run {pins : List (Addr × Obj)} {σ : St} {H : Hp} {s : Shared} {A : Around} {us : List Value} {vs : List V} {Q : VK} {E : XK}
    (F : FnOk X.prog X.w X.K X.mg X.base (L2.CX X.prog X.w) k fa fd ps (SpM X.K G ps.length f)) (B : Binds X.K fd ps []) (hl : ps.length = n) (hr : Room k A)
    (e0 : Env0 X.prog X.w X.K X.mg X.base A X.stack s H) (hx : PassesAt (L2.CX X.prog X.w) X σ E) (I : Inv X pins σ H s) (r : Vals vs us) (hu : us.length = n) (q : SpM X.K G n f vs H Q E) :
    PySem.wpAny (model X.prog X.w) A (PySem.call (.ref fa) us) (EP X pins σ Q) X.xe s := by
  refine wpAny_call (codeAny_mono (F.run A X.stack s H ⟨us, []⟩ us vs Q E hr e0 (by
    have := B s us I.kIn (by rw [hl, ← hu]; simp)
    simpa using this) r (by rw [hl]; exact q)) fun r s' hq => ?_)
  cases r with
  | error e => exact hx pins H s e s' I hq
  | ok fl =>
    cases fl with
    | ret w => exact I.after hq
    | next => exact False.elim hq
    | brk => exact False.elim hq
    | cont => exact False.elim hq
def rOwnD (K : PySem.W.Frag) (G : String → Option V) (tab : List (String × MF)) (n : Nat) (E : XK) : List V → Hp → VK → Prop := fun vs H Q => ∃ a us p C dx fs, vs = .ref a :: us ∧ p ∈ tab ∧ G p.1 = some (.ref C) ∧ H a = some (.ins C dx fs) ∧ vs.length = n ∧
  SpM K G n p.2 vs H Q E
theorem op_inO {tab : List (String × MF)} (T : ∀ p ∈ tab, OwnD X.prog X.w X.K X.mg X.base G k "__contains__" 2 p) (hr : Room k X.A) :
    OpR X (compareOp .In) (fun v x H Q => rOwnD X.K G tab 2 (fun _ _ _ => False) [x, v] H fun z H' => ∃ b, z = .bl b ∧ Q (.bl b) H') := by
  intro pins s σ H v x u w Q I rv rx h
  obtain ⟨a, us, p, C, dx, fs, ev, hp, hG, ha, hl, q⟩ := h
  obtain ⟨C', fa, fd, ps, g1, M, F, B, hn⟩ := (T p hp).ex
  rw [hG] at g1
  cases g1
  cases ev
  cases rx
  obtain ⟨mA, J, _⟩ := ins_get I.hok ha
  obtain ⟨od, J, _⟩ := J.look
  obtain ⟨m, hF⟩ := I.fr
  refine PySem.W.in_K hF I.ok.mod.kin J M.at_ M.fn (wpAny_mono (ownD_run (us := [.ref a, u]) (vs := [.ref a, v]) F B hn hr I.env0 (passNo σ) I (.cons rfl (.cons rv .nil)) rfl q) (fun y s' z => ?_) fun _ _ e => e)
  obtain ⟨z', H', I', rz, b, ez, qz⟩ := z
  subst ez
  cases rz
  exact wpAny_truthy_bool ⟨.bl b, H', I', rfl, qz⟩
theorem op_notInO {tab : List (String × MF)} (T : ∀ p ∈ tab, OwnD X.prog X.w X.K X.mg X.base G k "__contains__" 2 p) (hr : Room k X.A) :
    OpR X (compareOp .NotIn) (fun v x H Q => rOwnD X.K G tab 2 (fun _ _ _ => False) [x, v] H fun z H' => ∃ b, z = .bl b ∧ Q (.bl (!b)) H') := by
  intro pins s σ H v x u w Q I rv rx h
  obtain ⟨a, us, p, C, dx, fs, ev, hp, hG, ha, hl, q⟩ := h
  obtain ⟨C', fa, fd, ps, g1, M, F, B, hn⟩ := (T p hp).ex
  rw [hG] at g1
  cases g1
  cases ev
  cases rx
  obtain ⟨mA, J, _⟩ := ins_get I.hok ha
  obtain ⟨od, J, _⟩ := J.look
  obtain ⟨m, hF⟩ := I.fr
  refine PySem.W.notIn_K hF I.ok.mod.kin J M.at_ M.fn (wpAny_mono (ownD_run (us := [.ref a, u]) (vs := [.ref a, v]) F B hn hr I.env0 (passNo σ) I (.cons rfl (.cons rv .nil)) rfl q) (fun y s' z => ?_) fun _ _ e => e)
  obtain ⟨z', H', I', rz, b, ez, qz⟩ := z
  subst ez
  cases rz
  exact wpAny_truthy_bool ⟨.bl (!b), H', I', rfl, qz⟩
theorem c_lenO {tab : List (String × MF)} (T : ∀ p ∈ tab, OwnD X.prog X.w X.K X.mg X.base G k "__len__" 1 p) (hr : Room (k + 1) X.A) :
    CallR X (.builtin "len") (fun xs H Q => rOwnD X.K G tab 1 (fun _ _ _ => False) xs H fun z H' => ∃ i, z = .int i ∧ (0 ≤ i ∧ i < 2 ^ 63) ∧ Q (.int i) H') := by
  intro pins s σ H xs us Q I r h
  obtain ⟨a, vs, p, C, dx, fs, ev, hp, hG, ha, hl, q⟩ := h
  subst ev
  obtain rfl : vs = [] := by cases vs with | nil => rfl | cons _ _ => simp at hl
  obtain ⟨u, rfl, ru⟩ := r.one
  cases (show u = Value.ref a from ru)
  obtain ⟨C', fa, fd, ps, g1, M, F, B, hn⟩ := (T p hp).ex
  rw [hG] at g1
  cases g1
  obtain ⟨mA, J, _⟩ := ins_get I.hok ha
  obtain ⟨od, J, _⟩ := J.look
  obtain ⟨m, hF⟩ := I.fr
  refine PySem.W.len_K hF I.ok.mod.kin J M.at_ M.fn (wpAny_mono (ownD_run (us := [.ref a]) (vs := [.ref a]) F B hn hr.in1 I.env0.in1 (passNo σ) I (.cons rfl .nil) rfl q) (fun y s' z => ?_) fun _ _ e => e)
  obtain ⟨z', H', I', rz, i, ez, hi, qz⟩ := z
  subst ez
  obtain ⟨t, e⟩ := (show ∃ t, y = Value.int i t from rz)
  cases e
  exact ⟨hi, .int i, H', I'.tok _, ⟨_, rfl⟩, qz⟩
theorem ip_own {op : Operator} {nm : Str} {tab : List (String × MF)} (hop : PySem.dunderI op.info.2 = nm) (T : ∀ p ∈ tab, OwnD X.prog X.w X.K X.mg X.base G k nm 2 p ∧ ∃ C, G p.1 = some (.ref C) ∧ PySem.W.selfFirst X.K C = true) (hr : Room k X.A) :
    PIp X op (fun x y H Q => rOwnD X.K G tab 2 (fun _ _ _ => False) [x, y] H Q) := by
  intro pins s σ H x y v u Q I rx ry h
  subst hop
  obtain ⟨a, us, p, C, dx, fs, ev, hp, hG, ha, hl, q⟩ := h
  obtain ⟨C', fa, fd, ps, g1, M, F, B, hn⟩ := (T p hp).1.ex
  obtain ⟨C2, g2, sf⟩ := (T p hp).2
  rw [hG] at g1 g2
  cases g1
  cases g2
  cases ev
  cases rx
  obtain ⟨mA, J, _⟩ := ins_get I.hok ha
  obtain ⟨od, J, _⟩ := J.look
  obtain ⟨m, hF⟩ := I.fr
  refine PySem.W.ksp_inplace hF I.ok.mod.kin J sf M.at_ M.fn (wpAny_mono (ownD_run (us := [.ref a, u]) (vs := [.ref a, y]) F B hn hr I.env0 (passNo σ) I (.cons rfl (.cons ry .nil)) rfl q) (fun w s' z => ?_) fun _ _ e => e)
  obtain ⟨z', H', I', rz, qz⟩ := z
  exact SlX.cmpback (P := EP X pins σ Q) rz ⟨z', H', I', rz, qz⟩
end
/-! ### the model -/
/-- the run of the def of the object's class; an error is none -/
def dunRun (tab : List (String × MF)) (xs : List MV) (h : MH) : MR := match xs with
  | x :: _ => match insC h x with
    | some c => match tab.lookup c with
      | some g => match g xs h with
        | .ok v h1 => .ok v h1
        | _ => .no
      | none => .no
    | none => .no
  | [] => .no
def notB (neg : Bool) (v : MV) (h : MH) : MR := match v with
  | .bl b => .ok (.bl (if neg then !b else b)) h
  | _ => .no
def eInO (tab : List (String × MF)) (neg : Bool) (a b : ME) : ME := fun s h => (a s h).bnd fun x h1 => (b s h1).bnd fun y h2 => (dunRun tab [y, x] h2).bnd (notB neg)
def lenB (v : MV) (h : MH) : MR := match v with
  | .int i => if 0 ≤ i ∧ i < 9223372036854775808 then .ok (.int i) h else .no
  | _ => .no
def eLenO (tab : List (String × MF)) (ms : MEs) : ME := fun s h => (ms s h).bnd fun xs h1 => if xs.length = 1 then (dunRun tab xs h1).bnd lenB else .no
section
variable {X : Cx} {G : String → Option V} {W : WX} {k n : Nat} {a b e : Expr} {es : List Expr} {ma mb : ME} {ms : MEs} {pos p : Pos} {tab : List (String × MF)} {x : Str}
theorem dun_re {ρ : List Addr} {H : Hp} {mh : MH} {xs : List MV} {vs : List V} {P : MV → List Addr → Hp → Prop} {Q : VK} {σ : St} (hT : ∀ p ∈ tab, ∃ C, G p.1 = some (.ref C)) (hn : xs.length = n) (hr : HR X.K G ρ H mh) (rv : VRs X.K G ρ H xs vs)
    (q : RO X.K G W σ P ρ H (dunRun tab xs mh)) (hP : ∀ z ρ1 H1 (v : V), Ext X.K ρ H ρ1 H1 → VR X.K G ρ1 H1 z v → P z ρ1 H1 → Q v H1) : rOwnD X.K G tab n (fun _ _ _ => False) vs H Q := by
  unfold dunRun at q
  split at q
  · rename_i x xs'
    split at q
    · rename_i c hc
      split at q
      · rename_i g hg
        have hm := lookup_mem hg
        obtain ⟨C, hC⟩ := hT _ hm
        have hl := rv.length
        have rvs := rv
        simp only [VRs] at rv
        obtain ⟨v, us, rfl, rx, rus⟩ := rv
        have ins : ∃ a dx fs, v = .ref a ∧ H a = some (.ins C dx fs) := by
          unfold insC at hc
          split at hc
          · split at hc
            · rename_i i _ _ e
              cases hc
              obtain ⟨a, C', dx, us, rfl, ha, g1, g2, g3⟩ := hr.ins e rx
              rw [hC] at g1
              cases g1
              exact ⟨a, dx, us, rfl, g2⟩
            · cases hc
          · cases hc
        obtain ⟨a, dx, fs, rfl, ha⟩ := ins
        refine ⟨a, us, (c, g), C, dx, fs, rfl, hm, hC, ha, by rw [← hl]; exact hn, ρ, x :: xs', mh, hr, rvs, by rw [← hl]; exact hn, ?_⟩
        show RO X.K G _ [] _ ρ H (g (x :: xs') mh)
        cases hq : g (x :: xs') mh with
        | ok v3 h3 =>
          rw [hq] at q
          intro ρ3 H3 x3 hr3 v1 rv1
          exact hP _ _ _ _ x3 rv1 (q ρ3 H3 x3 hr3)
        | err e h3 => rw [hq] at q; exact q.elim
        | no => rw [hq] at q; exact q.elim
      · exact q.elim
    · exact q.elim
  · exact q.elim
end
end Mo
/-! Mo47: rules of the own dunders; op= on names and fields; o[i], o[i] = v by own defs. -/
namespace Mo
open PySem L2
section
variable {X : Cx} {G : String → Option V} {W : WX} {k n : Nat} {a b e : Expr} {es : List Expr} {ma mb : ME} {ms : MEs} {pos p : Pos} {tab : List (String × MF)} {x : Str}
theorem in_re {neg : Bool} (hT : ∀ p ∈ tab, ∃ C, G p.1 = some (.ref C)) (σ : St) (H : Hp) (Q : VK) (h : RE X.K G W (eInO tab neg ma mb) σ H Q) :
    tOp (fun v x H Q => rOwnD X.K G tab 2 (fun _ _ _ => False) [x, v] H fun z H' => ∃ b, z = .bl b ∧ Q (.bl (if neg then !b else b)) H') (RE X.K G W ma) (RE X.K G W mb) σ H Q := by
  obtain ⟨ρ, sm, mh, r0, q⟩ := h
  refine re_bnd r0 q fun x ρ1 H1 mh1 v x1 r1 rv q1 => ?_
  refine re_bnd r1 q1 fun y ρ2 H2 mh2 w x2 r2 rw' q2 => ?_
  have rel := VRs.cons rw' (VRs.cons (rv.ext x2) VRs.nil)
  cases hq : dunRun tab [y, x] mh2 with
  | ok z h3 =>
    rw [hq] at q2
    cases z with
    | bl b =>
      refine dun_re (W := W) (σ := σ) (P := fun z ρ3 H3 => z = .bl b ∧ Q (.bl (if neg then !b else b)) H3) hT rfl r2.hr rel ?_ fun z ρ1 H1 v _ rz hz => ?_
      · rw [hq]
        intro ρ3 H3 x3 hr3
        exact ⟨rfl, q2 ρ3 H3 x3 hr3 _ (by simp [VR])⟩
      · obtain ⟨rfl, hz⟩ := hz
        simp only [VR] at rz
        exact ⟨b, rz, hz⟩
    | _ => exact q2.elim
  | err e h3 => rw [hq] at q2; exact (by unfold dunRun at hq; split at hq <;> (try split at hq) <;> (try split at hq) <;> (try split at hq) <;> cases hq)
  | no => rw [hq] at q2; exact q2.elim
theorem tabG {nm : Str} (T : ∀ p ∈ tab, OwnD X.prog X.w X.K X.mg X.base G k nm n p) : ∀ p ∈ tab, ∃ C, G p.1 = some (.ref C) := fun p hp => let ⟨⟨C, _, _, _, e, _⟩⟩ := T p hp; ⟨C, e⟩
theorem m_inO (T : ∀ p ∈ tab, OwnD X.prog X.w X.K X.mg X.base G k "__contains__" 2 p) (hr : Room k X.A) (ha : PE X a (RE X.K G W ma)) (hb : PE X b (RE X.K G W mb)) (hm : behindInMarks .In b = false) :
    PE X (.Compare a [.In] [b] pos) (RE X.K G W (eInO tab false ma mb)) := pe_imp (pe_cmpR (op_inO T hr) ha hb hm) (in_re (tabG T))
theorem m_notInO (T : ∀ p ∈ tab, OwnD X.prog X.w X.K X.mg X.base G k "__contains__" 2 p) (hr : Room k X.A) (ha : PE X a (RE X.K G W ma)) (hb : PE X b (RE X.K G W mb)) (hm : behindInMarks .NotIn b = false) :
    PE X (.Compare a [.NotIn] [b] pos) (RE X.K G W (eInO tab true ma mb)) := pe_imp (pe_cmpR (op_notInO T hr) ha hb hm) (in_re (neg := true) (tabG T))
theorem m_inOT (T : ∀ p ∈ tab, OwnD X.prog X.w X.K X.mg X.base G k "__contains__" 2 p) (hr : Room k X.A) (ha : PE X a (RE X.K G W ma)) (hb : PE X b (RE X.K G W mb)) (hm : behindInMarks .In b = false) :
    PT X (.Compare a [.In] [b] pos) (RT X.K G W (bB (eInO tab false ma mb))) := pt_imp (pt_cmpR (op_inO T hr) ha hb hm) fun σ H Q h => in_re (tabG T) σ H _ (bB_re σ H Q h)
theorem m_notInOT (T : ∀ p ∈ tab, OwnD X.prog X.w X.K X.mg X.base G k "__contains__" 2 p) (hr : Room k X.A) (ha : PE X a (RE X.K G W ma)) (hb : PE X b (RE X.K G W mb)) (hm : behindInMarks .NotIn b = false) :
    PT X (.Compare a [.NotIn] [b] pos) (RT X.K G W (bB (eInO tab true ma mb))) := pt_imp (pt_cmpR (op_notInO T hr) ha hb hm) fun σ H Q h => in_re (neg := true) (tabG T) σ H _ (bB_re σ H Q h)
theorem len_re (hT : ∀ p ∈ tab, ∃ C, G p.1 = some (.ref C)) (σ : St) (H : Hp) (Q : VK) (h : RE X.K G W (eLenO tab ms) σ H Q) :
    tCB (fun xs H Q => rOwnD X.K G tab 1 (fun _ _ _ => False) xs H fun z H' => ∃ i, z = .int i ∧ (0 ≤ i ∧ i < 2 ^ 63) ∧ Q (.int i) H') (RA X.K G W ms) σ H Q := by
  obtain ⟨ρ, sm, mh, r0, q⟩ := h
  refine ra_bnd r0 q fun xs ρ1 H1 mh1 vs x1 r1 rvs q1 => ?_
  split at q1
  · rename_i hn
    cases hq : dunRun tab xs mh1 with
    | ok z h3 =>
      rw [hq] at q1
      cases z with
      | int i =>
        change RO X.K G W σ _ ρ1 H1 (if 0 ≤ i ∧ i < 9223372036854775808 then (Rz.ok (MV.int i) h3 : MR) else .no) at q1
        split at q1
        · rename_i hi
          refine dun_re (W := W) (σ := σ) (P := fun z ρ3 H3 => z = .int i ∧ Q (.int i) H3) hT hn r1.hr rvs ?_ fun z ρ1 H1 v _ rz hz => ?_
          · rw [hq]
            intro ρ3 H3 x3 hr3
            exact ⟨rfl, q1 ρ3 H3 x3 hr3 _ (by simp [VR])⟩
          · obtain ⟨rfl, hz⟩ := hz
            simp only [VR] at rz
            exact ⟨i, rz, ⟨hi.1, by have := hi.2; omega⟩, hz⟩
        · exact q1.elim
      | _ => exact q1.elim
    | err e h3 => exact (by unfold dunRun at hq; split at hq <;> (try split at hq) <;> (try split at hq) <;> (try split at hq) <;> cases hq)
    | no => rw [hq] at q1; exact q1.elim
  · exact q1.elim
theorem m_lenO (T : ∀ p ∈ tab, OwnD X.prog X.w X.K X.mg X.base G k "__len__" 1 p) (hr : Room (k + 1) X.A) (hg : Gl X x) (hm : X.mg x = none) (hv : bootBuiltins x = some (.builtin "len")) (ha : PA X (e :: es) (RA X.K G W ms)) (hn : x ≠ "__name__" := by decide) (hdb : (x == ("__debug__" : Str)) = false := by decide)
    (he : starEach (e :: es) X.env = (false, eval e X.env) :: starEach es X.env := by rfl) (hpl : (backTo pos (starEach es X.env)).any (·.1) = false := by rfl) : PE X (.Call (.Name x p) (e :: es) [] pos) (RE X.K G W (eLenO tab ms)) :=
  pe_imp (pe_callB (c_lenO T hr) hg hm hv ha hn hdb he hpl) (len_re (tabG T))
end
/-! ### x op= e -/
def sAugO (tab : List (String × MF)) (i : Nat) (m : ME) : MS := fun s h => match s[i]? with
  | some (some x) => (m s h).bnS s fun y h1 => (dunRun tab [x, y] h1).bnS s fun z h2 => .nx (s.set i (some z)) h2
  | _ => .no
/-- ints -/
def augI (f : Int → Int → Int) (x y : MV) : Option MV := match x, y with
  | .int i, .int j => some (.int (f i j))
  | _, _ => none
def sAugI (f : Int → Int → Int) (i : Nat) (m : ME) : MS := fun s h => match s[i]? with
  | some (some x) => (m s h).bnS s fun y h1 => match augI f x y with
    | some z => .nx (s.set i (some z)) h1
    | none => .no
  | _ => .no
section
variable {X : Cx} {G : String → Option V} {W : WX} {k n i : Nat} {e : Expr} {m : ME} {pos pos' : Pos} {tab : List (String × MF)} {x nm : Str} {op : Operator} {f : Int → Int → Int}
theorem m_augO (hN : X.N.Nodup) (hi : X.N[i]? = some x) (hx : L2.Loc X.env.scope x) (he : PE X e (RE X.K G W m)) (hop : PySem.dunderI op.info.2 = nm)
    (T : ∀ p ∈ tab, OwnD X.prog X.w X.K X.mg X.base G k nm 2 p ∧ ∃ C, G p.1 = some (.ref C) ∧ PySem.W.selfFirst X.K C = true) (hr : Room k X.A)
    (hf : X.fn x = true ∨ X.env.scope.names.lookup x = some .local := by first | exact .inl rfl | exact .inr rfl | assumption) :
    PS X (.AugAssign (.Name x pos') op e pos) (RS X.K G W (sAugO tab i m)) := by
  refine ps_imp (ps_aug hN hi hx he (ip_own hop T hr) hf) fun D σ H ⟨ρ, sm, mh, r0, q⟩ => ?_
  unfold sAugO at q
  split at q
  · rename_i x1 es
    obtain ⟨v, ev, rv⟩ := r0.sr.2 i x1 es
    refine ⟨v, ev, res_bnd r0 q fun y ρ1 H1 mh1 w xx r1 rw1 q1 => ?_⟩
    cases hq : dunRun tab [x1, y] mh1 with
    | ok z h3 =>
      rw [hq] at q1
      refine dun_re (W := W) (σ := σ) (P := fun z' ρ3 H3 => ∀ v', VR X.K G ρ3 H3 z' v' → D.nx (σ.set i (some v')) H3) (fun p hp => let ⟨C, e, _⟩ := (T p hp).2; ⟨C, e⟩) rfl r1.hr (VRs.cons (rv.ext xx) (VRs.cons rw1 VRs.nil)) ?_ fun z ρ1 H1 v _ rz hz => hz v rz
      rw [hq]
      intro ρ3 H3 x3 hr3 v' rv'
      exact q1 ρ3 H3 _ x3 hr3 ((r1.sr.ext x3).set rv')
    | err e h3 => exact (by unfold dunRun at hq; split at hq <;> (try split at hq) <;> (try split at hq) <;> (try split at hq) <;> cases hq)
    | no => rw [hq] at q1; exact q1.elim
  · exact q.elim
theorem m_augI (hN : X.N.Nodup) (hi : X.N[i]? = some x) (hx : L2.Loc X.env.scope x) (he : PE X e (RE X.K G W m)) (ho : PIp X op (ipI f))
    (hf : X.fn x = true ∨ X.env.scope.names.lookup x = some .local := by first | exact .inl rfl | exact .inr rfl | assumption) :
    PS X (.AugAssign (.Name x pos') op e pos) (RS X.K G W (sAugI f i m)) := by
  refine ps_imp (ps_aug hN hi hx he ho hf) fun D σ H ⟨ρ, sm, mh, r0, q⟩ => ?_
  unfold sAugI at q
  split at q
  · rename_i x1 es
    obtain ⟨v, ev, rv⟩ := r0.sr.2 i x1 es
    refine ⟨v, ev, res_bnd r0 q fun y ρ1 H1 mh1 w xx r1 rw1 q1 => ?_⟩
    unfold augI at q1
    split at q1
    · rename_i z hz
      split at hz
      · cases hz
        simp only [VR] at rv rw1
        subst rv rw1
        exact ⟨_, _, rfl, rfl, q1 ρ1 H1 _ Ext.refl r1.hr (r1.sr.set (by simp [VR]))⟩
      · cases hz
    · exact q1.elim
  · exact q.elim
end
end Mo
/-! Mo48: o[i] and o[i] = v by own defs (with errors); o.f op= e. -/
namespace Mo
open PySem L2
open PyProof.Rows hiding St
structure OwnG (P : Program) (w : World) (K : PySem.W.Frag) (mg : Str → Option Value) (base : Heap) (G : String → Option V) (k : Nat) (name : Str) (n : Nat) (p : String × MF) : Prop where
  ex : ∃ C fa fd ps, G p.1 = some (.ref C) ∧ Meth K C name fa ∧ FnOk P w K mg base (L2.CX P w) k fa fd ps (SpM K G ps.length p.2) ∧ Binds K fd ps [] ∧ ps.length = n ∧ PySem.W.fnIn K fa = true ∧ PySem.W.noSeq K C = true
def dunRunE (tab : List (String × MF)) (xs : List MV) (h : MH) : MR := match xs with
  | x :: _ => match insC h x with
    | some c => match tab.lookup c with
      | some g => g xs h
      | none => .no
    | none => .no
  | [] => .no
def eIxO (tab : List (String × MF)) (a b : ME) : ME := fun s h => (a s h).bnd fun x h1 => (b s h1).bnd fun y h2 => dunRunE tab [x, y] h2
def sPutO (tab : List (String × MF)) (d k e : ME) : MS := fun s h => (e s h).bnS s fun v h1 => (d s h1).bnS s fun x h2 => (k s h2).bnS s fun y h3 => (dunRunE tab [x, y, v] h3).bnS s fun _ h4 => .nx s h4
section
variable {X : Cx} {G : String → Option V} {W : WX} {k n : Nat} {a b : Expr} {ma mb : ME} {pos : Pos} {tab : List (String × MF)}
theorem dunE_re {ρ : List Addr} {H : Hp} {mh : MH} {xs : List MV} {vs : List V} {Q : VK} {σ : St} (hT : ∀ p ∈ tab, ∃ C, G p.1 = some (.ref C)) (hn : xs.length = n) (hr : HR X.K G ρ H mh) (rv : VRs X.K G ρ H xs vs)
    (q : RO X.K G W σ (PV X.K G Q) ρ H (dunRunE tab xs mh)) : rOwnD X.K G tab n (WE W σ) vs H Q := by
  unfold dunRunE at q
  split at q
  · rename_i x xs'
    split at q
    · rename_i c hc
      split at q
      · rename_i g hg
        have hm := lookup_mem hg
        obtain ⟨C, hC⟩ := hT _ hm
        have hl := rv.length
        have rvs := rv
        simp only [VRs] at rv
        obtain ⟨v, us, rfl, rx, rus⟩ := rv
        have ins : ∃ a dx fs, v = .ref a ∧ H a = some (.ins C dx fs) := by
          unfold insC at hc
          split at hc
          · split at hc
            · rename_i i _ _ e
              cases hc
              obtain ⟨a, C', dx, us, rfl, ha, g1, g2, g3⟩ := hr.ins e rx
              rw [hC] at g1
              cases g1
              exact ⟨a, dx, us, rfl, g2⟩
            · cases hc
          · cases hc
        obtain ⟨a, dx, fs, rfl, ha⟩ := ins
        exact ⟨a, us, (c, g), C, dx, fs, rfl, hm, hC, ha, by rw [← hl]; exact hn, ρ, x :: xs', mh, hr, rvs, by rw [← hl]; exact hn, ro_anyS q⟩
      · exact q.elim
    · exact q.elim
  · exact q.elim
theorem pe_subO {ta tb : TE} (T : ∀ p ∈ tab, OwnG X.prog X.w X.K X.mg X.base G k "__getitem__" 2 p) (hr : Room (k + 1) X.A) (tk : Takes X W) (ha : PE X a ta) (hb : PE X b tb)
    (hs : ∀ x i, subscripted b true (.ref x) i = runValue (.builtin "lifetime.subscript" ⟨[.ref x, i], []⟩)) :
    PE X (.Subscript a b pos) (fun σ H Q => tOp (fun x y H Q => rOwnD X.K G tab 2 (WE W σ) [x, y] H Q) ta tb σ H Q) := by
  refine ⟨fun pins s σ H Q I h => ?_⟩
  refine Subscript_ (binT ha hb I h fun v u s2 x y H2 I2 rx ry q => ?_)
  obtain ⟨a, us, p, C, dx, fs, ev, hp, hG, hH, hl, q⟩ := q
  obtain ⟨C', fa, fd, ps, g1, M, F, B, hn, hf, hq⟩ := (T p hp).ex
  rw [hG] at g1
  cases g1
  cases ev
  cases rx
  obtain ⟨mA, J, _⟩ := ins_get I2.hok hH
  obtain ⟨od, J, _⟩ := J.look
  obtain ⟨m, hF⟩ := I2.fr
  exact PySem.W.sub_K hF I2.ok.mod.kin J M.at_ hf M.fn (ownD_run (us := [.ref a, u]) (vs := [.ref a, y]) F B hn hr.in1 I2.env0.in1 (passAt tk σ) I2 (.cons rfl (.cons ry .nil)) rfl q) (hs _ _)
theorem tabGG {nm : Str} (T : ∀ p ∈ tab, OwnG X.prog X.w X.K X.mg X.base G k nm n p) : ∀ p ∈ tab, ∃ C, G p.1 = some (.ref C) := fun p hp => let ⟨⟨C, _, _, _, e, _⟩⟩ := T p hp; ⟨C, e⟩
theorem m_ixO (T : ∀ p ∈ tab, OwnG X.prog X.w X.K X.mg X.base G k "__getitem__" 2 p) (hr : Room (k + 1) X.A) (tk : Takes X W) (ha : PE X a (RE X.K G W ma)) (hb : PE X b (RE X.K G W mb))
    (hs : ∀ x i, subscripted b true (.ref x) i = runValue (.builtin "lifetime.subscript" ⟨[.ref x, i], []⟩) := by exact fun _ _ => rfl) : PE X (.Subscript a b pos) (RE X.K G W (eIxO tab ma mb)) := by
  refine pe_imp (pe_subO T hr tk ha hb hs) fun σ H Q ⟨ρ, sm, mh, r0, q⟩ => ?_
  refine re_bnd r0 q fun x ρ1 H1 mh1 v x1 r1 rv q1 => ?_
  refine re_bnd r1 q1 fun y ρ2 H2 mh2 w x2 r2 rw' q2 => ?_
  exact dunE_re (tabGG T) rfl r2.hr (VRs.cons (rv.ext x2) (VRs.cons rw' VRs.nil)) q2
end
section
variable {X : Cx} {G : String → Option V} {W : WX} {o i value : Expr} {mo mi me : ME} {pos pos' tpos : Pos} {k : Nat} {tab : List (String × MF)} {op : Operator} {f : Int → Int → Int} {fl : Str}
def gSubO (K : PySem.W.Frag) (G : String → Option V) (W : WX) (tab : List (String × MF)) (to ti : TE) : TG := fun v σ H Q => to σ H fun x H1 => ti σ H1 fun y H2 => rOwnD K G tab 3 (WE W σ) [x, y, v] H2 fun _ H3 => Q σ H3
theorem pg_subO {to ti : TE} (T : ∀ p ∈ tab, OwnG X.prog X.w X.K X.mg X.base G k "__setitem__" 3 p) (hr : Room k X.A) (tk : Takes X W) (ho : PE X o to) (hi : PE X i ti)
    (ha : ∀ v, assign (.Subscript o i pos') X.env v = (do
      let ov ← holding [v] (eval o X.env)
      let iv ← holding [v, ov] (eval i X.env)
      standAt pos'
      holding [v, ov, iv] (setItem ov iv v)
      release [v, ov, iv] [])) : PG X (.Subscript o i pos') (gSubO X.K G W tab to ti) := by
  refine ⟨fun pins s σ H v u Q I r h => ?_⟩
  rw [ha]
  refine wpAny_bind (wpAny_holding (thn (ho.run pins s σ H _ I h) fun ov s1 ⟨x, H1, I1, r1, q1⟩ => ?_))
  refine wpAny_bind (wpAny_holding (thn (hi.run pins s1 σ H1 _ I1 q1) fun iv s2 ⟨y, H2, I2, r2, q2⟩ => ?_))
  refine wpAny_bind (wpAny_standAt (wpAny_bind (wpAny_holding ?_)))
  obtain ⟨a, us, p, C, dx, fs, ev, hp, hG, hH, hl, q⟩ := q2
  obtain ⟨C', fa, fd, ps, g1, M, F, B, hn, hf, hq⟩ := (T p hp).ex
  rw [hG] at g1
  cases g1
  cases ev
  cases r1
  obtain ⟨mA, J, _⟩ := ins_get I2.hok hH
  obtain ⟨od, J, _⟩ := J.look
  obtain ⟨m, hF⟩ := I2.fr
  refine PySem.W.ksp_setItem hF I2.ok.mod.kin J hq M.at_ M.fn (wpAny_mono (ownD_run (us := [.ref a, iv, u]) (vs := [.ref a, y, v]) F B hn hr I2.env0 (passAt tk σ) I2 (.cons rfl (.cons r2 (.cons r .nil))) rfl q) (fun w s' z => ?_) fun _ _ e => e)
  obtain ⟨z', H', I', rz, qz⟩ := z
  exact wpAny_release ⟨σ, H', I', qz⟩
theorem m_putO (T : ∀ p ∈ tab, OwnG X.prog X.w X.K X.mg X.base G k "__setitem__" 3 p) (hr : Room k X.A) (tk : Takes X W) (ho : PE X o (RE X.K G W mo)) (hi : PE X i (RE X.K G W mi)) (hv : PE X value (RE X.K G W me))
    (hs : swapsWithSole [.Subscript o i pos'] value pos.line X.env = pure false := by rfl) (hw : swappedStores [.Subscript o i pos'] value X.env = pure none := by rfl)
    (h1 : (assignEach [.Subscript o i pos'] X.env).map (·.2) = [assign (.Subscript o i pos') X.env] := by rfl)
    (ha : ∀ v, assign (.Subscript o i pos') X.env v = (do
      let ov ← holding [v] (eval o X.env)
      let iv ← holding [v, ov] (eval i X.env)
      standAt pos'
      holding [v, ov, iv] (setItem ov iv v)
      release [v, ov, iv] []) := by intro _; rfl) :
    PS X (.Assign [.Subscript o i pos'] value pos) (RS X.K G W (sPutO tab mo mi me)) := by
  refine ps_imp (ps_asg hv (pg_subO T hr tk ho hi ha) hs hw h1) fun D σ H ⟨ρ, sm, mh, r0, q⟩ => ?_
  refine res_bnd r0 q fun y ρ1 H1 mh1 w x1 r1 rw1 q1 => ?_
  refine res_bnd r1 q1 fun x ρ2 H2 mh2 v x2 r2 rv q2 => ?_
  refine res_bnd r2 q2 fun z ρ3 H3 mh3 u x3 r3 ru q3 => ?_
  refine dunE_re (W := W) (σ := σ) (tabGG T) rfl r3.hr (VRs.cons (rv.ext x3) (VRs.cons ru (VRs.cons ((rw1.ext x2).ext x3) VRs.nil))) ?_
  cases hq : dunRunE tab [x, z, y] mh3 with
  | ok v3 h3 =>
    rw [hq] at q3
    intro ρ4 H4 x4 hr4 v1 _
    exact q3 ρ4 H4 _ x4 hr4 (r3.sr.ext x4)
  | err e h3 =>
    rw [hq] at q3
    intro ρ4 H4 cls d x4 hr4 er
    exact q3 ρ4 H4 _ cls d x4 hr4 (r3.sr.ext x4) er
  | no => rw [hq] at q3; exact q3.elim
/-! ### o.f op= e, ints -/
def fldI1 (fl : Str) (f : Int → Int → Int) (i : Nat) (c : String) (v y : MV) (s : Lo) (h : MH) : SR := match h[i]? with
  | some (.ins c' fs) => if c' = c ∧ fs.length < 1000 then match augI f v y with
    | some z => .nx s (h.set i (.ins c' (putFM fl z fs)))
    | none => .no else .no
  | _ => .no
def sFldI (fl : Str) (cs : List String) (f : Int → Int → Int) (o e : ME) : MS := fun s h => (o s h).bnS s fun x h1 => match x with
  | .ref i => match h1[i]? with
    | some (.ins c fs) => if c ∈ cs then match fs.lookup fl with
      | some v => (e s h1).bnS s fun y h2 => fldI1 fl f i c v y s h2
      | none => .no else .no
    | _ => .no
  | _ => .no
theorem m_fldI {cs : List String} {e : Expr} {mo me : ME} (hC : FldOk X.K G fl cs) (ho : PE X o (RE X.K G W mo)) (hv : PE X value (RE X.K G W me)) (hop : InOp X op (ipI f)) :
    PS X (.AugAssign (.Attribute o fl tpos) op value pos) (RS X.K G W (sFldI fl cs f mo me)) := by
  refine ps_imp (ps_fldaug ho hv hop) fun D σ H ⟨ρ, sm, mh, r0, q⟩ => ?_
  refine res_bnd r0 q fun x ρ1 H1 mh1 v x1 r1 rv q1 => ?_
  split at q1
  · rename_i i
    split at q1
    · rename_i c fs e1
      split at q1
      · rename_i hc
        split at q1
        · rename_i v0 e2
          obtain ⟨a, C, dx, vs, rfl, ha, g1, g2, g3⟩ := r1.hr.ins e1 rv
          obtain ⟨c1, c2⟩ := hC c hc C g1
          obtain ⟨w, l1, l2⟩ := (lookupF_V g3).1 _ e2
          refine ⟨a, C, dx, vs, w, rfl, g2, c1, c2, l1, res_bnd r1 q1 fun y ρ2 H2 mh2 u x2 r2 ru q2 => ?_⟩
          unfold fldI1 at q2
          split at q2
          · rename_i c' fs' e3
            split at q2
            · rename_i hc'
              obtain ⟨rfl, hlen⟩ := hc'
              unfold augI at q2
              split at q2
              · rename_i z hz
                split at hz
                · cases hz
                  have l3 := l2.ext x2
                  simp only [VR] at l3 ru
                  subst l3 ru
                  obtain ⟨a', C', dx', vs', ea, ha', g1', g2', g3'⟩ := r2.hr.ins e3 (rv.ext x2)
                  cases ea
                  rw [g1] at g1'
                  cases g1'
                  refine ⟨_, _, rfl, rfl, dx', vs', g2', by rw [← KRs.length g3']; exact hlen, ?_⟩
                  rename_i p1 p2
                  have rz : VR X.K G ρ2 H2 (.int (f p1 p2)) (.int (f p1 p2)) := by simp [VR]
                  have hx : Ext X.K ρ2 H2 ρ2 (upd H2 a (.ins C dx' (putF fl (.int (f p1 p2)) vs'))) := ext_write g2' (by simp [Plain])
                  obtain ⟨a1, a2⟩ := r2.hr.write (u := .ins C dx' (putF fl (.int (f p1 p2)) vs')) (o1 := .ins c' (putFM fl (.int (f p1 p2)) fs')) e3 ha' ⟨C, dx', _, g1, upd_same, (putF_V rz g3').ext hx⟩
                  exact q2 _ _ _ a2 a1 (r2.sr.ext a2)
                · cases hz
              · exact q2.elim
            · exact q2.elim
          · exact q2.elim
        · exact q1.elim
      · exact q1.elim
    · exact q1.elim
  · exact q1.elim
end
end Mo
/-! Mo49: sorted of texts, str(text). -/
namespace Mo
open PySem L2
/-- a <= b, texts -/
def leS (a b : Str) : Bool := !PySem.Spec.ltCps b.cps.toList a.cps.toList
theorem leS_iff {a b : Str} : leS a b = true ↔ a.cps.toList ≤ b.cps.toList := by
  unfold leS
  rw [PyProof.Rows.ltCps_eq]
  simp
theorem leS_trans (a b c : Str) (h1 : leS a b = true) (h2 : leS b c = true) : leS a c = true := leS_iff.mpr (List.le_trans (leS_iff.mp h1) (leS_iff.mp h2))
theorem leS_total (a b : Str) : (leS a b || leS b a) = true := by
  rw [Bool.or_eq_true, leS_iff, leS_iff]
  exact List.le_total ..
theorem leS_anti (a b : Str) (h1 : leS a b = true) (h2 : leS b a = true) : a = b := TL.ext_tl (List.le_antisymm (leS_iff.mp h1) (leS_iff.mp h2))
theorem leS_refl (a : Str) : leS a a = true := leS_iff.mpr (List.le_refl _)
theorem rising_pw : ∀ (l : List Str) (p : Str), PyProof.Rows.risingS p l = true → (p :: l).Pairwise (fun a b => leS a b = true)
  | [], p, _ => by simp
  | x :: r, p, h => by
    unfold PyProof.Rows.risingS at h
    obtain ⟨h1, h2⟩ := Bool.and_eq_true_iff.mp h
    have ih := rising_pw r x h2
    have px : leS p x = true := h1
    refine List.pairwise_cons.mpr ⟨fun y hy => ?_, ih⟩
    rcases List.mem_cons.mp hy with rfl | hy
    · exact px
    · exact leS_trans _ _ _ px ((List.pairwise_cons.mp ih).1 y hy)
theorem sortedS_pw : ∀ (l : List Str), PyProof.Rows.sortedS l = true → l.Pairwise (fun a b => leS a b = true)
  | [], _ => List.Pairwise.nil
  | x :: r, h => rising_pw r x h
def srt (xs : List Str) : List Str := xs.mergeSort leS
theorem srt_perm (xs : List Str) : (srt xs).Perm xs := List.mergeSort_perm xs leS
theorem srt_pw (xs : List Str) : (srt xs).Pairwise (fun a b => leS a b = true) := List.pairwise_mergeSort leS_trans leS_total xs
theorem srt_eq {xs ys : List Str} (hp : ys.Perm xs) (hs : PyProof.Rows.sortedS ys = true) : ys = srt xs :=
  List.Perm.eq_of_pairwise (fun a b _ _ h1 h2 => leS_anti a b h1 h2) (sortedS_pw _ hs) (srt_pw xs) (hp.trans (srt_perm xs).symm)
def fSortS (xs : List MV) (h : MH) : OV := match xs with
  | [.ref i] => match h[i]? with
    | some (.lst zs) => match strsM zs with
      | some ys => if ys.length < 64 then some (.ref h.length, h ++ [.lst ((srt ys).map .str)]) else none
      | none => none
    | _ => none
  | _ => none
section
variable {X : Cx} {G : String → Option V}
theorem VRs_strs {K : PySem.W.Frag} {ρ : List Addr} {H : Hp} : ∀ l : List Str, VRs K G ρ H (l.map MV.str) (l.map V.str)
  | [] => by simp [VRs]
  | x :: l => by simp only [List.map_cons, VRs]; exact ⟨_, _, rfl, by simp [VR], VRs_strs l⟩
theorem s_sortS : CallS X.K G (rSortedS X.K) fSortS := by
  intro ρ H mh mh1 xs z vs Q hr rvs e k
  unfold fSortS at e
  split at e
  · obtain ⟨v, rfl, rv⟩ := rvs.one
    split at e
    · rename_i zs q
      split at e
      · rename_i ys hy
        split at e
        · rename_i h64
          cases e
          obtain ⟨a, us, rfl, ha, g1, g2⟩ := hr.lst q rv
          have eu := strs_V hy g2
          subst eu
          refine ⟨a, ys, rfl, SqL.of g1, h64, fun ws p hp hs hn => ?_⟩
          rw [srt_eq hp hs]
          obtain ⟨a1, a2, a3⟩ := new_lst hr (VRs_strs (srt ys)) hn
          exact k _ _ a2 a1 _ a3
        · cases e
      · cases e
    · cases e
  · cases e
def fStrS (xs : List MV) (h : MH) : OV := match xs with
  | [.str a] => some (.str a, h)
  | _ => none
theorem s_strS : CallS X.K G (fun xs H Q => ∃ a, xs = [.str a] ∧ Q (.str a) H) fStrS := by
  intro ρ H mh mh1 xs z vs Q hr rvs e k
  unfold fStrS at e
  split at e
  · obtain ⟨v, rfl, rv⟩ := rvs.one
    simp only [VR] at rv; subst rv
    cases e
    exact ⟨_, rfl, k _ _ Ext.refl hr _ (by simp [VR])⟩
  · cases e
@[simp] theorem fStrS_ev {a : Str} {h : MH} : fStrS [.str a] h = some (.str a, h) := rfl
theorem fSortS_ev {i : Nat} {xs : List Str} {h : MH} (e : h[i]? = some (.lst (xs.map .str))) (hl : xs.length < 64) : fSortS [.ref i] h = some (.ref h.length, h ++ [.lst ((srt xs).map .str)]) := by
  have : ∀ l : List Str, strsM (l.map MV.str) = some l := fun l => by
    induction l with
    | nil => rfl
    | cons x l ih => simp [strsM, ih]
  simp [fSortS, e, this, hl]
end
end Mo
/-! Mo50: running the own dunders. -/
namespace Mo
open PySem L2
section
variable {s : Lo} {h : MH} {x y z v : MV} {e : MX} {tab : List (String × MF)} {neg : Bool} {xs : List MV} {i : Nat} {f : Int → Int → Int} {c : String} {g : MF}
def KDu (o : Option String) (tab : List (String × MF)) (xs : List MV) (h : MH) : MR := match o with
  | some c => match tab.lookup c with
    | some g => match g xs h with
      | .ok v h1 => .ok v h1
      | _ => .no
    | none => .no
  | none => .no
def KDv (o : Option MF) (xs : List MV) (h : MH) : MR := match o with
  | some g => match g xs h with
    | .ok v h1 => .ok v h1
    | _ => .no
  | none => .no
def KDw (r : MR) : MR := match r with
  | .ok v h1 => .ok v h1
  | _ => .no
@[simp] theorem dunRun_ev : dunRun tab (x :: xs) h = KDu (insC h x) tab (x :: xs) h := rfl
@[simp] theorem KDu_some : KDu (some c) tab xs h = KDv (tab.lookup c) xs h := rfl
@[simp] theorem KDv_some : KDv (some g) xs h = KDw (g xs h) := rfl
@[simp] theorem KDw_ok : KDw (.ok v h) = .ok v h := rfl
theorem insC_ref {fs : List (Str × MV)} (e : h[i]? = some (.ins c fs)) : insC h (.ref i) = some c := by simp [insC, e]
def KI1 (r : MR) (tab : List (String × MF)) (neg : Bool) (b : ME) (s : Lo) : MR := r.bnd fun x h1 => (b s h1).bnd fun y h2 => (dunRun tab [y, x] h2).bnd (notB neg)
def KI2 (r : MR) (tab : List (String × MF)) (neg : Bool) (x : MV) : MR := r.bnd fun y h2 => (dunRun tab [y, x] h2).bnd (notB neg)
def KI3 (r : MR) (neg : Bool) : MR := r.bnd (notB neg)
@[simp] theorem eInO_ev {a b} : eInO tab neg a b s h = KI1 (a s h) tab neg b s := rfl
@[simp] theorem KI1_ok {b} : KI1 (.ok x h) tab neg b s = KI2 (b s h) tab neg x := rfl
@[simp] theorem KI2_ok : KI2 (.ok y h) tab neg x = KI3 (dunRun tab [y, x] h) neg := rfl
@[simp] theorem KI3_f {b : Bool} : KI3 (.ok (.bl b) h) false = .ok (.bl b) h := rfl
@[simp] theorem KI3_t {b : Bool} : KI3 (.ok (.bl b) h) true = .ok (.bl (!b)) h := rfl
@[simp] theorem KI1_err {b} : KI1 (.err e h) tab neg b s = .err e h := rfl
@[simp] theorem KI2_err : KI2 (.err e h) tab neg x = .err e h := rfl
def KL1 (r : Rz (List MV)) (tab : List (String × MF)) : MR := r.bnd fun xs h1 => if xs.length = 1 then (dunRun tab xs h1).bnd lenB else .no
def KL2 (r : MR) : MR := r.bnd lenB
@[simp] theorem eLenO_ev {ms} : eLenO tab ms s h = KL1 (ms s h) tab := rfl
@[simp] theorem KL1_ok : KL1 (.ok [x] h) tab = KL2 (dunRun tab [x] h) := rfl
theorem lenB_ev {i : Int} : lenB (.int i) h = if 0 ≤ i ∧ i < 9223372036854775808 then .ok (.int i) h else .no := by unfold lenB; rfl
theorem KL2_e : KL2 (.ok v h) = lenB v h := by unfold KL2; rfl
theorem KL2_ok {n : Nat} (hn : n < 9223372036854775808) : KL2 (.ok (.int n) h) = .ok (.int n) h := by
  rw [KL2_e, lenB_ev, if_pos ⟨by omega, by omega⟩]
def KDuE (o : Option String) (tab : List (String × MF)) (xs : List MV) (h : MH) : MR := match o with
  | some c => match tab.lookup c with
    | some g => g xs h
    | none => .no
  | none => .no
def KDvE (o : Option MF) (xs : List MV) (h : MH) : MR := match o with
  | some g => g xs h
  | none => .no
@[simp] theorem dunRunE_ev : dunRunE tab (x :: xs) h = KDuE (insC h x) tab (x :: xs) h := rfl
@[simp] theorem KDuE_some : KDuE (some c) tab xs h = KDvE (tab.lookup c) xs h := rfl
@[simp] theorem KDvE_some : KDvE (some g) xs h = g xs h := rfl
def KX1 (r : MR) (tab : List (String × MF)) (b : ME) (s : Lo) : MR := r.bnd fun x h1 => (b s h1).bnd fun y h2 => dunRunE tab [x, y] h2
def KX2 (r : MR) (tab : List (String × MF)) (x : MV) : MR := r.bnd fun y h2 => dunRunE tab [x, y] h2
@[simp] theorem eIxO_ev {a b} : eIxO tab a b s h = KX1 (a s h) tab b s := rfl
@[simp] theorem KX1_ok {b} : KX1 (.ok x h) tab b s = KX2 (b s h) tab x := rfl
@[simp] theorem KX2_ok : KX2 (.ok y h) tab x = dunRunE tab [x, y] h := rfl
@[simp] theorem KX1_err {b} : KX1 (.err e h) tab b s = .err e h := rfl
@[simp] theorem KX2_err : KX2 (.err e h) tab x = .err e h := rfl
def KP1 (r : MR) (tab : List (String × MF)) (d k : ME) (s : Lo) : SR := r.bnS s fun v h1 => (d s h1).bnS s fun x h2 => (k s h2).bnS s fun y h3 => (dunRunE tab [x, y, v] h3).bnS s fun _ h4 => .nx s h4
def KP2 (r : MR) (tab : List (String × MF)) (v : MV) (k : ME) (s : Lo) : SR := r.bnS s fun x h2 => (k s h2).bnS s fun y h3 => (dunRunE tab [x, y, v] h3).bnS s fun _ h4 => .nx s h4
def KP3 (r : MR) (tab : List (String × MF)) (v x : MV) (s : Lo) : SR := r.bnS s fun y h3 => (dunRunE tab [x, y, v] h3).bnS s fun _ h4 => .nx s h4
def KP4 (r : MR) (s : Lo) : SR := r.bnS s fun _ h4 => .nx s h4
@[simp] theorem sPutO_ev {d k m} : sPutO tab d k m s h = KP1 (m s h) tab d k s := rfl
@[simp] theorem KP1_ok {d k} : KP1 (.ok v h) tab d k s = KP2 (d s h) tab v k s := rfl
@[simp] theorem KP2_ok {k} : KP2 (.ok x h) tab v k s = KP3 (k s h) tab v x s := rfl
@[simp] theorem KP3_ok : KP3 (.ok y h) tab v x s = KP4 (dunRunE tab [x, y, v] h) s := rfl
@[simp] theorem KP4_ok : KP4 (.ok v h) s = .nx s h := rfl
@[simp] theorem KP4_err : KP4 (.err e h) s = .err e s h := rfl
@[simp] theorem KP1_err {d k} : KP1 (.err e h) tab d k s = .err e s h := rfl
def KA0 (o : Option (Option MV)) (tab : List (String × MF)) (i : Nat) (m : ME) (s : Lo) (h : MH) : SR := match o with
  | some (some x) => (m s h).bnS s fun y h1 => (dunRun tab [x, y] h1).bnS s fun z h2 => .nx (s.set i (some z)) h2
  | _ => .no
def KA1 (r : MR) (tab : List (String × MF)) (i : Nat) (x : MV) (s : Lo) : SR := r.bnS s fun y h1 => (dunRun tab [x, y] h1).bnS s fun z h2 => .nx (s.set i (some z)) h2
def KA2 (r : MR) (i : Nat) (s : Lo) : SR := r.bnS s fun z h2 => .nx (s.set i (some z)) h2
@[simp] theorem sAugO_ev {m} : sAugO tab i m s h = KA0 (s[i]?) tab i m s h := rfl
@[simp] theorem KA0_some {m} : KA0 (some (some x)) tab i m s h = KA1 (m s h) tab i x s := rfl
@[simp] theorem KA1_ok : KA1 (.ok y h) tab i x s = KA2 (dunRun tab [x, y] h) i s := rfl
@[simp] theorem KA2_ok : KA2 (.ok z h) i s = .nx (s.set i (some z)) h := rfl
def KGu0 (o : Option (Option MV)) (f : Int → Int → Int) (i : Nat) (m : ME) (s : Lo) (h : MH) : SR := match o with
  | some (some x) => (m s h).bnS s fun y h1 => match augI f x y with
    | some z => .nx (s.set i (some z)) h1
    | none => .no
  | _ => .no
def KGu1 (r : MR) (f : Int → Int → Int) (i : Nat) (x : MV) (s : Lo) : SR := r.bnS s fun y h1 => match augI f x y with
    | some z => .nx (s.set i (some z)) h1
    | none => .no
@[simp] theorem sAugI_ev {m} : sAugI f i m s h = KGu0 (s[i]?) f i m s h := rfl
@[simp] theorem KG0_some {m} : KGu0 (some (some x)) f i m s h = KGu1 (m s h) f i x s := rfl
@[simp] theorem KG1_ok {a b : Int} : KGu1 (.ok (.int b) h) f i (.int a) s = .nx (s.set i (some (.int (f a b)))) h := rfl
end
end Mo
namespace Lw
open PySem L2 Mo

def FUEL : Nat := 100000
def FILE : Str := "/claim/cut.py"
def tabX : OTab := []
abbrev ownX : Own := ownOf tabX
def tabT : OTab := [((true, "Share"), (true, "Share"), true), ((true, "Share"), (false, "bool"), false), ((false, "str"), (true, "Share"), false), ((false, "int"), (true, "Share"), false), ((false, "bool"), (true, "Share"), false), ((false, "list"), (true, "Share"), false), ((false, "tuple"), (true, "Share"), false), ((false, "dict"), (true, "Share"), false), ((false, "NoneType"), (true, "Share"), false)]
abbrev ownT : Own := ownOf tabT
noncomputable section
def Z0_ascending : ME :=
    eA fStrS (aCons (eV 3) (aNil))
def L0_ascending : MS :=
    sIf (bB (e2 fNotInA (eV 2) (eV 1))) (sExp (eMt isL fAppend (eV 1) (aCons (eV 2) (aNil)))) (sNx)
def b_ascending : MS :=
    sSeq (sAsg (eA fLst (aNil)) (gN 1))
    (sSeq (sFor (eA fSortS (aCons (eLc (eV 0) (gN 3) (bYes) Z0_ascending [3]) (aNil))) (gN 2) (L0_ascending))
    (sRet (eV 1)))
def m_ascending : MF := gc (mDef 4 b_ascending)
def b_Share___iadd__ : MS :=
    sSeq (sFldM (eV 0) (call 1 m_ascending (aCons (e2 fAdd (e1 (fFld "lanes" ["Share"]) (eV 0)) (eA fList (aCons (eV 1) (aNil)))) (aNil))) "lanes" ["Share"])
    (sRet (eV 0))
def m_Share___iadd__ : MF := mDef 2 b_Share___iadd__
def Z0_Share___isub__ : ME :=
    eV 3
def ZT0_Share___isub__ : MB :=
    bB (e2 fNotInA (eV 3) (eV 2))
def b_Share___isub__ : MS :=
    sSeq (sAsg (eA fList (aCons (eV 1) (aNil))) (gN 2))
    (sSeq (sFldM (eV 0) (eLc (e1 (fFld "lanes" ["Share"]) (eV 0)) (gN 3) (ZT0_Share___isub__) Z0_Share___isub__ [3]) "lanes" ["Share"])
    (sRet (eV 0)))
def m_Share___isub__ : MF := mDef 4 b_Share___isub__
def b__law_mixed : MS :=
    sSeq (sAsg (e2 fMod (eA fInt (aCons (e2 fAdd (e2 fAdd (e2 fMul (eV 0) (eC (.int 48271))) (e2 fMul (eV 1) (eC (.int 69621)))) (eC (.int 11))) (aNil))) (eC (.int 2147483647))) (gN 2))
    (sRet (e2 fDiv (e2 fMod (eA fInt (aCons (e2 fMul (eV 2) (e2 fAdd (e2 fAdd (e2 fDiv (eV 2) (eC (.int 1024))) (e2 fMul (eC (.int 16807)) (eV 1))) (eC (.int 5)))) (aNil))) (eC (.int 2147483399))) (eC (.int 16))))
def m__law_mixed : MF := gc (mDef 3 b__law_mixed)
def L0__law_row : MS :=
    sIf (bB (e2 fGt (eV 4) (eC (.int 0)))) (sSeq (sExp (eMt isL fAppend (eV 3) (aCons (e2 fMod (eA fInt (aCons (eV 4) (aNil))) (eV 2)) (aNil))))
    (sAsg (e2 fDiv (eV 4) (eV 2)) (gN 4))) (sExp (eMt isL fAppend (eV 3) (aCons (e2 fMod (eA fInt (aCons (call 2 m__law_mixed (aCons (eV 0) (aCons (eV 5) (aNil)))) (aNil))) (eV 2)) (aNil))))
def b__law_row : MS :=
    sSeq (sAsg (eA fLst (aNil)) (gN 3))
    (sSeq (sAsg (eA fAbs (aCons (eV 0) (aNil))) (gN 4))
    (sSeq (sIf (bB (e2 fLt (eV 4) (e2 fPow (eC (.int 10)) (eC (.int 18))))) (sAsg (eC (.int 0)) (gN 4)) (sNx))
    (sSeq (sForR rng1 (aCons (eV 1) (aNil)) (gN 5) (L0__law_row))
    (sRet (eV 3)))))
def m__law_row : MF := gc (mDef 6 b__law_row)
def Z0__law_names : ME :=
    e2 fIxA (eV 2) (eV 10)
def L0__law_names : MS :=
    sSeq (sAsg (e2 fMod (eA fInt (aCons (e2 fIxA (eV 3) (eC (.int 9))) (aNil))) (eC (.int 8))) (gN 7))
    (sSeq (sAsg (e2 fMod (eA fInt (aCons (e2 fIxA (eV 3) (eC (.int 10))) (aNil))) (e2 fAdd (eV 7) (eC (.int 1)))) (gN 8))
    (sSeq (sAsg (e2 fIxA (eV 2) (e2 fMod (eA fInt (aCons (e2 fAdd (e2 fIxA (eV 3) (eC (.int 11))) (e2 fMul (eV 6) (e2 fAdd (eC (.int 1)) (e2 fMod (eA fInt (aCons (e2 fIxA (eV 3) (eC (.int 7))) (aNil))) (eC (.int 4)))))) (aNil))) (eC (.int 26)))) (gN 9))
    (sIf (bB (e2 fEq (e2 fMod (eA fInt (aCons (e2 fIxA (eV 3) (eC (.int 8))) (aNil))) (eC (.int 2))) (eC (.int 0)))) (sExp (eMt isL fAppend (eV 5) (aCons (e2 fAdd (e2 fAdd (eSl (eV 4) (pNo) (pIs (eV 8))) (eV 9)) (eSl (eV 4) (pIs (eV 8)) (pIs (eV 7)))) (aNil)))) (sExp (eMt isL fAppend (eV 5) (aCons (eSl (e2 fAdd (eV 4) (e2 fIxA (eV 2) (e2 fIxA (eV 3) (eC (.int 7))))) (pNo) (pIs (e2 fAdd (eC (.int 1)) (e2 fMod (eA fInt (aCons (e2 fAdd (e2 fIxA (eV 3) (eC (.int 9))) (eV 6)) (aNil))) (eC (.int 8)))))) (aNil)))))))
def b__law_names : MS :=
    sSeq (sAsg (eC (.str "abcdefghijklmnopqrstuvwxyz")) (gN 2))
    (sSeq (sAsg (call 3 m__law_row (aCons (eV 0) (aCons (eC (.int 12)) (aCons (eC (.int 26)) (aNil))))) (gN 3))
    (sSeq (sAsg (eMt isS fJoin (eC (.str "")) (aCons (eLc (eSl (eV 3) (pNo) (pIs (eC (.int 7)))) (gN 10) (bYes) Z0__law_names [10]) (aNil))) (gN 4))
    (sSeq (sAsg (eA fLst (aNil)) (gN 5))
    (sSeq (sForR rng1 (aCons (eV 1) (aNil)) (gN 6) (L0__law_names))
    (sRet (eV 5))))))
def m__law_names : MF := gc (mDef 11 b__law_names)
def b_Share___init__ : MS :=
    sFldM (eV 0) (call 1 m_ascending (aCons (eA fList (aCons (eV 1) (aNil))) (aNil))) "lanes" ["Share"]
def m_Share___init__ : MF := mDef 2 b_Share___init__
def Z0__law_due : ME :=
    eA fStrS (aCons (eV 3) (aNil))
def L0__law_due : MS :=
    sIf (bB (e2 fNotInA (eV 2) (eV 1))) (sExp (eMt isL fAppend (eV 1) (aCons (eV 2) (aNil)))) (sNx)
def b__law_due : MS :=
    sSeq (sAsg (eA fLst (aNil)) (gN 1))
    (sSeq (sFor (eA fSortS (aCons (eLc (eV 0) (gN 3) (bYes) Z0__law_due [3]) (aNil))) (gN 2) (L0__law_due))
    (sRet (eV 1)))
def m__law_due : MF := gc (mDef 4 b__law_due)
def b_Share___len__ : MS :=
    sRet (eA fLen (aCons (e1 (fFld "lanes" ["Share"]) (eV 0)) (aNil)))
def m_Share___len__ : MF := mDef 1 b_Share___len__
def b_Share___contains__ : MS :=
    sRet (e2 fInA (eV 1) (e1 (fFld "lanes" ["Share"]) (eV 0)))
def m_Share___contains__ : MF := mDef 2 b_Share___contains__
def Z0__law_holds : ME :=
    eV 3
def L0__law_holds : MS :=
    sIf (bB (e2 fNe (eInO [("Share", m_Share___contains__)] false (eV 3) (eV 0)) (e2 fInA (eV 3) (eV 1)))) (sRet (eC (.bl false))) (sNx)
def b__law_holds : MS :=
    sSeq (sIf (bOr (bB (e2 fNe (eLenO [("Share", m_Share___len__)] (aCons (eV 0) (aNil))) (eA fLen (aCons (eV 1) (aNil))))) (bB (e2 fNe (eLcL (e1 (fItr "Share" "lanes") (eV 0)) (gN 3) (bYes) Z0__law_holds [3]) (eV 1)))) (sRet (eC (.bl false))) (sNx))
    (sSeq (sFor (eV 2) (gN 3) (L0__law_holds))
    (sRet (eC (.bl true))))
def m__law_holds : MF := gc (mDef 4 b__law_holds)
def b__law_cell : MS :=
    sSeq (sIf (bB (e2 fLt (eV 1) (eA fLen (aCons (eV 0) (aNil))))) (sRet (eA fInt (aCons (e2 fIxA (eV 0) (eV 1)) (aNil)))) (sNx))
    (sRet (eC (.int 0)))
def m__law_cell : MF := gc (mDef 2 b__law_cell)
def L0_Share___le__ : MS :=
    sIf (bB (e2 fNotInA (eV 2) (e1 (fFld "lanes" ["Share"]) (eV 1)))) (sRet (eC (.bl false))) (sNx)
def b_Share___le__ : MS :=
    sSeq (sIf (bNot (bT (eA (fIsi ownT) (aCons (eV 1) (aCons (eC (.glo "Share")) (aNil)))))) (sNo) (sNx))
    (sSeq (sFor (e1 (fFld "lanes" ["Share"]) (eV 0)) (gN 2) (L0_Share___le__))
    (sRet (eC (.bl true))))
def m_Share___le__ : MF := mDef 3 b_Share___le__
def b_Share___eq__ : MS :=
    sRet (eAnd (eA (fIsi ownT) (aCons (eV 1) (aCons (eC (.glo "Share")) (aNil)))) (e2 fEq (e1 (fFld "lanes" ["Share"]) (eV 0)) (e1 (fFld "lanes" ["Share"]) (eV 1))))
def m_Share___eq__ : MF := mDef 2 b_Share___eq__
def Z0_law : ME :=
    e2 fIxA (eV 1) (eV 14)
def Z1_law : ME :=
    eA fList (aCons (eV 15) (aNil))
def Z2_law : ME :=
    eV 16
def ZT2_law : MB :=
    bB (e2 fNotInA (eV 16) (e2 fIxA (eV 6) (eC (.int 2))))
def Z4_law : ME :=
    eV 16
def ZT4_law : MB :=
    bB (e2 fNotInA (eV 16) (eV 8))
def Z6_law : ME :=
    eV 16
def ZT6_law : MB :=
    bB (e2 fNotInA (eV 16) (e2 fIxA (eV 6) (eC (.int 1))))
def L0_law : MS :=
    sExp (eMt isL fAppend (eV 4) (aCons (eLc (eSl (eV 2) (pIs (e2 fMul (eC (.int 8)) (eV 5))) (pIs (e2 fAdd (e2 fMul (eC (.int 8)) (eV 5)) (e2 fIxA (eV 3) (eV 5))))) (gN 14) (bYes) Z0_law [14]) (aNil)))
def L1_law : MS :=
    sIf (bOr (bNot (bT (eA (fIsi ownT) (aCons (e2 fIxA (eV 10) (eV 5)) (aCons (eC (.ty "bool")) (aNil)))))) (bB (e2 fNe (e2 fIxA (eV 10) (eV 5)) (e2 fIxA (eV 13) (eV 5))))) (sRet (eC (.bl false))) (sNx)
def T17_law : MS :=
    sSeq (sAsg (eA fLst (aCons (eOwn [("Share", m_Share___le__)] false (eV 9) (eV 7)) (aCons (eOwn [("Share", m_Share___le__)] false (eV 7) (eV 9)) (aCons (eOwn [("Share", m_Share___eq__)] false (eV 9) (eV 7)) (aCons (eOwn [("Share", m_Share___le__)] false (eV 7) (eV 7)) (aCons (eOwn [("Share", m_Share___eq__)] false (eV 7) (eMk "Share" 1 0 2 m_Share___init__ gPos (aCons (eV 8) (aNil)) aNil)) (aNil))))))) (gN 10))
    (sSeq (sAsg (e2 fEq (eLc (e2 fIxA (eV 6) (eC (.int 1))) (gN 16) (ZT4_law) Z4_law [16]) (eA fLst (aNil))) (gN 11))
    (sSeq (sAsg (e2 fEq (eLc (eV 8) (gN 16) (ZT6_law) Z6_law [16]) (eA fLst (aNil))) (gN 12))
    (sSeq (sAsg (eA fLst (aCons (eV 11) (aCons (eV 12) (aCons (eAnd (eV 11) (eV 12)) (aCons (eC (.bl true)) (aCons (eC (.bl true)) (aNil))))))) (gN 13))
    (sSeq (sForR rng1 (aCons (eC (.int 5)) (aNil)) (gN 5) (L1_law))
    (sRet (call 3 m__law_holds (aCons (eV 9) (aCons (call 1 m__law_due (aCons (e2 fIxA (eV 6) (eC (.int 1))) (aNil))) (aCons (eV 1) (aNil))))))))))
def T14_law : MS :=
    sSeq (sAsg (eLc (eV 8) (gN 16) (ZT2_law) Z2_law [16]) (gN 8))
    (sSeq (sIf (bOr (bNot (bT (call 3 m__law_holds (aCons (eV 7) (aCons (eV 8) (aCons (eV 1) (aNil))))))) (bB (e2 fNe (eSl (eV 4) (pIs (eC (.int 1))) (pNo)) (eSl (eV 6) (pIs (eC (.int 1))) (pNo))))) (sRet (eC (.bl false))) (sNx))
    (sSeq (sAsg (eMk "Share" 1 0 2 m_Share___init__ gPos (aCons (e2 fIxA (eV 6) (eC (.int 1))) (aNil)) aNil) (gN 9))
    (T17_law)))
def T11_law : MS :=
    sSeq (sAsg (call 1 m__law_due (aCons (e2 fAdd (eV 8) (e2 fIxA (eV 6) (eC (.int 1)))) (aNil))) (gN 8))
    (sSeq (sIf (bNot (bT (call 3 m__law_holds (aCons (eV 7) (aCons (eV 8) (aCons (eV 1) (aNil))))))) (sRet (eC (.bl false))) (sNx))
    (sSeq (sAugO [("Share", m_Share___isub__)] 7 (e2 fIxA (eV 4) (eC (.int 2))))
    (T14_law)))
def T8_law : MS :=
    sSeq (sAsg (call 1 m__law_due (aCons (e2 fIxA (eV 6) (eC (.int 0))) (aNil))) (gN 8))
    (sSeq (sIf (bNot (bT (call 3 m__law_holds (aCons (eV 7) (aCons (eV 8) (aCons (eV 1) (aNil))))))) (sRet (eC (.bl false))) (sNx))
    (sSeq (sAugO [("Share", m_Share___iadd__)] 7 (e2 fIxA (eV 4) (eC (.int 1))))
    (T11_law)))
def T3_law : MS :=
    sSeq (sAsg (eA fLst (aNil)) (gN 4))
    (sSeq (sForR rng1 (aCons (eC (.int 3)) (aNil)) (gN 5) (L0_law))
    (sSeq (sAsg (eLc (eV 4) (gN 15) (bYes) Z1_law [15]) (gN 6))
    (sSeq (sAsg (eMk "Share" 1 0 2 m_Share___init__ gPos (aCons (e2 fIxA (eV 4) (eC (.int 0))) (aNil)) aNil) (gN 7))
    (sSeq (sExp (eMt isL fAppend (e2 fIxA (eV 4) (eC (.int 0))) (aCons (e2 fIxA (eV 1) (eC (.int 0))) (aNil))))
    (T8_law)))))
def b_law : MS :=
    sSeq (sAsg (call 2 m__law_names (aCons (call 2 m__law_cell (aCons (eV 0) (aCons (eC (.int 0)) (aNil)))) (aCons (eC (.int 6)) (aNil)))) (gN 1))
    (sSeq (sAsg (call 3 m__law_row (aCons (call 2 m__law_cell (aCons (eV 0) (aCons (eC (.int 1)) (aNil)))) (aCons (eC (.int 24)) (aCons (eC (.int 6)) (aNil))))) (gN 2))
    (sSeq (sAsg (call 3 m__law_row (aCons (call 2 m__law_cell (aCons (eV 0) (aCons (eC (.int 2)) (aNil)))) (aCons (eC (.int 3)) (aCons (eC (.int 9)) (aNil))))) (gN 3))
    (T3_law)))
def m_law : MF := mDef 17 b_law
end
/-! the text -/
def top (i : Nat) : Stmt := PySem.Challenge.pw_lanesdealt_k04_share_of_lanes.main.body.getD i (.Pass ⟨0, 0, 0, 0⟩)
abbrev s_ascending : Stmt := top 1
theorem sc_ascending : FnScope ["lanes", "found", "lane", "name"] ["lanes"] (defScope s_ascending) := ⟨rfl, rfl, rfl, by decide +kernel, rfl, by decide +kernel, by decide +kernel⟩
abbrev s_Share___iadd__ : Stmt := (cBody (top 2)).getD 6 (.Pass ⟨0, 0, 0, 0⟩)
theorem sc_Share___iadd__ : FnScope ["self", "lanes"] ["self", "lanes"] (defScope s_Share___iadd__) := ⟨rfl, rfl, rfl, by decide +kernel, rfl, by decide +kernel, by decide +kernel⟩
abbrev s_Share___isub__ : Stmt := (cBody (top 2)).getD 7 (.Pass ⟨0, 0, 0, 0⟩)
theorem sc_Share___isub__ : FnScope ["self", "lanes", "gone", "lane"] ["self", "lanes"] (defScope s_Share___isub__) := ⟨rfl, rfl, rfl, by decide +kernel, rfl, by decide +kernel, by decide +kernel⟩
abbrev s__law_mixed : Stmt := top 5
theorem sc__law_mixed : FnScope ["_law_number", "_law_k", "_law_early"] ["_law_number", "_law_k"] (defScope s__law_mixed) := ⟨rfl, rfl, rfl, by decide +kernel, rfl, by decide +kernel, by decide +kernel⟩
abbrev s__law_row : Stmt := top 6
theorem sc__law_row : FnScope ["_law_cell_here", "_law_count", "_law_base", "_law_found", "_law_rest", "_law_k"] ["_law_cell_here", "_law_count", "_law_base"] (defScope s__law_row) := ⟨rfl, rfl, rfl, by decide +kernel, rfl, by decide +kernel, by decide +kernel⟩
abbrev s__law_names : Stmt := top 7
theorem sc__law_names : FnScope ["_law_cell_here", "_law_count", "_law_letters", "_law_draws", "_law_body", "_law_found", "_law_k", "_law_size", "_law_at", "_law_told", "_law_draw"] ["_law_cell_here", "_law_count"] (defScope s__law_names) := ⟨rfl, rfl, rfl, by decide +kernel, rfl, by decide +kernel, by decide +kernel⟩
abbrev s_Share___init__ : Stmt := (cBody (top 2)).getD 0 (.Pass ⟨0, 0, 0, 0⟩)
theorem sc_Share___init__ : FnScope ["self", "lanes"] ["self", "lanes"] (defScope s_Share___init__) := ⟨rfl, rfl, rfl, by decide +kernel, rfl, by decide +kernel, by decide +kernel⟩
abbrev s__law_due : Stmt := top 8
theorem sc__law_due : FnScope ["_law_lanes", "_law_found", "_law_lane", "_law_name"] ["_law_lanes"] (defScope s__law_due) := ⟨rfl, rfl, rfl, by decide +kernel, rfl, by decide +kernel, by decide +kernel⟩
abbrev s_Share___len__ : Stmt := (cBody (top 2)).getD 2 (.Pass ⟨0, 0, 0, 0⟩)
theorem sc_Share___len__ : FnScope ["self"] ["self"] (defScope s_Share___len__) := ⟨rfl, rfl, rfl, by decide +kernel, rfl, by decide +kernel, by decide +kernel⟩
abbrev s_Share___contains__ : Stmt := (cBody (top 2)).getD 1 (.Pass ⟨0, 0, 0, 0⟩)
theorem sc_Share___contains__ : FnScope ["self", "lane"] ["self", "lane"] (defScope s_Share___contains__) := ⟨rfl, rfl, rfl, by decide +kernel, rfl, by decide +kernel, by decide +kernel⟩
abbrev s_Share___iter__ : Stmt := (cBody (top 2)).getD 3 (.Pass ⟨0, 0, 0, 0⟩)
theorem sc_Share___iter__ : FnScope ["self"] ["self"] (defScope s_Share___iter__) := ⟨rfl, rfl, rfl, by decide +kernel, rfl, by decide +kernel, by decide +kernel⟩
abbrev s__law_holds : Stmt := top 9
theorem sc__law_holds : FnScope ["_law_share", "_law_due_here", "_law_pool", "_law_lane"] ["_law_share", "_law_due_here", "_law_pool"] (defScope s__law_holds) := ⟨rfl, rfl, rfl, by decide +kernel, rfl, by decide +kernel, by decide +kernel⟩
abbrev s__law_cell : Stmt := top 4
theorem sc__law_cell : FnScope ["_law_script", "_law_k"] ["_law_script", "_law_k"] (defScope s__law_cell) := ⟨rfl, rfl, rfl, by decide +kernel, rfl, by decide +kernel, by decide +kernel⟩
abbrev s_Share___le__ : Stmt := (cBody (top 2)).getD 5 (.Pass ⟨0, 0, 0, 0⟩)
theorem sc_Share___le__ : FnScope ["self", "other", "lane"] ["self", "other"] (defScope s_Share___le__) := ⟨rfl, rfl, rfl, by decide +kernel, rfl, by decide +kernel, by decide +kernel⟩
abbrev s_Share___eq__ : Stmt := (cBody (top 2)).getD 4 (.Pass ⟨0, 0, 0, 0⟩)
theorem sc_Share___eq__ : FnScope ["self", "other"] ["self", "other"] (defScope s_Share___eq__) := ⟨rfl, rfl, rfl, by decide +kernel, rfl, by decide +kernel, by decide +kernel⟩
abbrev s_law : Stmt := top 10
theorem sc_law : FnScope ["_law_script", "_law_pool", "_law_picks", "_law_sizes", "_law_lists", "_law_k", "_law_kept", "_law_share", "_law_due_here", "_law_other", "_law_told", "_law_part", "_law_whole", "_law_wanted", "_law_pick", "_law_lanes", "_law_lane"] ["_law_script"] (defScope s_law) := ⟨rfl, rfl, rfl, by decide +kernel, rfl, by decide +kernel, by decide +kernel⟩
def fnL : List He.DefD := [⟨("ascending", none), "ascending", "ascending", defArgs s_ascending, defBody s_ascending, defScope s_ascending, [], []⟩,
  ⟨("Share", some "__iadd__"), "__iadd__", "Share.__iadd__", defArgs s_Share___iadd__, defBody s_Share___iadd__, defScope s_Share___iadd__, [], []⟩,
  ⟨("Share", some "__isub__"), "__isub__", "Share.__isub__", defArgs s_Share___isub__, defBody s_Share___isub__, defScope s_Share___isub__, [], []⟩,
  ⟨("_law_mixed", none), "_law_mixed", "_law_mixed", defArgs s__law_mixed, defBody s__law_mixed, defScope s__law_mixed, [], []⟩,
  ⟨("_law_row", none), "_law_row", "_law_row", defArgs s__law_row, defBody s__law_row, defScope s__law_row, [], []⟩,
  ⟨("_law_names", none), "_law_names", "_law_names", defArgs s__law_names, defBody s__law_names, defScope s__law_names, [], []⟩,
  ⟨("Share", some "__init__"), "__init__", "Share.__init__", defArgs s_Share___init__, defBody s_Share___init__, defScope s_Share___init__, [], []⟩,
  ⟨("_law_due", none), "_law_due", "_law_due", defArgs s__law_due, defBody s__law_due, defScope s__law_due, [], []⟩,
  ⟨("Share", some "__len__"), "__len__", "Share.__len__", defArgs s_Share___len__, defBody s_Share___len__, defScope s_Share___len__, [], []⟩,
  ⟨("Share", some "__contains__"), "__contains__", "Share.__contains__", defArgs s_Share___contains__, defBody s_Share___contains__, defScope s_Share___contains__, [], []⟩,
  ⟨("Share", some "__iter__"), "__iter__", "Share.__iter__", defArgs s_Share___iter__, defBody s_Share___iter__, defScope s_Share___iter__, [], []⟩,
  ⟨("_law_holds", none), "_law_holds", "_law_holds", defArgs s__law_holds, defBody s__law_holds, defScope s__law_holds, [], []⟩,
  ⟨("_law_cell", none), "_law_cell", "_law_cell", defArgs s__law_cell, defBody s__law_cell, defScope s__law_cell, [], []⟩,
  ⟨("Share", some "__le__"), "__le__", "Share.__le__", defArgs s_Share___le__, defBody s_Share___le__, defScope s_Share___le__, [], []⟩,
  ⟨("Share", some "__eq__"), "__eq__", "Share.__eq__", defArgs s_Share___eq__, defBody s_Share___eq__, defScope s_Share___eq__, [], []⟩,
  ⟨("law", none), "law", "law", defArgs s_law, defBody s_law, defScope s_law, [], []⟩]
def faL : List He.Fa := [.glo "Share", .glo "_law_cell", .glo "_law_due", .glo "_law_holds", .glo "_law_mixed", .glo "_law_names", .glo "_law_row", .glo "ascending", .glo "law", .free "abs", .free "bool", .free "int", .free "isinstance", .free "iter", .free "len", .free "list", .free "range", .free "sorted", .free "str", .cls "Share", .noat "Share" "lanes", .meth "Share" "__contains__", .meth "Share" "__eq__", .meth "Share" "__iadd__", .meth "Share" "__isub__", .meth "Share" "__le__", .meth "Share" "__len__", .mkr "Share"]
def tsL : List He.Tab := []
def exL (K : PySem.W.Frag) : Bool := isiB K tabT && ((PySem.W.findIn K (.ref (He.ga K "Share")) "__iter__" == some (some (.ref (He.fAd K ("Share", some "__iter__"))))) && (PySem.W.isFn K (.ref (He.fAd K ("Share", some "__iter__"))) && (PySem.W.selfFirst K (He.ga K "Share"))))
structure Ad where
  d_ascending : FuncData
  d_Share___iadd__ : FuncData
  d_Share___isub__ : FuncData
  d__law_mixed : FuncData
  d__law_row : FuncData
  d__law_names : FuncData
  d_Share___init__ : FuncData
  d__law_due : FuncData
  d_Share___len__ : FuncData
  d_Share___contains__ : FuncData
  d_Share___iter__ : FuncData
  d__law_holds : FuncData
  d__law_cell : FuncData
  d_Share___le__ : FuncData
  d_Share___eq__ : FuncData
  d_law : FuncData
structure Txt (P : Program) (w : World) (K : PySem.W.Frag) (mg : Str → Option Value) (A : Ad) : Prop where
  d_ascending : FunD K "ascending" "ascending" (defArgs s_ascending) (defBody s_ascending) (defScope s_ascending) [] [] (He.fAd K ("ascending", none)) A.d_ascending
  B_ascending : Binds K A.d_ascending ["lanes"] []
  d_Share___iadd__ : FunD K "__iadd__" "Share.__iadd__" (defArgs s_Share___iadd__) (defBody s_Share___iadd__) (defScope s_Share___iadd__) [] [] (He.fAd K ("Share", some "__iadd__")) A.d_Share___iadd__
  B_Share___iadd__ : Binds K A.d_Share___iadd__ ["self", "lanes"] []
  d_Share___isub__ : FunD K "__isub__" "Share.__isub__" (defArgs s_Share___isub__) (defBody s_Share___isub__) (defScope s_Share___isub__) [] [] (He.fAd K ("Share", some "__isub__")) A.d_Share___isub__
  B_Share___isub__ : Binds K A.d_Share___isub__ ["self", "lanes"] []
  d__law_mixed : FunD K "_law_mixed" "_law_mixed" (defArgs s__law_mixed) (defBody s__law_mixed) (defScope s__law_mixed) [] [] (He.fAd K ("_law_mixed", none)) A.d__law_mixed
  B__law_mixed : Binds K A.d__law_mixed ["_law_number", "_law_k"] []
  d__law_row : FunD K "_law_row" "_law_row" (defArgs s__law_row) (defBody s__law_row) (defScope s__law_row) [] [] (He.fAd K ("_law_row", none)) A.d__law_row
  B__law_row : Binds K A.d__law_row ["_law_cell_here", "_law_count", "_law_base"] []
  d__law_names : FunD K "_law_names" "_law_names" (defArgs s__law_names) (defBody s__law_names) (defScope s__law_names) [] [] (He.fAd K ("_law_names", none)) A.d__law_names
  B__law_names : Binds K A.d__law_names ["_law_cell_here", "_law_count"] []
  d_Share___init__ : FunD K "__init__" "Share.__init__" (defArgs s_Share___init__) (defBody s_Share___init__) (defScope s_Share___init__) [] [] (He.fAd K ("Share", some "__init__")) A.d_Share___init__
  B_Share___init__ : Binds K A.d_Share___init__ ["self", "lanes"] []
  d__law_due : FunD K "_law_due" "_law_due" (defArgs s__law_due) (defBody s__law_due) (defScope s__law_due) [] [] (He.fAd K ("_law_due", none)) A.d__law_due
  B__law_due : Binds K A.d__law_due ["_law_lanes"] []
  d_Share___len__ : FunD K "__len__" "Share.__len__" (defArgs s_Share___len__) (defBody s_Share___len__) (defScope s_Share___len__) [] [] (He.fAd K ("Share", some "__len__")) A.d_Share___len__
  B_Share___len__ : Binds K A.d_Share___len__ ["self"] []
  d_Share___contains__ : FunD K "__contains__" "Share.__contains__" (defArgs s_Share___contains__) (defBody s_Share___contains__) (defScope s_Share___contains__) [] [] (He.fAd K ("Share", some "__contains__")) A.d_Share___contains__
  B_Share___contains__ : Binds K A.d_Share___contains__ ["self", "lane"] []
  d_Share___iter__ : FunD K "__iter__" "Share.__iter__" (defArgs s_Share___iter__) (defBody s_Share___iter__) (defScope s_Share___iter__) [] [] (He.fAd K ("Share", some "__iter__")) A.d_Share___iter__
  B_Share___iter__ : Binds K A.d_Share___iter__ ["self"] []
  d__law_holds : FunD K "_law_holds" "_law_holds" (defArgs s__law_holds) (defBody s__law_holds) (defScope s__law_holds) [] [] (He.fAd K ("_law_holds", none)) A.d__law_holds
  B__law_holds : Binds K A.d__law_holds ["_law_share", "_law_due_here", "_law_pool"] []
  d__law_cell : FunD K "_law_cell" "_law_cell" (defArgs s__law_cell) (defBody s__law_cell) (defScope s__law_cell) [] [] (He.fAd K ("_law_cell", none)) A.d__law_cell
  B__law_cell : Binds K A.d__law_cell ["_law_script", "_law_k"] []
  d_Share___le__ : FunD K "__le__" "Share.__le__" (defArgs s_Share___le__) (defBody s_Share___le__) (defScope s_Share___le__) [] [] (He.fAd K ("Share", some "__le__")) A.d_Share___le__
  B_Share___le__ : Binds K A.d_Share___le__ ["self", "other"] []
  d_Share___eq__ : FunD K "__eq__" "Share.__eq__" (defArgs s_Share___eq__) (defBody s_Share___eq__) (defScope s_Share___eq__) [] [] (He.fAd K ("Share", some "__eq__")) A.d_Share___eq__
  B_Share___eq__ : Binds K A.d_Share___eq__ ["self", "other"] []
  d_law : FunD K "law" "law" (defArgs s_law) (defBody s_law) (defScope s_law) [] [] (He.fAd K ("law", none)) A.d_law
  B_law : Binds K A.d_law ["_law_script"] []
  g_Share : mg "Share" = some (.ref (He.ga K "Share"))
  g__law_cell : mg "_law_cell" = some (.ref (He.ga K "_law_cell"))
  g__law_due : mg "_law_due" = some (.ref (He.ga K "_law_due"))
  g__law_holds : mg "_law_holds" = some (.ref (He.ga K "_law_holds"))
  g__law_mixed : mg "_law_mixed" = some (.ref (He.ga K "_law_mixed"))
  g__law_names : mg "_law_names" = some (.ref (He.ga K "_law_names"))
  g__law_row : mg "_law_row" = some (.ref (He.ga K "_law_row"))
  g_ascending : mg "ascending" = some (.ref (He.ga K "ascending"))
  g_law : mg "law" = some (.ref (He.ga K "law"))
  b_abs : mg "abs" = none
  b_bool : mg "bool" = none
  b_int : mg "int" = none
  b_isinstance : mg "isinstance" = none
  b_iter : mg "iter" = none
  b_len : mg "len" = none
  b_list : mg "list" = none
  b_range : mg "range" = none
  b_sorted : mg "sorted" = none
  b_str : mg "str" = none
  c_Share : Cls K (He.ga K "Share")
  na_Share_lanes : NoAttr K (He.ga K "Share") "lanes"
  me_Share___contains__ : Meth K (He.ga K "Share") "__contains__" (He.fAd K ("Share", some "__contains__"))
  me_Share___eq__ : Meth K (He.ga K "Share") "__eq__" (He.fAd K ("Share", some "__eq__"))
  me_Share___iadd__ : Meth K (He.ga K "Share") "__iadd__" (He.fAd K ("Share", some "__iadd__"))
  me_Share___isub__ : Meth K (He.ga K "Share") "__isub__" (He.fAd K ("Share", some "__isub__"))
  me_Share___le__ : Meth K (He.ga K "Share") "__le__" (He.fAd K ("Share", some "__le__"))
  me_Share___len__ : Meth K (He.ga K "Share") "__len__" (He.fAd K ("Share", some "__len__"))
  mk_Share : Mk K (He.ga K "Share") (He.fAd K ("Share", some "__init__"))
  isi : IsiOk K (gOf K) ownT
  it_Share : ItrC K (He.ga K "Share") (He.fAd K ("Share", some "__iter__"))
  sf_Share : PySem.W.selfFirst K (He.ga K "Share") = true
section
variable {P : Program} {w : World} {K : PySem.W.Frag} {mg : Str → Option Value} {base : Heap} {A : Ad}
theorem fo_lanes (T : Txt P w K mg A) : FldOk K (gOf K) "lanes" ["Share"] := fun c hc C hG => by
  simp only [List.mem_cons, List.not_mem_nil, or_false] at hc
  rcases hc with rfl <;> (simp only [gOf, Option.some.injEq, V.ref.injEq] at hG; subst hG)
  · exact ⟨T.c_Share, T.na_Share_lanes⟩
theorem ok_ascending (hP : PFa P FILE) (T : Txt P w K mg A) : FnOk P w K mg base (L2.CX P w) 1 (He.fAd K ("ascending", none)) A.d_ascending ["lanes"] (SpM K (gOf K) 1 m_ascending) :=
  fn_gc (fn_mD (N := ["lanes", "found", "lane", "name"]) T.d_ascending sc_ascending fun cdv Ar outer s H E hr => by
    have tk := takes_of (X := cxOf (L2.CX P w) P w K mg base ["lanes", "found", "lane", "name"] "ascending" (defScope s_ascending) (He.fAd K ("ascending", none)) cdv Ar outer s H E) rfl rfl rfl rfl
    exact (m_scons (m_set (i := 1) sc_ascending.nd rfl (Or.inl rfl) (m_lst m_anil))
      (m_scons (m_for (passes_of rfl) rfl (m_callB cr_sortedS s_sortS (by rfl) T.b_sorted (by decide +kernel) (m_acons (m_lc rfl sc_ascending.nd (blkOk_by (own := [("name", 3)]) (by rfl)) (m_var (pv 0)) (gw_name (by decide)) (fun _ _ _ _ _ => (pg_name (i := 3) sc_ascending.nd rfl (Or.inl rfl))) (fun _ _ _ _ _ => m_tests0) (fun _ _ _ _ _ => (m_callTy SkE.call_str_str s_strS (by rfl) T.b_str (by decide +kernel) (m_acons (m_var (pv 3)) m_anil)))) m_anil)) (pg_name (i := 2) sc_ascending.nd rfl (Or.inl rfl)) gs_name (m_sone (m_if (m_cmpT (o_notInA hr.units) (s_notInA s_notIn) (m_var (pv 2)) (m_var (pv 1)) rfl) (m_sone (m_expr (m_bm PySem.F.plainAttrs_list PySem.F.slot_list_append PySem.F.type_list_append mt_append t_lst s_append (m_var (pv 1)) (m_acons (m_var (pv 2)) m_anil)))) m_snil)))
      (m_sone (m_ret (m_var (pv 1)))))))
theorem ok_Share___iadd__ (hP : PFa P FILE) (T : Txt P w K mg A) : FnOk P w K mg base (L2.CX P w) 2 (He.fAd K ("Share", some "__iadd__")) A.d_Share___iadd__ ["self", "lanes"] (SpM K (gOf K) 2 m_Share___iadd__) :=
  fn_mD (N := ["self", "lanes"]) T.d_Share___iadd__ sc_Share___iadd__ fun cdv Ar outer s H E hr => by
    have tk := takes_of (X := cxOf (L2.CX P w) P w K mg base ["self", "lanes"] "Share.__iadd__" (defScope s_Share___iadd__) (He.fAd K ("Share", some "__iadd__")) cdv Ar outer s H E) rfl rfl rfl rfl
    exact (m_scons (m_sfld (fo_lanes T) (m_var (pv 0)) (m_call (ok_ascending hP T) (hr.mono (by decide)) rfl T.g_ascending T.d_ascending.kp T.B_ascending tk (m_acons (m_op o_add s_add (m_fld (fo_lanes T) (m_var (pv 0))) (m_callTy call_list_of s_list (by rfl) T.b_list (by decide +kernel) (m_acons (m_var (pv 1)) m_anil))) m_anil)))
      (m_sone (m_ret (m_var (pv 0)))))
theorem ok_Share___isub__ (hP : PFa P FILE) (T : Txt P w K mg A) : FnOk P w K mg base (L2.CX P w) 1 (He.fAd K ("Share", some "__isub__")) A.d_Share___isub__ ["self", "lanes"] (SpM K (gOf K) 2 m_Share___isub__) :=
  fn_mD (N := ["self", "lanes", "gone", "lane"]) T.d_Share___isub__ sc_Share___isub__ fun cdv Ar outer s H E hr => by
    have tk := takes_of (X := cxOf (L2.CX P w) P w K mg base ["self", "lanes", "gone", "lane"] "Share.__isub__" (defScope s_Share___isub__) (He.fAd K ("Share", some "__isub__")) cdv Ar outer s H E) rfl rfl rfl rfl
    exact (m_scons (m_set (i := 2) sc_Share___isub__.nd rfl (Or.inr rfl) (m_callTy call_list_of s_list (by rfl) T.b_list (by decide +kernel) (m_acons (m_var (pv 1)) m_anil)))
      (m_scons (m_sfld (fo_lanes T) (m_var (pv 0)) (m_lc rfl sc_Share___isub__.nd (blkOk_by (own := [("lane", 3)]) (by rfl)) (m_fld (fo_lanes T) (m_var (pv 0))) (gw_name (by decide)) (fun _ _ _ _ _ => (pg_name (i := 3) sc_Share___isub__.nd rfl (Or.inl rfl))) (fun _ _ _ _ _ => (m_tests1 (m_cmpT (o_notInA hr.units) (s_notInA s_notIn) (m_var (pv 3)) (m_var (pv 2)) rfl))) (fun _ _ _ _ _ => (m_var (pv 3)))))
      (m_sone (m_ret (m_var (pv 0))))))
theorem ok__law_mixed (hP : PFa P FILE) (T : Txt P w K mg A) : FnOk P w K mg base (L2.CX P w) 1 (He.fAd K ("_law_mixed", none)) A.d__law_mixed ["_law_number", "_law_k"] (SpM K (gOf K) 2 m__law_mixed) :=
  fn_gc (fn_mD (N := ["_law_number", "_law_k", "_law_early"]) T.d__law_mixed sc__law_mixed fun cdv Ar outer s H E hr => by
    have tk := takes_of (X := cxOf (L2.CX P w) P w K mg base ["_law_number", "_law_k", "_law_early"] "_law_mixed" (defScope s__law_mixed) (He.fAd K ("_law_mixed", none)) cdv Ar outer s H E) rfl rfl rfl rfl
    exact (m_scons (m_set (i := 2) sc__law_mixed.nd rfl (Or.inl rfl) (m_op op_mod s_mod (m_callTy call_int1 s_int (by rfl) T.b_int (by decide +kernel) (m_acons (m_op o_add s_add (m_op o_add s_add (m_op op_mul s_mul (m_var (pv 0)) m_int) (m_op op_mul s_mul (m_var (pv 1)) m_int)) m_int) m_anil)) m_int))
      (m_sone (m_ret (m_op op_fdiv s_div (m_op op_mod s_mod (m_callTy call_int1 s_int (by rfl) T.b_int (by decide +kernel) (m_acons (m_op op_mul s_mul (m_var (pv 2)) (m_op o_add s_add (m_op o_add s_add (m_op op_fdiv s_div (m_var (pv 2)) m_int) (m_op op_mul s_mul m_int (m_var (pv 1)))) m_int)) m_anil)) m_int) m_int)))))
theorem ok__law_row (hP : PFa P FILE) (T : Txt P w K mg A) : FnOk P w K mg base (L2.CX P w) 2 (He.fAd K ("_law_row", none)) A.d__law_row ["_law_cell_here", "_law_count", "_law_base"] (SpM K (gOf K) 3 m__law_row) :=
  fn_gc (fn_mD (N := ["_law_cell_here", "_law_count", "_law_base", "_law_found", "_law_rest", "_law_k"]) T.d__law_row sc__law_row fun cdv Ar outer s H E hr => by
    have tk := takes_of (X := cxOf (L2.CX P w) P w K mg base ["_law_cell_here", "_law_count", "_law_base", "_law_found", "_law_rest", "_law_k"] "_law_row" (defScope s__law_row) (He.fAd K ("_law_row", none)) cdv Ar outer s H E) rfl rfl rfl rfl
    exact (m_scons (m_set (i := 3) sc__law_row.nd rfl (Or.inl rfl) (m_lst m_anil))
      (m_scons (m_set (i := 4) sc__law_row.nd rfl (Or.inl rfl) (m_callB call_abs s_abs (by rfl) T.b_abs (by decide +kernel) (m_acons (m_var (pv 0)) m_anil)))
      (m_scons (m_if (m_cmpT op_lt s_cmp (m_var (pv 4)) (m_op op_pow s_pow m_int m_int) (nomark _)) (m_sone (m_set (i := 4) sc__law_row.nd rfl (Or.inl rfl) m_int)) m_snil)
      (m_scons (m_forR1 (passes_of rfl) rfl (by rfl) T.b_range (m_acons (m_var (pv 1)) m_anil) (pg_name (i := 5) sc__law_row.nd rfl (Or.inl rfl)) gs_name (m_sone (m_if (m_cmpT op_gt s_cmp (m_var (pv 4)) m_int (nomark _)) (m_scons (m_expr (m_bm PySem.F.plainAttrs_list PySem.F.slot_list_append PySem.F.type_list_append mt_append t_lst s_append (m_var (pv 3)) (m_acons (m_op op_mod s_mod (m_callTy call_int1 s_int (by rfl) T.b_int (by decide +kernel) (m_acons (m_var (pv 4)) m_anil)) (m_var (pv 2))) m_anil)))
      (m_sone (m_set (i := 4) sc__law_row.nd rfl (Or.inl rfl) (m_op op_fdiv s_div (m_var (pv 4)) (m_var (pv 2)))))) (m_sone (m_expr (m_bm PySem.F.plainAttrs_list PySem.F.slot_list_append PySem.F.type_list_append mt_append t_lst s_append (m_var (pv 3)) (m_acons (m_op op_mod s_mod (m_callTy call_int1 s_int (by rfl) T.b_int (by decide +kernel) (m_acons (m_call (ok__law_mixed hP T) (hr.mono (by decide)) rfl T.g__law_mixed T.d__law_mixed.kp T.B__law_mixed tk (m_acons (m_var (pv 0)) (m_acons (m_var (pv 5)) m_anil))) m_anil)) (m_var (pv 2))) m_anil)))))))
      (m_sone (m_ret (m_var (pv 3)))))))))
theorem ok__law_names (hP : PFa P FILE) (T : Txt P w K mg A) : FnOk P w K mg base (L2.CX P w) 3 (He.fAd K ("_law_names", none)) A.d__law_names ["_law_cell_here", "_law_count"] (SpM K (gOf K) 2 m__law_names) :=
  fn_gc (fn_mD (N := ["_law_cell_here", "_law_count", "_law_letters", "_law_draws", "_law_body", "_law_found", "_law_k", "_law_size", "_law_at", "_law_told", "_law_draw"]) T.d__law_names sc__law_names fun cdv Ar outer s H E hr => by
    have tk := takes_of (X := cxOf (L2.CX P w) P w K mg base ["_law_cell_here", "_law_count", "_law_letters", "_law_draws", "_law_body", "_law_found", "_law_k", "_law_size", "_law_at", "_law_told", "_law_draw"] "_law_names" (defScope s__law_names) (He.fAd K ("_law_names", none)) cdv Ar outer s H E) rfl rfl rfl rfl
    exact (m_scons (m_set (i := 2) sc__law_names.nd rfl (Or.inr rfl) m_str)
      (m_scons (m_set (i := 3) sc__law_names.nd rfl (Or.inl rfl) (m_call (ok__law_row hP T) (hr.mono (by decide)) rfl T.g__law_row T.d__law_row.kp T.B__law_row tk (m_acons (m_var (pv 0)) (m_acons m_int (m_acons m_int m_anil)))))
      (m_scons (m_set (i := 4) sc__law_names.nd rfl (Or.inl rfl) (m_bm PySem.F.plainAttrs_str PySem.F.slot_str_join PySem.F.type_str_join mt_join t_str s_join m_str (m_acons (m_lc rfl sc__law_names.nd (blkOk_by (own := [("_law_draw", 10)]) (by rfl)) (m_slice (m_var (pv 3)) m_pno (m_pis m_int)) (gw_name (by decide)) (fun _ _ _ _ _ => (pg_name (i := 10) sc__law_names.nd rfl (Or.inl rfl))) (fun _ _ _ _ _ => m_tests0) (fun _ _ _ _ _ => (m_ixA hr (m_var (pv 2)) (m_var (pv 10))))) m_anil)))
      (m_scons (m_set (i := 5) sc__law_names.nd rfl (Or.inl rfl) (m_lst m_anil))
      (m_scons (m_forR1 (passes_of rfl) rfl (by rfl) T.b_range (m_acons (m_var (pv 1)) m_anil) (pg_name (i := 6) sc__law_names.nd rfl (Or.inl rfl)) gs_name (m_scons (m_set (i := 7) sc__law_names.nd rfl (Or.inl rfl) (m_op op_mod s_mod (m_callTy call_int1 s_int (by rfl) T.b_int (by decide +kernel) (m_acons (m_ixA hr (m_var (pv 3)) m_int) m_anil)) m_int))
      (m_scons (m_set (i := 8) sc__law_names.nd rfl (Or.inl rfl) (m_op op_mod s_mod (m_callTy call_int1 s_int (by rfl) T.b_int (by decide +kernel) (m_acons (m_ixA hr (m_var (pv 3)) m_int) m_anil)) (m_op o_add s_add (m_var (pv 7)) m_int)))
      (m_scons (m_set (i := 9) sc__law_names.nd rfl (Or.inl rfl) (m_ixA hr (m_var (pv 2)) (m_op op_mod s_mod (m_callTy call_int1 s_int (by rfl) T.b_int (by decide +kernel) (m_acons (m_op o_add s_add (m_ixA hr (m_var (pv 3)) m_int) (m_op op_mul s_mul (m_var (pv 6)) (m_op o_add s_add m_int (m_op op_mod s_mod (m_callTy call_int1 s_int (by rfl) T.b_int (by decide +kernel) (m_acons (m_ixA hr (m_var (pv 3)) m_int) m_anil)) m_int)))) m_anil)) m_int)))
      (m_sone (m_if (m_cmpT (op_eqM hr.units) s_eq (m_op op_mod s_mod (m_callTy call_int1 s_int (by rfl) T.b_int (by decide +kernel) (m_acons (m_ixA hr (m_var (pv 3)) m_int) m_anil)) m_int) m_int (nomark _)) (m_sone (m_expr (m_bm PySem.F.plainAttrs_list PySem.F.slot_list_append PySem.F.type_list_append mt_append t_lst s_append (m_var (pv 5)) (m_acons (m_op o_add s_add (m_op o_add s_add (m_slice (m_var (pv 4)) m_pno (m_pis (m_var (pv 8)))) (m_var (pv 9))) (m_slice (m_var (pv 4)) (m_pis (m_var (pv 8))) (m_pis (m_var (pv 7))))) m_anil)))) (m_sone (m_expr (m_bm PySem.F.plainAttrs_list PySem.F.slot_list_append PySem.F.type_list_append mt_append t_lst s_append (m_var (pv 5)) (m_acons (m_slice (m_op o_add s_add (m_var (pv 4)) (m_ixA hr (m_var (pv 2)) (m_ixA hr (m_var (pv 3)) m_int))) m_pno (m_pis (m_op o_add s_add m_int (m_op op_mod s_mod (m_callTy call_int1 s_int (by rfl) T.b_int (by decide +kernel) (m_acons (m_op o_add s_add (m_ixA hr (m_var (pv 3)) m_int) (m_var (pv 6))) m_anil)) m_int)))) m_anil))))))))))
      (m_sone (m_ret (m_var (pv 5))))))))))
theorem ok_Share___init__ (hP : PFa P FILE) (T : Txt P w K mg A) : FnOk P w K mg base (L2.CX P w) 2 (He.fAd K ("Share", some "__init__")) A.d_Share___init__ ["self", "lanes"] (SpM K (gOf K) 2 m_Share___init__) :=
  fn_mD (N := ["self", "lanes"]) T.d_Share___init__ sc_Share___init__ fun cdv Ar outer s H E hr => by
    have tk := takes_of (X := cxOf (L2.CX P w) P w K mg base ["self", "lanes"] "Share.__init__" (defScope s_Share___init__) (He.fAd K ("Share", some "__init__")) cdv Ar outer s H E) rfl rfl rfl rfl
    exact (m_sone (m_sfld (fo_lanes T) (m_var (pv 0)) (m_call (ok_ascending hP T) (hr.mono (by decide)) rfl T.g_ascending T.d_ascending.kp T.B_ascending tk (m_acons (m_callTy call_list_of s_list (by rfl) T.b_list (by decide +kernel) (m_acons (m_var (pv 1)) m_anil)) m_anil))))
theorem ok__law_due (hP : PFa P FILE) (T : Txt P w K mg A) : FnOk P w K mg base (L2.CX P w) 1 (He.fAd K ("_law_due", none)) A.d__law_due ["_law_lanes"] (SpM K (gOf K) 1 m__law_due) :=
  fn_gc (fn_mD (N := ["_law_lanes", "_law_found", "_law_lane", "_law_name"]) T.d__law_due sc__law_due fun cdv Ar outer s H E hr => by
    have tk := takes_of (X := cxOf (L2.CX P w) P w K mg base ["_law_lanes", "_law_found", "_law_lane", "_law_name"] "_law_due" (defScope s__law_due) (He.fAd K ("_law_due", none)) cdv Ar outer s H E) rfl rfl rfl rfl
    exact (m_scons (m_set (i := 1) sc__law_due.nd rfl (Or.inl rfl) (m_lst m_anil))
      (m_scons (m_for (passes_of rfl) rfl (m_callB cr_sortedS s_sortS (by rfl) T.b_sorted (by decide +kernel) (m_acons (m_lc rfl sc__law_due.nd (blkOk_by (own := [("_law_name", 3)]) (by rfl)) (m_var (pv 0)) (gw_name (by decide)) (fun _ _ _ _ _ => (pg_name (i := 3) sc__law_due.nd rfl (Or.inl rfl))) (fun _ _ _ _ _ => m_tests0) (fun _ _ _ _ _ => (m_callTy SkE.call_str_str s_strS (by rfl) T.b_str (by decide +kernel) (m_acons (m_var (pv 3)) m_anil)))) m_anil)) (pg_name (i := 2) sc__law_due.nd rfl (Or.inl rfl)) gs_name (m_sone (m_if (m_cmpT (o_notInA hr.units) (s_notInA s_notIn) (m_var (pv 2)) (m_var (pv 1)) rfl) (m_sone (m_expr (m_bm PySem.F.plainAttrs_list PySem.F.slot_list_append PySem.F.type_list_append mt_append t_lst s_append (m_var (pv 1)) (m_acons (m_var (pv 2)) m_anil)))) m_snil)))
      (m_sone (m_ret (m_var (pv 1)))))))
theorem ok_Share___len__ (hP : PFa P FILE) (T : Txt P w K mg A) : FnOk P w K mg base (L2.CX P w) 1 (He.fAd K ("Share", some "__len__")) A.d_Share___len__ ["self"] (SpM K (gOf K) 1 m_Share___len__) :=
  fn_mD (N := ["self"]) T.d_Share___len__ sc_Share___len__ fun cdv Ar outer s H E hr => by
    have tk := takes_of (X := cxOf (L2.CX P w) P w K mg base ["self"] "Share.__len__" (defScope s_Share___len__) (He.fAd K ("Share", some "__len__")) cdv Ar outer s H E) rfl rfl rfl rfl
    exact (m_sone (m_ret (m_callB c_len s_len (by rfl) T.b_len PySem.boot_len (m_acons (m_fld (fo_lanes T) (m_var (pv 0))) m_anil))))
theorem ok_Share___contains__ (hP : PFa P FILE) (T : Txt P w K mg A) : FnOk P w K mg base (L2.CX P w) 1 (He.fAd K ("Share", some "__contains__")) A.d_Share___contains__ ["self", "lane"] (SpM K (gOf K) 2 m_Share___contains__) :=
  fn_mD (N := ["self", "lane"]) T.d_Share___contains__ sc_Share___contains__ fun cdv Ar outer s H E hr => by
    have tk := takes_of (X := cxOf (L2.CX P w) P w K mg base ["self", "lane"] "Share.__contains__" (defScope s_Share___contains__) (He.fAd K ("Share", some "__contains__")) cdv Ar outer s H E) rfl rfl rfl rfl
    exact (m_sone (m_ret (m_cmp (o_inA hr.units) (s_inA s_in) (m_var (pv 1)) (m_fld (fo_lanes T) (m_var (pv 0))) rfl)))
theorem itr_Share___iter__ (T : Txt P w K mg A) : ItrOk P w K mg base 2 (He.fAd K ("Share", some "__iter__")) "lanes" (He.ga K "Share") :=
  itr_of T.d_Share___iter__ sc_Share___iter__ T.B_Share___iter__ (fun a C1 dx fs H _ e => ⟨T.c_Share, T.na_Share_lanes⟩) fun cdv Ar outer s H E hr => pss_one (ps_ret (pe_callB ItX.call_iterN (by rfl) T.b_iter (by decide +kernel) (pa_cons (pe_fld (pv 0) rfl) pa_nil)))
theorem ok__law_holds (hP : PFa P FILE) (T : Txt P w K mg A) : FnOk P w K mg base (L2.CX P w) 3 (He.fAd K ("_law_holds", none)) A.d__law_holds ["_law_share", "_law_due_here", "_law_pool"] (SpM K (gOf K) 3 m__law_holds) :=
  fn_gc (fn_mD (N := ["_law_share", "_law_due_here", "_law_pool", "_law_lane"]) T.d__law_holds sc__law_holds fun cdv Ar outer s H E hr => by
    have tk := takes_of (X := cxOf (L2.CX P w) P w K mg base ["_law_share", "_law_due_here", "_law_pool", "_law_lane"] "_law_holds" (defScope s__law_holds) (He.fAd K ("_law_holds", none)) cdv Ar outer s H E) rfl rfl rfl rfl
    exact (m_scons (m_if (PW.pt (m_or (m_cmpT (op_neM hr.units) s_ne (m_lenO (k := 1) (List.forall_mem_cons.mpr ⟨⟨⟨_, _, _, _, rfl, T.me_Share___len__, (ok_Share___len__ hP T).mono (by decide), T.B_Share___len__, rfl⟩⟩, List.forall_mem_nil _⟩) (hr.mono (by decide)) (by rfl) T.b_len PySem.boot_len (m_acons (m_var (pv 0)) m_anil)) (m_callB c_len s_len (by rfl) T.b_len PySem.boot_len (m_acons (m_var (pv 1)) m_anil)) (nomark _)) (m_or1 (m_cmpT (op_neM hr.units) s_ne (m_lcI rfl sc__law_holds.nd (blkOk_by (own := [("_law_lane", 3)]) (by rfl)) (m_itr (c := "Share") (C := He.ga K "Share") (fi := (He.fAd K ("Share", some "__iter__"))) (f := "lanes") (k := 2) rfl T.it_Share (itr_Share___iter__ T) (hr.mono (by decide)) (m_var (pv 0))) (gw_name (by decide)) (fun _ _ _ _ _ => (pg_name (i := 3) sc__law_holds.nd rfl (Or.inl rfl))) (fun _ _ _ _ _ => m_tests0) (fun _ _ _ _ _ => (m_var (pv 3)))) (m_var (pv 1)) (nomark _))))) (m_sone (m_ret m_bl)) m_snil)
      (m_scons (m_for (passes_of rfl) rfl (m_var (pv 2)) (pg_name (i := 3) sc__law_holds.nd rfl (Or.inl rfl)) gs_name (m_sone (m_if (m_cmpT (op_neM hr.units) s_ne (m_inO (k := 1) (List.forall_mem_cons.mpr ⟨⟨⟨_, _, _, _, rfl, T.me_Share___contains__, (ok_Share___contains__ hP T).mono (by decide), T.B_Share___contains__, rfl⟩⟩, List.forall_mem_nil _⟩) (hr.mono (by decide)) (m_var (pv 3)) (m_var (pv 0)) rfl) (m_cmp (o_inA hr.units) (s_inA s_in) (m_var (pv 3)) (m_var (pv 1)) rfl) (nomark _)) (m_sone (m_ret m_bl)) m_snil)))
      (m_sone (m_ret m_bl)))))
theorem ok__law_cell (hP : PFa P FILE) (T : Txt P w K mg A) : FnOk P w K mg base (L2.CX P w) 1 (He.fAd K ("_law_cell", none)) A.d__law_cell ["_law_script", "_law_k"] (SpM K (gOf K) 2 m__law_cell) :=
  fn_gc (fn_mD (N := ["_law_script", "_law_k"]) T.d__law_cell sc__law_cell fun cdv Ar outer s H E hr => by
    have tk := takes_of (X := cxOf (L2.CX P w) P w K mg base ["_law_script", "_law_k"] "_law_cell" (defScope s__law_cell) (He.fAd K ("_law_cell", none)) cdv Ar outer s H E) rfl rfl rfl rfl
    exact (m_scons (m_if (m_cmpT op_lt s_cmp (m_var (pv 1)) (m_callB c_len s_len (by rfl) T.b_len PySem.boot_len (m_acons (m_var (pv 0)) m_anil)) (nomark _)) (m_sone (m_ret (m_callTy call_int1 s_int (by rfl) T.b_int (by decide +kernel) (m_acons (m_ixA hr (m_var (pv 0)) (m_var (pv 1))) m_anil)))) m_snil)
      (m_sone (m_ret m_int))))
theorem ok_Share___le__ (hP : PFa P FILE) (T : Txt P w K mg A) : FnOk P w K mg base (L2.CX P w) 1 (He.fAd K ("Share", some "__le__")) A.d_Share___le__ ["self", "other"] (SpM K (gOf K) 2 m_Share___le__) :=
  fn_mD (N := ["self", "other", "lane"]) T.d_Share___le__ sc_Share___le__ fun cdv Ar outer s H E hr => by
    have tk := takes_of (X := cxOf (L2.CX P w) P w K mg base ["self", "other", "lane"] "Share.__le__" (defScope s_Share___le__) (He.fAd K ("Share", some "__le__")) cdv Ar outer s H E) rfl rfl rfl rfl
    exact (m_scons (m_if (m_not (m_truth (m_callB call_isi (s_isi T.isi) (by rfl) T.b_isinstance (by decide +kernel) (m_acons (m_var (pv 1)) (m_acons (m_const (pe_glob (v := .ref (He.ga K "Share")) (by rfl) T.g_Share rfl) fun _ _ => by simp [VR, gOf]) m_anil))) (by intro _; rfl))) (m_sone m_never) m_snil)
      (m_scons (m_for (passes_of rfl) rfl (m_fld (fo_lanes T) (m_var (pv 0))) (pg_name (i := 2) sc_Share___le__.nd rfl (Or.inl rfl)) gs_name (m_sone (m_if (m_cmpT (o_notInA hr.units) (s_notInA s_notIn) (m_var (pv 2)) (m_fld (fo_lanes T) (m_var (pv 1))) rfl) (m_sone (m_ret m_bl)) m_snil)))
      (m_sone (m_ret m_bl))))
theorem ok_Share___eq__ (hP : PFa P FILE) (T : Txt P w K mg A) : FnOk P w K mg base (L2.CX P w) 1 (He.fAd K ("Share", some "__eq__")) A.d_Share___eq__ ["self", "other"] (SpM K (gOf K) 2 m_Share___eq__) :=
  fn_mD (N := ["self", "other"]) T.d_Share___eq__ sc_Share___eq__ fun cdv Ar outer s H E hr => by
    have tk := takes_of (X := cxOf (L2.CX P w) P w K mg base ["self", "other"] "Share.__eq__" (defScope s_Share___eq__) (He.fAd K ("Share", some "__eq__")) cdv Ar outer s H E) rfl rfl rfl rfl
    exact (m_sone (m_ret (m_eand (m_callB call_isi (s_isi T.isi) (by rfl) T.b_isinstance (by decide +kernel) (m_acons (m_var (pv 1)) (m_acons (m_const (pe_glob (v := .ref (He.ga K "Share")) (by rfl) T.g_Share rfl) fun _ _ => by simp [VR, gOf]) m_anil))) (m_eone (m_cmp (op_eqM hr.units) s_eq (m_fld (fo_lanes T) (m_var (pv 0))) (m_fld (fo_lanes T) (m_var (pv 1))) (nomark _))))))
theorem os0_law (hP : PFa P FILE) (T : Txt P w K mg A) (cdv : Value) (Ar : Around) (outer : List Env) (s : Shared) (H : Hp) (E : XK) (hr : Room 3 (Ar.deeper (PyProof.Rows.envOfC "law" (defScope s_law) s.heap.objs.size (He.fAd K ("law", none)) cdv))) :
    PS (cxOf (L2.CX P w) P w K mg base ["_law_script", "_law_pool", "_law_picks", "_law_sizes", "_law_lists", "_law_k", "_law_kept", "_law_share", "_law_due_here", "_law_other", "_law_told", "_law_part", "_law_whole", "_law_wanted", "_law_pick", "_law_lanes", "_law_lane"] "law" (defScope s_law) (He.fAd K ("law", none)) cdv Ar outer s H E) ((defBody s_law).getD 0 (.Pass ⟨0, 0, 0, 0⟩)) (RS K (gOf K) (fun cls d _ H => E cls d H) (sAsg (call 2 m__law_names (aCons (call 2 m__law_cell (aCons (eV 0) (aCons (eC (.int 0)) (aNil)))) (aCons (eC (.int 6)) (aNil)))) (gN 1))) := by
  have tk := takes_of (X := cxOf (L2.CX P w) P w K mg base ["_law_script", "_law_pool", "_law_picks", "_law_sizes", "_law_lists", "_law_k", "_law_kept", "_law_share", "_law_due_here", "_law_other", "_law_told", "_law_part", "_law_whole", "_law_wanted", "_law_pick", "_law_lanes", "_law_lane"] "law" (defScope s_law) (He.fAd K ("law", none)) cdv Ar outer s H E) rfl rfl rfl rfl
  exact (m_set (i := 1) sc_law.nd rfl (Or.inr rfl) (m_call (ok__law_names hP T) (hr.mono (by decide)) rfl T.g__law_names T.d__law_names.kp T.B__law_names tk (m_acons (m_call (ok__law_cell hP T) (hr.mono (by decide)) rfl T.g__law_cell T.d__law_cell.kp T.B__law_cell tk (m_acons (m_var (pv 0)) (m_acons m_int m_anil))) (m_acons m_int m_anil))))
theorem os1_law (hP : PFa P FILE) (T : Txt P w K mg A) (cdv : Value) (Ar : Around) (outer : List Env) (s : Shared) (H : Hp) (E : XK) (hr : Room 3 (Ar.deeper (PyProof.Rows.envOfC "law" (defScope s_law) s.heap.objs.size (He.fAd K ("law", none)) cdv))) :
    PS (cxOf (L2.CX P w) P w K mg base ["_law_script", "_law_pool", "_law_picks", "_law_sizes", "_law_lists", "_law_k", "_law_kept", "_law_share", "_law_due_here", "_law_other", "_law_told", "_law_part", "_law_whole", "_law_wanted", "_law_pick", "_law_lanes", "_law_lane"] "law" (defScope s_law) (He.fAd K ("law", none)) cdv Ar outer s H E) ((defBody s_law).getD 1 (.Pass ⟨0, 0, 0, 0⟩)) (RS K (gOf K) (fun cls d _ H => E cls d H) (sAsg (call 3 m__law_row (aCons (call 2 m__law_cell (aCons (eV 0) (aCons (eC (.int 1)) (aNil)))) (aCons (eC (.int 24)) (aCons (eC (.int 6)) (aNil))))) (gN 2))) := by
  have tk := takes_of (X := cxOf (L2.CX P w) P w K mg base ["_law_script", "_law_pool", "_law_picks", "_law_sizes", "_law_lists", "_law_k", "_law_kept", "_law_share", "_law_due_here", "_law_other", "_law_told", "_law_part", "_law_whole", "_law_wanted", "_law_pick", "_law_lanes", "_law_lane"] "law" (defScope s_law) (He.fAd K ("law", none)) cdv Ar outer s H E) rfl rfl rfl rfl
  exact (m_set (i := 2) sc_law.nd rfl (Or.inl rfl) (m_call (ok__law_row hP T) (hr.mono (by decide)) rfl T.g__law_row T.d__law_row.kp T.B__law_row tk (m_acons (m_call (ok__law_cell hP T) (hr.mono (by decide)) rfl T.g__law_cell T.d__law_cell.kp T.B__law_cell tk (m_acons (m_var (pv 0)) (m_acons m_int m_anil))) (m_acons m_int (m_acons m_int m_anil)))))
theorem os2_law (hP : PFa P FILE) (T : Txt P w K mg A) (cdv : Value) (Ar : Around) (outer : List Env) (s : Shared) (H : Hp) (E : XK) (hr : Room 3 (Ar.deeper (PyProof.Rows.envOfC "law" (defScope s_law) s.heap.objs.size (He.fAd K ("law", none)) cdv))) :
    PS (cxOf (L2.CX P w) P w K mg base ["_law_script", "_law_pool", "_law_picks", "_law_sizes", "_law_lists", "_law_k", "_law_kept", "_law_share", "_law_due_here", "_law_other", "_law_told", "_law_part", "_law_whole", "_law_wanted", "_law_pick", "_law_lanes", "_law_lane"] "law" (defScope s_law) (He.fAd K ("law", none)) cdv Ar outer s H E) ((defBody s_law).getD 2 (.Pass ⟨0, 0, 0, 0⟩)) (RS K (gOf K) (fun cls d _ H => E cls d H) (sAsg (call 3 m__law_row (aCons (call 2 m__law_cell (aCons (eV 0) (aCons (eC (.int 2)) (aNil)))) (aCons (eC (.int 3)) (aCons (eC (.int 9)) (aNil))))) (gN 3))) := by
  have tk := takes_of (X := cxOf (L2.CX P w) P w K mg base ["_law_script", "_law_pool", "_law_picks", "_law_sizes", "_law_lists", "_law_k", "_law_kept", "_law_share", "_law_due_here", "_law_other", "_law_told", "_law_part", "_law_whole", "_law_wanted", "_law_pick", "_law_lanes", "_law_lane"] "law" (defScope s_law) (He.fAd K ("law", none)) cdv Ar outer s H E) rfl rfl rfl rfl
  exact (m_set (i := 3) sc_law.nd rfl (Or.inl rfl) (m_call (ok__law_row hP T) (hr.mono (by decide)) rfl T.g__law_row T.d__law_row.kp T.B__law_row tk (m_acons (m_call (ok__law_cell hP T) (hr.mono (by decide)) rfl T.g__law_cell T.d__law_cell.kp T.B__law_cell tk (m_acons (m_var (pv 0)) (m_acons m_int m_anil))) (m_acons m_int (m_acons m_int m_anil)))))
theorem os3_law (hP : PFa P FILE) (T : Txt P w K mg A) (cdv : Value) (Ar : Around) (outer : List Env) (s : Shared) (H : Hp) (E : XK) (hr : Room 3 (Ar.deeper (PyProof.Rows.envOfC "law" (defScope s_law) s.heap.objs.size (He.fAd K ("law", none)) cdv))) :
    PS (cxOf (L2.CX P w) P w K mg base ["_law_script", "_law_pool", "_law_picks", "_law_sizes", "_law_lists", "_law_k", "_law_kept", "_law_share", "_law_due_here", "_law_other", "_law_told", "_law_part", "_law_whole", "_law_wanted", "_law_pick", "_law_lanes", "_law_lane"] "law" (defScope s_law) (He.fAd K ("law", none)) cdv Ar outer s H E) ((defBody s_law).getD 3 (.Pass ⟨0, 0, 0, 0⟩)) (RS K (gOf K) (fun cls d _ H => E cls d H) (sAsg (eA fLst (aNil)) (gN 4))) := by
  have tk := takes_of (X := cxOf (L2.CX P w) P w K mg base ["_law_script", "_law_pool", "_law_picks", "_law_sizes", "_law_lists", "_law_k", "_law_kept", "_law_share", "_law_due_here", "_law_other", "_law_told", "_law_part", "_law_whole", "_law_wanted", "_law_pick", "_law_lanes", "_law_lane"] "law" (defScope s_law) (He.fAd K ("law", none)) cdv Ar outer s H E) rfl rfl rfl rfl
  exact (m_set (i := 4) sc_law.nd rfl (Or.inl rfl) (m_lst m_anil))
theorem os4_law (hP : PFa P FILE) (T : Txt P w K mg A) (cdv : Value) (Ar : Around) (outer : List Env) (s : Shared) (H : Hp) (E : XK) (hr : Room 3 (Ar.deeper (PyProof.Rows.envOfC "law" (defScope s_law) s.heap.objs.size (He.fAd K ("law", none)) cdv))) :
    PS (cxOf (L2.CX P w) P w K mg base ["_law_script", "_law_pool", "_law_picks", "_law_sizes", "_law_lists", "_law_k", "_law_kept", "_law_share", "_law_due_here", "_law_other", "_law_told", "_law_part", "_law_whole", "_law_wanted", "_law_pick", "_law_lanes", "_law_lane"] "law" (defScope s_law) (He.fAd K ("law", none)) cdv Ar outer s H E) ((defBody s_law).getD 4 (.Pass ⟨0, 0, 0, 0⟩)) (RS K (gOf K) (fun cls d _ H => E cls d H) (sForR rng1 (aCons (eC (.int 3)) (aNil)) (gN 5) (L0_law))) := by
  have tk := takes_of (X := cxOf (L2.CX P w) P w K mg base ["_law_script", "_law_pool", "_law_picks", "_law_sizes", "_law_lists", "_law_k", "_law_kept", "_law_share", "_law_due_here", "_law_other", "_law_told", "_law_part", "_law_whole", "_law_wanted", "_law_pick", "_law_lanes", "_law_lane"] "law" (defScope s_law) (He.fAd K ("law", none)) cdv Ar outer s H E) rfl rfl rfl rfl
  exact (m_forR1 (passes_of rfl) rfl (by rfl) T.b_range (m_acons m_int m_anil) (pg_name (i := 5) sc_law.nd rfl (Or.inl rfl)) gs_name (m_sone (m_expr (m_bm PySem.F.plainAttrs_list PySem.F.slot_list_append PySem.F.type_list_append mt_append t_lst s_append (m_var (pv 4)) (m_acons (m_lc rfl sc_law.nd (blkOk_by (own := [("_law_pick", 14)]) (by rfl)) (m_slice (m_var (pv 2)) (m_pis (m_op op_mul s_mul m_int (m_var (pv 5)))) (m_pis (m_op o_add s_add (m_op op_mul s_mul m_int (m_var (pv 5))) (m_ixA hr (m_var (pv 3)) (m_var (pv 5)))))) (gw_name (by decide)) (fun _ _ _ _ _ => (pg_name (i := 14) sc_law.nd rfl (Or.inl rfl))) (fun _ _ _ _ _ => m_tests0) (fun _ _ _ _ _ => (m_ixA hr (m_var (pv 1)) (m_var (pv 14))))) m_anil)))))
theorem os5_law (hP : PFa P FILE) (T : Txt P w K mg A) (cdv : Value) (Ar : Around) (outer : List Env) (s : Shared) (H : Hp) (E : XK) (hr : Room 3 (Ar.deeper (PyProof.Rows.envOfC "law" (defScope s_law) s.heap.objs.size (He.fAd K ("law", none)) cdv))) :
    PS (cxOf (L2.CX P w) P w K mg base ["_law_script", "_law_pool", "_law_picks", "_law_sizes", "_law_lists", "_law_k", "_law_kept", "_law_share", "_law_due_here", "_law_other", "_law_told", "_law_part", "_law_whole", "_law_wanted", "_law_pick", "_law_lanes", "_law_lane"] "law" (defScope s_law) (He.fAd K ("law", none)) cdv Ar outer s H E) ((defBody s_law).getD 5 (.Pass ⟨0, 0, 0, 0⟩)) (RS K (gOf K) (fun cls d _ H => E cls d H) (sAsg (eLc (eV 4) (gN 15) (bYes) Z1_law [15]) (gN 6))) := by
  have tk := takes_of (X := cxOf (L2.CX P w) P w K mg base ["_law_script", "_law_pool", "_law_picks", "_law_sizes", "_law_lists", "_law_k", "_law_kept", "_law_share", "_law_due_here", "_law_other", "_law_told", "_law_part", "_law_whole", "_law_wanted", "_law_pick", "_law_lanes", "_law_lane"] "law" (defScope s_law) (He.fAd K ("law", none)) cdv Ar outer s H E) rfl rfl rfl rfl
  exact (m_set (i := 6) sc_law.nd rfl (Or.inr rfl) (m_lc rfl sc_law.nd (blkOk_by (own := [("_law_lanes", 15)]) (by rfl)) (m_var (pv 4)) (gw_name (by decide)) (fun _ _ _ _ _ => (pg_name (i := 15) sc_law.nd rfl (Or.inl rfl))) (fun _ _ _ _ _ => m_tests0) (fun _ _ _ _ _ => (m_callTy call_list_of s_list (by rfl) T.b_list (by decide +kernel) (m_acons (m_var (pv 15)) m_anil)))))
theorem os6_law (hP : PFa P FILE) (T : Txt P w K mg A) (cdv : Value) (Ar : Around) (outer : List Env) (s : Shared) (H : Hp) (E : XK) (hr : Room 3 (Ar.deeper (PyProof.Rows.envOfC "law" (defScope s_law) s.heap.objs.size (He.fAd K ("law", none)) cdv))) :
    PS (cxOf (L2.CX P w) P w K mg base ["_law_script", "_law_pool", "_law_picks", "_law_sizes", "_law_lists", "_law_k", "_law_kept", "_law_share", "_law_due_here", "_law_other", "_law_told", "_law_part", "_law_whole", "_law_wanted", "_law_pick", "_law_lanes", "_law_lane"] "law" (defScope s_law) (He.fAd K ("law", none)) cdv Ar outer s H E) ((defBody s_law).getD 6 (.Pass ⟨0, 0, 0, 0⟩)) (RS K (gOf K) (fun cls d _ H => E cls d H) (sAsg (eMk "Share" 1 0 2 m_Share___init__ gPos (aCons (e2 fIxA (eV 4) (eC (.int 0))) (aNil)) aNil) (gN 7))) := by
  have tk := takes_of (X := cxOf (L2.CX P w) P w K mg base ["_law_script", "_law_pool", "_law_picks", "_law_sizes", "_law_lists", "_law_k", "_law_kept", "_law_share", "_law_due_here", "_law_other", "_law_told", "_law_part", "_law_whole", "_law_wanted", "_law_pick", "_law_lanes", "_law_lane"] "law" (defScope s_law) (He.fAd K ("law", none)) cdv Ar outer s H E) rfl rfl rfl rfl
  exact (m_set (i := 7) sc_law.nd rfl (Or.inl rfl) (m_make (c := "Share") (f := m_Share___init__) (ps := ["self", "lanes"]) (C := He.ga K "Share") (fd := A.d_Share___init__) rfl GR.pos T.mk_Share (ok_Share___init__ hP T) (hr.mono (by decide)) (by rfl) T.g_Share (KBn.pos (T.B_Share___init__) rfl) tk (m_acons (m_ixA hr (m_var (pv 4)) m_int) m_anil)))
theorem os7_law (hP : PFa P FILE) (T : Txt P w K mg A) (cdv : Value) (Ar : Around) (outer : List Env) (s : Shared) (H : Hp) (E : XK) (hr : Room 3 (Ar.deeper (PyProof.Rows.envOfC "law" (defScope s_law) s.heap.objs.size (He.fAd K ("law", none)) cdv))) :
    PS (cxOf (L2.CX P w) P w K mg base ["_law_script", "_law_pool", "_law_picks", "_law_sizes", "_law_lists", "_law_k", "_law_kept", "_law_share", "_law_due_here", "_law_other", "_law_told", "_law_part", "_law_whole", "_law_wanted", "_law_pick", "_law_lanes", "_law_lane"] "law" (defScope s_law) (He.fAd K ("law", none)) cdv Ar outer s H E) ((defBody s_law).getD 7 (.Pass ⟨0, 0, 0, 0⟩)) (RS K (gOf K) (fun cls d _ H => E cls d H) (sExp (eMt isL fAppend (e2 fIxA (eV 4) (eC (.int 0))) (aCons (e2 fIxA (eV 1) (eC (.int 0))) (aNil))))) := by
  have tk := takes_of (X := cxOf (L2.CX P w) P w K mg base ["_law_script", "_law_pool", "_law_picks", "_law_sizes", "_law_lists", "_law_k", "_law_kept", "_law_share", "_law_due_here", "_law_other", "_law_told", "_law_part", "_law_whole", "_law_wanted", "_law_pick", "_law_lanes", "_law_lane"] "law" (defScope s_law) (He.fAd K ("law", none)) cdv Ar outer s H E) rfl rfl rfl rfl
  exact (m_expr (m_bm PySem.F.plainAttrs_list PySem.F.slot_list_append PySem.F.type_list_append mt_append t_lst s_append (m_ixA hr (m_var (pv 4)) m_int) (m_acons (m_ixA hr (m_var (pv 1)) m_int) m_anil)))
theorem os8_law (hP : PFa P FILE) (T : Txt P w K mg A) (cdv : Value) (Ar : Around) (outer : List Env) (s : Shared) (H : Hp) (E : XK) (hr : Room 3 (Ar.deeper (PyProof.Rows.envOfC "law" (defScope s_law) s.heap.objs.size (He.fAd K ("law", none)) cdv))) :
    PS (cxOf (L2.CX P w) P w K mg base ["_law_script", "_law_pool", "_law_picks", "_law_sizes", "_law_lists", "_law_k", "_law_kept", "_law_share", "_law_due_here", "_law_other", "_law_told", "_law_part", "_law_whole", "_law_wanted", "_law_pick", "_law_lanes", "_law_lane"] "law" (defScope s_law) (He.fAd K ("law", none)) cdv Ar outer s H E) ((defBody s_law).getD 8 (.Pass ⟨0, 0, 0, 0⟩)) (RS K (gOf K) (fun cls d _ H => E cls d H) (sAsg (call 1 m__law_due (aCons (e2 fIxA (eV 6) (eC (.int 0))) (aNil))) (gN 8))) := by
  have tk := takes_of (X := cxOf (L2.CX P w) P w K mg base ["_law_script", "_law_pool", "_law_picks", "_law_sizes", "_law_lists", "_law_k", "_law_kept", "_law_share", "_law_due_here", "_law_other", "_law_told", "_law_part", "_law_whole", "_law_wanted", "_law_pick", "_law_lanes", "_law_lane"] "law" (defScope s_law) (He.fAd K ("law", none)) cdv Ar outer s H E) rfl rfl rfl rfl
  exact (m_set (i := 8) sc_law.nd rfl (Or.inr rfl) (m_call (ok__law_due hP T) (hr.mono (by decide)) rfl T.g__law_due T.d__law_due.kp T.B__law_due tk (m_acons (m_ixA hr (m_var (pv 6)) m_int) m_anil)))
theorem os9_law (hP : PFa P FILE) (T : Txt P w K mg A) (cdv : Value) (Ar : Around) (outer : List Env) (s : Shared) (H : Hp) (E : XK) (hr : Room 3 (Ar.deeper (PyProof.Rows.envOfC "law" (defScope s_law) s.heap.objs.size (He.fAd K ("law", none)) cdv))) :
    PS (cxOf (L2.CX P w) P w K mg base ["_law_script", "_law_pool", "_law_picks", "_law_sizes", "_law_lists", "_law_k", "_law_kept", "_law_share", "_law_due_here", "_law_other", "_law_told", "_law_part", "_law_whole", "_law_wanted", "_law_pick", "_law_lanes", "_law_lane"] "law" (defScope s_law) (He.fAd K ("law", none)) cdv Ar outer s H E) ((defBody s_law).getD 9 (.Pass ⟨0, 0, 0, 0⟩)) (RS K (gOf K) (fun cls d _ H => E cls d H) (sIf (bNot (bT (call 3 m__law_holds (aCons (eV 7) (aCons (eV 8) (aCons (eV 1) (aNil))))))) (sRet (eC (.bl false))) (sNx))) := by
  have tk := takes_of (X := cxOf (L2.CX P w) P w K mg base ["_law_script", "_law_pool", "_law_picks", "_law_sizes", "_law_lists", "_law_k", "_law_kept", "_law_share", "_law_due_here", "_law_other", "_law_told", "_law_part", "_law_whole", "_law_wanted", "_law_pick", "_law_lanes", "_law_lane"] "law" (defScope s_law) (He.fAd K ("law", none)) cdv Ar outer s H E) rfl rfl rfl rfl
  exact (m_if (m_not (m_truth (m_call (ok__law_holds hP T) (hr.mono (by decide)) rfl T.g__law_holds T.d__law_holds.kp T.B__law_holds tk (m_acons (m_var (pv 7)) (m_acons (m_var (pv 8)) (m_acons (m_var (pv 1)) m_anil)))) (by intro _; rfl))) (m_sone (m_ret m_bl)) m_snil)
theorem os10_law (hP : PFa P FILE) (T : Txt P w K mg A) (cdv : Value) (Ar : Around) (outer : List Env) (s : Shared) (H : Hp) (E : XK) (hr : Room 3 (Ar.deeper (PyProof.Rows.envOfC "law" (defScope s_law) s.heap.objs.size (He.fAd K ("law", none)) cdv))) :
    PS (cxOf (L2.CX P w) P w K mg base ["_law_script", "_law_pool", "_law_picks", "_law_sizes", "_law_lists", "_law_k", "_law_kept", "_law_share", "_law_due_here", "_law_other", "_law_told", "_law_part", "_law_whole", "_law_wanted", "_law_pick", "_law_lanes", "_law_lane"] "law" (defScope s_law) (He.fAd K ("law", none)) cdv Ar outer s H E) ((defBody s_law).getD 10 (.Pass ⟨0, 0, 0, 0⟩)) (RS K (gOf K) (fun cls d _ H => E cls d H) (sAugO [("Share", m_Share___iadd__)] 7 (e2 fIxA (eV 4) (eC (.int 1))))) := by
  have tk := takes_of (X := cxOf (L2.CX P w) P w K mg base ["_law_script", "_law_pool", "_law_picks", "_law_sizes", "_law_lists", "_law_k", "_law_kept", "_law_share", "_law_due_here", "_law_other", "_law_told", "_law_part", "_law_whole", "_law_wanted", "_law_pick", "_law_lanes", "_law_lane"] "law" (defScope s_law) (He.fAd K ("law", none)) cdv Ar outer s H E) rfl rfl rfl rfl
  exact (m_augO (i := 7) (nm := "__iadd__") sc_law.nd rfl (Or.inl rfl) (m_ixA hr (m_var (pv 4)) m_int) (by decide +kernel) (k := 2) (List.forall_mem_cons.mpr ⟨⟨⟨⟨_, _, _, _, rfl, T.me_Share___iadd__, (ok_Share___iadd__ hP T).mono (by decide), T.B_Share___iadd__, rfl⟩⟩, _, rfl, T.sf_Share⟩, List.forall_mem_nil _⟩) (hr.mono (by decide)))
theorem os11_law (hP : PFa P FILE) (T : Txt P w K mg A) (cdv : Value) (Ar : Around) (outer : List Env) (s : Shared) (H : Hp) (E : XK) (hr : Room 3 (Ar.deeper (PyProof.Rows.envOfC "law" (defScope s_law) s.heap.objs.size (He.fAd K ("law", none)) cdv))) :
    PS (cxOf (L2.CX P w) P w K mg base ["_law_script", "_law_pool", "_law_picks", "_law_sizes", "_law_lists", "_law_k", "_law_kept", "_law_share", "_law_due_here", "_law_other", "_law_told", "_law_part", "_law_whole", "_law_wanted", "_law_pick", "_law_lanes", "_law_lane"] "law" (defScope s_law) (He.fAd K ("law", none)) cdv Ar outer s H E) ((defBody s_law).getD 11 (.Pass ⟨0, 0, 0, 0⟩)) (RS K (gOf K) (fun cls d _ H => E cls d H) (sAsg (call 1 m__law_due (aCons (e2 fAdd (eV 8) (e2 fIxA (eV 6) (eC (.int 1)))) (aNil))) (gN 8))) := by
  have tk := takes_of (X := cxOf (L2.CX P w) P w K mg base ["_law_script", "_law_pool", "_law_picks", "_law_sizes", "_law_lists", "_law_k", "_law_kept", "_law_share", "_law_due_here", "_law_other", "_law_told", "_law_part", "_law_whole", "_law_wanted", "_law_pick", "_law_lanes", "_law_lane"] "law" (defScope s_law) (He.fAd K ("law", none)) cdv Ar outer s H E) rfl rfl rfl rfl
  exact (m_set (i := 8) sc_law.nd rfl (Or.inr rfl) (m_call (ok__law_due hP T) (hr.mono (by decide)) rfl T.g__law_due T.d__law_due.kp T.B__law_due tk (m_acons (m_op o_add s_add (m_var (pv 8)) (m_ixA hr (m_var (pv 6)) m_int)) m_anil)))
theorem os12_law (hP : PFa P FILE) (T : Txt P w K mg A) (cdv : Value) (Ar : Around) (outer : List Env) (s : Shared) (H : Hp) (E : XK) (hr : Room 3 (Ar.deeper (PyProof.Rows.envOfC "law" (defScope s_law) s.heap.objs.size (He.fAd K ("law", none)) cdv))) :
    PS (cxOf (L2.CX P w) P w K mg base ["_law_script", "_law_pool", "_law_picks", "_law_sizes", "_law_lists", "_law_k", "_law_kept", "_law_share", "_law_due_here", "_law_other", "_law_told", "_law_part", "_law_whole", "_law_wanted", "_law_pick", "_law_lanes", "_law_lane"] "law" (defScope s_law) (He.fAd K ("law", none)) cdv Ar outer s H E) ((defBody s_law).getD 12 (.Pass ⟨0, 0, 0, 0⟩)) (RS K (gOf K) (fun cls d _ H => E cls d H) (sIf (bNot (bT (call 3 m__law_holds (aCons (eV 7) (aCons (eV 8) (aCons (eV 1) (aNil))))))) (sRet (eC (.bl false))) (sNx))) := by
  have tk := takes_of (X := cxOf (L2.CX P w) P w K mg base ["_law_script", "_law_pool", "_law_picks", "_law_sizes", "_law_lists", "_law_k", "_law_kept", "_law_share", "_law_due_here", "_law_other", "_law_told", "_law_part", "_law_whole", "_law_wanted", "_law_pick", "_law_lanes", "_law_lane"] "law" (defScope s_law) (He.fAd K ("law", none)) cdv Ar outer s H E) rfl rfl rfl rfl
  exact (m_if (m_not (m_truth (m_call (ok__law_holds hP T) (hr.mono (by decide)) rfl T.g__law_holds T.d__law_holds.kp T.B__law_holds tk (m_acons (m_var (pv 7)) (m_acons (m_var (pv 8)) (m_acons (m_var (pv 1)) m_anil)))) (by intro _; rfl))) (m_sone (m_ret m_bl)) m_snil)
theorem os13_law (hP : PFa P FILE) (T : Txt P w K mg A) (cdv : Value) (Ar : Around) (outer : List Env) (s : Shared) (H : Hp) (E : XK) (hr : Room 3 (Ar.deeper (PyProof.Rows.envOfC "law" (defScope s_law) s.heap.objs.size (He.fAd K ("law", none)) cdv))) :
    PS (cxOf (L2.CX P w) P w K mg base ["_law_script", "_law_pool", "_law_picks", "_law_sizes", "_law_lists", "_law_k", "_law_kept", "_law_share", "_law_due_here", "_law_other", "_law_told", "_law_part", "_law_whole", "_law_wanted", "_law_pick", "_law_lanes", "_law_lane"] "law" (defScope s_law) (He.fAd K ("law", none)) cdv Ar outer s H E) ((defBody s_law).getD 13 (.Pass ⟨0, 0, 0, 0⟩)) (RS K (gOf K) (fun cls d _ H => E cls d H) (sAugO [("Share", m_Share___isub__)] 7 (e2 fIxA (eV 4) (eC (.int 2))))) := by
  have tk := takes_of (X := cxOf (L2.CX P w) P w K mg base ["_law_script", "_law_pool", "_law_picks", "_law_sizes", "_law_lists", "_law_k", "_law_kept", "_law_share", "_law_due_here", "_law_other", "_law_told", "_law_part", "_law_whole", "_law_wanted", "_law_pick", "_law_lanes", "_law_lane"] "law" (defScope s_law) (He.fAd K ("law", none)) cdv Ar outer s H E) rfl rfl rfl rfl
  exact (m_augO (i := 7) (nm := "__isub__") sc_law.nd rfl (Or.inl rfl) (m_ixA hr (m_var (pv 4)) m_int) (by decide +kernel) (k := 1) (List.forall_mem_cons.mpr ⟨⟨⟨⟨_, _, _, _, rfl, T.me_Share___isub__, (ok_Share___isub__ hP T).mono (by decide), T.B_Share___isub__, rfl⟩⟩, _, rfl, T.sf_Share⟩, List.forall_mem_nil _⟩) (hr.mono (by decide)))
theorem os14_law (hP : PFa P FILE) (T : Txt P w K mg A) (cdv : Value) (Ar : Around) (outer : List Env) (s : Shared) (H : Hp) (E : XK) (hr : Room 3 (Ar.deeper (PyProof.Rows.envOfC "law" (defScope s_law) s.heap.objs.size (He.fAd K ("law", none)) cdv))) :
    PS (cxOf (L2.CX P w) P w K mg base ["_law_script", "_law_pool", "_law_picks", "_law_sizes", "_law_lists", "_law_k", "_law_kept", "_law_share", "_law_due_here", "_law_other", "_law_told", "_law_part", "_law_whole", "_law_wanted", "_law_pick", "_law_lanes", "_law_lane"] "law" (defScope s_law) (He.fAd K ("law", none)) cdv Ar outer s H E) ((defBody s_law).getD 14 (.Pass ⟨0, 0, 0, 0⟩)) (RS K (gOf K) (fun cls d _ H => E cls d H) (sAsg (eLc (eV 8) (gN 16) (ZT2_law) Z2_law [16]) (gN 8))) := by
  have tk := takes_of (X := cxOf (L2.CX P w) P w K mg base ["_law_script", "_law_pool", "_law_picks", "_law_sizes", "_law_lists", "_law_k", "_law_kept", "_law_share", "_law_due_here", "_law_other", "_law_told", "_law_part", "_law_whole", "_law_wanted", "_law_pick", "_law_lanes", "_law_lane"] "law" (defScope s_law) (He.fAd K ("law", none)) cdv Ar outer s H E) rfl rfl rfl rfl
  exact (m_set (i := 8) sc_law.nd rfl (Or.inr rfl) (m_lc rfl sc_law.nd (blkOk_by (own := [("_law_lane", 16)]) (by rfl)) (m_var (pv 8)) (gw_name (by decide)) (fun _ _ _ _ _ => (pg_name (i := 16) sc_law.nd rfl (Or.inl rfl))) (fun _ _ _ _ _ => (m_tests1 (m_cmpT (o_notInA hr.units) (s_notInA s_notIn) (m_var (pv 16)) (m_ixA hr (m_var (pv 6)) m_int) rfl))) (fun _ _ _ _ _ => (m_var (pv 16)))))
theorem os15_law (hP : PFa P FILE) (T : Txt P w K mg A) (cdv : Value) (Ar : Around) (outer : List Env) (s : Shared) (H : Hp) (E : XK) (hr : Room 3 (Ar.deeper (PyProof.Rows.envOfC "law" (defScope s_law) s.heap.objs.size (He.fAd K ("law", none)) cdv))) :
    PS (cxOf (L2.CX P w) P w K mg base ["_law_script", "_law_pool", "_law_picks", "_law_sizes", "_law_lists", "_law_k", "_law_kept", "_law_share", "_law_due_here", "_law_other", "_law_told", "_law_part", "_law_whole", "_law_wanted", "_law_pick", "_law_lanes", "_law_lane"] "law" (defScope s_law) (He.fAd K ("law", none)) cdv Ar outer s H E) ((defBody s_law).getD 15 (.Pass ⟨0, 0, 0, 0⟩)) (RS K (gOf K) (fun cls d _ H => E cls d H) (sIf (bOr (bNot (bT (call 3 m__law_holds (aCons (eV 7) (aCons (eV 8) (aCons (eV 1) (aNil))))))) (bB (e2 fNe (eSl (eV 4) (pIs (eC (.int 1))) (pNo)) (eSl (eV 6) (pIs (eC (.int 1))) (pNo))))) (sRet (eC (.bl false))) (sNx))) := by
  have tk := takes_of (X := cxOf (L2.CX P w) P w K mg base ["_law_script", "_law_pool", "_law_picks", "_law_sizes", "_law_lists", "_law_k", "_law_kept", "_law_share", "_law_due_here", "_law_other", "_law_told", "_law_part", "_law_whole", "_law_wanted", "_law_pick", "_law_lanes", "_law_lane"] "law" (defScope s_law) (He.fAd K ("law", none)) cdv Ar outer s H E) rfl rfl rfl rfl
  exact (m_if (PW.pt (m_or (m_not (m_truth (m_call (ok__law_holds hP T) (hr.mono (by decide)) rfl T.g__law_holds T.d__law_holds.kp T.B__law_holds tk (m_acons (m_var (pv 7)) (m_acons (m_var (pv 8)) (m_acons (m_var (pv 1)) m_anil)))) (by intro _; rfl))) (m_or1 (m_cmpT (op_neM hr.units) s_ne (m_slice (m_var (pv 4)) (m_pis m_int) m_pno) (m_slice (m_var (pv 6)) (m_pis m_int) m_pno) (nomark _))))) (m_sone (m_ret m_bl)) m_snil)
theorem os16_law (hP : PFa P FILE) (T : Txt P w K mg A) (cdv : Value) (Ar : Around) (outer : List Env) (s : Shared) (H : Hp) (E : XK) (hr : Room 3 (Ar.deeper (PyProof.Rows.envOfC "law" (defScope s_law) s.heap.objs.size (He.fAd K ("law", none)) cdv))) :
    PS (cxOf (L2.CX P w) P w K mg base ["_law_script", "_law_pool", "_law_picks", "_law_sizes", "_law_lists", "_law_k", "_law_kept", "_law_share", "_law_due_here", "_law_other", "_law_told", "_law_part", "_law_whole", "_law_wanted", "_law_pick", "_law_lanes", "_law_lane"] "law" (defScope s_law) (He.fAd K ("law", none)) cdv Ar outer s H E) ((defBody s_law).getD 16 (.Pass ⟨0, 0, 0, 0⟩)) (RS K (gOf K) (fun cls d _ H => E cls d H) (sAsg (eMk "Share" 1 0 2 m_Share___init__ gPos (aCons (e2 fIxA (eV 6) (eC (.int 1))) (aNil)) aNil) (gN 9))) := by
  have tk := takes_of (X := cxOf (L2.CX P w) P w K mg base ["_law_script", "_law_pool", "_law_picks", "_law_sizes", "_law_lists", "_law_k", "_law_kept", "_law_share", "_law_due_here", "_law_other", "_law_told", "_law_part", "_law_whole", "_law_wanted", "_law_pick", "_law_lanes", "_law_lane"] "law" (defScope s_law) (He.fAd K ("law", none)) cdv Ar outer s H E) rfl rfl rfl rfl
  exact (m_set (i := 9) sc_law.nd rfl (Or.inl rfl) (m_make (c := "Share") (f := m_Share___init__) (ps := ["self", "lanes"]) (C := He.ga K "Share") (fd := A.d_Share___init__) rfl GR.pos T.mk_Share (ok_Share___init__ hP T) (hr.mono (by decide)) (by rfl) T.g_Share (KBn.pos (T.B_Share___init__) rfl) tk (m_acons (m_ixA hr (m_var (pv 6)) m_int) m_anil)))
theorem os17_law (hP : PFa P FILE) (T : Txt P w K mg A) (cdv : Value) (Ar : Around) (outer : List Env) (s : Shared) (H : Hp) (E : XK) (hr : Room 3 (Ar.deeper (PyProof.Rows.envOfC "law" (defScope s_law) s.heap.objs.size (He.fAd K ("law", none)) cdv))) :
    PS (cxOf (L2.CX P w) P w K mg base ["_law_script", "_law_pool", "_law_picks", "_law_sizes", "_law_lists", "_law_k", "_law_kept", "_law_share", "_law_due_here", "_law_other", "_law_told", "_law_part", "_law_whole", "_law_wanted", "_law_pick", "_law_lanes", "_law_lane"] "law" (defScope s_law) (He.fAd K ("law", none)) cdv Ar outer s H E) ((defBody s_law).getD 17 (.Pass ⟨0, 0, 0, 0⟩)) (RS K (gOf K) (fun cls d _ H => E cls d H) (sAsg (eA fLst (aCons (eOwn [("Share", m_Share___le__)] false (eV 9) (eV 7)) (aCons (eOwn [("Share", m_Share___le__)] false (eV 7) (eV 9)) (aCons (eOwn [("Share", m_Share___eq__)] false (eV 9) (eV 7)) (aCons (eOwn [("Share", m_Share___le__)] false (eV 7) (eV 7)) (aCons (eOwn [("Share", m_Share___eq__)] false (eV 7) (eMk "Share" 1 0 2 m_Share___init__ gPos (aCons (eV 8) (aNil)) aNil)) (aNil))))))) (gN 10))) := by
  have tk := takes_of (X := cxOf (L2.CX P w) P w K mg base ["_law_script", "_law_pool", "_law_picks", "_law_sizes", "_law_lists", "_law_k", "_law_kept", "_law_share", "_law_due_here", "_law_other", "_law_told", "_law_part", "_law_whole", "_law_wanted", "_law_pick", "_law_lanes", "_law_lane"] "law" (defScope s_law) (He.fAd K ("law", none)) cdv Ar outer s H E) rfl rfl rfl rfl
  exact (m_set (i := 10) sc_law.nd rfl (Or.inl rfl) (m_lst (m_acons (m_own (k := 1) (fun _ _ => rfl) (List.forall_mem_cons.mpr ⟨⟨⟨_, _, _, _, rfl, T.me_Share___le__, (ok_Share___le__ hP T).mono (by decide), T.B_Share___le__, rfl⟩⟩, List.forall_mem_nil _⟩) (hr.mono (by decide)) (m_var (pv 9)) (m_var (pv 7)) (nomark _)) (m_acons (m_own (k := 1) (fun _ _ => rfl) (List.forall_mem_cons.mpr ⟨⟨⟨_, _, _, _, rfl, T.me_Share___le__, (ok_Share___le__ hP T).mono (by decide), T.B_Share___le__, rfl⟩⟩, List.forall_mem_nil _⟩) (hr.mono (by decide)) (m_var (pv 7)) (m_var (pv 9)) (nomark _)) (m_acons (m_own (k := 1) (fun _ _ => rfl) (List.forall_mem_cons.mpr ⟨⟨⟨_, _, _, _, rfl, T.me_Share___eq__, (ok_Share___eq__ hP T).mono (by decide), T.B_Share___eq__, rfl⟩⟩, List.forall_mem_nil _⟩) (hr.mono (by decide)) (m_var (pv 9)) (m_var (pv 7)) (nomark _)) (m_acons (m_own (k := 1) (fun _ _ => rfl) (List.forall_mem_cons.mpr ⟨⟨⟨_, _, _, _, rfl, T.me_Share___le__, (ok_Share___le__ hP T).mono (by decide), T.B_Share___le__, rfl⟩⟩, List.forall_mem_nil _⟩) (hr.mono (by decide)) (m_var (pv 7)) (m_var (pv 7)) (nomark _)) (m_acons (m_own (k := 1) (fun _ _ => rfl) (List.forall_mem_cons.mpr ⟨⟨⟨_, _, _, _, rfl, T.me_Share___eq__, (ok_Share___eq__ hP T).mono (by decide), T.B_Share___eq__, rfl⟩⟩, List.forall_mem_nil _⟩) (hr.mono (by decide)) (m_var (pv 7)) (m_make (c := "Share") (f := m_Share___init__) (ps := ["self", "lanes"]) (C := He.ga K "Share") (fd := A.d_Share___init__) rfl GR.pos T.mk_Share (ok_Share___init__ hP T) (hr.mono (by decide)) (by rfl) T.g_Share (KBn.pos (T.B_Share___init__) rfl) tk (m_acons (m_var (pv 8)) m_anil)) (nomark _)) m_anil)))))))
theorem os18_law (hP : PFa P FILE) (T : Txt P w K mg A) (cdv : Value) (Ar : Around) (outer : List Env) (s : Shared) (H : Hp) (E : XK) (hr : Room 3 (Ar.deeper (PyProof.Rows.envOfC "law" (defScope s_law) s.heap.objs.size (He.fAd K ("law", none)) cdv))) :
    PS (cxOf (L2.CX P w) P w K mg base ["_law_script", "_law_pool", "_law_picks", "_law_sizes", "_law_lists", "_law_k", "_law_kept", "_law_share", "_law_due_here", "_law_other", "_law_told", "_law_part", "_law_whole", "_law_wanted", "_law_pick", "_law_lanes", "_law_lane"] "law" (defScope s_law) (He.fAd K ("law", none)) cdv Ar outer s H E) ((defBody s_law).getD 18 (.Pass ⟨0, 0, 0, 0⟩)) (RS K (gOf K) (fun cls d _ H => E cls d H) (sAsg (e2 fEq (eLc (e2 fIxA (eV 6) (eC (.int 1))) (gN 16) (ZT4_law) Z4_law [16]) (eA fLst (aNil))) (gN 11))) := by
  have tk := takes_of (X := cxOf (L2.CX P w) P w K mg base ["_law_script", "_law_pool", "_law_picks", "_law_sizes", "_law_lists", "_law_k", "_law_kept", "_law_share", "_law_due_here", "_law_other", "_law_told", "_law_part", "_law_whole", "_law_wanted", "_law_pick", "_law_lanes", "_law_lane"] "law" (defScope s_law) (He.fAd K ("law", none)) cdv Ar outer s H E) rfl rfl rfl rfl
  exact (m_set (i := 11) sc_law.nd rfl (Or.inl rfl) (m_cmp (op_eqM hr.units) s_eq (m_lc rfl sc_law.nd (blkOk_by (own := [("_law_lane", 16)]) (by rfl)) (m_ixA hr (m_var (pv 6)) m_int) (gw_name (by decide)) (fun _ _ _ _ _ => (pg_name (i := 16) sc_law.nd rfl (Or.inl rfl))) (fun _ _ _ _ _ => (m_tests1 (m_cmpT (o_notInA hr.units) (s_notInA s_notIn) (m_var (pv 16)) (m_var (pv 8)) rfl))) (fun _ _ _ _ _ => (m_var (pv 16)))) (m_lst m_anil) (nomark _)))
theorem os19_law (hP : PFa P FILE) (T : Txt P w K mg A) (cdv : Value) (Ar : Around) (outer : List Env) (s : Shared) (H : Hp) (E : XK) (hr : Room 3 (Ar.deeper (PyProof.Rows.envOfC "law" (defScope s_law) s.heap.objs.size (He.fAd K ("law", none)) cdv))) :
    PS (cxOf (L2.CX P w) P w K mg base ["_law_script", "_law_pool", "_law_picks", "_law_sizes", "_law_lists", "_law_k", "_law_kept", "_law_share", "_law_due_here", "_law_other", "_law_told", "_law_part", "_law_whole", "_law_wanted", "_law_pick", "_law_lanes", "_law_lane"] "law" (defScope s_law) (He.fAd K ("law", none)) cdv Ar outer s H E) ((defBody s_law).getD 19 (.Pass ⟨0, 0, 0, 0⟩)) (RS K (gOf K) (fun cls d _ H => E cls d H) (sAsg (e2 fEq (eLc (eV 8) (gN 16) (ZT6_law) Z6_law [16]) (eA fLst (aNil))) (gN 12))) := by
  have tk := takes_of (X := cxOf (L2.CX P w) P w K mg base ["_law_script", "_law_pool", "_law_picks", "_law_sizes", "_law_lists", "_law_k", "_law_kept", "_law_share", "_law_due_here", "_law_other", "_law_told", "_law_part", "_law_whole", "_law_wanted", "_law_pick", "_law_lanes", "_law_lane"] "law" (defScope s_law) (He.fAd K ("law", none)) cdv Ar outer s H E) rfl rfl rfl rfl
  exact (m_set (i := 12) sc_law.nd rfl (Or.inl rfl) (m_cmp (op_eqM hr.units) s_eq (m_lc rfl sc_law.nd (blkOk_by (own := [("_law_lane", 16)]) (by rfl)) (m_var (pv 8)) (gw_name (by decide)) (fun _ _ _ _ _ => (pg_name (i := 16) sc_law.nd rfl (Or.inl rfl))) (fun _ _ _ _ _ => (m_tests1 (m_cmpT (o_notInA hr.units) (s_notInA s_notIn) (m_var (pv 16)) (m_ixA hr (m_var (pv 6)) m_int) rfl))) (fun _ _ _ _ _ => (m_var (pv 16)))) (m_lst m_anil) (nomark _)))
theorem os20_law (hP : PFa P FILE) (T : Txt P w K mg A) (cdv : Value) (Ar : Around) (outer : List Env) (s : Shared) (H : Hp) (E : XK) (hr : Room 3 (Ar.deeper (PyProof.Rows.envOfC "law" (defScope s_law) s.heap.objs.size (He.fAd K ("law", none)) cdv))) :
    PS (cxOf (L2.CX P w) P w K mg base ["_law_script", "_law_pool", "_law_picks", "_law_sizes", "_law_lists", "_law_k", "_law_kept", "_law_share", "_law_due_here", "_law_other", "_law_told", "_law_part", "_law_whole", "_law_wanted", "_law_pick", "_law_lanes", "_law_lane"] "law" (defScope s_law) (He.fAd K ("law", none)) cdv Ar outer s H E) ((defBody s_law).getD 20 (.Pass ⟨0, 0, 0, 0⟩)) (RS K (gOf K) (fun cls d _ H => E cls d H) (sAsg (eA fLst (aCons (eV 11) (aCons (eV 12) (aCons (eAnd (eV 11) (eV 12)) (aCons (eC (.bl true)) (aCons (eC (.bl true)) (aNil))))))) (gN 13))) := by
  have tk := takes_of (X := cxOf (L2.CX P w) P w K mg base ["_law_script", "_law_pool", "_law_picks", "_law_sizes", "_law_lists", "_law_k", "_law_kept", "_law_share", "_law_due_here", "_law_other", "_law_told", "_law_part", "_law_whole", "_law_wanted", "_law_pick", "_law_lanes", "_law_lane"] "law" (defScope s_law) (He.fAd K ("law", none)) cdv Ar outer s H E) rfl rfl rfl rfl
  exact (m_set (i := 13) sc_law.nd rfl (Or.inl rfl) (m_lst (m_acons (m_var (pv 11)) (m_acons (m_var (pv 12)) (m_acons (m_eand (m_var (pv 11)) (m_eone (m_var (pv 12)))) (m_acons m_bl (m_acons m_bl m_anil)))))))
theorem os21_law (hP : PFa P FILE) (T : Txt P w K mg A) (cdv : Value) (Ar : Around) (outer : List Env) (s : Shared) (H : Hp) (E : XK) (hr : Room 3 (Ar.deeper (PyProof.Rows.envOfC "law" (defScope s_law) s.heap.objs.size (He.fAd K ("law", none)) cdv))) :
    PS (cxOf (L2.CX P w) P w K mg base ["_law_script", "_law_pool", "_law_picks", "_law_sizes", "_law_lists", "_law_k", "_law_kept", "_law_share", "_law_due_here", "_law_other", "_law_told", "_law_part", "_law_whole", "_law_wanted", "_law_pick", "_law_lanes", "_law_lane"] "law" (defScope s_law) (He.fAd K ("law", none)) cdv Ar outer s H E) ((defBody s_law).getD 21 (.Pass ⟨0, 0, 0, 0⟩)) (RS K (gOf K) (fun cls d _ H => E cls d H) (sForR rng1 (aCons (eC (.int 5)) (aNil)) (gN 5) (L1_law))) := by
  have tk := takes_of (X := cxOf (L2.CX P w) P w K mg base ["_law_script", "_law_pool", "_law_picks", "_law_sizes", "_law_lists", "_law_k", "_law_kept", "_law_share", "_law_due_here", "_law_other", "_law_told", "_law_part", "_law_whole", "_law_wanted", "_law_pick", "_law_lanes", "_law_lane"] "law" (defScope s_law) (He.fAd K ("law", none)) cdv Ar outer s H E) rfl rfl rfl rfl
  exact (m_forR1 (passes_of rfl) rfl (by rfl) T.b_range (m_acons m_int m_anil) (pg_name (i := 5) sc_law.nd rfl (Or.inl rfl)) gs_name (m_sone (m_if (PW.pt (m_or (m_not (m_truth (m_callB call_isi (s_isi T.isi) (by rfl) T.b_isinstance (by decide +kernel) (m_acons (m_ixA hr (m_var (pv 10)) (m_var (pv 5))) (m_acons (m_const (pe_bltn (v := .ty "bool") (by rfl) T.b_bool (by decide +kernel) rfl) fun _ _ => by simp [VR]) m_anil))) (by intro _; rfl))) (m_or1 (m_cmpT (op_neM hr.units) s_ne (m_ixA hr (m_var (pv 10)) (m_var (pv 5))) (m_ixA hr (m_var (pv 13)) (m_var (pv 5))) (nomark _))))) (m_sone (m_ret m_bl)) m_snil)))
theorem os22_law (hP : PFa P FILE) (T : Txt P w K mg A) (cdv : Value) (Ar : Around) (outer : List Env) (s : Shared) (H : Hp) (E : XK) (hr : Room 3 (Ar.deeper (PyProof.Rows.envOfC "law" (defScope s_law) s.heap.objs.size (He.fAd K ("law", none)) cdv))) :
    PS (cxOf (L2.CX P w) P w K mg base ["_law_script", "_law_pool", "_law_picks", "_law_sizes", "_law_lists", "_law_k", "_law_kept", "_law_share", "_law_due_here", "_law_other", "_law_told", "_law_part", "_law_whole", "_law_wanted", "_law_pick", "_law_lanes", "_law_lane"] "law" (defScope s_law) (He.fAd K ("law", none)) cdv Ar outer s H E) ((defBody s_law).getD 22 (.Pass ⟨0, 0, 0, 0⟩)) (RS K (gOf K) (fun cls d _ H => E cls d H) (sRet (call 3 m__law_holds (aCons (eV 9) (aCons (call 1 m__law_due (aCons (e2 fIxA (eV 6) (eC (.int 1))) (aNil))) (aCons (eV 1) (aNil))))))) := by
  have tk := takes_of (X := cxOf (L2.CX P w) P w K mg base ["_law_script", "_law_pool", "_law_picks", "_law_sizes", "_law_lists", "_law_k", "_law_kept", "_law_share", "_law_due_here", "_law_other", "_law_told", "_law_part", "_law_whole", "_law_wanted", "_law_pick", "_law_lanes", "_law_lane"] "law" (defScope s_law) (He.fAd K ("law", none)) cdv Ar outer s H E) rfl rfl rfl rfl
  exact (m_ret (m_call (ok__law_holds hP T) (hr.mono (by decide)) rfl T.g__law_holds T.d__law_holds.kp T.B__law_holds tk (m_acons (m_var (pv 9)) (m_acons (m_call (ok__law_due hP T) (hr.mono (by decide)) rfl T.g__law_due T.d__law_due.kp T.B__law_due tk (m_acons (m_ixA hr (m_var (pv 6)) m_int) m_anil)) (m_acons (m_var (pv 1)) m_anil)))))
theorem ok_law (hP : PFa P FILE) (T : Txt P w K mg A) : FnOk P w K mg base (L2.CX P w) 4 (He.fAd K ("law", none)) A.d_law ["_law_script"] (SpM K (gOf K) 1 m_law) :=
  fn_mD (N := ["_law_script", "_law_pool", "_law_picks", "_law_sizes", "_law_lists", "_law_k", "_law_kept", "_law_share", "_law_due_here", "_law_other", "_law_told", "_law_part", "_law_whole", "_law_wanted", "_law_pick", "_law_lanes", "_law_lane"]) T.d_law sc_law fun cdv Ar outer s H E hr => by
    have tk := takes_of (X := cxOf (L2.CX P w) P w K mg base ["_law_script", "_law_pool", "_law_picks", "_law_sizes", "_law_lists", "_law_k", "_law_kept", "_law_share", "_law_due_here", "_law_other", "_law_told", "_law_part", "_law_whole", "_law_wanted", "_law_pick", "_law_lanes", "_law_lane"] "law" (defScope s_law) (He.fAd K ("law", none)) cdv Ar outer s H E) rfl rfl rfl rfl
    exact (m_scons (os0_law hP T cdv Ar outer s H E hr)
      (m_scons (os1_law hP T cdv Ar outer s H E hr)
      (m_scons (os2_law hP T cdv Ar outer s H E hr)
      (m_scons (os3_law hP T cdv Ar outer s H E hr)
      (m_scons (os4_law hP T cdv Ar outer s H E hr)
      (m_scons (os5_law hP T cdv Ar outer s H E hr)
      (m_scons (os6_law hP T cdv Ar outer s H E hr)
      (m_scons (os7_law hP T cdv Ar outer s H E hr)
      (m_scons (os8_law hP T cdv Ar outer s H E hr)
      (m_scons (os9_law hP T cdv Ar outer s H E hr)
      (m_scons (os10_law hP T cdv Ar outer s H E hr)
      (m_scons (os11_law hP T cdv Ar outer s H E hr)
      (m_scons (os12_law hP T cdv Ar outer s H E hr)
      (m_scons (os13_law hP T cdv Ar outer s H E hr)
      (m_scons (os14_law hP T cdv Ar outer s H E hr)
      (m_scons (os15_law hP T cdv Ar outer s H E hr)
      (m_scons (os16_law hP T cdv Ar outer s H E hr)
      (m_scons (os17_law hP T cdv Ar outer s H E hr)
      (m_scons (os18_law hP T cdv Ar outer s H E hr)
      (m_scons (os19_law hP T cdv Ar outer s H E hr)
      (m_scons (os20_law hP T cdv Ar outer s H E hr)
      (m_scons (os21_law hP T cdv Ar outer s H E hr)
      (m_sone (os22_law hP T cdv Ar outer s H E hr))))))))))))))))))))))))
end
end Lw
namespace Lw
open PySem L2 Mo
theorem cell_eq (ns : List Int) (k : Nat) (h : MH) : m__law_cell [.frl (ns.map MV.int), .int k] h = .ok (.int (ns.getD k 0)) h := by
  refine gc_okE ?_ rfl
  by_cases hk : k < ns.length
  · simp [b__law_cell, mDef_ev, eV, hk, atI_ofNat]
  · simp [b__law_cell, mDef_ev, eV, hk, List.getElem?_eq_none (Nat.le_of_not_lt hk)]
theorem cell_ex (ns : List Int) (k : Nat) : ∃ c : Int, ∀ h, m__law_cell [.frl (ns.map MV.int), .int k] h = .ok (.int c) h := ⟨_, fun h => cell_eq ns k h⟩
def mxP (n k : Int) : Int := ((n * 48271 + k * 69621 + 11) % 2147483647) * (((n * 48271 + k * 69621 + 11) % 2147483647) / 1024 + 16807 * k + 5) % 2147483399 / 16
theorem mixed_eq (n k : Int) (h : MH) : m__law_mixed [.int n, .int k] h = .ok (.int (mxP n k)) h := by
  refine gc_okE ?_ rfl
  have h0 : 0 ≤ (n * 48271 + k * 69621 + 11) % 2147483647 := Int.emod_nonneg _ (by decide)
  have h1 : (n * 48271 + k * 69621 + 11) % 2147483647 < 2147483647 := Int.emod_lt_of_pos _ (by decide)
  have h2 : -18446744073709551616 < (n * 48271 + k * 69621 + 11) % 2147483647 ∧ (n * 48271 + k * 69621 + 11) % 2147483647 < 18446744073709551616 := by omega
  simp [b__law_mixed, mDef_ev, eV, h2, mxP]
def rowGo (c base : Int) : Nat → Nat → Int → List Int
  | 0, _, _ => []
  | n + 1, k, r => if 0 < r then (r % base) :: rowGo c base n (k + 1) (r / base) else (mxP c k % base) :: rowGo c base n (k + 1) r
theorem rowGo_length (c base : Int) : ∀ n k r, (rowGo c base n k r).length = n
  | 0, _, _ => rfl
  | n + 1, k, r => by
    unfold rowGo
    split <;> simp [rowGo_length c base n]
theorem rowGo_lt (c base : Int) (hb : 0 < base) : ∀ n k r, ∀ x ∈ rowGo c base n k r, 0 ≤ x ∧ x < base
  | 0, _, _ => by simp [rowGo]
  | n + 1, k, r => by
    unfold rowGo
    split <;> (intro x hx; rcases List.mem_cons.mp hx with e | hx)
    · subst e; exact ⟨Int.emod_nonneg _ (by omega), Int.emod_lt_of_pos _ hb⟩
    · exact rowGo_lt c base hb n _ _ x hx
    · subst e; exact ⟨Int.emod_nonneg _ (by omega), Int.emod_lt_of_pos _ hb⟩
    · exact rowGo_lt c base hb n _ _ x hx
theorem fMod_ev {i j : Int} {h : MH} : fMod (.int i) (.int j) h = if 0 < j then some (.int (i % j), h) else none := rfl
theorem row_loop (c base : Int) (cnt : MV) (n : Nat) (h : MH) (hb : 0 < base) (hb2 : base < 1073741824) : ∀ (m i : Nat) (r : Int) (xs : List Int) (x5 : Option MV), i + m = n → xs.length + m < SZ →
    ∃ r' x5', forG (getR 0 n) (gN 5) L0__law_row (m + 1) i [some (.int c), some cnt, some (.int base), some (.ref h.length), some (.int r), x5] (h ++ [.lst (xs.map .int)]) =
      .nx [some (.int c), some cnt, some (.int base), some (.ref h.length), some (.int r'), x5'] (h ++ [.lst ((xs ++ rowGo c base m i r).map .int)]) := by
  intro m
  induction m with
  | zero =>
    intro i r xs x5 hi hl
    refine ⟨r, x5, ?_⟩
    rw [forG_ev]
    simp [rowGo, show ¬ i < n by omega]
  | succ m ih =>
    intro i r xs x5 hi hl
    rw [forG_ev]
    have hl2 : xs.length < SZ := by omega
    have hl3 : xs.length < 16777216 := hl2
    by_cases hr : 0 < r
    · obtain ⟨r', x', e⟩ := ih (i + 1) (r / base) (xs ++ [r % base]) (some (.int i)) (by omega) (by simp; omega)
      refine ⟨r', x', ?_⟩
      rw [getR_ev, if_pos (show i < n by omega), KF_go]
      conv => lhs; arg 1; unfold L0__law_row
      simp [eV, hr, isL_ref, at_app0, fAppend_ref, hl3, set_app0, fMod_ev, hb, hb2]
      simp at e
      rw [e]
      simp [rowGo, hr]
    · obtain ⟨r', x', e⟩ := ih (i + 1) r (xs ++ [mxP c i % base]) (some (.int i)) (by omega) (by simp; omega)
      refine ⟨r', x', ?_⟩
      rw [getR_ev, if_pos (show i < n by omega), KF_go]
      conv => lhs; arg 1; unfold L0__law_row
      simp [eV, hr, isL_ref, at_app0, fAppend_ref, hl3, set_app0, fMod_ev, hb, hb2, mixed_eq]
      simp at e
      rw [e]
      simp [rowGo, hr]
def rowP (c : Int) (n : Nat) (base : Int) : List Int := rowGo c base n 0 (if (if c < 0 then -c else c) < 1000000000000000000 then 0 else (if c < 0 then -c else c))
theorem row_key (c : Int) (n : Nat) (base : Int) (h : MH) (hn : n < 1000) (hb : 0 < base) (hb2 : base < 1073741824) : ∀ r x5, ∃ r' x5', forG (getR 0 n) (gN 5) L0__law_row (n + 1) 0 [some (.int c), some (.int n), some (.int base), some (.ref h.length), some (.int r), x5] (h ++ [.lst []]) =
      .nx [some (.int c), some (.int n), some (.int base), some (.ref h.length), some (.int r'), x5'] (h ++ [.lst ((rowGo c base n 0 r).map .int)]) := fun r x5 => by
    have h1 : ([] : List Int).length + n < SZ := by
      have : ([] : List Int).length = 0 := rfl
      rw [this]
      have : SZ = 16777216 := rfl
      omega
    have := row_loop c base (.int n) n h hb hb2 n 0 r [] x5 (by omega) h1
    simpa only [List.nil_append, List.map_nil] using this
theorem row_pre (c : Int) (n : Nat) (base : Int) (h : MH) (b : MS) :
  sSeq (sAsg (eA fLst (aNil)) (gN 3))
    (sSeq (sAsg (eA fAbs (aCons (eV 0) (aNil))) (gN 4))
    (sSeq (sIf (bB (e2 fLt (eV 4) (e2 fPow (eC (.int 10)) (eC (.int 18))))) (sAsg (eC (.int 0)) (gN 4)) (sNx)) b)) [some (.int c), some (.int n), some (.int base), none, none, none] h =
   b [some (.int c), some (.int n), some (.int base), some (.ref h.length), some (.int (if (if c < 0 then -c else c) < 1000000000000000000 then 0 else (if c < 0 then -c else c))), none] (h ++ [.lst []]) := by
  by_cases hc : (if c < 0 then -c else c) < 1000000000000000000 <;> simp [eV, hc]
theorem row_post (c : Int) (n : Nat) (base r : Int) (h : MH) (hn : n < 1000) (hb : 0 < base) (hb2 : base < 1073741824) :
    sSeq (sForR rng1 (aCons (eV 1) (aNil)) (gN 5) L0__law_row) (sRet (eV 3)) [some (.int c), some (.int n), some (.int base), some (.ref h.length), some (.int r), none] (h ++ [.lst []]) = .rt (.ref h.length) (h ++ [.lst ((rowGo c base n 0 r).map .int)]) := by
  obtain ⟨r', x', e⟩ := row_key c n base h hn hb hb2 r none
  have hr : -4611686018427387904 ≤ (n : Int) ∧ (n : Int) < 4611686018427387904 := by omega
  simp [eV, KFR_1, hr, e]
theorem row_eq (c : Int) (n : Nat) (base : Int) (h : MH) (hn : n < 1000) (hb : 0 < base) (hb2 : base < 1073741824) : m__law_row [.int c, .int n, .int base] h = .ok (.ref h.length) (h ++ [.lst ((rowP c n base).map .int)]) := by
  refine gc_new (k := 0) (g := [.lst ((rowP c n base).map .int)]) (o := .lst ((rowP c n base).map .int)) ?_ rfl (norefs_int _)
  rw [mDef_ev]
  unfold b__law_row
  show KD (_ : SR) = _
  have e1 := row_pre c n base h (sSeq (sForR rng1 (aCons (eV 1) (aNil)) (gN 5) L0__law_row) (sRet (eV 3)))
  have e2 := row_post c n base (if (if c < 0 then -c else c) < 1000000000000000000 then 0 else (if c < 0 then -c else c)) h hn hb hb2
  exact (congrArg KD (e1.trans e2)).trans rfl
end Lw
/-! the law's helper _law_names: drawn names -/
namespace Lw
open PySem L2 Mo
def ltr (i : Int) : Str := ⟨#[97 + i.toNat]⟩
def dI (d : List Int) (k : Nat) : Int := d.getD k 0
def bodyP (d : List Int) : Str := Txt.join "" ((d.take 7).map ltr)
def nmAt (d : List Int) (k : Nat) : Str :=
  if dI d 8 % 2 = 0 then
    cutS (bodyP d) none (some (dI d 10 % (dI d 9 % 8 + 1))) ++ ltr ((dI d 11 + k * (1 + dI d 7 % 4)) % 26) ++ cutS (bodyP d) (some (dI d 10 % (dI d 9 % 8 + 1))) (some (dI d 9 % 8))
  else cutS (bodyP d ++ ltr (dI d 7)) none (some (1 + (dI d 9 + k) % 8))
def namesP (c : Int) (n : Nat) : List Str := (List.range n).map (nmAt (rowP c 12 26))
abbrev abc : Str := Str.ofString "abcdefghijklmnopqrstuvwxyz"
theorem abc_at : ∀ n : Fin 26, atI abc.cps.toList (n.val : Int) = some (97 + n.val) := by decide +kernel
theorem abc_len : abc.length ≤ SZ := by decide +kernel
theorem ix_abc {d : Int} {h : MH} (h0 : 0 ≤ d) (h1 : d < 26) : fIx (.str abc) (.int d) h = some (.str (ltr d), h) := by
  obtain ⟨n, rfl⟩ := Int.eq_ofNat_of_zero_le h0
  have hn : n < 26 := by omega
  have e := abc_at ⟨n, hn⟩
  simp only at e
  simp only [fIx, abc_len, if_true]
  rw [e]
  rfl
theorem ltr_len (d : Int) : (ltr d).length = 1 := rfl
theorem strsM_map : ∀ l : List Str, strsM (l.map MV.str) = some l
  | [] => rfl
  | x :: l => by simp [strsM, strsM_map l]
theorem str_app_len (a b : Str) : (a ++ b).length = a.length + b.length := by
  show (a.cps ++ b.cps).size = _
  rw [Array.size_append]; rfl
theorem join0_len : ∀ l : List Str, (Txt.join "" l).length = (l.map (·.length)).sum := by
  intro l
  unfold Txt.join
  rw [PySem.StrLaws.glued_eq_join]
  induction l with
  | nil => rfl
  | cons x l ih =>
    cases l with
    | nil => simp [Str.join]
    | cons y l =>
      simp only [Str.join, str_app_len, ih]
      simp
      rfl
theorem bodyP_len (d : List Int) : (bodyP d).length ≤ 7 := by
  unfold bodyP
  rw [join0_len]
  have : ∀ l : List Int, ((l.map ltr).map (·.length)).sum = l.length := by
    intro l
    induction l with
    | nil => rfl
    | cons x l ih => simp only [List.map_cons, List.sum_cons, ih, ltr_len, List.length_cons]; omega
  rw [this, List.length_take]
  omega
theorem len12 {d : List Int} (h : d.length = 12) : ∃ d0 d1 d2 d3 d4 d5 d6 d7 d8 d9 d10 d11, d = [d0, d1, d2, d3, d4, d5, d6, d7, d8, d9, d10, d11] := by
  match d, h with
  | [d0, d1, d2, d3, d4, d5, d6, d7, d8, d9, d10, d11], _ => exact ⟨_, _, _, _, _, _, _, _, _, _, _, _, rfl⟩
theorem fSl_ints {h : MH} {i : Nat} {xs : List MV} {n : Nat} (e : h[i]? = some (.lst xs)) : fSl (.ref i) none (some (n : Int)) h = some (.ref h.length, h ++ [.lst (xs.take n)]) := by
  rw [fSl_ref e]
  unfold cutM
  rw [HT.sIx_none, HT.sIx_nat]
  simp only [List.drop_zero, Nat.sub_zero]
  have : xs.take (min n xs.length) = xs.take n := by
    by_cases hn : n ≤ xs.length
    · rw [Nat.min_eq_left hn]
    · rw [Nat.min_eq_right (by omega), List.take_of_length_le (Nat.le_refl _), List.take_of_length_le (by omega)]
  rw [this]
section
variable {c : Int} {h : MH}
def in26 (x : Int) : Prop := 0 ≤ x ∧ x < 26
theorem dI_26 {d : List Int} (hb : ∀ x ∈ d, in26 x) (k : Nat) : in26 (dI d k) := by
  unfold dI
  by_cases hk : k < d.length
  · rw [List.getD_eq_getElem?_getD, List.getElem?_eq_getElem hk]; exact hb _ (List.getElem_mem hk)
  · rw [List.getD_eq_getElem?_getD, List.getElem?_eq_none (by omega)]; exact ⟨by decide, by decide⟩
theorem ixA_row {H : MH} {R : Nat} {d : List Int} (hR : H[R]? = some (.lst (d.map .int))) (k : Nat) (hk : k < d.length) : fIxA (.ref R) (.int k) H = some (.int (dI d k), H) := by
  rw [fIxA_ev, if_neg (by rw [isDM_lst hR]; decide), fIx_ref hR, atI_ofNat, List.getElem?_map, List.getElem?_eq_getElem hk]
  unfold dI
  rw [List.getD_eq_getElem?_getD, List.getElem?_eq_getElem hk]
  rfl
theorem ixA_abc {d : Int} {h : MH} (h0 : in26 d) : fIxA (.str abc) (.int d) h = some (.str (ltr d), h) := by
  rw [fIxA_ev, if_neg (by simp [isDM]), ix_abc h0.1 h0.2]
theorem nm_turn (d : List Int) (hd : d.length = 12) (hb : ∀ x ∈ d, in26 x) (H : MH) (R F : Nat) (hR : H[R]? = some (.lst (d.map .int))) (B : Str) (hB : bodyP d = B) (x1 : MV) (k : Nat) (hk : k < 1000) (acc : List Str) (hF : H[F]? = some (.lst (acc.map .str))) (hl : acc.length < 1000) (x7 x8 x9 x10 : Option MV) :
    ∃ y7 y8 y9, L0__law_names [some (.int c), some x1, some (.str abc), some (.ref R), some (.str B), some (.ref F), some (.int k), x7, x8, x9, x10] H =
      .nx [some (.int c), some x1, some (.str abc), some (.ref R), some (.str B), some (.ref F), some (.int k), y7, y8, y9, x10] (H.set F (.lst ((acc ++ [nmAt d k]).map .str))) := by
  have hbl : B.length ≤ 7 := by rw [← hB]; exact bodyP_len _
  have hl2 : (acc.map MV.str).length < SZ := by rw [List.length_map]; have : SZ = 16777216 := rfl; omega
  have D7 : fIxA (.ref R) (.int 7) H = some (.int (dI d 7), H) := ixA_row hR 7 (by omega)
  have D8 : fIxA (.ref R) (.int 8) H = some (.int (dI d 8), H) := ixA_row hR 8 (by omega)
  have D9 : fIxA (.ref R) (.int 9) H = some (.int (dI d 9), H) := ixA_row hR 9 (by omega)
  have D10 : fIxA (.ref R) (.int 10) H = some (.int (dI d 10), H) := ixA_row hR 10 (by omega)
  have D11 : fIxA (.ref R) (.int 11) H = some (.int (dI d 11), H) := ixA_row hR 11 (by omega)
  have nE : nmAt d k = if dI d 8 % 2 = 0 then
    cutS B none (some (dI d 10 % (dI d 9 % 8 + 1))) ++ ltr ((dI d 11 + k * (1 + dI d 7 % 4)) % 26) ++ cutS B (some (dI d 10 % (dI d 9 % 8 + 1))) (some (dI d 9 % 8))
    else cutS (B ++ ltr (dI d 7)) none (some (1 + (dI d 9 + k) % 8)) := by rw [← hB]; rfl
  have h7 : in26 (dI d 7) := dI_26 hb 7
  generalize dI d 7 = d7 at *
  generalize dI d 8 = d8 at *
  generalize dI d 9 = d9 at *
  generalize dI d 10 = d10 at *
  generalize dI d 11 = d11 at *
  generalize nmAt d k = N at *
  have a0 : 0 ≤ d9 % 8 := Int.emod_nonneg _ (by decide)
  have a1 : 0 < d9 % 8 + 1 := by omega
  have a2 : in26 ((d11 + k * (1 + d7 % 4)) % 26) := ⟨Int.emod_nonneg _ (by decide), Int.emod_lt_of_pos _ (by decide)⟩
  have m1 : fMul (.int k) (.int (1 + d7 % 4)) H = some (.int (k * (1 + d7 % 4)), H) := by
    rw [fMul_ev, if_pos (.inl ⟨by omega, by omega⟩)]
  have m2 : fMod (.int d10) (.int (d9 % 8 + 1)) H = some (.int (d10 % (d9 % 8 + 1)), H) := by rw [fMod_ev, if_pos a1]
  have c1 : ∀ lo hi, (cutS B lo hi).length ≤ 7 := fun lo hi => Nat.le_trans (cutS_length _ _ _) hbl
  have s1 : ∀ lo hi, fSl (.str B) lo hi H = some (.str (cutS B lo hi), H) := fun lo hi => fSl_str (Nat.le_trans hbl (by decide))
  have p1 : ∀ lo hi d, fAdd (.str (cutS B lo hi)) (.str (ltr d)) H = some (.str (cutS B lo hi ++ ltr d), H) := fun lo hi d => by
    rw [fAdd_str, if_pos]; have := c1 lo hi; rw [ltr_len]; have : SZ = 16777216 := rfl; omega
  have p2 : ∀ lo hi d lo' hi', fAdd (.str (cutS B lo hi ++ ltr d)) (.str (cutS B lo' hi')) H = some (.str (cutS B lo hi ++ ltr d ++ cutS B lo' hi'), H) := fun lo hi d lo' hi' => by
    rw [fAdd_str, if_pos]; have := c1 lo hi; have := c1 lo' hi'; rw [str_app_len, ltr_len]; have : SZ = 16777216 := rfl; omega
  have p3 : ∀ d, fAdd (.str B) (.str (ltr d)) H = some (.str (B ++ ltr d), H) := fun d => by
    rw [fAdd_str, if_pos]; rw [ltr_len]; have : SZ = 16777216 := rfl; omega
  have s2 : ∀ d lo hi, fSl (.str (B ++ ltr d)) lo hi H = some (.str (cutS (B ++ ltr d) lo hi), H) := fun d lo hi => fSl_str (by rw [str_app_len, ltr_len]; have : SZ = 16777216 := rfl; omega)
  have ap : ∀ z, fAppend (.ref F) [.str z] H = some (.non, H.set F (.lst (acc.map .str ++ [.str z]))) := fun z => fAppend_ref hF hl2
  have il := isL_ref hF
  refine ⟨some (.int (d9 % 8)), some (.int (d10 % (d9 % 8 + 1))), some (.str (ltr ((d11 + k * (1 + d7 % 4)) % 26))), ?_⟩
  rw [List.map_append, List.map_cons, List.map_nil, nE]
  by_cases e8 : d8 % 2 = 0
  · rw [if_pos e8]
    simp -implicitDefEqProofs [L0__law_names, eV, -fIxA_ev, -fMul_ev, -fAdd_str, D7, D8, D9, D10, D11, m1, m2, ixA_abc a2, e8, s1, p1, p2, il, ap]
  · rw [if_neg e8]
    simp -implicitDefEqProofs [L0__law_names, eV, -fIxA_ev, -fMul_ev, -fAdd_str, D7, D8, D9, D10, D11, m1, m2, ixA_abc a2, ixA_abc h7, e8, s1, p3, s2, il, ap]
def fL : MV → MV
  | .int d => .str (ltr d)
  | _ => .non
theorem lc_body {s : Lo} {i : Nat} {ds : List Int} (hs : s[2]? = some (some (.str abc))) (hl : s.length = 11) (hd : ds.length < 1000) (hb : ∀ d ∈ ds, in26 d) (hx : h[i]? = some (.lst (ds.map .int))) :
    lcV (gN 10) bYes Z0__law_names s (.ref i) h = .ok (.ref h.length) (h ++ [.lst ((ds.map ltr).map .str)]) := by
  have hz : ds.length ≤ 16777216 := by omega
  rw [lcS_run (xs := ds.map .int) (f := fL) (p := fun _ => true) (by simpa [SZ] using hz) hx]
  · rw [List.filter_eq_self.mpr (fun _ _ => rfl), List.map_map, List.map_map]
    rfl
  · intro x hx
    obtain ⟨d, hd, rfl⟩ := List.mem_map.mp hx
    refine ⟨_, rfl, fun acc => ⟨rfl, fun _ => ?_⟩⟩
    have e1 : (s.set 10 (some (MV.int d)))[2]? = some (some (.str abc)) := by rw [List.getElem?_set_ne (by decide)]; exact hs
    have e2 : (s.set 10 (some (MV.int d)))[10]? = some (some (.int d)) := List.getElem?_set_self (by omega)
    simp [Z0__law_names, eV, e1, e2, ix_abc (hb d hd).1 (hb d hd).2, fL]
theorem fJoin_0 {i : Nat} {l : List Str} (e : h[i]? = some (.lst (l.map .str))) (hl : (l.map (·.length)).sum ≤ 16777216) : fJoin (.str (Str.ofString "")) [.ref i] h = some (.str (Txt.join "" l), h) := by
  have z : (Str.ofString "").length = 0 := by decide
  simp [fJoin, seqOf, e, strsM_map, z, hl]
theorem sum_ltr : ∀ l : List Int, ((l.map ltr).map (·.length)).sum = l.length := by
  intro l
  induction l with
  | nil => rfl
  | cons x l ih => simp only [List.map_cons, List.sum_cons, ih, ltr_len, List.length_cons]; omega
/-- the heap of _law_names: the draws, their slice, the letters, what is found -/
def nmH (h : MH) (d : List Int) (l : List Str) : MH := h ++ [.lst (d.map .int), .lst ((d.take 7).map .int), .lst (((d.take 7).map ltr).map .str), .lst (l.map .str)]
theorem nm_loop (n : Nat) (hn : n < 1000) (d : List Int) (hd : d.length = 12) (hb : ∀ x ∈ d, in26 x) :
    ∃ s', forG (getR 0 n) (gN 6) L0__law_names (n + 1) 0 [some (.int c), some (.int n), some (.str abc), some (.ref h.length), some (.str (bodyP d)), some (.ref (h.length + 3)), none, none, none, none, none] (nmH h d []) = .nx s' (nmH h d ((List.range n).map (nmAt d))) ∧ s'[5]? = some (some (.ref (h.length + 3))) := by
  refine forR_inv (fun i s h' => (∃ x6 x7 x8 x9, s = [some (.int c), some (.int n), some (.str abc), some (.ref h.length), some (.str (bodyP d)), some (.ref (h.length + 3)), x6, x7, x8, x9, none]) ∧ h' = nmH h d ((List.range i).map (nmAt d)))
    (fun r => ∃ s', r = .nx s' (nmH h d ((List.range n).map (nmAt d))) ∧ s'[5]? = some (some (.ref (h.length + 3)))) ⟨⟨none, none, none, none, rfl⟩, rfl⟩ ?_ ?_
  · rintro i s h' hi ⟨⟨x6, x7, x8, x9, rfl⟩, rfl⟩
    refine ⟨_, rfl, ?_⟩
    obtain ⟨y7, y8, y9, e⟩ := nm_turn (c := c) d hd hb (nmH h d ((List.range i).map (nmAt d))) h.length (h.length + 3) (by simp [nmH, at_app0]) _ rfl (.int n) i (by omega) ((List.range i).map (nmAt d)) (by simp [nmH, at_app]) (by simp; omega) x7 x8 x9 none
    simp only [Int.zero_add]
    show Turn _ _ (L0__law_names [_, _, _, _, _, _, _, _, _, _, _] _)
    rw [e, turn_nx]
    refine ⟨⟨_, _, _, _, rfl⟩, ?_⟩
    simp [nmH, set_app, List.range_succ]
  · rintro s h' ⟨⟨x6, x7, x8, x9, rfl⟩, rfl⟩
    exact ⟨_, rfl, rfl⟩
theorem names_eq (c : Int) (n : Nat) (hn : n < 1000) (h : MH) : m__law_names [.int c, .int n] h = .ok (.ref h.length) (h ++ [.lst ((namesP c n).map .str)]) := by
  have hd : (rowP c 12 26).length = 12 := rowGo_length _ _ _ _ _
  have hb : ∀ x ∈ rowP c 12 26, in26 x := fun x hx => rowGo_lt c 26 (by decide) _ _ _ x hx
  have R := fun h => row_eq c 12 26 h (by decide) (by decide) (by decide)
  unfold namesP
  generalize rowP c 12 26 = d at *
  refine gc_new (k := 3) (g := [.lst (d.map .int), .lst ((d.take 7).map .int), .lst (((d.take 7).map ltr).map .str), .lst (((List.range n).map (nmAt d)).map .str)]) ?_ rfl (norefs_str _)
  obtain ⟨s', F, F5⟩ := nm_loop (c := c) (h := h) n hn d hd hb
  have S : fSl (.ref h.length) none (some 7) (h ++ [.lst (d.map .int)]) = some (.ref (h.length + 1), h ++ [.lst (d.map .int), .lst ((d.take 7).map .int)]) := by
    have := fSl_ints (h := h ++ [.lst (d.map .int)]) (i := h.length) (n := 7) at_app0
    refine (show fSl _ none (some 7) _ = _ from this).trans ?_
    rw [List.map_take]
    simp
  have L := lc_body (h := h ++ [MO.lst (d.map .int), .lst ((d.take 7).map .int)]) (i := h.length + 1) (ds := d.take 7) (s := [some (.int c), some (.int n), some (.str abc), some (.ref h.length), none, none, none, none, none, none, none]) rfl rfl (by simp; omega) (fun x hx => hb x (List.mem_of_mem_take hx)) (by simp [at_app])
  have L2 : (h ++ [MO.lst (d.map .int), .lst ((d.take 7).map .int)]).length = h.length + 2 := by simp
  rw [L2, List.append_assoc] at L
  have J : fJoin (.str (Str.ofString "")) [.ref (h.length + 2)] (h ++ [.lst (d.map .int), .lst ((d.take 7).map .int), .lst (((d.take 7).map ltr).map .str)]) = some (.str (bodyP d), h ++ [.lst (d.map .int), .lst ((d.take 7).map .int), .lst (((d.take 7).map ltr).map .str)]) :=
    fJoin_0 (l := (d.take 7).map ltr) (by simp [at_app]) (by rw [sum_ltr, List.length_take]; omega)
  have hr2 : -4611686018427387904 ≤ (n : Int) ∧ (n : Int) < 4611686018427387904 := by omega
  rw [mDef_ev]
  show KD (b__law_names [some (.int c), some (.int n), none, none, none, none, none, none, none, none, none] h) = _
  have R' : m__law_row [.int c, .int 12, .int 26] h = .ok (.ref h.length) (h ++ [.lst (d.map .int)]) := R h
  have F' : forG (getR 0 n) (gN 6) L0__law_names (n + 1) 0 [some (.int c), some (.int n), some (.str abc), some (.ref h.length), some (.str (bodyP d)), some (.ref (h.length + 3)), none, none, none, none, none] (h ++ [.lst (d.map .int), .lst ((d.take 7).map .int), .lst (((d.take 7).map ltr).map .str), .lst []]) = .nx s' (nmH h d ((List.range n).map (nmAt d))) := F
  simp only [List.cons_append, List.nil_append] at L
  simp -implicitDefEqProofs [b__law_names, eV, R', S, eLc_ev, KCo_ok, wipeM, L, J, KFR_1, hr2, F', F5, -List.map_take, -List.map_map]
  rfl
end
end Lw
/-! a share's lanes: ascending, each once -/
namespace Lw
open PySem L2 Mo
def put1 (acc : List Str) (x : Str) : List Str := if x ∈ acc then acc else acc ++ [x]
def ddup (xs : List Str) : List Str := xs.foldl put1 []
def asc (xs : List Str) : List Str := ddup (srt xs)
theorem put1_len (acc : List Str) (x : Str) : (put1 acc x).length ≤ acc.length + 1 := by
  unfold put1
  split <;> simp
theorem foldl_len (xs : List Str) : ∀ acc : List Str, (xs.foldl put1 acc).length ≤ acc.length + xs.length := by
  induction xs with
  | nil => intro acc; simp
  | cons x xs ih =>
    intro acc
    have := ih (put1 acc x)
    have := put1_len acc x
    simp only [List.foldl_cons, List.length_cons]
    omega
theorem srt_len (xs : List Str) : (srt xs).length = xs.length := (srt_perm xs).length_eq
theorem asc_len (xs : List Str) : (asc xs).length ≤ xs.length := by
  have := foldl_len (srt xs) []
  rw [srt_len] at this
  simpa [asc, ddup] using this
theorem due_asc : m__law_due = m_ascending := rfl
section
variable {h : MH}
theorem asc_turn {F : Nat} {acc : List Str} {x : Str} {x0 x3 : Option MV} (hF : h[F]? = some (.lst (acc.map .str))) (hl : acc.length < 1000) :
    L0_ascending [x0, some (.ref F), some (.str x), x3] h = .nx [x0, some (.ref F), some (.str x), x3] (h.set F (.lst ((put1 acc x).map .str))) := by
  have N := fNotIn_strs (x := x) hF
  have A : fAppend (.ref F) [.str x] h = some (.non, h.set F (.lst (acc.map .str ++ [.str x]))) := fAppend_ref hF (by rw [List.length_map]; have : SZ = 16777216 := rfl; omega)
  have il := isL_ref hF
  unfold put1
  by_cases c : x ∈ acc
  · have e : h.set F (.lst (acc.map .str)) = h := by
      obtain ⟨hlt, e⟩ := List.getElem?_eq_some_iff.mp hF
      rw [← e, List.set_getElem_self]
    rw [if_pos c, e]
    simp -implicitDefEqProofs [L0_ascending, eV, -fNotInA_ev, N, c]
  · rw [if_neg c]
    simp -implicitDefEqProofs [L0_ascending, eV, -fNotInA_ev, N, c, il, A]
theorem asc_eq {i : Nat} {xs : List Str} (e : h[i]? = some (.lst (xs.map .str))) (hl : xs.length < 64) : m_ascending [.ref i] h = .ok (.ref h.length) (h ++ [.lst ((asc xs).map .str)]) := by
  refine gc_new (k := 0) (g := [.lst ((asc xs).map .str), .lst (xs.map .str), .lst ((srt xs).map .str)]) ?_ rfl (norefs_str _)
  rw [mDef_ev]
  show KD (b_ascending [some (.ref i), none, none, none] h) = _
  have LC : lcV (gN 3) bYes Z0_ascending [some (.ref i), some (.ref h.length), none, none] (.ref i) (h ++ [.lst []]) = .ok (.ref (h.length + 1)) (h ++ [.lst [], .lst (xs.map .str)]) := by
    have := lcS_run (g := gN 3) (c := bYes) (m := Z0_ascending) (s := [some (.ref i), some (.ref h.length), none, none]) (h := h ++ [.lst []]) (i := i) (xs := xs.map .str) (f := id) (p := fun _ => true) (by simp [SZ]; omega) (app_at e) (by
      intro x hx
      obtain ⟨d, hd, rfl⟩ := List.mem_map.mp hx
      refine ⟨_, rfl, fun acc => ⟨rfl, fun _ => ?_⟩⟩
      simp -implicitDefEqProofs [Z0_ascending, eV])
    rw [this]
    simp
  have S : fSortS [.ref (h.length + 1)] (h ++ [.lst [], .lst (xs.map .str)]) = some (.ref (h.length + 2), h ++ [.lst [], .lst (xs.map .str), .lst ((srt xs).map .str)]) := by
    rw [fSortS_ev (xs := xs) (by simp [at_app]) hl]
    simp
  have F : ∃ x2, forG (getSeq (.ref (h.length + 2))) (gN 2) L0_ascending (((srt xs).map MV.str).length + 1) 0 [some (.ref i), some (.ref h.length), none, none] (h ++ [.lst [], .lst (xs.map .str), .lst ((srt xs).map .str)]) =
      .nx [some (.ref i), some (.ref h.length), x2, none] (h ++ [.lst ((asc xs).map .str), .lst (xs.map .str), .lst ((srt xs).map .str)]) := by
    have sl : (srt xs).length < 64 := by rw [srt_len]; exact hl
    have ea : asc xs = (srt xs).foldl put1 [] := rfl
    rw [ea]
    generalize srt xs = ys at *
    refine forS_inv (fun k s h' => ∃ x2, s = [some (.ref i), some (.ref h.length), x2, none] ∧ h' = h ++ [.lst (((ys.take k).foldl put1 []).map .str), .lst (xs.map .str), .lst (ys.map .str)])
      (fun r => ∃ x2, r = .nx [some (.ref i), some (.ref h.length), x2, none] (h ++ [.lst ((ys.foldl put1 []).map .str), .lst (xs.map .str), .lst (ys.map .str)])) ⟨none, rfl, rfl⟩ ?_ ?_ ?_
    · rintro k s h' ⟨x2, rfl, rfl⟩
      exact seqOf_ref (by simp [at_app])
    · rintro k s h' hk ⟨x2, rfl, rfl⟩
      rw [List.length_map] at hk
      refine ⟨_, rfl, ?_⟩
      rw [List.getElem_map]
      show Turn _ _ (L0_ascending [_, _, _, _] _)
      have len := foldl_len (ys.take k) []
      rw [asc_turn at_app0 (by simp at len; omega), turn_nx, set_app0]
      refine ⟨_, rfl, ?_⟩
      rw [List.take_add_one, List.getElem?_eq_getElem hk, Option.toList_some, List.foldl_append]
      rfl
    · rintro s h' ⟨x2, rfl, rfl⟩
      refine ⟨x2, ?_⟩
      rw [List.length_map, List.take_length]
  obtain ⟨x2, F⟩ := F
  have K := KFo_ref (h := h ++ [.lst [], .lst (xs.map .str), .lst ((srt xs).map .str)]) (i := h.length + 2) (xs := (srt xs).map .str) (g := gN 2) (b := L0_ascending) (s := [some (.ref i), some (.ref h.length), none, none]) (by simp [at_app])
  rw [F] at K
  simp -implicitDefEqProofs [b_ascending, eV, SZ, eLc_ev, KCo_ok, wipeM, LC, S, K]
end
end Lw
/-! what asc is; a share in the heap -/
namespace Lw
open PySem L2 Mo
theorem foldl_sub (xs : List Str) : ∀ acc : List Str, ∃ l : List Str, l.Sublist xs ∧ xs.foldl put1 acc = acc ++ l := by
  induction xs with
  | nil => intro acc; exact ⟨[], List.Sublist.slnil, by simp⟩
  | cons x xs ih =>
    intro acc
    obtain ⟨l, hl, e⟩ := ih (put1 acc x)
    rw [List.foldl_cons, e]
    unfold put1
    split
    · exact ⟨l, hl.cons x, rfl⟩
    · exact ⟨x :: l, hl.cons_cons x, by simp⟩
theorem foldl_nodup (xs : List Str) : ∀ acc : List Str, acc.Nodup → (xs.foldl put1 acc).Nodup := by
  induction xs with
  | nil => intro acc h; exact h
  | cons x xs ih =>
    intro acc h
    refine ih _ ?_
    unfold put1
    split
    · exact h
    · rename_i hx
      rw [List.nodup_append]
      refine ⟨h, by simp, ?_⟩
      intro a ha b hb
      have := List.mem_singleton.mp hb
      subst this
      intro e
      subst e
      exact hx ha
theorem foldl_mem (xs : List Str) (z : Str) : ∀ acc : List Str, z ∈ xs.foldl put1 acc ↔ z ∈ acc ∨ z ∈ xs := by
  induction xs with
  | nil => intro acc; simp
  | cons x xs ih =>
    intro acc
    rw [List.foldl_cons, ih]
    unfold put1
    split
    · rename_i hx
      constructor
      · rintro (h | h)
        · exact .inl h
        · exact .inr (List.mem_cons_of_mem _ h)
      · rintro (h | h)
        · exact .inl h
        · rcases List.mem_cons.mp h with rfl | h
          · exact .inl hx
          · exact .inr h
    · simp only [List.mem_append, List.mem_singleton, List.mem_cons, List.not_mem_nil, or_false]
      constructor
      · rintro ((h | h) | h)
        · exact .inl h
        · exact .inr (.inl h)
        · exact .inr (.inr h)
      · rintro (h | h | h)
        · exact .inl (.inl h)
        · exact .inl (.inr h)
        · exact .inr h
theorem mem_asc {xs : List Str} {z : Str} : z ∈ asc xs ↔ z ∈ xs := by
  unfold asc ddup
  rw [foldl_mem]
  simp [(srt_perm xs).mem_iff]
/-- ascending, each once -/
structure Up (l : List Str) : Prop where
  pw : l.Pairwise (fun a b => leS a b = true)
  nd : l.Nodup
theorem up_asc (xs : List Str) : Up (asc xs) := by
  obtain ⟨l, hl, e⟩ := foldl_sub (srt xs) []
  have e' : asc xs = l := by unfold asc ddup; rw [e]; simp
  refine ⟨?_, foldl_nodup _ _ List.nodup_nil⟩
  rw [e']
  exact (srt_pw xs).sublist hl
theorem Up.filter {l : List Str} (h : Up l) (p : Str → Bool) : Up (l.filter p) := ⟨h.pw.sublist List.filter_sublist, h.nd.sublist List.filter_sublist⟩
theorem Up.eq {l m : List Str} (h : Up l) (k : Up m) (e : ∀ x, x ∈ l ↔ x ∈ m) : l = m :=
  List.Perm.eq_of_pairwise (fun a b _ _ h1 h2 => leS_anti a b h1 h2) h.pw k.pw ((List.perm_ext_iff_of_nodup h.nd k.nd).mpr e)
theorem Up.asc {l : List Str} (h : Up l) : Lw.asc l = l := (up_asc l).eq h fun x => mem_asc
/-- a share at s with the lanes L -/
def ShAt (h : MH) (s : Nat) (L : List Str) : Prop := ∃ r, h[s]? = some (.ins "Share" [("lanes", .ref r)]) ∧ h[r]? = some (.lst (L.map .str))
theorem ShAt.app {h t : MH} {s : Nat} {L : List Str} (p : ShAt h s L) : ShAt (h ++ t) s L := let ⟨r, a, b⟩ := p; ⟨r, app_at a, app_at b⟩
section
variable {h : MH} {s t i : Nat} {L M : List Str} {x : Str}
theorem fld_lanes {r : Nat} (hs : h[s]? = some (.ins "Share" [("lanes", .ref r)])) : fFld "lanes" ["Share"] (.ref s) h = some (.ref r, h) := by
  simp only [fFld, hs, if_pos (show "Share" ∈ ["Share"] by decide)]
  simp
theorem contains_eq (p : ShAt h s L) : m_Share___contains__ [.ref s, .str x] h = .ok (.bl (decide (x ∈ L))) h := by
  obtain ⟨r, a, b⟩ := p
  have F := fld_lanes a
  have N := fIn_strs (x := x) b
  simp -implicitDefEqProofs [m_Share___contains__, b_Share___contains__, mDef_ev, eV, F, -fInA_ev, N]
theorem len_eq (p : ShAt h s L) : m_Share___len__ [.ref s] h = .ok (.int L.length) h := by
  obtain ⟨r, a, b⟩ := p
  have F := fld_lanes a
  simp -implicitDefEqProofs [m_Share___len__, b_Share___len__, mDef_ev, eV, F, fLen, b]
theorem set_app_lt {a b : MH} {o : MO} (lt : s < a.length) : (a ++ b).set s o = a.set s o ++ b := List.set_append_left s o lt
theorem init_eq {xs : List Str} (hs : h[s]? = some (.ins "Share" [])) (e : h[i]? = some (.lst (xs.map .str))) (hl : xs.length < 64) :
    m_Share___init__ [.ref s, .ref i] h = .ok .non ((h.set s (.ins "Share" [("lanes", .ref (h.length + 1))])) ++ [.lst (xs.map .str), .lst ((asc xs).map .str)]) := by
  have A := asc_eq (h := h ++ [.lst (xs.map .str)]) (i := h.length) (xs := xs) at_app0 hl
  have P : ∀ t, putI "lanes" ["Share"] (.ref s) (.ref (h.length + 1)) (h ++ t) = some ((h ++ t).set s (.ins "Share" [("lanes", .ref (h.length + 1))])) := fun t => putI_ref (app_at hs)
  have lt : s < h.length := (List.getElem?_eq_some_iff.mp hs).1
  have A' : m_ascending [.ref h.length] (h ++ [.lst (xs.map .str)]) = .ok (.ref (h.length + 1)) (h ++ [.lst (xs.map .str), .lst ((asc xs).map .str)]) := by rw [A]; simp
  rw [← set_app_lt lt]
  simp -implicitDefEqProofs [m_Share___init__, b_Share___init__, mDef_ev, eV, fList_ref e, A', P]
theorem iadd_eq {xs : List Str} {r : Nat} (hs : h[s]? = some (.ins "Share" [("lanes", .ref r)])) (hr : h[r]? = some (.lst (L.map .str))) (e : h[i]? = some (.lst (xs.map .str))) (hl : L.length + xs.length < 64) :
    m_Share___iadd__ [.ref s, .ref i] h = .ok (.ref s) ((h.set s (.ins "Share" [("lanes", .ref (h.length + 2))])) ++ [.lst (xs.map .str), .lst ((L ++ xs).map .str), .lst ((asc (L ++ xs)).map .str)]) := by
  have F := fld_lanes hs
  have D : fAdd (.ref r) (.ref h.length) (h ++ [.lst (xs.map .str)]) = some (.ref (h.length + 1), h ++ [.lst (xs.map .str), .lst ((L ++ xs).map .str)]) := by
    have e1 : (h ++ [MO.lst (xs.map .str)])[r]? = some (.lst (L.map .str)) := app_at hr
    have e2 : (h ++ [MO.lst (xs.map .str)])[h.length]? = some (.lst (xs.map .str)) := at_app0
    simp only [fAdd, e1, e2]
    rw [if_pos (by simp [SZ]; omega)]
    simp
  have A := asc_eq (h := h ++ [.lst (xs.map .str), .lst ((L ++ xs).map .str)]) (i := h.length + 1) (xs := L ++ xs) (by simp [at_app]) (by simpa using hl)
  have A' : m_ascending [.ref (h.length + 1)] (h ++ [.lst (xs.map .str), .lst ((L ++ xs).map .str)]) = .ok (.ref (h.length + 2)) (h ++ [.lst (xs.map .str), .lst ((L ++ xs).map .str), .lst ((asc (L ++ xs)).map .str)]) := by rw [A]; simp
  have P : ∀ t, putI "lanes" ["Share"] (.ref s) (.ref (h.length + 2)) (h ++ t) = some ((h ++ t).set s (.ins "Share" [("lanes", .ref (h.length + 2))])) := fun t => putI_ref (app_at hs)
  have lt : s < h.length := (List.getElem?_eq_some_iff.mp hs).1
  rw [← set_app_lt lt]
  simp -implicitDefEqProofs [m_Share___iadd__, b_Share___iadd__, mDef_ev, eV, F, fList_ref e, D, A', P, -List.map_append]
def notIn (xs : List Str) (x : Str) : Bool := !decide (x ∈ xs)
def fNI (xs : List Str) : MV → Bool
  | .str x => notIn xs x
  | _ => false
theorem filter_strs (xs : List Str) (L : List Str) : ((L.map MV.str).filter (fNI xs)).map id = (L.filter (notIn xs)).map .str := by
  rw [List.map_id]
  induction L with
  | nil => rfl
  | cons x L ih =>
    rw [List.map_cons, List.filter_cons, List.filter_cons]
    have : fNI xs (.str x) = notIn xs x := rfl
    rw [this]
    split <;> simp [ih]
theorem isub_eq {xs : List Str} {r : Nat} (hs : h[s]? = some (.ins "Share" [("lanes", .ref r)])) (hr : h[r]? = some (.lst (L.map .str))) (e : h[i]? = some (.lst (xs.map .str))) (hl : L.length < 1000) :
    m_Share___isub__ [.ref s, .ref i] h = .ok (.ref s) ((h.set s (.ins "Share" [("lanes", .ref (h.length + 1))])) ++ [.lst (xs.map .str), .lst ((L.filter (notIn xs)).map .str)]) := by
  have F := fld_lanes hs
  have F' : fFld "lanes" ["Share"] (.ref s) (h ++ [.lst (xs.map .str)]) = some (.ref r, h ++ [.lst (xs.map .str)]) := fld_lanes (app_at hs)
  have LC := lcS_run (g := gN 3) (c := ZT0_Share___isub__) (m := Z0_Share___isub__) (s := [some (.ref s), some (.ref i), some (.ref h.length), none]) (h := h ++ [.lst (xs.map .str)]) (i := r) (xs := L.map .str) (f := id) (p := fNI xs) (by simp [SZ]; omega) (app_at hr) (by
    intro x hx
    obtain ⟨d, hd, rfl⟩ := List.mem_map.mp hx
    have N := fun acc => fNotIn_strs (h := h ++ [.lst (xs.map .str)] ++ [.lst acc]) (i := h.length) (x := d) (a := xs) (by simp [at_app0])
    refine ⟨_, rfl, fun acc => ⟨?_, fun _ => ?_⟩⟩
    · have N' := N acc
      cases c : decide (d ∈ xs) with
      | true => rw [c] at N'; simp -implicitDefEqProofs [ZT0_Share___isub__, eV, -fNotInA_ev, N', fNI, notIn, c, -List.append_assoc, -decide_eq_true_eq]
      | false => rw [c] at N'; simp -implicitDefEqProofs [ZT0_Share___isub__, eV, -fNotInA_ev, N', fNI, notIn, c, -List.append_assoc, -decide_eq_false_iff_not]
    · simp -implicitDefEqProofs [Z0_Share___isub__, eV])
  rw [filter_strs] at LC
  have P : ∀ t, putI "lanes" ["Share"] (.ref s) (.ref (h.length + 1)) (h ++ t) = some ((h ++ t).set s (.ins "Share" [("lanes", .ref (h.length + 1))])) := fun t => putI_ref (app_at hs)
  have lt : s < h.length := (List.getElem?_eq_some_iff.mp hs).1
  rw [← set_app_lt lt]
  simp only [List.length_append, List.length_cons, List.length_nil, Nat.zero_add, List.append_assoc, List.cons_append, List.nil_append] at LC
  simp -implicitDefEqProofs [m_Share___isub__, b_Share___isub__, mDef_ev, eV, F', fList_ref e, eLc_ev, KCo_ok, wipeM, LC, P]
theorem le_eq (p : ShAt h s L) (q : ShAt h t M) : m_Share___le__ [.ref s, .ref t] h = .ok (.bl (decide (∀ x ∈ L, x ∈ M))) h := by
  obtain ⟨r, a, b⟩ := p
  obtain ⟨u, c, d⟩ := q
  have F := fld_lanes a
  have G := fld_lanes c
  have Fr : (∀ x ∈ L, x ∈ M) ∧ (∃ x2, forG (getSeq (.ref r)) (gN 2) L0_Share___le__ ((L.map MV.str).length + 1) 0 [some (.ref s), some (.ref t), none] h = .nx [some (.ref s), some (.ref t), x2] h) ∨ (¬ ∀ x ∈ L, x ∈ M) ∧ forG (getSeq (.ref r)) (gN 2) L0_Share___le__ ((L.map MV.str).length + 1) 0 [some (.ref s), some (.ref t), none] h = .rt (.bl false) h := by
    refine forS_inv (fun k z h' => ∃ x2, z = [some (.ref s), some (.ref t), x2] ∧ h' = h ∧ ∀ x ∈ L.take k, x ∈ M)
      (fun z => (∀ x ∈ L, x ∈ M) ∧ (∃ x2, z = .nx [some (.ref s), some (.ref t), x2] h) ∨ (¬ ∀ x ∈ L, x ∈ M) ∧ z = .rt (.bl false) h) ⟨none, rfl, rfl, by simp⟩ ?_ ?_ ?_
    · rintro k z h' ⟨x2, rfl, rfl, _⟩
      exact seqOf_ref b
    · rintro k z h' hk ⟨x2, rfl, rfl, hm⟩
      rw [List.length_map] at hk
      refine ⟨_, rfl, ?_⟩
      rw [List.getElem_map]
      show Turn _ _ (L0_Share___le__ [_, _, _] _)
      have N := fNotIn_strs (x := L[k]) d
      by_cases cx : L[k] ∈ M
      · have E : L0_Share___le__ [some (.ref s), some (.ref t), some (.str L[k])] h' = .nx [some (.ref s), some (.ref t), some (.str L[k])] h' := by
          simp -implicitDefEqProofs [L0_Share___le__, eV, G, -fNotInA_ev, N, cx]
        rw [E, turn_nx]
        refine ⟨_, rfl, rfl, ?_⟩
        intro x hx
        rw [List.take_add_one, List.getElem?_eq_getElem hk, Option.toList_some] at hx
        rcases List.mem_append.mp hx with hx | hx
        · exact hm x hx
        · rw [List.mem_singleton.mp hx]; exact cx
      · have E : L0_Share___le__ [some (.ref s), some (.ref t), some (.str L[k])] h' = .rt (.bl false) h' := by
          simp -implicitDefEqProofs [L0_Share___le__, eV, G, -fNotInA_ev, N, cx]
        rw [E, turn_rt]
        exact .inr ⟨fun z => cx (z _ (List.getElem_mem hk)), rfl⟩
    · rintro z h' ⟨x2, rfl, rfl, hm⟩
      rw [List.length_map, List.take_length] at hm
      exact .inl ⟨hm, x2, rfl⟩
  have K := KFo_ref (g := gN 2) (b := L0_Share___le__) (s := [some (.ref s), some (.ref t), none]) b
  have Ii : fIsi ownT [.ref t, .glo "Share"] h = some (.bl true, h) := by simp [fIsi, tyM, c, isiM, ownOf, tabT]
  rcases Fr with ⟨hm, x2, e⟩ | ⟨hm, e⟩
  · rw [e] at K
    simp -implicitDefEqProofs [m_Share___le__, b_Share___le__, mDef_ev, eV, Ii, F, K, hm]
    exact hm
  · rw [e] at K
    simp -implicitDefEqProofs [m_Share___le__, b_Share___le__, mDef_ev, eV, Ii, F, K, hm]
theorem eq_eq (p : ShAt h s L) (q : ShAt h t M) : m_Share___eq__ [.ref s, .ref t] h = .ok (.bl (decide (L = M))) h := by
  obtain ⟨r, a, b⟩ := p
  obtain ⟨u, c, d⟩ := q
  have F := fld_lanes a
  have G := fld_lanes c
  have Ii : fIsi ownT [.ref t, .glo "Share"] h = some (.bl true, h) := by simp [fIsi, tyM, c, isiM, ownOf, tabT]
  simp -implicitDefEqProofs [m_Share___eq__, b_Share___eq__, mDef_ev, eV, Ii, F, G, mRc_strs b d]
end
end Lw
/-! the law's _law_holds -/
namespace Lw
open PySem L2 Mo
theorem KA_share {h : MH} {s r : Nat} (hs : h[s]? = some (.ins "Share" [("lanes", .ref r)])) : insC h (.ref s) = some "Share" := insC_ref hs
section
variable {h : MH} {s D P : Nat} {L pool : List Str}
theorem hold_turn {x : Str} {x2 : Option MV} (p : ShAt h s L) (hD : h[D]? = some (.lst (L.map .str))) :
    L0__law_holds [some (.ref s), some (.ref D), x2, some (.str x)] h = .nx [some (.ref s), some (.ref D), x2, some (.str x)] h := by
  have C := contains_eq (x := x) p
  have N := fIn_strs (x := x) hD
  obtain ⟨r, a, b⟩ := p
  have I := insC_ref a
  simp -implicitDefEqProofs [L0__law_holds, eV, I, C, -fInA_ev, N]
theorem holds_eq (p : ShAt h s L) (hD : h[D]? = some (.lst (L.map .str))) (hP : h[P]? = some (.lst (pool.map .str))) (hl : L.length < 1000) : m__law_holds [.ref s, .ref D, .ref P] h = .ok (.bl true) h := by
  refine gc_okE ⟨[.lst (L.map .str)], ?_⟩ rfl
  rw [mDef_ev]
  show KD (b__law_holds [some (.ref s), some (.ref D), some (.ref P), none] h) = _
  have LN := len_eq p
  obtain ⟨r, a, b⟩ := id p
  have I := insC_ref a
  have K2 : KL2 (.ok (.int L.length) h) = .ok (.int L.length) h := KL2_ok (by omega)
  have LD : fLen [.ref D] h = some (.int L.length, h) := by simp [fLen, hD]
  have IT := fItr_at (h := h) a (f := "lanes") (by simp) b
  have LC := lcS_run (g := gN 3) (c := bYes) (m := Z0__law_holds) (s := [some (.ref s), some (.ref D), some (.ref P), none]) (h := h) (i := r) (xs := L.map .str) (f := id) (p := fun _ => true) (by simp [SZ]; omega) b (by
    intro x hx
    obtain ⟨d, hd, rfl⟩ := List.mem_map.mp hx
    refine ⟨_, rfl, fun acc => ⟨rfl, fun _ => ?_⟩⟩
    simp -implicitDefEqProofs [Z0__law_holds, eV])
  rw [List.filter_eq_self.mpr (fun _ _ => rfl), List.map_id] at LC
  have C : eLcL (e1 (fItr "Share" "lanes") (eV 0)) (gN 3) bYes Z0__law_holds [3] [some (.ref s), some (.ref D), some (.ref P), none] h = .ok (.ref h.length) (h ++ [.lst (L.map .str)]) := by
    rw [eLcL_at (i := r) (h1 := h) (xs := L.map .str) (by simp [eV, IT]) b]
    exact LC
  have M := mRc_strs (h := h ++ [.lst (L.map .str)]) (i := h.length) (j := D) (a := L) (b := L) at_app0 (app_at hD)
  have F : ∃ x3, forG (getSeq (.ref P)) (gN 3) L0__law_holds ((pool.map MV.str).length + 1) 0 [some (.ref s), some (.ref D), some (.ref P), none] (h ++ [.lst (L.map .str)]) = .nx [some (.ref s), some (.ref D), some (.ref P), x3] (h ++ [.lst (L.map .str)]) := by
    refine forS_inv (fun k z h' => ∃ x3, z = [some (.ref s), some (.ref D), some (.ref P), x3] ∧ h' = h ++ [.lst (L.map .str)]) (fun z => ∃ x3, z = .nx [some (.ref s), some (.ref D), some (.ref P), x3] (h ++ [.lst (L.map .str)])) ⟨none, rfl, rfl⟩ ?_ ?_ ?_
    · rintro k z h' ⟨x3, rfl, rfl⟩
      exact seqOf_ref (app_at hP)
    · rintro k z h' hk ⟨x3, rfl, rfl⟩
      refine ⟨_, rfl, ?_⟩
      rw [List.getElem_map]
      show Turn _ _ (L0__law_holds [_, _, _, _] _)
      rw [hold_turn p.app (app_at hD), turn_nx]
      exact ⟨_, rfl, rfl⟩
    · rintro z h' ⟨x3, rfl, rfl⟩
      exact ⟨x3, rfl⟩
  obtain ⟨x3, F⟩ := F
  have K := KFo_ref (h := h ++ [.lst (L.map .str)]) (i := P) (xs := pool.map .str) (g := gN 3) (b := L0__law_holds) (s := [some (.ref s), some (.ref D), some (.ref P), none]) (app_at hP)
  rw [F] at K
  simp -implicitDefEqProofs [b__law_holds, eV, I, LN, K2, LD, C, M, K]
end
end Lw
/-! the three lists and their copies -/
namespace Lw
open PySem L2 Mo
def pk (pool : List Str) (d : Int) : Str := pool.getD d.toNat ""
def fPk (pool : List Str) : MV → MV
  | .int d => .str (pk pool d)
  | _ => .non
def lsP (pool : List Str) (ds : List Int) : List Str := ds.map (pk pool)
theorem ix_pool {h : MH} {P : Nat} {pool : List Str} {d : Int} (hP : h[P]? = some (.lst (pool.map .str))) (h0 : 0 ≤ d) (h1 : d < pool.length) : fIxA (.ref P) (.int d) h = some (.str (pk pool d), h) := by
  have hk : d.toNat < pool.length := by omega
  rw [fIxA_ev, if_neg (by rw [isDM_lst hP]; decide), fIx_ref hP, atI_nn h0, List.getElem?_map, List.getElem?_eq_getElem hk]
  unfold pk
  rw [List.getD_eq_getElem?_getD, List.getElem?_eq_getElem hk]
  rfl
def cutI (ds : List Int) (lo hi : Int) : List Int := (ds.drop (HT.sIx ds.length 0 (some lo))).take (HT.sIx ds.length ds.length (some hi) - HT.sIx ds.length 0 (some lo))
theorem cutI_mem {ds : List Int} {lo hi : Int} {x : Int} (h : x ∈ cutI ds lo hi) : x ∈ ds := List.mem_of_mem_drop (List.mem_of_mem_take h)
theorem cutI_len (ds : List Int) (lo hi : Int) : (cutI ds lo hi).length ≤ ds.length := by
  unfold cutI
  rw [List.length_take, List.length_drop]
  omega
theorem cutM_ints (ds : List Int) (lo hi : Int) : cutM (ds.map MV.int) (some lo) (some hi) = (cutI ds lo hi).map .int := by
  unfold cutM cutI
  rw [List.length_map, List.map_take, List.map_drop]
section
variable {h : MH} {pool : List Str} {ds sz : List Int} {acc : List MV} {x0 x14 : Option MV}
theorem l0_turn (hP : h[0]? = some (.lst (pool.map .str))) (hD : h[1]? = some (.lst (ds.map .int))) (hS : h[2]? = some (.lst (sz.map .int))) (hA : h[3]? = some (.lst acc)) (ha : acc.length < 1000) (hd : ∀ x ∈ ds, 0 ≤ x ∧ x < pool.length)
    (hl : ds.length = 24) (hs : sz.length = 3) (k : Nat) (hk : k < 3) :
    L0_law [x0, some (.ref 0), some (.ref 1), some (.ref 2), some (.ref 3), some (.int k), none, none, none, none, none, none, none, none, none, none, none] h =
      .nx [x0, some (.ref 0), some (.ref 1), some (.ref 2), some (.ref 3), some (.int k), none, none, none, none, none, none, none, none, none, none, none]
        ((h.set 3 (.lst (acc ++ [.ref (h.length + 1)]))) ++ [.lst ((cutI ds (8 * k) (8 * k + dI sz k)).map .int), .lst ((lsP pool (cutI ds (8 * k) (8 * k + dI sz k))).map .str)]) := by
  have V : fIxA (.ref 2) (.int k) h = some (.int (dI sz k), h) := ixA_row hS k (by omega)
  have M : ∀ h : MH, fMul (.int 8) (.int k) h = some (.int (8 * k), h) := fun h => by rw [fMul_ev, if_pos (.inl ⟨by omega, by omega⟩)]
  have S : fSl (.ref 1) (some (8 * (k : Int))) (some (8 * (k : Int) + dI sz k)) h = some (.ref h.length, h ++ [.lst ((cutI ds (8 * k) (8 * k + dI sz k)).map .int)]) := by
    rw [fSl_ref hD, cutM_ints]
  have hc : ∀ x ∈ cutI ds (8 * k) (8 * k + dI sz k), 0 ≤ x ∧ x < pool.length := fun x hx => hd x (cutI_mem hx)
  have cl := cutI_len ds (8 * k) (8 * k + dI sz k)
  generalize cutI ds (8 * k) (8 * k + dI sz k) = c at *
  generalize dI sz k = q at *
  have LC := lcS_run (g := gN 14) (c := bYes) (m := Z0_law) (s := [x0, some (.ref 0), some (.ref 1), some (.ref 2), some (.ref 3), some (.int k), none, none, none, none, none, none, none, none, none, none, none]) (h := h ++ [.lst (c.map .int)]) (i := h.length) (xs := c.map .int) (f := fPk pool) (p := fun _ => true) (by simp [SZ]; omega) at_app0 (by
    intro x hx
    obtain ⟨d, hd', rfl⟩ := List.mem_map.mp hx
    refine ⟨_, rfl, fun acc => ⟨rfl, fun _ => ?_⟩⟩
    have X := ix_pool (h := h ++ [.lst (c.map .int)] ++ [.lst acc]) (app_at (app_at hP)) (hc d hd').1 (hc d hd').2
    simp -implicitDefEqProofs [Z0_law, eV, -fIxA_ev, X, fPk, -List.append_assoc])
  rw [List.filter_eq_self.mpr (fun _ _ => rfl), List.map_map] at LC
  have e1 : List.map (fPk pool ∘ MV.int) c = (lsP pool c).map .str := by unfold lsP; rw [List.map_map]; rfl
  rw [e1] at LC
  simp only [List.length_append, List.length_cons, List.length_nil, Nat.zero_add, List.append_assoc, List.cons_append, List.nil_append] at LC
  have A3 : ∀ t, (h ++ t)[3]? = some (.lst acc) := fun t => app_at hA
  have IL : ∀ t, isL (.ref 3) (h ++ t) = true := fun t => isL_ref (A3 t)
  have IL0 : isL (.ref 3) h = true := isL_ref hA
  have lt : 3 < h.length := (List.getElem?_eq_some_iff.mp hA).1
  have AP : ∀ y t, fAppend (.ref 3) [y] (h ++ t) = some (.non, h.set 3 (.lst (acc ++ [y])) ++ t) := fun y t => by
    rw [fAppend_ref (A3 t) (by have : SZ = 16777216 := rfl; omega), set_app_lt lt]
  simp -implicitDefEqProofs [L0_law, eV, M, -fMul_ev, -fIxA_ev, V, S, eLc_ev, KCo_ok, wipeM, LC, IL, IL0, AP]
/-- the lists after k turns -/
def lk (pool : List Str) (ds sz : List Int) (k : Nat) : List Str := lsP pool (cutI ds (8 * k) (8 * k + dI sz k))
def ck (ds sz : List Int) (k : Nat) : MO := .lst ((cutI ds (8 * k) (8 * k + dI sz k)).map .int)
def H3 (pool : List Str) (ds sz : List Int) : Nat → MH
  | 0 => [.lst (pool.map .str), .lst (ds.map .int), .lst (sz.map .int), .lst []]
  | 1 => [.lst (pool.map .str), .lst (ds.map .int), .lst (sz.map .int), .lst [.ref 5], ck ds sz 0, .lst ((lk pool ds sz 0).map .str)]
  | 2 => [.lst (pool.map .str), .lst (ds.map .int), .lst (sz.map .int), .lst [.ref 5, .ref 7], ck ds sz 0, .lst ((lk pool ds sz 0).map .str), ck ds sz 1, .lst ((lk pool ds sz 1).map .str)]
  | _ => [.lst (pool.map .str), .lst (ds.map .int), .lst (sz.map .int), .lst [.ref 5, .ref 7, .ref 9], ck ds sz 0, .lst ((lk pool ds sz 0).map .str), ck ds sz 1, .lst ((lk pool ds sz 1).map .str), ck ds sz 2, .lst ((lk pool ds sz 2).map .str)]
theorem l0_loop (hd : ∀ x ∈ ds, 0 ≤ x ∧ x < pool.length) (hl : ds.length = 24) (hs : sz.length = 3) :
    ∃ x5, forG (getR 0 3) (gN 5) L0_law (3 + 1) 0 [x0, some (.ref 0), some (.ref 1), some (.ref 2), some (.ref 3), none, none, none, none, none, none, none, none, none, none, none, none] (H3 pool ds sz 0) =
      .nx [x0, some (.ref 0), some (.ref 1), some (.ref 2), some (.ref 3), x5, none, none, none, none, none, none, none, none, none, none, none] (H3 pool ds sz 3) := by
  refine forR_inv (fun k s h' => (∃ x5, s = [x0, some (.ref 0), some (.ref 1), some (.ref 2), some (.ref 3), x5, none, none, none, none, none, none, none, none, none, none, none]) ∧ h' = H3 pool ds sz k)
    (fun r => ∃ x5, r = .nx [x0, some (.ref 0), some (.ref 1), some (.ref 2), some (.ref 3), x5, none, none, none, none, none, none, none, none, none, none, none] (H3 pool ds sz 3)) ⟨⟨none, rfl⟩, rfl⟩ ?_ ?_
  · rintro k s h' hk ⟨⟨x5, rfl⟩, rfl⟩
    refine ⟨_, rfl, ?_⟩
    simp only [Int.zero_add]
    show Turn _ _ (L0_law [_, _, _, _, _, _, _, _, _, _, _, _, _, _, _, _, _] _)
    have hk' : k = 0 ∨ k = 1 ∨ k = 2 := by omega
    rcases hk' with rfl | rfl | rfl
    · rw [l0_turn (h := H3 pool ds sz 0) (pool := pool) (ds := ds) (sz := sz) (acc := []) rfl rfl rfl rfl (by decide) hd hl hs 0 (by decide), turn_nx]
      exact ⟨⟨_, rfl⟩, rfl⟩
    · rw [l0_turn (h := H3 pool ds sz 1) (pool := pool) (ds := ds) (sz := sz) (acc := [.ref 5]) rfl rfl rfl rfl (by decide) hd hl hs 1 (by decide), turn_nx]
      exact ⟨⟨_, rfl⟩, rfl⟩
    · rw [l0_turn (h := H3 pool ds sz 2) (pool := pool) (ds := ds) (sz := sz) (acc := [.ref 5, .ref 7]) rfl rfl rfl rfl (by decide) hd hl hs 2 (by decide), turn_nx]
      exact ⟨⟨_, rfl⟩, rfl⟩
  · rintro s h' ⟨⟨x5, rfl⟩, rfl⟩
    exact ⟨x5, rfl⟩
end
/-! copies of three lists -/
theorem lcG_step {get : Itm} {g : MG} {c : MB} {m : ME} {k n i : Nat} {s s1 : Lo} {h h2 h3 : MH} {x y : MV} (e1 : get i h = some (some x)) (e2 : g x s = some s1) (e3 : c s1 h = .ok true h) (e4 : m s1 h = .ok y h2) (e5 : putLc k y h2 = some h3) :
    lcG get g c m k (n + 1) i s h = lcG get g c m k n (i + 1) s h3 := by
  conv => lhs; unfold lcG
  rw [e1]
  simp only [e2, e3, Rz.bdN, if_true, e4, e5]
theorem lcG_end {get : Itm} {g : MG} {c : MB} {m : ME} {k n i : Nat} {s : Lo} {h : MH} (e1 : get i h = some none) : lcG get g c m k (n + 1) i s h = .ok (.ref k) h := by
  conv => lhs; unfold lcG
  rw [e1]
end Lw
/-! the law k04 -/
namespace Lw
open PySem L2 Mo
/-- what stands in the heap before the share is made, besides the lists: pool 0, kept 10 with its copies 11, 12, 13 -/
structure Base (pool l0 l1 l2 : List Str) (h : MH) : Prop where
  p : h[0]? = some (.lst (pool.map .str))
  k : h[10]? = some (.lst [.ref 11, .ref 12, .ref 13])
  c0 : h[11]? = some (.lst (l0.map .str))
  c1 : h[12]? = some (.lst (l1.map .str))
  c2 : h[13]? = some (.lst (l2.map .str))
  ls : h[3]? = some (.lst [.ref 5, .ref 7, .ref 9])
  a1 : h[7]? = some (.lst (l1.map .str))
  a2 : h[9]? = some (.lst (l2.map .str))
section
variable {pool l0 l1 l2 : List Str} {h : MH}
theorem Base.app (b : Base pool l0 l1 l2 h) (t : MH) : Base pool l0 l1 l2 (h ++ t) := ⟨app_at b.p, app_at b.k, app_at b.c0, app_at b.c1, app_at b.c2, app_at b.ls, app_at b.a1, app_at b.a2⟩
theorem Base.set (b : Base pool l0 l1 l2 h) (o : MO) : Base pool l0 l1 l2 (h.set 14 o) := by
  refine ⟨?_, ?_, ?_, ?_, ?_, ?_, ?_, ?_⟩ <;> rw [List.getElem?_set_ne (by decide)]
  all_goals first | exact b.p | exact b.k | exact b.c0 | exact b.c1 | exact b.c2 | exact b.ls | exact b.a1 | exact b.a2
theorem ixl {h : MH} {R : Nat} {xs : List MV} {k : Int} {v : MV} (e : h[R]? = some (.lst xs)) (hv : atI xs k = some v) : fIxA (.ref R) (.int k) h = some (v, h) := by
  rw [fIxA_ev, if_neg (by rw [isDM_lst e]; decide), fIx_ref e, hv]; rfl
variable {x0 x5 x14 x15 x16 : Option MV} {L : List Str} {D : Nat}
/-- the filters of the law: those of xs not in ys, as a list -/
theorem lc_not {k : Nat} {c : MB} {s : Lo} {xs ys : List Str} {i : Nat} (hk : k < s.length) (hx : h[i]? = some (.lst (xs.map .str))) (hl : xs.length < 1000)
    (hc : ∀ d acc, c (s.set k (some (.str d))) (h ++ [.lst acc]) = .ok (notIn ys d) (h ++ [.lst acc])) :
    lcV (gN k) c (eV k) s (.ref i) h = .ok (.ref h.length) (h ++ [.lst ((xs.filter (notIn ys)).map .str)]) := by
  rw [lcS_run (g := gN k) (c := c) (m := eV k) (s := s) (h := h) (i := i) (xs := xs.map .str) (f := id) (p := fNI ys) (by simp [SZ]; omega) hx, filter_strs]
  intro x hx
  obtain ⟨d, hd, rfl⟩ := List.mem_map.mp hx
  refine ⟨s.set k (some (.str d)), ?_, fun acc => ⟨hc d acc, fun _ => ?_⟩⟩
  · simp [gN, hk]
  · have q : (s.set k (some (MV.str d)))[k]? = some (some (.str d)) := List.getElem?_set_self hk
    simp only [eV, q]; rfl
theorem nil_iff (xs ys : List Str) : decide (xs.filter (notIn ys) = []) = decide (∀ x ∈ xs, x ∈ ys) := by
  apply decide_eq_decide.mpr
  rw [List.filter_eq_nil_iff]
  simp [notIn]
theorem l1_turn {k : Nat} {T Wd : Nat} {bs : List Bool} {x6 x7 x8 x9 x11 x12 : Option MV} (hT : h[T]? = some (.lst (bs.map .bl))) (hW : h[Wd]? = some (.lst (bs.map .bl))) (hk : k < bs.length) :
    L1_law [x0, some (.ref 0), x14, x15, x16, some (.int k), x6, x7, x8, x9, some (.ref T), x11, x12, some (.ref Wd), none, none, none] h = .nx [x0, some (.ref 0), x14, x15, x16, some (.int k), x6, x7, x8, x9, some (.ref T), x11, x12, some (.ref Wd), none, none, none] h := by
  have a : atI (bs.map MV.bl) (k : Int) = some (.bl bs[k]) := by
    rw [atI_ofNat, List.getElem?_map, List.getElem?_eq_getElem hk]; rfl
  have X := ixl hT a
  have Y := ixl hW a
  simp -implicitDefEqProofs [L1_law, eV, -fIxA_ev, X, Y, fIsi, tyM, isiM, ownOf, tabT, tabB]
theorem own_le {s t : Nat} {A B : List Str} (p : ShAt h s A) (q : ShAt h t B) : ownRun [("Share", m_Share___le__)] false (.ref s) (.ref t) h = .ok (.bl (decide (∀ x ∈ A, x ∈ B))) h := by
  have e := le_eq p q
  obtain ⟨r, a, b⟩ := p
  obtain ⟨u, c, d⟩ := q
  rw [ownRun_ev a c (by simp; rfl), e]; rfl
theorem own_eq {s t : Nat} {A B : List Str} (p : ShAt h s A) (q : ShAt h t B) : ownRun [("Share", m_Share___eq__)] false (.ref s) (.ref t) h = .ok (.bl (decide (A = B))) h := by
  have e := eq_eq p q
  obtain ⟨r, a, b⟩ := p
  obtain ⟨u, c, d⟩ := q
  rw [ownRun_ev a c (by simp; rfl), e]; rfl
theorem bool_lists {l1 L : List Str} (u : Up L) : decide (∀ x ∈ asc l1, x ∈ L) = decide (∀ x ∈ l1, x ∈ L) ∧ decide (∀ x ∈ L, x ∈ asc l1) = decide (∀ x ∈ L, x ∈ l1) ∧ decide (asc l1 = L) = (decide (∀ x ∈ l1, x ∈ L) && decide (∀ x ∈ L, x ∈ l1)) := by
  refine ⟨decide_eq_decide.mpr ?_, decide_eq_decide.mpr ?_, ?_⟩
  · exact ⟨fun h x hx => h x (mem_asc.mpr hx), fun h x hx => h x (mem_asc.mp hx)⟩
  · exact ⟨fun h x hx => mem_asc.mp (h x hx), fun h x hx => mem_asc.mpr (h x hx)⟩
  · rw [← Bool.decide_and]
    refine decide_eq_decide.mpr ⟨?_, ?_⟩
    · rintro rfl
      exact ⟨fun x hx => mem_asc.mpr hx, fun x hx => mem_asc.mp hx⟩
    · rintro ⟨h1, h2⟩
      exact (up_asc l1).eq u fun x => ⟨fun hx => h1 x (mem_asc.mp hx), fun hx => mem_asc.mpr (h2 x hx)⟩
theorem l1_loop {T Wd : Nat} {bs : List Bool} {x6 x7 x8 x9 x11 x12 : Option MV} (hT : h[T]? = some (.lst (bs.map .bl))) (hW : h[Wd]? = some (.lst (bs.map .bl))) (hk : bs.length = 5) :
    ∃ x5', forG (getR 0 5) (gN 5) L1_law (5 + 1) 0 [x0, some (.ref 0), x14, x15, x16, x5, x6, x7, x8, x9, some (.ref T), x11, x12, some (.ref Wd), none, none, none] h = .nx [x0, some (.ref 0), x14, x15, x16, x5', x6, x7, x8, x9, some (.ref T), x11, x12, some (.ref Wd), none, none, none] h := by
  refine forR_inv (fun k s h' => (∃ x5', s = [x0, some (.ref 0), x14, x15, x16, x5', x6, x7, x8, x9, some (.ref T), x11, x12, some (.ref Wd), none, none, none]) ∧ h' = h)
    (fun r => ∃ x5', r = .nx [x0, some (.ref 0), x14, x15, x16, x5', x6, x7, x8, x9, some (.ref T), x11, x12, some (.ref Wd), none, none, none] h) ⟨⟨x5, rfl⟩, rfl⟩ ?_ ?_
  · rintro k s h' hk' ⟨⟨x5', rfl⟩, rfl⟩
    refine ⟨_, rfl, ?_⟩
    simp only [Int.zero_add]
    show Turn _ _ (L1_law [_, _, _, _, _, _, _, _, _, _, _, _, _, _, _, _, _] _)
    rw [l1_turn hT hW (by omega), turn_nx]
    exact ⟨⟨_, rfl⟩, rfl⟩
  · rintro s h' ⟨⟨x5', rfl⟩, rfl⟩
    exact ⟨x5', rfl⟩
theorem t17_eq {O : Nat} (b : Base pool l0 l1 l2 h) (sh : ShAt h 14 L) (sO : ShAt h O (asc l1)) (hD : h[D]? = some (.lst (L.map .str))) (u : Up L) (ll : L.length < 60) (l1l : l1.length < 60) :
    ∃ h', T17_law [x0, some (.ref 0), x14, x15, some (.ref 3), x5, some (.ref 10), some (.ref 14), some (.ref D), some (.ref O), none, none, none, none, none, none, none] h = .rt (.bl true) h' := by
  obtain ⟨e1, e2, e3⟩ := bool_lists (l1 := l1) u
  have A1 := own_le sO sh
  have A2 := own_le sh sO
  have A3 := own_eq sO sh
  have A4 := own_le sh sh
  rw [e1] at A1
  rw [e2] at A2
  rw [e3] at A3
  rw [decide_eq_true (show ∀ x ∈ L, x ∈ L from fun x hx => hx)] at A4
  have N1 := nil_iff l1 L
  have N2 := nil_iff L l1
  generalize decide (∀ x ∈ l1, x ∈ L) = p at *
  generalize decide (∀ x ∈ L, x ∈ l1) = w at *
  -- the other share
  have I0 := init_eq (h := h ++ [.ins "Share" []]) (s := h.length) (i := D) (xs := L) at_app0 (app_at hD) (by omega)
  have I : m_Share___init__ [.ref h.length, .ref D] (h ++ [.ins "Share" []]) = .ok .non (h ++ [.ins "Share" [("lanes", .ref (h.length + 2))], .lst (L.map .str), .lst ((asc L).map .str)]) := by
    rw [I0, set_app0]; simp
  rw [u.asc] at I
  have A5 := own_eq (h := h ++ [.ins "Share" [("lanes", .ref (h.length + 2))], .lst (L.map .str), .lst (L.map .str)]) (s := 14) (t := h.length) (A := L) (B := L) sh.app ⟨h.length + 2, by simp [at_app0], by simp [at_app]⟩
  rw [decide_eq_true rfl] at A5
  generalize hn : h.length = n at *
  have bD : h[D]? = some (.lst (L.map .str)) := hD
  let B0 : MO := .ins "Share" [("lanes", .ref (n + 2))]
  let Ls : MO := .lst (L.map .str)
  let bs : List Bool := [p, w, p && w, true, true]
  let tb : MO := .lst (bs.map .bl)
  have LC4 := lc_not (h := h ++ [B0, Ls, Ls, tb]) (k := 16) (c := ZT4_law) (s := [x0, some (.ref 0), x14, x15, some (.ref 3), x5, some (.ref 10), some (.ref 14), some (.ref D), some (.ref O), some (.ref (n + 3)), none, none, none, none, none, none]) (xs := l1) (ys := L) (i := 12) (by simp) (app_at b.c1) (by omega) (by
    intro d acc
    have N := fNotIn_strs (h := h ++ [B0, Ls, Ls, tb] ++ [.lst acc]) (x := d) (app_at (app_at hD))
    cases c : decide (d ∈ L) with
    | true => rw [c] at N; simp -implicitDefEqProofs [ZT4_law, eV, -fNotInA_ev, N, notIn, c, -List.append_assoc, -decide_eq_true_eq]
    | false => rw [c] at N; simp -implicitDefEqProofs [ZT4_law, eV, -fNotInA_ev, N, notIn, c, -List.append_assoc, -decide_eq_false_iff_not])
  have LC6 := lc_not (h := h ++ [B0, Ls, Ls, tb, .lst ((l1.filter (notIn L)).map .str), .lst []]) (k := 16) (c := ZT6_law) (s := [x0, some (.ref 0), x14, x15, some (.ref 3), x5, some (.ref 10), some (.ref 14), some (.ref D), some (.ref O), some (.ref (n + 3)), some (.bl p), none, none, none, none, none]) (xs := L) (ys := l1) (i := D) (by simp) (app_at hD) (by omega) (by
    intro d acc
    have X := ixl (h := h ++ [B0, Ls, Ls, tb, .lst ((l1.filter (notIn L)).map .str), .lst []] ++ [.lst acc]) (k := 1) (app_at (app_at b.k)) rfl
    have N := fNotIn_strs (h := h ++ [B0, Ls, Ls, tb, .lst ((l1.filter (notIn L)).map .str), .lst []] ++ [.lst acc]) (x := d) (app_at (app_at b.c1))
    cases c : decide (d ∈ l1) with
    | true => rw [c] at N; simp -implicitDefEqProofs [ZT6_law, eV, -fNotInA_ev, -fIxA_ev, X, N, notIn, c, -List.append_assoc, -decide_eq_true_eq]
    | false => rw [c] at N; simp -implicitDefEqProofs [ZT6_law, eV, -fNotInA_ev, -fIxA_ev, X, N, notIn, c, -List.append_assoc, -decide_eq_false_iff_not])
  have Z4 : Z4_law = eV 16 := rfl
  have Z6 : Z6_law = eV 16 := rfl
  have X1 : ∀ t, fIxA (.ref 10) (.int 1) (h ++ t) = some (.ref 12, h ++ t) := fun t => ixl (app_at b.k) rfl
  let q4 : MO := .lst ((l1.filter (notIn L)).map .str)
  let q6 : MO := .lst ((L.filter (notIn l1)).map .str)
  have M1 : mRc (h ++ [B0, Ls, Ls, tb, q4, .lst []]) (.ref (n + 4)) (.ref (n + 5)) = some p := by
    rw [← N1, mRc_strs (a := l1.filter (notIn L)) (b := []) (by rw [← hn, at_app]; rfl) (by rw [← hn, at_app]; rfl)]
  have M2 : mRc (h ++ [B0, Ls, Ls, tb, q4, .lst [], q6, .lst []]) (.ref (n + 6)) (.ref (n + 7)) = some w := by
    rw [← N2, mRc_strs (a := L.filter (notIn l1)) (b := []) (by rw [← hn, at_app]; rfl) (by rw [← hn, at_app]; rfl)]
  obtain ⟨x5', LP⟩ := l1_loop (h := h ++ [B0, Ls, Ls, tb, q4, .lst [], q6, .lst [], tb]) (T := n + 3) (Wd := n + 8) (bs := bs) (x0 := x0) (x5 := x5) (x14 := x14) (x15 := x15) (x16 := some (.ref 3)) (x6 := some (.ref 10)) (x7 := some (.ref 14)) (x8 := some (.ref D)) (x9 := some (.ref O)) (x11 := some (.bl p)) (x12 := some (.bl w)) (by rw [← hn, at_app]; rfl) (by rw [← hn, at_app]; rfl) rfl
  have DU := asc_eq (h := h ++ [B0, Ls, Ls, tb, q4, .lst [], q6, .lst [], tb]) (i := 12) (xs := l1) (app_at b.c1) (by omega)
  rw [← due_asc] at DU
  have HO := holds_eq (h := h ++ [B0, Ls, Ls, tb, q4, .lst [], q6, .lst [], tb] ++ [.lst ((asc l1).map .str)]) (s := O) (D := (h ++ [B0, Ls, Ls, tb, q4, .lst [], q6, .lst [], tb]).length) (P := 0) (L := asc l1) (pool := pool) sO.app.app at_app0 (app_at (app_at b.p)) (by have := asc_len l1; omega)
  refine ⟨h ++ [B0, Ls, Ls, tb, q4, .lst [], q6, .lst [], tb] ++ [.lst ((asc l1).map .str)], ?_⟩
  simp only [List.length_append, List.length_cons, List.length_nil, hn, Nat.zero_add, Nat.reduceAdd, List.append_assoc, List.cons_append, List.nil_append] at LC4 LC6 DU HO ⊢
  have W : (if p = true then Rz.ok (MV.bl w) (h ++ [B0, Ls, Ls, tb, q4, .lst [], q6, .lst []]) else Rz.ok (.bl false) (h ++ [B0, Ls, Ls, tb, q4, .lst [], q6, .lst []])) = .ok (.bl (p && w)) (h ++ [B0, Ls, Ls, tb, q4, .lst [], q6, .lst []]) := by cases p <;> rfl
  simp only [B0, Ls, bs, tb, q4, q6, List.map_cons, List.map_nil] at LC4 LC6 M1 M2 LP DU HO W ⊢
  simp -implicitDefEqProofs [T17_law, eV, A1, A2, A3, A4, A5, I, hn, SZ, eLc_ev, KCo_ok, wipeM, -fIxA_ev, X1, Z4, Z6, LC4, LC6, M1, M2, W, LP, DU, HO, KFR_1]
end
end Lw
/-! the law k04, from the share on -/
namespace Lw
open PySem L2 Mo
theorem at_n {a b : MH} {n k : Nat} (hn : a.length = n) : (a ++ b)[n + k]? = b[k]? := by subst hn; exact at_app
theorem at_n0 {a b : MH} {n : Nat} (hn : a.length = n) : (a ++ b)[n]? = b[0]? := by subst hn; exact at_app0
section
variable {pool l0 l1 l2 : List Str} {h : MH} {x0 x5 x14 x15 x16 : Option MV} {L D1 : List Str} {D : Nat}
theorem t14_eq (b : Base pool l0 l1 l2 h) (hD : h[D]? = some (.lst (D1.map .str))) (sh : ShAt h 14 (D1.filter (notIn l2))) (u : Up D1) (ll : D1.length < 60) (l1l : l1.length < 60) :
    ∃ h', T14_law [x0, some (.ref 0), x14, x15, some (.ref 3), x5, some (.ref 10), some (.ref 14), some (.ref D), none, none, none, none, none, none, none, none] h = .rt (.bl true) h' := by
  have fl : (D1.filter (notIn l2)).length ≤ D1.length := List.length_filter_le _ _
  have LC := lc_not (h := h) (k := 16) (c := ZT2_law) (s := [x0, some (.ref 0), x14, x15, some (.ref 3), x5, some (.ref 10), some (.ref 14), some (.ref D), none, none, none, none, none, none, none, none]) (xs := D1) (ys := l2) (i := D) (by simp) hD (by omega) (by
    intro d acc
    have X := ixl (h := h ++ [.lst acc]) (k := 2) (app_at b.k) rfl
    have N := fNotIn_strs (h := h ++ [.lst acc]) (x := d) (app_at b.c2)
    cases c : decide (d ∈ l2) with
    | true => rw [c] at N; simp -implicitDefEqProofs [ZT2_law, eV, -fNotInA_ev, -fIxA_ev, X, N, notIn, c, -List.append_assoc, -decide_eq_true_eq]
    | false => rw [c] at N; simp -implicitDefEqProofs [ZT2_law, eV, -fNotInA_ev, -fIxA_ev, X, N, notIn, c, -List.append_assoc, -decide_eq_false_iff_not])
  have Z2 : Z2_law = eV 16 := rfl
  have u2 := u.filter (notIn l2)
  generalize D1.filter (notIn l2) = E at *
  have HO := holds_eq (h := h ++ [.lst (E.map .str)]) (s := 14) (D := h.length) (P := 0) (L := E) (pool := pool) sh.app at_app0 (app_at b.p) (by omega)
  generalize hn : h.length = n at *
  let q : MO := .lst (E.map .str)
  have S1 : fSl (.ref 3) (some 1) none (h ++ [q]) = some (.ref (n + 1), h ++ [q, .lst [.ref 7, .ref 9]]) := by
    rw [fSl_ref (app_at b.ls), List.length_append, hn, List.append_assoc]; rfl
  have S2 : fSl (.ref 10) (some 1) none (h ++ [q, .lst [.ref 7, .ref 9]]) = some (.ref (n + 2), h ++ [q, .lst [.ref 7, .ref 9], .lst [.ref 12, .ref 13]]) := by
    rw [fSl_ref (app_at b.k), List.length_append, hn, List.append_assoc]; rfl
  have M : mRc (h ++ [q, .lst [.ref 7, .ref 9], .lst [.ref 12, .ref 13]]) (.ref (n + 1)) (.ref (n + 2)) = some true := by
    rw [mRc_ll (xs := [.ref 7, .ref 9]) (ys := [.ref 12, .ref 13]) (by rw [← hn, at_app]; rfl) (by rw [← hn, at_app]; rfl), if_pos (show [MV.ref 7, .ref 9].length = [MV.ref 12, .ref 13].length from rfl)]
    have a1 := mEq_strs (n := 6) (h := h ++ [q, .lst [.ref 7, .ref 9], .lst [.ref 12, .ref 13]]) (i := 7) (j := 12) (a := l1) (b := l1) (app_at b.a1) (app_at b.c1)
    have a2 := mEq_strs (n := 6) (h := h ++ [q, .lst [.ref 7, .ref 9], .lst [.ref 12, .ref 13]]) (i := 9) (j := 13) (a := l2) (b := l2) (app_at b.a2) (app_at b.c2)
    simp [eqs, a1, a2]
  have X1 : ∀ t, fIxA (.ref 10) (.int 1) (h ++ t) = some (.ref 12, h ++ t) := fun t => ixl (app_at b.k) rfl
  have I0 := init_eq (h := h ++ [q, .lst [.ref 7, .ref 9], .lst [.ref 12, .ref 13], .ins "Share" []]) (s := n + 3) (i := 12) (xs := l1) (by rw [← hn, at_app]; rfl) (app_at b.c1) (by omega)
  have I : m_Share___init__ [.ref (n + 3), .ref 12] (h ++ [q, .lst [.ref 7, .ref 9], .lst [.ref 12, .ref 13], .ins "Share" []]) = .ok .non (h ++ [q, .lst [.ref 7, .ref 9], .lst [.ref 12, .ref 13], .ins "Share" [("lanes", .ref (n + 5))], .lst (l1.map .str), .lst ((asc l1).map .str)]) := by
    rw [I0, ← hn, set_app]; simp
  obtain ⟨h', T⟩ := t17_eq (h := h ++ [q, .lst [.ref 7, .ref 9], .lst [.ref 12, .ref 13], .ins "Share" [("lanes", .ref (n + 5))], .lst (l1.map .str), .lst ((asc l1).map .str)]) (O := n + 3) (D := n) (L := E) (x0 := x0) (x5 := x5) (x14 := x14) (x15 := x15) (b.app _) sh.app
    ⟨n + 5, by rw [← hn, at_app]; rfl, by rw [← hn, at_app]; rfl⟩ (by rw [← hn, at_app0]; rfl) u2 (by omega) l1l
  refine ⟨h', ?_⟩
  simp only [q] at LC HO S1 S2 M I T
  simp -implicitDefEqProofs [T14_law, eV, eLc_ev, KCo_ok, wipeM, Z2, LC, HO, S1, S2, M, -fIxA_ev, X1, hn, I, T]
theorem t11_eq (b : Base pool l0 l1 l2 h) (hD : h[D]? = some (.lst ((asc l0).map .str))) (sh : ShAt h 14 (asc (asc l0 ++ l1))) (ll : l0.length < 30) (l1l : l1.length < 30) (l2l : l2.length < 30) :
    ∃ h', T11_law [x0, some (.ref 0), x14, x15, some (.ref 3), x5, some (.ref 10), some (.ref 14), some (.ref D), none, none, none, none, none, none, none, none] h = .rt (.bl true) h' := by
  have X1 : fIxA (.ref 10) (.int 1) h = some (.ref 12, h) := ixl b.k rfl
  have al := asc_len l0
  have al2 := asc_len (asc l0 ++ l1)
  rw [List.length_append] at al2
  have A : fAdd (.ref D) (.ref 12) h = some (.ref h.length, h ++ [.lst ((asc l0 ++ l1).map .str)]) := by
    simp only [fAdd, hD, b.c1]
    rw [if_pos (by simp [SZ]; omega), List.map_append]
  have DU0 := asc_eq (h := h ++ [.lst ((asc l0 ++ l1).map .str)]) (i := h.length) (xs := asc l0 ++ l1) at_app0 (by rw [List.length_append]; omega)
  have DU : m__law_due [.ref h.length] (h ++ [.lst ((asc l0 ++ l1).map .str)]) = .ok (.ref (h.length + 1)) (h ++ [.lst ((asc l0 ++ l1).map .str), .lst ((asc (asc l0 ++ l1)).map .str)]) := by
    rw [due_asc, DU0]; simp
  have u := up_asc (asc l0 ++ l1)
  generalize hc : (asc l0 ++ l1).map MV.str = c at *
  generalize asc (asc l0 ++ l1) = D1 at *
  have HO := holds_eq (h := h ++ [.lst c, .lst (D1.map .str)]) (s := 14) (D := h.length + 1) (P := 0) (L := D1) (pool := pool) sh.app (by rw [at_app]; rfl) (app_at b.p) (by omega)
  have X2 : ∀ t, fIxA (.ref 3) (.int 2) (h ++ t) = some (.ref 9, h ++ t) := fun t => ixl (app_at b.ls) rfl
  obtain ⟨r, s1, s2⟩ := sh
  have lt : 14 < h.length := (List.getElem?_eq_some_iff.mp s1).1
  have SB := isub_eq (h := h ++ [.lst c, .lst (D1.map .str)]) (s := 14) (i := 9) (r := r) (L := D1) (xs := l2) (app_at s1) (app_at s2) (app_at b.a2) (by omega)
  have IC : insC (h ++ [.lst c, .lst (D1.map .str)]) (.ref 14) = some "Share" := insC_ref (app_at s1)
  generalize hn : h.length = n at *
  rw [List.length_append, hn, set_app_lt (by omega), List.append_assoc] at SB
  have ln : (h.set 14 (.ins "Share" [("lanes", .ref (n + 3))])).length = n := by rw [List.length_set, hn]
  obtain ⟨h', T⟩ := t14_eq (h := h.set 14 (.ins "Share" [("lanes", .ref (n + 3))]) ++ [.lst c, .lst (D1.map .str), .lst (l2.map .str), .lst ((D1.filter (notIn l2)).map .str)]) (D := n + 1) (D1 := D1) (x0 := x0) (x5 := x5) (x14 := x14) (x15 := x15) ((b.set _).app _) (by rw [at_n ln]; rfl)
    ⟨n + 3, app_at (List.getElem?_set_self (by omega)), by rw [at_n ln]; rfl⟩ u (by omega) (by omega)
  refine ⟨h', ?_⟩
  simp only [List.length_cons, List.length_nil, Nat.zero_add, Nat.reduceAdd, Nat.add_assoc, List.cons_append, List.nil_append] at SB
  simp -implicitDefEqProofs [T11_law, eV, -fIxA_ev, X1, A, DU, HO, X2, IC, SB, T]
theorem t8_eq (b : Base pool l0 l1 l2 h) (sh : ShAt h 14 (asc l0)) (ll : l0.length < 30) (l1l : l1.length < 30) (l2l : l2.length < 30) :
    ∃ h', T8_law [x0, some (.ref 0), x14, x15, some (.ref 3), x5, some (.ref 10), some (.ref 14), none, none, none, none, none, none, none, none, none] h = .rt (.bl true) h' := by
  have X0 : fIxA (.ref 10) (.int 0) h = some (.ref 11, h) := ixl b.k rfl
  have al := asc_len l0
  have DU0 := asc_eq (h := h) (i := 11) (xs := l0) b.c0 (by omega)
  rw [← due_asc] at DU0
  have HO := holds_eq (h := h ++ [.lst ((asc l0).map .str)]) (s := 14) (D := h.length) (P := 0) (L := asc l0) (pool := pool) sh.app at_app0 (app_at b.p) (by omega)
  have X2 : ∀ t, fIxA (.ref 3) (.int 1) (h ++ t) = some (.ref 7, h ++ t) := fun t => ixl (app_at b.ls) rfl
  obtain ⟨r, s1, s2⟩ := sh
  have lt : 14 < h.length := (List.getElem?_eq_some_iff.mp s1).1
  have SB := iadd_eq (h := h ++ [.lst ((asc l0).map .str)]) (s := 14) (i := 7) (r := r) (L := asc l0) (xs := l1) (app_at s1) (app_at s2) (app_at b.a1) (by omega)
  have IC : insC (h ++ [.lst ((asc l0).map .str)]) (.ref 14) = some "Share" := insC_ref (app_at s1)
  generalize hc : (asc l0 ++ l1).map MV.str = c at *
  generalize hn : h.length = n at *
  rw [List.length_append, hn, set_app_lt (by omega), List.append_assoc] at SB
  have ln : (h.set 14 (.ins "Share" [("lanes", .ref (n + 3))])).length = n := by rw [List.length_set, hn]
  obtain ⟨h', T⟩ := t11_eq (h := h.set 14 (.ins "Share" [("lanes", .ref (n + 3))]) ++ [.lst ((asc l0).map .str), .lst (l1.map .str), .lst c, .lst ((asc (asc l0 ++ l1)).map .str)]) (D := n) (x0 := x0) (x5 := x5) (x14 := x14) (x15 := x15) (l0 := l0) (l1 := l1) (l2 := l2) (pool := pool) ((b.set _).app _) (by rw [at_n0 ln]; rfl)
    ⟨n + 3, app_at (List.getElem?_set_self (by omega)), by rw [at_n ln]; rfl⟩ ll l1l l2l
  refine ⟨h', ?_⟩
  simp only [List.length_cons, List.length_nil, Nat.zero_add, Nat.reduceAdd, Nat.add_assoc, List.cons_append, List.nil_append] at SB
  simp -implicitDefEqProofs [T8_law, eV, -fIxA_ev, X0, DU0, HO, X2, IC, SB, T]
end
end Lw
/-! the law k04, from the start -/
namespace Lw
open PySem L2 Mo
section
variable {pool : List Str} {ds sz : List Int} {x0 x5 : Option MV}
/-- the heap with the copies -/
def HK (pool : List Str) (ds sz : List Int) : Nat → MH
  | 0 => H3 pool ds sz 3 ++ [.lst []]
  | 1 => H3 pool ds sz 3 ++ [.lst [.ref 11], .lst ((lk pool ds sz 0).map .str)]
  | 2 => H3 pool ds sz 3 ++ [.lst [.ref 11, .ref 12], .lst ((lk pool ds sz 0).map .str), .lst ((lk pool ds sz 1).map .str)]
  | _ => H3 pool ds sz 3 ++ [.lst [.ref 11, .ref 12, .ref 13], .lst ((lk pool ds sz 0).map .str), .lst ((lk pool ds sz 1).map .str), .lst ((lk pool ds sz 2).map .str)]
theorem kept_eq : lcV (gN 15) bYes Z1_law [x0, some (.ref 0), some (.ref 1), some (.ref 2), some (.ref 3), x5, none, none, none, none, none, none, none, none, none, none, none] (.ref 3) (H3 pool ds sz 3) = .ok (.ref 10) (HK pool ds sz 3) := by
  rw [lcV_ref (xs := [.ref 5, .ref 7, .ref 9]) rfl]
  show lcG (getSeq (.ref 3)) (gN 15) bYes Z1_law 10 (3 + 1) 0 _ (HK pool ds sz 0) = _
  rw [lcG_step (x := .ref 5) (s1 := [x0, some (.ref 0), some (.ref 1), some (.ref 2), some (.ref 3), x5, none, none, none, none, none, none, none, none, none, some (.ref 5), none]) (y := .ref 11) (h2 := H3 pool ds sz 3 ++ [.lst [], .lst ((lk pool ds sz 0).map .str)]) (h3 := HK pool ds sz 1) rfl rfl rfl rfl rfl]
  rw [lcG_step (x := .ref 7) (s1 := [x0, some (.ref 0), some (.ref 1), some (.ref 2), some (.ref 3), x5, none, none, none, none, none, none, none, none, none, some (.ref 7), none]) (y := .ref 12) (h2 := H3 pool ds sz 3 ++ [.lst [.ref 11], .lst ((lk pool ds sz 0).map .str), .lst ((lk pool ds sz 1).map .str)]) (h3 := HK pool ds sz 2) rfl rfl rfl rfl rfl]
  rw [lcG_step (x := .ref 9) (s1 := [x0, some (.ref 0), some (.ref 1), some (.ref 2), some (.ref 3), x5, none, none, none, none, none, none, none, none, none, some (.ref 9), none]) (y := .ref 13) (h2 := H3 pool ds sz 3 ++ [.lst [.ref 11, .ref 12], .lst ((lk pool ds sz 0).map .str), .lst ((lk pool ds sz 1).map .str), .lst ((lk pool ds sz 2).map .str)]) (h3 := HK pool ds sz 3) rfl rfl rfl rfl rfl]
  exact lcG_end rfl
theorem lk_len (k : Nat) (hl : ds.length = 24) : (lk pool ds sz k).length ≤ 24 := by
  unfold lk lsP
  rw [List.length_map]
  have := cutI_len ds (8 * k) (8 * k + dI sz k)
  omega
theorem t3_eq (hp : 0 < pool.length) (hd : ∀ x ∈ ds, 0 ≤ x ∧ x < pool.length) (hl : ds.length = 24) (hs : sz.length = 3) :
    ∃ h', T3_law [x0, some (.ref 0), some (.ref 1), some (.ref 2), none, none, none, none, none, none, none, none, none, none, none, none, none] [.lst (pool.map .str), .lst (ds.map .int), .lst (sz.map .int)] = .rt (.bl true) h' := by
  obtain ⟨x5, LP⟩ := l0_loop (x0 := x0) hd hl hs
  have LC := kept_eq (pool := pool) (ds := ds) (sz := sz) (x0 := x0) (x5 := x5)
  have b0 := lk_len (pool := pool) (sz := sz) 0 hl
  have b1 := lk_len (pool := pool) (sz := sz) 1 hl
  have b2 := lk_len (pool := pool) (sz := sz) 2 hl
  have K5 : (HK pool ds sz 3)[5]? = some (.lst ((lk pool ds sz 0).map .str)) := rfl
  have I := init_eq (h := HK pool ds sz 3 ++ [.ins "Share" []]) (s := 14) (i := 5) (xs := lk pool ds sz 0) rfl rfl (by omega)
  have X5 : ∀ t, fIxA (.ref 3) (.int 0) (HK pool ds sz 3 ++ t) = some (.ref 5, HK pool ds sz 3 ++ t) := fun t => ixl (xs := [.ref 5, .ref 7, .ref 9]) (app_at (show (HK pool ds sz 3)[3]? = _ from rfl)) rfl
  have X5' : fIxA (.ref 3) (.int 0) (HK pool ds sz 3) = some (.ref 5, HK pool ds sz 3) := ixl (xs := [.ref 5, .ref 7, .ref 9]) (show (HK pool ds sz 3)[3]? = _ from rfl) rfl
  have XP : ∀ t, fIxA (.ref 0) (.int 0) (HK pool ds sz 3 ++ t) = some (.str (pk pool 0), HK pool ds sz 3 ++ t) := fun t => ix_pool (app_at (show (HK pool ds sz 3)[0]? = some (.lst (pool.map .str)) from rfl)) (by decide) (by omega)
  let tl : MH := [.ins "Share" [("lanes", .ref 16)], .lst ((lk pool ds sz 0).map .str), .lst ((asc (lk pool ds sz 0)).map .str)]
  have I' : m_Share___init__ [.ref 14, .ref 5] (HK pool ds sz 3 ++ [.ins "Share" []]) = .ok .non (HK pool ds sz 3 ++ tl) := I
  have IL : isL (.ref 5) (HK pool ds sz 3 ++ tl) = true := isL_ref (app_at K5)
  have AP : fAppend (.ref 5) [.str (pk pool 0)] (HK pool ds sz 3 ++ tl) = some (.non, (HK pool ds sz 3 ++ tl).set 5 (.lst ((lk pool ds sz 0).map .str ++ [.str (pk pool 0)]))) := fAppend_ref (app_at K5) (by rw [List.length_map]; have : SZ = 16777216 := rfl; omega)
  have ln : (HK pool ds sz 3).length = 14 := rfl
  obtain ⟨h', T⟩ := t8_eq (pool := pool) (l0 := lk pool ds sz 0) (l1 := lk pool ds sz 1) (l2 := lk pool ds sz 2) (h := (HK pool ds sz 3 ++ tl).set 5 (.lst ((lk pool ds sz 0).map .str ++ [.str (pk pool 0)]))) (x0 := x0) (x5 := x5) (x14 := some (.ref 1)) (x15 := some (.ref 2)) ⟨rfl, rfl, rfl, rfl, rfl, rfl, rfl, rfl⟩ ⟨16, rfl, rfl⟩ (by omega) (by omega) (by omega)
  rw [set_app_lt (by rw [ln]; decide)] at T
  refine ⟨h', ?_⟩
  have LP' : forG (getR 0 3) (gN 5) L0_law 4 0 [x0, some (.ref 0), some (.ref 1), some (.ref 2), some (.ref 3), none, none, none, none, none, none, none, none, none, none, none, none] [.lst (pool.map .str), .lst (ds.map .int), .lst (sz.map .int), .lst []] = .nx [x0, some (.ref 0), some (.ref 1), some (.ref 2), some (.ref 3), x5, none, none, none, none, none, none, none, none, none, none, none] (H3 pool ds sz 3) := LP
  generalize HK pool ds sz 3 = H at *
  simp -implicitDefEqProofs [T3_law, eV, KFR_1, SZ, LP', eLc_ev, KCo_ok, wipeM, LC, -fIxA_ev, X5, X5', XP, ln, I', IL, AP, T]
end
theorem pure_law (ns : List Int) (_ : ns.length ≤ 63) : ∃ h1, m_law [.frl (ns.map MV.int)] [] = .ok (.bl true) h1 := by
  obtain ⟨c0, C0⟩ := cell_ex ns 0
  obtain ⟨c1, C1⟩ := cell_ex ns 1
  obtain ⟨c2, C2⟩ := cell_ex ns 2
  have N := fun h => names_eq c0 6 (by decide) h
  have pl : (namesP c0 6).length = 6 := by unfold namesP; rw [List.length_map, List.length_range]
  generalize namesP c0 6 = pool at *
  have R1 := fun h => row_eq c1 24 6 h (by decide) (by decide) (by decide)
  have R2 := fun h => row_eq c2 3 9 h (by decide) (by decide) (by decide)
  have hl : (rowP c1 24 6).length = 24 := rowGo_length _ _ _ _ _
  have hs : (rowP c2 3 9).length = 3 := rowGo_length _ _ _ _ _
  have hd : ∀ x ∈ rowP c1 24 6, 0 ≤ x ∧ x < pool.length := fun x hx => by rw [pl]; exact rowGo_lt c1 6 (by decide) _ _ _ x hx
  generalize rowP c1 24 6 = ds at *
  generalize rowP c2 3 9 = sz at *
  have C0' : ∀ h, m__law_cell [.frl (ns.map MV.int), .int 0] h = .ok (.int c0) h := C0
  have C1' : ∀ h, m__law_cell [.frl (ns.map MV.int), .int 1] h = .ok (.int c1) h := C1
  have C2' : ∀ h, m__law_cell [.frl (ns.map MV.int), .int 2] h = .ok (.int c2) h := C2
  have R1' : ∀ h : MH, m__law_row [.int c1, .int 24, .int 6] h = .ok (.ref h.length) (h ++ [.lst (ds.map .int)]) := R1
  have R2' : ∀ h : MH, m__law_row [.int c2, .int 3, .int 9] h = .ok (.ref h.length) (h ++ [.lst (sz.map .int)]) := R2
  have N' : ∀ h : MH, m__law_names [.int c0, .int 6] h = .ok (.ref h.length) (h ++ [.lst (pool.map .str)]) := N
  obtain ⟨h', T⟩ := t3_eq (x0 := some (.frl (ns.map MV.int))) (by omega) hd hl hs
  exact ⟨h', by simp -implicitDefEqProofs [m_law, b_law, mDef_ev, eV, C0', C1', C2', R1', R2', N', T]⟩
end Lw
/-! the end -/
namespace Lw
open PySem L2 Mo
section
theorem all_mk {l : PySem.W.OpenLaw} {w : World} {K : PySem.W.Frag} {h : Heap} {mg : Str → Option Value} {fa : Addr} (X : K.In h) (G : h.Ns mainGlobals mg) (hfa : mg "law" = some (.ref fa)) (c : He.SaysT faL fnL tsL w K) (e : exL K = true) (hP : PFa l.prog FILE) :
    ∃ fd : FuncData, (∀ (s : Shared) (v : Value), BindsTo s fd ⟨[v], []⟩ [("_law_script", v)]) ∧ ∀ base : Heap, K.In base → base.Ns mainGlobals mg → FnOk l.prog w K mg base (L2.CX l.prog w) 4 fa fd ["_law_script"] (spLaw K) := by
  have q := hfa.symm.trans (He.glo_ok (x := "law") X G (c.d.fact 8 rfl))
  cases q
  obtain ⟨D0, F0⟩ := c.d.def_ 0 rfl
  obtain ⟨D1, F1⟩ := c.d.def_ 1 rfl
  obtain ⟨D2, F2⟩ := c.d.def_ 2 rfl
  obtain ⟨D3, F3⟩ := c.d.def_ 3 rfl
  obtain ⟨D4, F4⟩ := c.d.def_ 4 rfl
  obtain ⟨D5, F5⟩ := c.d.def_ 5 rfl
  obtain ⟨D6, F6⟩ := c.d.def_ 6 rfl
  obtain ⟨D7, F7⟩ := c.d.def_ 7 rfl
  obtain ⟨D8, F8⟩ := c.d.def_ 8 rfl
  obtain ⟨D9, F9⟩ := c.d.def_ 9 rfl
  obtain ⟨D10, F10⟩ := c.d.def_ 10 rfl
  obtain ⟨D11, F11⟩ := c.d.def_ 11 rfl
  obtain ⟨D12, F12⟩ := c.d.def_ 12 rfl
  obtain ⟨D13, F13⟩ := c.d.def_ 13 rfl
  obtain ⟨D14, F14⟩ := c.d.def_ 14 rfl
  obtain ⟨D15, F15⟩ := c.d.def_ 15 rfl
  unfold exL at e
  have e0 := (He.ba e).1
  replace e := (He.ba e).2
  have e1 := (He.ba e).1
  replace e := (He.ba e).2
  have e2 := (He.ba e).1
  replace e := (He.ba e).2
  have e3 := e
  have T : Txt l.prog w K mg ⟨D0, D1, D2, D3, D4, D5, D6, D7, D8, D9, D10, D11, D12, D13, D14, D15⟩ := ⟨F0,
    (FunD.bindsN F0 fun _ _ _ _ _ _ us hl => match us, hl with | [_], _ => rfl),
    F1,
    (FunD.bindsN F1 fun _ _ _ _ _ _ us hl => match us, hl with | [_, _], _ => rfl),
    F2,
    (FunD.bindsN F2 fun _ _ _ _ _ _ us hl => match us, hl with | [_, _], _ => rfl),
    F3,
    (FunD.bindsN F3 fun _ _ _ _ _ _ us hl => match us, hl with | [_, _], _ => rfl),
    F4,
    (FunD.bindsN F4 fun _ _ _ _ _ _ us hl => match us, hl with | [_, _, _], _ => rfl),
    F5,
    (FunD.bindsN F5 fun _ _ _ _ _ _ us hl => match us, hl with | [_, _], _ => rfl),
    F6,
    (FunD.bindsN F6 fun _ _ _ _ _ _ us hl => match us, hl with | [_, _], _ => rfl),
    F7,
    (FunD.bindsN F7 fun _ _ _ _ _ _ us hl => match us, hl with | [_], _ => rfl),
    F8,
    (FunD.bindsN F8 fun _ _ _ _ _ _ us hl => match us, hl with | [_], _ => rfl),
    F9,
    (FunD.bindsN F9 fun _ _ _ _ _ _ us hl => match us, hl with | [_, _], _ => rfl),
    F10,
    (FunD.bindsN F10 fun _ _ _ _ _ _ us hl => match us, hl with | [_], _ => rfl),
    F11,
    (FunD.bindsN F11 fun _ _ _ _ _ _ us hl => match us, hl with | [_, _, _], _ => rfl),
    F12,
    (FunD.bindsN F12 fun _ _ _ _ _ _ us hl => match us, hl with | [_, _], _ => rfl),
    F13,
    (FunD.bindsN F13 fun _ _ _ _ _ _ us hl => match us, hl with | [_, _], _ => rfl),
    F14,
    (FunD.bindsN F14 fun _ _ _ _ _ _ us hl => match us, hl with | [_, _], _ => rfl),
    F15,
    (FunD.bindsN F15 fun _ _ _ _ _ _ us hl => match us, hl with | [_], _ => rfl),
    (He.glo_ok X G (c.d.fact 0 rfl)),
    (He.glo_ok X G (c.d.fact 1 rfl)),
    (He.glo_ok X G (c.d.fact 2 rfl)),
    (He.glo_ok X G (c.d.fact 3 rfl)),
    (He.glo_ok X G (c.d.fact 4 rfl)),
    (He.glo_ok X G (c.d.fact 5 rfl)),
    (He.glo_ok X G (c.d.fact 6 rfl)),
    (He.glo_ok X G (c.d.fact 7 rfl)),
    (He.glo_ok X G (c.d.fact 8 rfl)),
    (He.free_ok X G (c.d.fact 9 rfl)),
    (He.free_ok X G (c.d.fact 10 rfl)),
    (He.free_ok X G (c.d.fact 11 rfl)),
    (He.free_ok X G (c.d.fact 12 rfl)),
    (He.free_ok X G (c.d.fact 13 rfl)),
    (He.free_ok X G (c.d.fact 14 rfl)),
    (He.free_ok X G (c.d.fact 15 rfl)),
    (He.free_ok X G (c.d.fact 16 rfl)),
    (He.free_ok X G (c.d.fact 17 rfl)),
    (He.free_ok X G (c.d.fact 18 rfl)),
    (He.cls_ok (c.d.fact 19 rfl)),
    (He.noat_ok (c.d.fact 20 rfl)),
    (He.meth_ok (c.d.fact 21 rfl)),
    (He.meth_ok (c.d.fact 22 rfl)),
    (He.meth_ok (c.d.fact 23 rfl)),
    (He.meth_ok (c.d.fact 24 rfl)),
    (He.meth_ok (c.d.fact 25 rfl)),
    (He.meth_ok (c.d.fact 26 rfl)),
    (He.mkr_ok (c.d.fact 27 rfl)),
    (isi_tab e0),
    ⟨beq_iff_eq.mp e1, e2⟩,
    e3⟩
  exact ⟨D15, fun s v => FunD.bindsA (ps := ["_law_script"]) F15 (fun _ _ _ _ _ _ us hl => match us, hl with | [_], _ => rfl) s [v] rfl, fun base _ _ => (ok_law hP T).imp (spLaw_of pure_law)⟩
end
end Lw
open PySem PySem.W PyProof.Rows in
set_option maxRecDepth 100000 in
set_option maxHeartbeats 0 in
theorem PySem.Challenge.cw_lanesdealt_k04_share_of_lanes_holds : PySem.Challenge.rw_lanesdealt_k04_share_of_lanes.Holds := by
  w_on; o_law; k_head; (case hw => w_witness2)
  refine Mo.law_walk (l := PySem.Challenge.rw_lanesdealt_k04_share_of_lanes) (k := 4) (by decide) rfl rfl (fun w h Y => PySem.W.kIn_of Y) ?F
  case F =>
    intro w mg fa h KX G hmg
    refine Lw.all_mk KX G hmg ?c ?e ⟨rfl, rfl⟩
    case c => unfold He.SaysT; kernel_rfl
    case e => kernel_rfl
