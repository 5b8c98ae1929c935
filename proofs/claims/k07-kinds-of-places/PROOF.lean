import PyProof.Rows.All
import Wide.All
import OpenK.AllK
import Wide.FinOn
import HandS.ForMost
import HandS.ForExc
import HandS.IsInst
import PySem.Challenge.RW_lanesdealt_k07_kinds_of_places
set_option Elab.async false
set_option linter.all false
set_option maxRecDepth 100000
set_option maxHeartbeats 4000000
/-! Mo1: values and heaps of a plain model; how they lie in the abstract heap of the hand layer; readings made of runs of the model. -/
namespace Mo
open PySem L2

inductive MV where
  | non | bl (b : Bool) | int (i : Int) | str (x : Str) | byt (b : Array UInt8)
  | tup (xs : List MV) | ktp (xs : List MV) | frl (xs : List MV) | ref (i : Nat) | glo (s : String) | ty (n : String)
  deriving Inhabited

/-- objects of the model's heap -/
inductive MO where
  | lst (xs : List MV)
  | dk (kvs : List (Key × MV)) | dt (kvs : List (List Key × MV))
  | ins (c : String) (fs : List (String × MV))
  deriving Inhabited
abbrev MH := List MO
abbrev Lo := List (Option MV)
/-- an exception: its class, its own fields -/
structure MX where
  c : String
  fs : List (String × MV)
inductive Rz (α : Type) where
  | ok (v : α) (h : MH) | err (e : MX) (h : MH) | no
def Rz.bnd {α β : Type} (r : Rz α) (k : α → MH → Rz β) : Rz β := match r with
  | .ok v h => k v h
  | .err e h => .err e h
  | .no => .no
abbrev MR := Rz MV
inductive SR where
  | nx (s : Lo) (h : MH) | rt (v : MV) (h : MH) | bk (s : Lo) (h : MH) | ct (s : Lo) (h : MH) | err (e : MX) (s : Lo) (h : MH) | no
abbrev ME := Lo → MH → Rz MV
abbrev MEs := Lo → MH → Rz (List MV)
abbrev MB := Lo → MH → Rz Bool
abbrev MS := Lo → MH → SR
abbrev MF := List MV → MH → Rz MV

/-- a list that is read and never written: the script, a list of the module -/
def FrL (K : PySem.W.Frag) (H : Hp) (a : Addr) (xs : List V) : Prop :=
  (∃ o, H a = some (.frz o (.lst xs))) ∨
    ∃ (o : Obj) (its : Array Value) (n : Nat), K.lookup a = some o ∧ o.cls = .type "list" ∧ o.dict = none ∧ o.data = .seq its n ∧ its.size ≤ sizeLine ∧ Vals xs its.toList
theorem FrL.sq {K : PySem.W.Frag} {H : Hp} {a : Addr} {xs : List V} (h : FrL K H a xs) : SqL K H a xs := by
  rcases h with h | h
  · exact .inl (.inr h)
  · exact .inr h
/-- a tuple of the text's top -/
def KtT (K : PySem.W.Frag) (a : Addr) (xs : List V) : Prop :=
  ∃ (o : Obj) (its : Array Value) (n : Nat), K.lookup a = some o ∧ o.cls = .type "tuple" ∧ o.data = .seq its n ∧ its.size ≤ sizeLine ∧ Vals xs its.toList
theorem KtT.sq {K : PySem.W.Frag} {H : Hp} {a : Addr} {xs : List V} (h : KtT K a xs) : SqT K H a xs := .inr h
mutual
def VR (K : PySem.W.Frag) (G : String → Option V) (ρ : List Addr) (H : Hp) : MV → V → Prop
  | .non, v => v = .non
  | .bl b, v => v = .bl b
  | .int i, v => v = .int i
  | .str x, v => v = .str x
  | .byt b, v => v = .byt b
  | .tup xs, v => ∃ a vs, v = .ref a ∧ H a = some (.tup vs) ∧ VRs K G ρ H xs vs
  | .ktp xs, v => ∃ a vs, v = .ref a ∧ KtT K a vs ∧ VRs K G ρ H xs vs
  | .frl xs, v => ∃ a vs, v = .ref a ∧ FrL K H a vs ∧ VRs K G ρ H xs vs
  | .ref i, v => ∃ a, v = .ref a ∧ ρ[i]? = some a
  | .glo s, v => G s = some v
  | .ty n, v => v = .ty n
def VRs (K : PySem.W.Frag) (G : String → Option V) (ρ : List Addr) (H : Hp) : List MV → List V → Prop
  | [], vs => vs = []
  | x :: xs, vs => ∃ v r, vs = v :: r ∧ VR K G ρ H x v ∧ VRs K G ρ H xs r
end
/-- keyed values -/
def KRs (K : PySem.W.Frag) (G : String → Option V) (ρ : List Addr) (H : Hp) {κ κ' : Type} (j : κ → κ') : List (κ × MV) → List (κ' × V) → Prop
  | [], vs => vs = []
  | x :: xs, vs => ∃ v r, vs = (j x.1, v) :: r ∧ VR K G ρ H x.2 v ∧ KRs K G ρ H j xs r
abbrev FRs (K : PySem.W.Frag) (G : String → Option V) (ρ : List Addr) (H : Hp) : List (String × MV) → List (Str × V) → Prop := KRs K G ρ H Str.ofString
def OR (K : PySem.W.Frag) (G : String → Option V) (ρ : List Addr) (H : Hp) (a : Addr) : MO → Prop
  | .lst xs => ∃ vs, H a = some (.lst vs) ∧ VRs K G ρ H xs vs
  | .dk kvs => ∃ vs, H a = some (.dK vs) ∧ KRs K G ρ H id kvs vs
  | .dt kvs => ∃ vs, H a = some (.dT vs) ∧ KRs K G ρ H id kvs vs
  | .ins c fs => ∃ C dx vs, G c = some (.ref C) ∧ H a = some (.ins C dx vs) ∧ FRs K G ρ H fs vs
structure Ext (K : PySem.W.Frag) (ρ : List Addr) (H : Hp) (ρ' : List Addr) (H' : Hp) : Prop where
  pre : ∃ t, ρ' = ρ ++ t
  tup : ∀ a vs, H a = some (.tup vs) → H' a = some (.tup vs)
  frl : ∀ a vs, FrL K H a vs → FrL K H' a vs
structure HR (K : PySem.W.Frag) (G : String → Option V) (ρ : List Addr) (H : Hp) (mh : MH) : Prop where
  len : ρ.length = mh.length
  nd : ρ.Nodup
  obj : ∀ (i : Nat) (o : MO), mh[i]? = some o → ∃ a, ρ[i]? = some a ∧ OR K G ρ H a o
def SRl (K : PySem.W.Frag) (G : String → Option V) (ρ : List Addr) (H : Hp) (sm : Lo) (σ : St) : Prop :=
  sm.length = σ.length ∧ ∀ (i : Nat) (x : MV), sm[i]? = some (some x) → ∃ v, σ[i]? = some (some v) ∧ VR K G ρ H x v
structure Rl (K : PySem.W.Frag) (G : String → Option V) (ρ : List Addr) (H : Hp) (sm : Lo) (σ : St) (mh : MH) : Prop where
  hr : HR K G ρ H mh
  sr : SRl K G ρ H sm σ
def ER (K : PySem.W.Frag) (G : String → Option V) (ρ : List Addr) (H : Hp) (e : MX) (cls : Value) (d : Option Addr) : Prop :=
  ∃ C a vs, G e.c = some (.ref C) ∧ cls = .ref C ∧ d = some a ∧ H a = some (.xd vs) ∧ FRs K G ρ H e.fs vs

/-! ### monotone -/
theorem Ext.refl {K : PySem.W.Frag} {ρ : List Addr} {H : Hp} : Ext K ρ H ρ H := ⟨⟨[], by simp⟩, fun _ _ h => h, fun _ _ h => h⟩
theorem Ext.trans {K : PySem.W.Frag} {ρ ρ1 ρ2 : List Addr} {H H1 H2 : Hp} (a : Ext K ρ H ρ1 H1) (b : Ext K ρ1 H1 ρ2 H2) : Ext K ρ H ρ2 H2 := by
  obtain ⟨⟨t, e⟩, f, g⟩ := a
  obtain ⟨⟨u, e'⟩, f', g'⟩ := b
  exact ⟨⟨t ++ u, by rw [e', e, List.append_assoc]⟩, fun a vs h => f' a vs (f a vs h), fun a vs h => g' a vs (g a vs h)⟩
theorem Ext.at {K : PySem.W.Frag} {ρ ρ1 : List Addr} {H H1 : Hp} (x : Ext K ρ H ρ1 H1) {i : Nat} {a : Addr} (h : ρ[i]? = some a) : ρ1[i]? = some a := by
  obtain ⟨⟨t, e⟩, _, _⟩ := x
  rw [e]
  exact (List.getElem?_append_left (List.getElem?_eq_some_iff.mp h).1).trans h
section
variable {K : PySem.W.Frag} {G : String → Option V} {ρ ρ1 : List Addr} {H H1 : Hp}
mutual
theorem VR.ext (x : Ext K ρ H ρ1 H1) : ∀ {m : MV} {v : V}, VR K G ρ H m v → VR K G ρ1 H1 m v
  | .non, _, h => by simpa [VR] using h
  | .bl _, _, h => by simpa [VR] using h
  | .int _, _, h => by simpa [VR] using h
  | .str _, _, h => by simpa [VR] using h
  | .byt _, _, h => by simpa [VR] using h
  | .glo _, _, h => by simpa [VR] using h
  | .ty _, _, h => by simpa [VR] using h
  | .ref _, _, h => by
    simp only [VR] at h ⊢
    obtain ⟨a, e, q⟩ := h
    exact ⟨a, e, x.at q⟩
  | .tup xs, _, h => by
    simp only [VR] at h ⊢
    obtain ⟨a, vs, e, q, r⟩ := h
    exact ⟨a, vs, e, x.tup a vs q, VRs.ext x r⟩
  | .ktp xs, _, h => by
    simp only [VR] at h ⊢
    obtain ⟨a, vs, e, q, r⟩ := h
    exact ⟨a, vs, e, q, VRs.ext x r⟩
  | .frl xs, _, h => by
    simp only [VR] at h ⊢
    obtain ⟨a, vs, e, q, r⟩ := h
    exact ⟨a, vs, e, x.frl _ _ q, VRs.ext x r⟩
theorem VRs.ext (x : Ext K ρ H ρ1 H1) : ∀ {ms : List MV} {vs : List V}, VRs K G ρ H ms vs → VRs K G ρ1 H1 ms vs
  | [], _, h => by simpa [VRs] using h
  | m :: ms, _, h => by
    simp only [VRs] at h ⊢
    obtain ⟨v, r, e, q, t⟩ := h
    exact ⟨v, r, e, VR.ext x q, VRs.ext x t⟩
end
theorem KRs.ext {κ κ' : Type} {j : κ → κ'} (x : Ext K ρ H ρ1 H1) : ∀ {ms : List (κ × MV)} {vs : List (κ' × V)}, KRs K G ρ H j ms vs → KRs K G ρ1 H1 j ms vs
  | [], _, h => h
  | m :: ms, _, h => by
    obtain ⟨v, r, e, q, t⟩ := h
    exact ⟨v, r, e, VR.ext x q, KRs.ext x t⟩
theorem SRl.ext {sm : Lo} {σ : St} (x : Ext K ρ H ρ1 H1) (h : SRl K G ρ H sm σ) : SRl K G ρ1 H1 sm σ :=
  ⟨h.1, fun i m e => let ⟨v, a, b⟩ := h.2 i m e; ⟨v, a, b.ext x⟩⟩
end

/-! ### readings out of runs -/
section
variable (K : PySem.W.Frag) (G : String → Option V)
/-- what is wanted of a run's result -/
def RO {α : Type} (W : WX) (σ : St) (P : α → List Addr → Hp → Prop) (ρ : List Addr) (H : Hp) : Rz α → Prop
  | .ok v mh1 => ∀ ρ1 H1, Ext K ρ H ρ1 H1 → HR K G ρ1 H1 mh1 → P v ρ1 H1
  | .err e mh1 => ∀ ρ1 H1 cls d, Ext K ρ H ρ1 H1 → HR K G ρ1 H1 mh1 → ER K G ρ1 H1 e cls d → W cls d σ H1
  | .no => False
abbrev PV (Q : VK) : MV → List Addr → Hp → Prop := fun v ρ1 H1 => ∀ v1, VR K G ρ1 H1 v v1 → Q v1 H1
abbrev PB (Q : Bool → Hp → Prop) : Bool → List Addr → Hp → Prop := fun b _ H1 => Q b H1
abbrev PVs (Q : List V → Hp → Prop) : List MV → List Addr → Hp → Prop := fun v ρ1 H1 => ∀ v1, VRs K G ρ1 H1 v v1 → Q v1 H1
/-- an expression's run as a reading; W: what is wanted of an exception -/
def RE (W : WX) (m : ME) : TE := fun σ H Q => ∃ ρ sm mh, Rl K G ρ H sm σ mh ∧ RO K G W σ (PV K G Q) ρ H (m sm mh)
def RT (W : WX) (m : MB) : TT := fun σ H Q => ∃ ρ sm mh, Rl K G ρ H sm σ mh ∧ RO K G W σ (PB Q) ρ H (m sm mh)
def RA (W : WX) (m : MEs) : TA := fun σ H Q => ∃ ρ sm mh, Rl K G ρ H sm σ mh ∧ RO K G W σ (PVs K G Q) ρ H (m sm mh)
def RSE (W : WX) (D : Ends) (ρ : List Addr) (H : Hp) (r : SR) : Prop :=
  match r with
  | .nx sm1 mh1 => ∀ ρ1 H1 σ1, Ext K ρ H ρ1 H1 → HR K G ρ1 H1 mh1 → SRl K G ρ1 H1 sm1 σ1 → D.nx σ1 H1
  | .bk sm1 mh1 => ∀ ρ1 H1 σ1, Ext K ρ H ρ1 H1 → HR K G ρ1 H1 mh1 → SRl K G ρ1 H1 sm1 σ1 → D.bk σ1 H1
  | .ct sm1 mh1 => ∀ ρ1 H1 σ1, Ext K ρ H ρ1 H1 → HR K G ρ1 H1 mh1 → SRl K G ρ1 H1 sm1 σ1 → D.ct σ1 H1
  | .rt v mh1 => ∀ ρ1 H1 v1, Ext K ρ H ρ1 H1 → HR K G ρ1 H1 mh1 → VR K G ρ1 H1 v v1 → D.rt v1 H1
  | .err e sm1 mh1 => ∀ ρ1 H1 σ1 cls d, Ext K ρ H ρ1 H1 → HR K G ρ1 H1 mh1 → SRl K G ρ1 H1 sm1 σ1 → ER K G ρ1 H1 e cls d → W cls d σ1 H1
  | .no => False
def RS (W : WX) (m : MS) : TS := fun D σ H => ∃ ρ sm mh, Rl K G ρ H sm σ mh ∧ RSE K G W D ρ H (m sm mh)
/-- a def's promise from its function -/
def SpM (n : Nat) (f : MF) : Sp := fun vs H Q E => ∃ ρ xs mh, HR K G ρ H mh ∧ VRs K G ρ H xs vs ∧ vs.length = n ∧ RO K G (fun cls d _ H => E cls d H) [] (PV K G Q) ρ H (f xs mh)
end
theorem RSE.mono {K : PySem.W.Frag} {G : String → Option V} {W : WX} {D : Ends} {ρ ρ1 : List Addr} {H H1 : Hp} {r : SR} (x : Ext K ρ H ρ1 H1) (h : RSE K G W D ρ H r) : RSE K G W D ρ1 H1 r := by
  cases r with
  | nx s m => exact fun ρ2 H2 σ1 e a b => h ρ2 H2 σ1 (x.trans e) a b
  | bk s m => exact fun ρ2 H2 σ1 e a b => h ρ2 H2 σ1 (x.trans e) a b
  | ct s m => exact fun ρ2 H2 σ1 e a b => h ρ2 H2 σ1 (x.trans e) a b
  | rt v m => exact fun ρ2 H2 σ1 e a b => h ρ2 H2 σ1 (x.trans e) a b
  | err v s m => exact fun ρ2 H2 σ1 c d e a b => h ρ2 H2 σ1 c d (x.trans e) a b
  | no => exact h

/-! ### from a reading to a wider one -/
section
variable {X : Cx} {e : Expr} {es : List Expr} {st : Stmt} {sts : List Stmt}
theorem pe_imp {t t' : TE} (h : PE X e t) (i : ∀ σ H Q, t' σ H Q → t σ H Q) : PE X e t' := ⟨fun pins s σ H Q I q => h.run pins s σ H Q I (i σ H Q q)⟩
theorem pe_alt {t t' : TE} (h : PE X e t) (h' : PE X e t') : PE X e (fun σ H Q => t σ H Q ∨ t' σ H Q) :=
  ⟨fun pins s σ H Q I q => q.elim (fun q => h.run pins s σ H Q I q) fun q => h'.run pins s σ H Q I q⟩
theorem pt_imp {t t' : TT} (h : PT X e t) (i : ∀ σ H Q, t' σ H Q → t σ H Q) : PT X e t' := ⟨fun pins s σ H Q I q => h.run pins s σ H Q I (i σ H Q q)⟩
theorem pa_imp {t t' : TA} (h : PA X es t) (i : ∀ σ H Q, t' σ H Q → t σ H Q) : PA X es t' := ⟨fun pos pins s σ H Q I q => h.run pos pins s σ H Q I (i σ H Q q)⟩
theorem ps_imp {t t' : TS} (h : PS X st t) (i : ∀ D σ H, t' D σ H → t D σ H) : PS X st t' := ⟨fun pins s σ H D I q => h.run pins s σ H D I (i D σ H q)⟩
theorem pss_imp {t t' : TS} (h : PSs X sts t) (i : ∀ D σ H, t' D σ H → t D σ H) : PSs X sts t' := ⟨fun pins s σ H D I q => h.run pins s σ H D I (i D σ H q)⟩
end

/-! ### running a part -/
section
variable {K : PySem.W.Frag} {G : String → Option V} {W : WX} {ρ : List Addr} {H : Hp} {sm : Lo} {σ : St} {mh : MH}
theorem Rl.at {ρ1 : List Addr} {H1 : Hp} {mh1 : MH} (r : Rl K G ρ H sm σ mh) (x : Ext K ρ H ρ1 H1) (h : HR K G ρ1 H1 mh1) : Rl K G ρ1 H1 sm σ mh1 := ⟨h, r.sr.ext x⟩
theorem RO.mono {α : Type} {P P1 : α → List Addr → Hp → Prop} {ρ1 : List Addr} {H1 : Hp} {r : Rz α} (h : RO K G W σ P ρ H r) (x : Ext K ρ H ρ1 H1) (hp : ∀ v ρ H, P v ρ H → P1 v ρ H) : RO K G W σ P1 ρ1 H1 r := by
  cases r with
  | ok v m => exact fun ρ2 H2 e a => hp _ _ _ (h ρ2 H2 (x.trans e) a)
  | err v m => exact fun ρ2 H2 c d e a b => h ρ2 H2 c d (x.trans e) a b
  | no => exact h
theorem RO.ext {α : Type} {P : α → List Addr → Hp → Prop} {ρ1 : List Addr} {H1 : Hp} {r : Rz α} (h : RO K G W σ P ρ H r) (x : Ext K ρ H ρ1 H1) : RO K G W σ P ρ1 H1 r := h.mono x fun _ _ _ z => z
/-- first a part, then the rest -/
theorem RO.bnd {α β : Type} {P : β → List Addr → Hp → Prop} {a : Rz α} {k : α → MH → Rz β} (h : RO K G W σ P ρ H (a.bnd k)) :
    RO K G W σ (fun v ρ1 H1 => ∃ mh1, Ext K ρ H ρ1 H1 ∧ HR K G ρ1 H1 mh1 ∧ RO K G W σ P ρ1 H1 (k v mh1)) ρ H a := by
  cases a with
  | ok v m => exact fun ρ1 H1 x hr => ⟨m, x, hr, RO.ext h x⟩
  | err e m => exact h
  | no => exact h
theorem RO.ok {α : Type} {P : α → List Addr → Hp → Prop} {v : α} {mh1 : MH} (h : RO K G W σ P ρ H (.ok v mh1)) (hr : HR K G ρ H mh1) : P v ρ H := h ρ H Ext.refl hr
/-- a part of an expression as a reading -/
theorem re_bnd {β : Type} {P : β → List Addr → Hp → Prop} {m : ME} {k : MV → MH → Rz β} {Q : VK} (r : Rl K G ρ H sm σ mh) (h : RO K G W σ P ρ H ((m sm mh).bnd k))
    (hq : ∀ v ρ1 H1 mh1 x, Ext K ρ H ρ1 H1 → Rl K G ρ1 H1 sm σ mh1 → VR K G ρ1 H1 v x → RO K G W σ P ρ1 H1 (k v mh1) → Q x H1) : RE K G W m σ H Q :=
  ⟨ρ, sm, mh, r, h.bnd.mono Ext.refl fun v ρ1 H1 ⟨mh1, x, hr, z⟩ x1 rv => hq v ρ1 H1 mh1 x1 x (r.at x hr) rv z⟩
theorem rt_bnd {β : Type} {P : β → List Addr → Hp → Prop} {m : MB} {k : Bool → MH → Rz β} {Q : Bool → Hp → Prop} (r : Rl K G ρ H sm σ mh) (h : RO K G W σ P ρ H ((m sm mh).bnd k))
    (hq : ∀ v ρ1 H1 mh1, Ext K ρ H ρ1 H1 → Rl K G ρ1 H1 sm σ mh1 → RO K G W σ P ρ1 H1 (k v mh1) → Q v H1) : RT K G W m σ H Q :=
  ⟨ρ, sm, mh, r, h.bnd.mono Ext.refl fun v ρ1 H1 ⟨mh1, x, hr, z⟩ => hq v ρ1 H1 mh1 x (r.at x hr) z⟩
theorem ra_bnd {β : Type} {P : β → List Addr → Hp → Prop} {m : MEs} {k : List MV → MH → Rz β} {Q : List V → Hp → Prop} (r : Rl K G ρ H sm σ mh) (h : RO K G W σ P ρ H ((m sm mh).bnd k))
    (hq : ∀ v ρ1 H1 mh1 x, Ext K ρ H ρ1 H1 → Rl K G ρ1 H1 sm σ mh1 → VRs K G ρ1 H1 v x → RO K G W σ P ρ1 H1 (k v mh1) → Q x H1) : RA K G W m σ H Q :=
  ⟨ρ, sm, mh, r, h.bnd.mono Ext.refl fun v ρ1 H1 ⟨mh1, x, hr, z⟩ x1 rv => hq v ρ1 H1 mh1 x1 x (r.at x hr) rv z⟩
/-- the last part -/
theorem re_last {P : MV → List Addr → Hp → Prop} {m : ME} {Q : VK} (r : Rl K G ρ H sm σ mh) (h : RO K G W σ P ρ H (m sm mh))
    (hq : ∀ v ρ1 H1 x, P v ρ1 H1 → VR K G ρ1 H1 v x → Q x H1) : RE K G W m σ H Q := ⟨ρ, sm, mh, r, h.mono Ext.refl fun v ρ1 H1 z x rv => hq v ρ1 H1 x z rv⟩
end
end Mo
/-! Mo2: equality, membership, truth, operators: the model's functions and the rules. -/
namespace Mo
open PySem L2

/-! ### lists of related values -/
section
variable {K : PySem.W.Frag} {G : String → Option V} {ρ : List Addr} {H : Hp}
theorem VRs.length : ∀ {xs : List MV} {vs : List V}, VRs K G ρ H xs vs → xs.length = vs.length
  | [], _, h => by simp only [VRs] at h; subst h; rfl
  | x :: xs, _, h => by
    simp only [VRs] at h
    obtain ⟨v, r, rfl, _, t⟩ := h
    simp [VRs.length t]
theorem VRs.get : ∀ {xs : List MV} {vs : List V} {i : Nat} {x : MV}, VRs K G ρ H xs vs → xs[i]? = some x → ∃ v, vs[i]? = some v ∧ VR K G ρ H x v
  | [], _, _, _, _, e => by simp at e
  | y :: xs, _, 0, x, h, e => by
    simp only [VRs] at h
    obtain ⟨v, r, rfl, q, t⟩ := h
    simp at e
    subst e
    exact ⟨v, rfl, q⟩
  | y :: xs, _, i + 1, x, h, e => by
    simp only [VRs] at h
    obtain ⟨v, r, rfl, q, t⟩ := h
    simp at e
    obtain ⟨w, a, b⟩ := VRs.get (i := i) t e
    exact ⟨w, by simpa using a, b⟩
theorem VRs.get' : ∀ {xs : List MV} {vs : List V} {i : Nat} {v : V}, VRs K G ρ H xs vs → vs[i]? = some v → ∃ x, xs[i]? = some x ∧ VR K G ρ H x v := fun {xs vs i v} h e => by
  have hl := h.length
  have hi : i < xs.length := by rw [hl]; exact (List.getElem?_eq_some_iff.mp e).1
  obtain ⟨w, a, b⟩ := h.get (i := i) (x := xs[i]) (by simp [hi])
  rw [e] at a; cases a
  exact ⟨_, by simp [hi], b⟩
theorem VRs.nil : VRs K G ρ H [] [] := by simp [VRs]
theorem VRs.cons {x : MV} {v : V} {xs : List MV} {vs : List V} (a : VR K G ρ H x v) (b : VRs K G ρ H xs vs) : VRs K G ρ H (x :: xs) (v :: vs) := by
  simp only [VRs]; exact ⟨v, vs, rfl, a, b⟩
theorem VRs.append : ∀ {xs ys : List MV} {vs ws : List V}, VRs K G ρ H xs vs → VRs K G ρ H ys ws → VRs K G ρ H (xs ++ ys) (vs ++ ws)
  | [], _, _, _, h, k => by simp only [VRs] at h; subst h; simpa using k
  | x :: xs, _, _, _, h, k => by
    simp only [VRs] at h
    obtain ⟨v, r, rfl, q, t⟩ := h
    exact VRs.cons q (VRs.append t k)
theorem VRs.set {y : MV} {w : V} (r : VR K G ρ H y w) : ∀ {xs : List MV} {vs : List V} (i : Nat), VRs K G ρ H xs vs → VRs K G ρ H (xs.set i y) (vs.set i w)
  | [], _, _, h => by simp only [VRs] at h; subst h; exact VRs.nil
  | x :: xs, _, 0, h => by
    simp only [VRs] at h
    obtain ⟨v, s, rfl, q, t⟩ := h
    exact VRs.cons r t
  | x :: xs, _, i + 1, h => by
    simp only [VRs] at h
    obtain ⟨v, s, rfl, q, t⟩ := h
    exact VRs.cons q (VRs.set r i t)
theorem VRs.take : ∀ {xs : List MV} {vs : List V} (n : Nat), VRs K G ρ H xs vs → VRs K G ρ H (xs.take n) (vs.take n)
  | _, _, 0, h => by simp [VRs]
  | [], _, _ + 1, h => by simp only [VRs] at h; subst h; exact VRs.nil
  | x :: xs, _, n + 1, h => by
    simp only [VRs] at h
    obtain ⟨v, s, rfl, q, t⟩ := h
    exact VRs.cons q (VRs.take n t)
theorem VRs.drop : ∀ {xs : List MV} {vs : List V} (n : Nat), VRs K G ρ H xs vs → VRs K G ρ H (xs.drop n) (vs.drop n)
  | _, _, 0, h => by simpa using h
  | [], _, _ + 1, h => by simp only [VRs] at h; subst h; exact VRs.nil
  | x :: xs, _, n + 1, h => by
    simp only [VRs] at h
    obtain ⟨v, s, rfl, q, t⟩ := h
    simpa using VRs.drop n t
theorem VRs.reverse : ∀ {xs : List MV} {vs : List V}, VRs K G ρ H xs vs → VRs K G ρ H xs.reverse vs.reverse
  | [], _, h => by simp only [VRs] at h; subst h; exact VRs.nil
  | x :: xs, _, h => by
    simp only [VRs] at h
    obtain ⟨v, s, rfl, q, t⟩ := h
    rw [List.reverse_cons, List.reverse_cons]
    exact VRs.append (VRs.reverse t) (VRs.cons q VRs.nil)
end

/-! ### the heap: reading, writing, a new object -/
section
variable {K : PySem.W.Frag} {G : String → Option V} {ρ : List Addr} {H : Hp} {mh : MH}
/-- what of H an object of the model is -/
def Plain (u : HO) : Prop := (∀ vs, u ≠ .tup vs) ∧ ∀ b w, u ≠ .frz b w
theorem OR.there {a : Addr} {o : MO} (h : OR K G ρ H a o) : ∃ u, H a = some u ∧ Plain u := by
  cases o with
  | lst xs => obtain ⟨vs, e, _⟩ := h; exact ⟨_, e, by simp [Plain], by simp⟩
  | dk xs => obtain ⟨vs, e, _⟩ := h; exact ⟨_, e, by simp [Plain], by simp⟩
  | dt xs => obtain ⟨vs, e, _⟩ := h; exact ⟨_, e, by simp [Plain], by simp⟩
  | ins c fs => obtain ⟨C, dx, vs, _, e, _⟩ := h; exact ⟨_, e, by simp [Plain], by simp⟩
/-- a known object changes: values' relations stay -/
theorem ext_write {a : Addr} {o u : HO} (hu : H a = some u) (ht : Plain u) : Ext K ρ H ρ (L2.upd H a o) := by
  refine ⟨⟨[], by simp⟩, fun b vs h => ?_, fun b vs h => ?_⟩
  · by_cases e : a = b
    · subst e; rw [hu] at h; cases h; exact absurd rfl (ht.1 vs)
    · rw [L2.upd_ne (Ne.symm e)]; exact h
  · rcases h with ⟨q, h⟩ | h
    · by_cases e : a = b
      · subst e; rw [hu] at h; cases h; exact absurd rfl (ht.2 q _)
      · exact .inl ⟨q, by rw [L2.upd_ne (Ne.symm e)]; exact h⟩
    · exact .inr h
theorem ext_new {a : Addr} {o : HO} {t : List Addr} (hn : H a = none) : Ext K ρ H (ρ ++ t) (L2.upd H a o) := by
  refine ⟨⟨t, rfl⟩, fun b vs h => ?_, fun b vs h => ?_⟩
  · rw [L2.upd_ne (ne_of_none h hn)]; exact h
  · rcases h with ⟨q, h⟩ | h
    · exact .inl ⟨q, by rw [L2.upd_ne (ne_of_none h hn)]; exact h⟩
    · exact .inr h
theorem ext_new0 {a : Addr} {o : HO} (hn : H a = none) : Ext K ρ H ρ (L2.upd H a o) := by
  have := ext_new (K := K) (ρ := ρ) (t := []) (o := o) hn
  simpa using this
/-- an object stands where it stood behind a step that leaves its address as it was -/
theorem OR.keep {ρ1 : List Addr} {H1 : Hp} {a : Addr} {o : MO} (x : Ext K ρ H ρ1 H1) (e : ∀ u, H a = some u → H1 a = some u) (h : OR K G ρ H a o) : OR K G ρ1 H1 a o := by
  cases o with
  | lst xs => obtain ⟨vs, q, r⟩ := h; exact ⟨vs, e _ q, r.ext x⟩
  | dk xs => obtain ⟨vs, q, r⟩ := h; exact ⟨vs, e _ q, r.ext x⟩
  | dt xs => obtain ⟨vs, q, r⟩ := h; exact ⟨vs, e _ q, r.ext x⟩
  | ins c fs => obtain ⟨C, dx, vs, g, q, r⟩ := h; exact ⟨C, dx, vs, g, e _ q, r.ext x⟩
theorem HR.nd_ne (h : HR K G ρ H mh) {i j : Nat} {a b : Addr} (hi : ρ[i]? = some a) (hj : ρ[j]? = some b) (n : i ≠ j) : a ≠ b := fun e => by
  subst e
  obtain ⟨h1, e1⟩ := List.getElem?_eq_some_iff.mp hi
  obtain ⟨h2, e2⟩ := List.getElem?_eq_some_iff.mp hj
  exact n ((List.getElem_inj h.nd).mp (e1.trans e2.symm))
theorem HR.get (h : HR K G ρ H mh) {i : Nat} {o : MO} {a : Addr} (e : mh[i]? = some o) (ha : ρ[i]? = some a) : OR K G ρ H a o := by
  obtain ⟨b, hb, q⟩ := h.obj i o e
  rw [ha] at hb; cases hb
  exact q
/-- object i is written -/
theorem HR.write {i : Nat} {o o1 : MO} {a : Addr} {u : HO} (h : HR K G ρ H mh) (ho : mh[i]? = some o) (ha : ρ[i]? = some a)
    (new : OR K G ρ (L2.upd H a u) a o1) : HR K G ρ (L2.upd H a u) (mh.set i o1) ∧ Ext K ρ H ρ (L2.upd H a u) := by
  obtain ⟨w, hw, ht⟩ := (h.get ho ha).there
  have x : Ext K ρ H ρ (L2.upd H a u) := ext_write hw ht
  refine ⟨⟨by rw [List.length_set]; exact h.len, h.nd, fun j q e => ?_⟩, x⟩
  by_cases hj : i = j
  · subst hj
    have hi : i < mh.length := (List.getElem?_eq_some_iff.mp ho).1
    rw [List.getElem?_set_self hi] at e
    cases e
    exact ⟨a, ha, new⟩
  · rw [List.getElem?_set_ne hj] at e
    obtain ⟨b, hb, r⟩ := h.obj j q e
    refine ⟨b, hb, r.keep x fun v hv => ?_⟩
    rw [L2.upd_ne (Ne.symm (h.nd_ne ha hb hj))]
    exact hv
theorem HR.notin (h : HR K G ρ H mh) {a : Addr} (hn : H a = none) : a ∉ ρ := fun hm => by
  obtain ⟨i, hi, e⟩ := List.mem_iff_getElem.mp hm
  have hi' : i < mh.length := by rw [← h.len]; exact hi
  obtain ⟨b, hb, r⟩ := h.obj i mh[i] (by simp [hi'])
  have : b = a := by
    rw [List.getElem?_eq_getElem hi, e] at hb
    exact (Option.some.inj hb).symm
  subst this
  obtain ⟨u, hu, _⟩ := r.there
  rw [hn] at hu; cases hu
/-- a new object -/
theorem HR.new {a : Addr} {u : HO} {o : MO} (h : HR K G ρ H mh) (hn : H a = none) (new : OR K G (ρ ++ [a]) (L2.upd H a u) a o) :
    HR K G (ρ ++ [a]) (L2.upd H a u) (mh ++ [o]) ∧ Ext K ρ H (ρ ++ [a]) (L2.upd H a u) := by
  have x : Ext K ρ H (ρ ++ [a]) (L2.upd H a u) := ext_new hn
  have hk := h.notin hn
  refine ⟨⟨by simp [h.len], ?_, fun j q e => ?_⟩, x⟩
  · rw [List.nodup_append]
    exact ⟨h.nd, by simp, fun b hb c hc e => by simp at hc; subst hc; subst e; exact hk hb⟩
  · by_cases hj : j < mh.length
    · rw [List.getElem?_append_left hj] at e
      obtain ⟨b, hb, r⟩ := h.obj j q e
      refine ⟨b, x.at hb, r.keep x fun v hv => ?_⟩
      rw [L2.upd_ne (ne_of_none hv hn)]
      exact hv
    · have e' : j = mh.length ∧ q = o := by
        rw [List.getElem?_append_right (by omega)] at e
        have hz : j - mh.length = 0 := by
          have := (List.getElem?_eq_some_iff.mp e).1
          simp at this
          omega
        rw [hz] at e
        simp at e
        exact ⟨by omega, e.symm⟩
      obtain ⟨rfl, rfl⟩ := e'
      exact ⟨a, by rw [← h.len]; simp, new⟩
end
end Mo
/-! Mo3: equality and membership of data, operators. -/
namespace Mo
open PySem L2

/-! ### equality over the abstract heap -/
inductive EqW (K : PySem.W.Frag) (H : Hp) : Nat → V → V → Bool → Prop
  | flat {n x y} : flatV x = true → flatV y = true → EqW K H n x y (eqV x y)
  | same {n a} : EqW K H n (.ref a) (.ref a) true
  | lst {n a b xs ys} (e : Nat → Bool) : SqL K H a xs → SqL K H b ys → xs.length = ys.length →
      (∀ j x y, xs[j]? = some x → ys[j]? = some y → EqW K H n x y (e j)) → EqW K H (n + 1) (.ref a) (.ref b) ((List.range xs.length).all e)
  | lstL {n a b xs ys} : SqL K H a xs → SqL K H b ys → xs.length ≠ ys.length → EqW K H (n + 1) (.ref a) (.ref b) false
  | tup {n a b xs ys} (e : Nat → Bool) : SqT K H a xs → SqT K H b ys →
      (∀ j x y, xs[j]? = some x → ys[j]? = some y → EqW K H n x y (e j)) → EqW K H (n + 1) (.ref a) (.ref b) ((List.range (min xs.length ys.length)).all e && xs.length == ys.length)
  | flatT {n a x xs} : flatV x = true → SqT K H a xs → EqW K H n x (.ref a) false
  | tupF {n a x xs} : flatV x = true → SqT K H a xs → EqW K H n (.ref a) x false
  | flatL {n a x xs} : flatV x = true → SqL K H a xs → EqW K H n x (.ref a) false
  | lstF {n a x xs} : flatV x = true → SqL K H a xs → EqW K H n (.ref a) x false
  | lstT {n a b xs ys} : SqL K H a xs → SqT K H b ys → EqW K H n (.ref a) (.ref b) false
  | tupL {n a b xs ys} : SqT K H a xs → SqL K H b ys → EqW K H n (.ref a) (.ref b) false
section
variable {X : Cx} {pins : List (Addr × Obj)} {σ : St} {H : Hp} {s : Shared}
theorem Inv.lt_apart (I : Inv X pins σ H s) {a : Addr} {xs ys : List V} (h : SqL X.K H a xs) (h' : SqT X.K H a ys) : False := by
  obtain ⟨is, r1, p1, _⟩ := I.list h
  obtain ⟨js, r2, p2, _⟩ := I.tuple h'
  exact SeqAt.ne_of_list_tuple p1.isList p2 rfl
theorem eqV_refl : ∀ {x : V}, flatV x = true → eqV x x = true
  | .non, _ => rfl
  | .bl b, _ => by simp [eqV]
  | .int b, _ => by simp [eqV]
  | .str b, _ => by simp [eqV]
  | .byt b, h => by simp [flatV] at h
  | .flt b, h => by simp [flatV] at h
  | .ref b, h => by simp [flatV] at h
  | .ty b, h => by simp [flatV] at h
theorem EqW.refl_true (I : Inv X pins σ H s) {n : Nat} {x y : V} {b : Bool} (h : EqW X.K H n x y b) : x = y → b = true := by
  induction h with
  | flat fx fy => rintro rfl; exact eqV_refl fx
  | same => intro _; rfl
  | lst e ha hb hl he ih =>
    intro q
    cases q
    have := I.list_inj ha hb
    subst this
    rw [List.all_eq_true]
    intro j hj
    have hj' := List.mem_range.mp hj
    exact ih j _ _ (List.getElem?_eq_getElem hj') (List.getElem?_eq_getElem hj') rfl
  | lstL ha hb hl => intro q; cases q; exact absurd (by rw [I.list_inj ha hb]) hl
  | tup e ha hb he ih =>
    intro q
    cases q
    have := I.tuple_inj ha hb
    subst this
    rw [Bool.and_eq_true, List.all_eq_true]
    refine ⟨fun j hj => ?_, by simp⟩
    have hj' := List.mem_range.mp hj
    have hj2 : j < List.length _ := Nat.lt_of_lt_of_le hj' (Nat.min_le_left _ _)
    exact ih j _ _ (List.getElem?_eq_getElem hj2) (List.getElem?_eq_getElem hj2) rfl
  | flatT fx ha => intro q; cases q; simp [flatV] at fx
  | tupF fx ha => intro q; cases q; simp [flatV] at fx
  | flatL fx ha => intro q; cases q; simp [flatV] at fx
  | lstF fx ha => intro q; cases q; simp [flatV] at fx
  | lstT ha hb => intro q; cases q; exact (Inv.lt_apart I ha hb).elim
  | tupL ha hb => intro q; cases q; exact (Inv.lt_apart I hb ha).elim
theorem EqW.at (I : Inv X pins σ H s) {n : Nat} {x y : V} {b : Bool} (h : EqW X.K H n x y b) : ∀ {A : Around} {u v : Value}, A.units + n < cLine → RelV x u → RelV y v → SeqAt.EqAt A s u v b := by
  induction h with
  | flat fx fy => exact fun _ rx ry => eqAt_V rx ry fx fy
  | same => intro A u v _ rx ry; cases rx; cases ry; exact SeqAt.EqAt.same _
  | @lst n a b xs ys e ha hb hl he ih =>
    intro A u v hu rx ry
    by_cases hne : a = b
    · rw [(EqW.lst e ha hb hl he).refl_true I (by rw [hne])]
      subst hne
      cases rx; cases ry
      exact SeqAt.EqAt.same _
    cases rx; cases ry
    obtain ⟨is, r1, p1, _⟩ := I.list ha
    obtain ⟨js, r2, p2, _⟩ := I.list hb
    have l1 := r1.length
    have l2 := r2.length
    have q := SeqAt.RcAt.lists (A := A) (e := e) p1.isList p2.isList (by simp; omega) (by omega) (fun j h1 h2 => by
      simp only [List.size_toArray] at h1 h2
      have a1 : _[j]? = some _ := List.getElem?_eq_getElem (l := _) (i := j) (by rw [l1]; exact h1)
      have a2 : _[j]? = some _ := List.getElem?_eq_getElem (l := _) (i := j) (by rw [l2]; exact h2)
      obtain ⟨w1, b1, c1⟩ := r1.get a1
      obtain ⟨w2, b2, c2⟩ := r2.get a2
      have d1 : is[j] = w1 := by rw [List.getElem?_eq_getElem h1] at b1; exact Option.some.inj b1
      have d2 : js[j] = w2 := by rw [List.getElem?_eq_getElem h2] at b2; exact Option.some.inj b2
      simp only [List.getElem_toArray]
      rw [d1, d2]
      exact ih j _ _ a1 a2 (by show A.units + 1 + _ < cLine; omega) c1 c2)
    rw [show is.toArray.size = _ from by simp; exact l1.symm] at q
    exact SeqAt.EqAt.of_refs hne q
  | lstL ha hb hl =>
    intro A u v hu rx ry
    cases rx; cases ry
    obtain ⟨is, r1, p1, _⟩ := I.list ha
    obtain ⟨js, r2, p2, _⟩ := I.list hb
    have l1 := r1.length
    have l2 := r2.length
    refine SeqAt.EqAt.of_refs (fun e => ?_) (SeqAt.RcAt.lists_lengths p1.isList p2.isList (by simp; omega) (by omega))
    subst e
    rw [I.list_inj ha hb] at hl
    exact hl rfl
  | @tup n a b xs ys e ha hb he ih =>
    intro A u v hu rx ry
    by_cases hne : a = b
    · rw [(EqW.tup e ha hb he).refl_true I (by rw [hne])]
      subst hne
      cases rx; cases ry
      exact SeqAt.EqAt.same _
    cases rx; cases ry
    obtain ⟨is, r1, p1, _⟩ := I.tuple ha
    obtain ⟨js, r2, p2, _⟩ := I.tuple hb
    have l1 := r1.length
    have l2 := r2.length
    have q := SeqAt.RcAt.tuples (A := A) (e := e) p1 p2 (by omega) (fun j h1 h2 => by
      simp only [List.size_toArray] at h1 h2
      have a1 : _[j]? = some _ := List.getElem?_eq_getElem (l := _) (i := j) (by rw [l1]; exact h1)
      have a2 : _[j]? = some _ := List.getElem?_eq_getElem (l := _) (i := j) (by rw [l2]; exact h2)
      obtain ⟨w1, b1, c1⟩ := r1.get a1
      obtain ⟨w2, b2, c2⟩ := r2.get a2
      have d1 : is[j] = w1 := by rw [List.getElem?_eq_getElem h1] at b1; exact Option.some.inj b1
      have d2 : js[j] = w2 := by rw [List.getElem?_eq_getElem h2] at b2; exact Option.some.inj b2
      simp only [List.getElem_toArray]
      rw [d1, d2]
      exact ih j _ _ a1 a2 (by show A.units + 1 + _ < cLine; omega) c1 c2)
    rw [show is.toArray.size = _ from by simp; exact l1.symm, show js.toArray.size = _ from by simp; exact l2.symm] at q
    exact SeqAt.EqAt.of_refs hne q
  | @flatT n a x xs fx ha =>
    intro A u v hu rx ry
    cases ry
    obtain ⟨js, r2, p2, _⟩ := I.tuple ha
    have hu' : A.units < cLine := by omega
    cases x with
    | non => cases rx; exact SeqAt.EqAt.none_tuple p2 hu'
    | bl b => cases rx; exact SeqAt.EqAt.bool_tuple _ p2 hu'
    | int i => obtain ⟨t, rfl⟩ := rx; exact SeqAt.EqAt.int_tuple _ _ p2 hu'
    | str i => obtain ⟨t, rfl⟩ := rx; exact SeqAt.EqAt.str_tuple _ _ p2 hu'
    | _ => simp [flatV] at fx
  | @tupF n a x xs fx ha =>
    intro A u v hu ry rx
    cases ry
    obtain ⟨js, r2, p2, _⟩ := I.tuple ha
    have hu' : A.units < cLine := by omega
    cases x with
    | non => cases rx; exact SeqAt.EqAt.tuple_none p2 hu'
    | bl b => cases rx; exact SeqAt.EqAt.tuple_bool _ p2 hu'
    | int i => obtain ⟨t, rfl⟩ := rx; exact SeqAt.EqAt.tuple_int _ _ p2 hu'
    | str i => obtain ⟨t, rfl⟩ := rx; exact SeqAt.EqAt.tuple_str _ _ p2 hu'
    | _ => simp [flatV] at fx
  | @flatL n a x xs fx ha =>
    intro A u v hu rx ry
    cases ry
    obtain ⟨js, r2, p2, _⟩ := I.list ha
    have hu' : A.units < cLine := by omega
    cases x with
    | non => cases rx; exact SeqAt.EqAt.none_list p2.isList hu'
    | bl b => cases rx; exact SeqAt.EqAt.bool_list _ p2.isList hu'
    | int i => obtain ⟨t, rfl⟩ := rx; exact SeqAt.EqAt.int_list _ _ p2.isList hu'
    | str i => obtain ⟨t, rfl⟩ := rx; exact SeqAt.EqAt.str_list _ _ p2.isList hu'
    | _ => simp [flatV] at fx
  | @lstF n a x xs fx ha =>
    intro A u v hu ry rx
    cases ry
    obtain ⟨js, r2, p2, _⟩ := I.list ha
    have hu' : A.units < cLine := by omega
    cases x with
    | non => cases rx; exact SeqAt.EqAt.list_none p2.isList hu'
    | bl b => cases rx; exact SeqAt.EqAt.list_bool _ p2.isList hu'
    | int i => obtain ⟨t, rfl⟩ := rx; exact SeqAt.EqAt.list_int _ _ p2.isList hu'
    | str i => obtain ⟨t, rfl⟩ := rx; exact SeqAt.EqAt.list_str _ _ p2.isList hu'
    | _ => simp [flatV] at fx
  | lstT ha hb =>
    intro A u v hu rx ry
    cases rx; cases ry
    obtain ⟨is, r1, p1, _⟩ := I.list ha
    obtain ⟨js, r2, p2, _⟩ := I.tuple hb
    exact SeqAt.EqAt.list_tuple p1.isList p2 (by omega)
  | tupL ha hb =>
    intro A u v hu rx ry
    cases rx; cases ry
    obtain ⟨is, r1, p1, _⟩ := I.tuple ha
    obtain ⟨js, r2, p2, _⟩ := I.list hb
    exact SeqAt.EqAt.tuple_list p1 p2.isList (by omega)
/-! ### == and != of two values, whatever they are -/
inductive RcW (K : PySem.W.Frag) (H : Hp) : Nat → V → V → Bool → Prop
  | sc {n x y} : scal x y = true → RcW K H n x y (decide (x = y))
  | lst {n a b xs ys} (e : Nat → Bool) : SqL K H a xs → SqL K H b ys → xs.length = ys.length →
      (∀ j x y, xs[j]? = some x → ys[j]? = some y → EqW K H n x y (e j)) → RcW K H (n + 1) (.ref a) (.ref b) ((List.range xs.length).all e)
  | lstL {n a b xs ys} : SqL K H a xs → SqL K H b ys → xs.length ≠ ys.length → RcW K H (n + 1) (.ref a) (.ref b) false
  | tup {n a b xs ys} (e : Nat → Bool) : SqT K H a xs → SqT K H b ys →
      (∀ j x y, xs[j]? = some x → ys[j]? = some y → EqW K H n x y (e j)) → RcW K H (n + 1) (.ref a) (.ref b) ((List.range (min xs.length ys.length)).all e && xs.length == ys.length)
  | flatT {n a x xs} : flatV x = true → SqT K H a xs → RcW K H n x (.ref a) false
  | tupF {n a x xs} : flatV x = true → SqT K H a xs → RcW K H n (.ref a) x false
  | flatL {n a x xs} : flatV x = true → SqL K H a xs → RcW K H n x (.ref a) false
  | lstF {n a x xs} : flatV x = true → SqL K H a xs → RcW K H n (.ref a) x false
  | lstT {n a b xs ys} : SqL K H a xs → SqT K H b ys → RcW K H n (.ref a) (.ref b) false
  | tupL {n a b xs ys} : SqT K H a xs → SqL K H b ys → RcW K H n (.ref a) (.ref b) false
theorem kids {n : Nat} {xs ys : List V} {is js : List Value} {e : Nat → Bool} (I : Inv X pins σ H s) (r1 : Vals xs is) (r2 : Vals ys js) (he : ∀ j x y, xs[j]? = some x → ys[j]? = some y → EqW X.K H n x y (e j)) {A : Around} (hu : A.units + n < cLine) :
    ∀ j (h1 : j < is.toArray.size) (h2 : j < js.toArray.size), SeqAt.EqAt A s is.toArray[j] js.toArray[j] (e j) := fun j h1 h2 => by
  have l1 := r1.length
  have l2 := r2.length
  simp only [List.size_toArray] at h1 h2
  have a1 : xs[j]? = some _ := List.getElem?_eq_getElem (l := _) (i := j) (by rw [l1]; exact h1)
  have a2 : ys[j]? = some _ := List.getElem?_eq_getElem (l := _) (i := j) (by rw [l2]; exact h2)
  obtain ⟨w1, b1, c1⟩ := r1.get a1
  obtain ⟨w2, b2, c2⟩ := r2.get a2
  have d1 : is[j] = w1 := by rw [List.getElem?_eq_getElem h1] at b1; exact Option.some.inj b1
  have d2 : js[j] = w2 := by rw [List.getElem?_eq_getElem h2] at b2; exact Option.some.inj b2
  simp only [List.getElem_toArray]
  rw [d1, d2]
  exact (he j _ _ a1 a2).at I hu c1 c2
theorem RcW.eqne (I : Inv X pins σ H s) {n : Nat} {x y : V} {b : Bool} (h : RcW X.K H n x y b) {u v : Value} (hu : X.A.units + n < cLine) (rx : RelV x u) (ry : RelV y v) :
    (scal x y = true ∧ b = decide (x = y)) ∨ (SeqAt.RcAt X.A s u v b ∧ SeqAt.RcNeAt X.A s u v (!b)) := by
  cases h with
  | sc h => exact .inl ⟨h, rfl⟩
  | lst e ha hb hl he =>
    cases rx; cases ry
    obtain ⟨is, r1, p1, _⟩ := I.list ha
    obtain ⟨js, r2, p2, _⟩ := I.list hb
    have l1 := r1.length
    have l2 := r2.length
    have k := kids I r1 r2 he (A := X.A.in1) (by show X.A.units + 1 + _ < cLine; omega)
    have z : is.toArray.size = js.toArray.size := by simp; omega
    have q := SeqAt.RcAt.lists (e := e) p1.isList p2.isList z (by omega) k
    have q2 := SeqAt.RcNeAt.lists (e := e) p1.isList p2.isList z (by omega) k
    rw [show is.toArray.size = _ from by simp; exact l1.symm] at q q2
    exact .inr ⟨q, q2⟩
  | lstL ha hb hl =>
    cases rx; cases ry
    obtain ⟨is, r1, p1, _⟩ := I.list ha
    obtain ⟨js, r2, p2, _⟩ := I.list hb
    have l1 := r1.length
    have l2 := r2.length
    have z : (is.toArray.size != js.toArray.size) = true := by simp; omega
    exact .inr ⟨SeqAt.RcAt.lists_lengths p1.isList p2.isList z (by omega), SeqAt.RcNeAt.lists_lengths p1.isList p2.isList z (by omega)⟩
  | tup e ha hb he =>
    cases rx; cases ry
    obtain ⟨is, r1, p1, _⟩ := I.tuple ha
    obtain ⟨js, r2, p2, _⟩ := I.tuple hb
    have l1 := r1.length
    have l2 := r2.length
    have k := kids I r1 r2 he (A := X.A.in1) (by show X.A.units + 1 + _ < cLine; omega)
    have q := SeqAt.RcAt.tuples (e := e) p1 p2 (by omega) k
    have q2 := SeqAt.RcNeAt.tuples (e := e) p1 p2 (by omega) k
    rw [show is.toArray.size = _ from by simp; exact l1.symm, show js.toArray.size = _ from by simp; exact l2.symm] at q q2
    exact .inr ⟨q, q2⟩
  | @flatT _ a x xs fx ha =>
    cases ry
    obtain ⟨js, r2, p2, _⟩ := I.tuple ha
    have hu' : X.A.units < cLine := by omega
    refine .inr ?_
    cases x with
    | non => cases rx; exact ⟨SeqAt.RcAt.none_tuple p2 hu', SeqAt.RcNeAt.none_tuple p2 hu'⟩
    | bl b => cases rx; exact ⟨SeqAt.RcAt.bool_tuple _ p2 hu', SeqAt.RcNeAt.bool_tuple _ p2 hu'⟩
    | int i => obtain ⟨t, rfl⟩ := rx; exact ⟨SeqAt.RcAt.int_tuple _ _ p2 hu', SeqAt.RcNeAt.int_tuple _ _ p2 hu'⟩
    | str i => obtain ⟨t, rfl⟩ := rx; exact ⟨SeqAt.RcAt.str_tuple _ _ p2 hu', SeqAt.RcNeAt.str_tuple _ _ p2 hu'⟩
    | _ => simp [flatV] at fx
  | @tupF _ a x xs fx ha =>
    cases rx
    obtain ⟨js, r2, p2, _⟩ := I.tuple ha
    have hu' : X.A.units < cLine := by omega
    refine .inr ?_
    cases y with
    | non => cases ry; exact ⟨SeqAt.RcAt.tuple_none p2 hu', SeqAt.RcNeAt.tuple_none p2 hu'⟩
    | bl b => cases ry; exact ⟨SeqAt.RcAt.tuple_bool _ p2 hu', SeqAt.RcNeAt.tuple_bool _ p2 hu'⟩
    | int i => obtain ⟨t, rfl⟩ := ry; exact ⟨SeqAt.RcAt.tuple_int _ _ p2 hu', SeqAt.RcNeAt.tuple_int _ _ p2 hu'⟩
    | str i => obtain ⟨t, rfl⟩ := ry; exact ⟨SeqAt.RcAt.tuple_str _ _ p2 hu', SeqAt.RcNeAt.tuple_str _ _ p2 hu'⟩
    | _ => simp [flatV] at fx
  | @flatL _ a x xs fx ha =>
    cases ry
    obtain ⟨js, r2, p2, _⟩ := I.list ha
    have hu' : X.A.units < cLine := by omega
    refine .inr ?_
    cases x with
    | non => cases rx; exact ⟨SeqAt.RcAt.none_list p2.isList hu', SeqAt.RcNeAt.none_list p2.isList hu'⟩
    | bl b => cases rx; exact ⟨SeqAt.RcAt.bool_list _ p2.isList hu', SeqAt.RcNeAt.bool_list _ p2.isList hu'⟩
    | int i => obtain ⟨t, rfl⟩ := rx; exact ⟨SeqAt.RcAt.int_list _ _ p2.isList hu', SeqAt.RcNeAt.int_list _ _ p2.isList hu'⟩
    | str i => obtain ⟨t, rfl⟩ := rx; exact ⟨SeqAt.RcAt.str_list _ _ p2.isList hu', SeqAt.RcNeAt.str_list _ _ p2.isList hu'⟩
    | _ => simp [flatV] at fx
  | @lstF _ a x xs fx ha =>
    cases rx
    obtain ⟨js, r2, p2, _⟩ := I.list ha
    have hu' : X.A.units < cLine := by omega
    refine .inr ?_
    cases y with
    | non => cases ry; exact ⟨SeqAt.RcAt.list_none p2.isList hu', SeqAt.RcNeAt.list_none p2.isList hu'⟩
    | bl b => cases ry; exact ⟨SeqAt.RcAt.list_bool _ p2.isList hu', SeqAt.RcNeAt.list_bool _ p2.isList hu'⟩
    | int i => obtain ⟨t, rfl⟩ := ry; exact ⟨SeqAt.RcAt.list_int _ _ p2.isList hu', SeqAt.RcNeAt.list_int _ _ p2.isList hu'⟩
    | str i => obtain ⟨t, rfl⟩ := ry; exact ⟨SeqAt.RcAt.list_str _ _ p2.isList hu', SeqAt.RcNeAt.list_str _ _ p2.isList hu'⟩
    | _ => simp [flatV] at fx
  | lstT ha hb =>
    cases rx; cases ry
    obtain ⟨is, r1, p1, _⟩ := I.list ha
    obtain ⟨js, r2, p2, _⟩ := I.tuple hb
    exact .inr ⟨SeqAt.RcAt.list_tuple p1.isList p2 (by omega), SeqAt.RcNeAt.list_tuple p1.isList p2 (by omega)⟩
  | tupL ha hb =>
    cases rx; cases ry
    obtain ⟨is, r1, p1, _⟩ := I.tuple ha
    obtain ⟨js, r2, p2, _⟩ := I.list hb
    exact .inr ⟨SeqAt.RcAt.tuple_list p1 p2.isList (by omega), SeqAt.RcNeAt.tuple_list p1 p2.isList (by omega)⟩
end
section
variable {X : Cx}
def DEP : Nat := 8
def rEqM (K : PySem.W.Frag) : R2 := fun x y H Q => ∃ b, RcW K H DEP x y b ∧ Q (.bl b) H
def rNeM (K : PySem.W.Frag) : R2 := fun x y H Q => ∃ b, RcW K H DEP x y b ∧ Q (.bl (!b)) H
theorem op_eqM (hu : X.A.units + 64 < cLine) : OpR X (compareOp .Eq) (rEqM X.K) := by
  intro pins s σ H x y v u Q I rx ry h
  obtain ⟨b, d, q⟩ := h
  rcases d.eqne I (by unfold DEP; omega) rx ry with ⟨h1, rfl⟩ | ⟨h1, _⟩
  · exact op_eq pins s σ H x y v u Q I rx ry ⟨h1, q⟩
  · exact h1 _ _ _ _ ⟨.bl b, H, I, rfl, q⟩
theorem op_neM (hu : X.A.units + 64 < cLine) : OpR X (compareOp .NotEq) (rNeM X.K) := by
  intro pins s σ H x y v u Q I rx ry h
  obtain ⟨b, d, q⟩ := h
  rcases d.eqne I (by unfold DEP; omega) rx ry with ⟨h1, rfl⟩ | ⟨_, h1⟩
  · exact op_ne pins s σ H x y v u Q I rx ry ⟨h1, q⟩
  · exact h1 _ _ _ _ ⟨.bl (!b), H, I, rfl, q⟩
end

/-! ### the model's == -/
def flM : MV → Bool
  | .non => true | .bl _ => true | .int _ => true | .str _ => true | _ => false
def asT : MV → Option (List MV)
  | .tup xs => some xs | .ktp xs => some xs | _ => none
def isT : MV → Bool
  | .tup _ => true | .ktp _ => true | _ => false
def eqF : MV → MV → Bool
  | .non, .non => true
  | .bl a, .bl b => a == b
  | .bl a, .int b => (if a then 1 else 0) == b
  | .int a, .bl b => a == (if b then 1 else 0)
  | .int a, .int b => a == b
  | .str a, .str b => a == b
  | _, _ => false
/-- item by item; lists of unlike lengths differ -/
def eqs (f : MV → MV → Option Bool) : List MV → List MV → Option Bool
  | [], [] => some true
  | x :: xs, y :: ys => match f x y, eqs f xs ys with
    | some a, some b => some (a && b)
    | _, _ => none
  | _, _ => some false
def lstAt (h : MH) : MV → Option (List MV)
  | .ref i => match h[i]? with
    | some (.lst xs) => some xs
    | _ => none
  | _ => none
def sameR : MV → MV → Bool
  | .ref i, .ref j => decide (i = j)
  | _, _ => false
/-- the ways of == that are not flat -/
def mEqS (f : MV → MV → Option Bool) (h : MH) (x y : MV) : Option Bool :=
  match asT x, asT y, lstAt h x, lstAt h y with
  | some xs, some ys, _, _ => eqs f xs ys
  | _, _, some xs, some ys => if xs.length = ys.length then eqs f xs ys else some false
  | some _, _, _, some _ => some false
  | _, some _, some _, _ => some false
  | some _, _, _, _ => if flM y then some false else none
  | _, some _, _, _ => if flM x then some false else none
  | _, _, some _, _ => if flM y then some false else none
  | _, _, _, some _ => if flM x then some false else none
  | _, _, _, _ => none
def mEq : Nat → MH → MV → MV → Option Bool
  | n, h, x, y => if flM x && flM y then some (eqF x y) else match n with
    | 0 => none
    | n + 1 => if sameR x y then some true else mEqS (mEq n h) h x y
def scM : MV → MV → Bool
  | .bl _, .int _ => false
  | .int _, .bl _ => false
  | x, y => flM x && flM y
/-- == at the top: no look at identity -/
def mRc (h : MH) (x y : MV) : Option Bool := match x, y with
  | .byt a, .byt b => some (decide (a = b))
  | x, y => if scM x y then some (eqF x y) else mEqS (mEq 7 h) h x y

section
variable {K : PySem.W.Frag} {G : String → Option V} {ρ : List Addr} {H : Hp} {mh : MH}
theorem flM_V {x : MV} {v : V} (h : VR K G ρ H x v) (f : flM x = true) : flatV v = true ∧ ∀ {y : MV} {w : V}, VR K G ρ H y w → flM y = true → eqV v w = eqF x y := by
  cases x with
  | non => simp only [VR] at h; subst h; refine ⟨rfl, fun {y w} hy fy => ?_⟩; cases y <;> simp [flM] at fy <;> simp only [VR] at hy <;> subst hy <;> rfl
  | bl b => simp only [VR] at h; subst h; refine ⟨rfl, fun {y w} hy fy => ?_⟩; cases y <;> simp [flM] at fy <;> simp only [VR] at hy <;> subst hy <;> rfl
  | int b => simp only [VR] at h; subst h; refine ⟨rfl, fun {y w} hy fy => ?_⟩; cases y <;> simp [flM] at fy <;> simp only [VR] at hy <;> subst hy <;> rfl
  | str b => simp only [VR] at h; subst h; refine ⟨rfl, fun {y w} hy fy => ?_⟩; cases y <;> simp [flM] at fy <;> simp only [VR] at hy <;> subst hy <;> rfl
  | _ => simp [flM] at f
theorem flM_eq {x : MV} (f : flM x = true) : (VR K G ρ H x = fun v => v = (match x with | .bl b => V.bl b | .int i => V.int i | .str s => V.str s | _ => V.non)) := by
  funext v
  cases x <;> simp [flM] at f <;> simp [VR]
theorem HR.lst (hr : HR K G ρ H mh) {i : Nat} {xs : List MV} {v : V} (e : mh[i]? = some (.lst xs)) (r : VR K G ρ H (.ref i) v) : ∃ a vs, v = .ref a ∧ ρ[i]? = some a ∧ H a = some (.lst vs) ∧ VRs K G ρ H xs vs := by
  simp only [VR] at r
  obtain ⟨a, rfl, ha⟩ := r
  obtain ⟨vs, h1, h2⟩ := hr.get e ha
  exact ⟨a, vs, rfl, ha, h1, h2⟩
theorem VR.tup {x : MV} {xs : List MV} {v : V} (e : asT x = some xs) (r : VR K G ρ H x v) : ∃ a vs, v = .ref a ∧ SqT K H a vs ∧ VRs K G ρ H xs vs := by
  cases x <;> simp [asT] at e
  · subst e
    simp only [VR] at r
    obtain ⟨a, vs, e1, h1, h2⟩ := r
    exact ⟨a, vs, e1, SqT.of h1, h2⟩
  · subst e
    simp only [VR] at r
    obtain ⟨a, vs, e1, h1, h2⟩ := r
    exact ⟨a, vs, e1, h1.sq, h2⟩
theorem HR.lst' (hr : HR K G ρ H mh) {x : MV} {xs : List MV} {v : V} (e : lstAt mh x = some xs) (r : VR K G ρ H x v) : ∃ a vs, v = .ref a ∧ SqL K H a vs ∧ VRs K G ρ H xs vs := by
  unfold lstAt at e
  split at e
  · split at e
    · rename_i q
      cases e
      obtain ⟨a, vs, e1, _, h1, h2⟩ := hr.lst q r
      exact ⟨a, vs, e1, SqL.of h1, h2⟩
    · cases e
  · cases e
theorem eqs_sound {f : MV → MV → Option Bool} {P : V → V → Bool → Prop} (hf : ∀ {x y v w b}, f x y = some b → VR K G ρ H x v → VR K G ρ H y w → P v w b) :
    ∀ {xs ys : List MV} {vs ws : List V} {b : Bool}, eqs f xs ys = some b → VRs K G ρ H xs vs → VRs K G ρ H ys ws →
      ∃ e : Nat → Bool, (∀ j x y, vs[j]? = some x → ws[j]? = some y → P x y (e j)) ∧ b = ((List.range (min vs.length ws.length)).all e && vs.length == ws.length) ∧ (vs.length = ws.length → b = (List.range vs.length).all e)
  | [], [], _, _, b, h, r1, r2 => by
    simp only [VRs] at r1 r2; subst r1 r2
    simp [eqs] at h; subst h
    exact ⟨fun _ => true, fun j x y e => by simp at e, by simp, by simp⟩
  | [], y :: ys, _, _, b, h, r1, r2 => by
    simp only [VRs] at r1 r2; subst r1
    obtain ⟨w, s, rfl, q, t⟩ := r2
    simp [eqs] at h; subst h
    exact ⟨fun _ => true, fun j x y e => by simp at e, by simp, by simp⟩
  | x :: xs, [], _, _, b, h, r1, r2 => by
    simp only [VRs] at r1 r2; subst r2
    obtain ⟨w, s, rfl, q, t⟩ := r1
    simp [eqs] at h; subst h
    exact ⟨fun _ => true, fun j x y _ e => by simp at e, by simp, by simp⟩
  | x :: xs, y :: ys, _, _, b, h, r1, r2 => by
    simp only [VRs] at r1 r2
    obtain ⟨v, vs, rfl, q1, t1⟩ := r1
    obtain ⟨w, ws, rfl, q2, t2⟩ := r2
    simp only [eqs] at h
    cases h1 : f x y with
    | none => rw [h1] at h; simp at h
    | some a =>
      cases h2 : eqs f xs ys with
      | none => rw [h1, h2] at h; simp at h
      | some c =>
        rw [h1, h2] at h
        simp at h
        obtain ⟨e, he, hb, hb2⟩ := eqs_sound hf h2 t1 t2
        have key : ∀ n, (List.range (n + 1)).all (fun j => match j with | 0 => a | j + 1 => e j) = (a && (List.range n).all e) := by
          intro n
          rw [List.range_succ_eq_map, List.all_cons, List.all_map]
          rfl
        refine ⟨fun j => match j with | 0 => a | j + 1 => e j, fun j x' y' e1 e2 => ?_, ?_, fun hl => ?_⟩
        · cases j with
          | zero =>
            simp at e1 e2; subst e1 e2
            exact hf h1 q1 q2
          | succ j =>
            simp at e1 e2
            exact he j _ _ e1 e2
        · rw [List.length_cons, List.length_cons, Nat.add_min_add_right, key, ← h, hb]
          simp [Bool.and_assoc]
        · rw [List.length_cons, key, ← h, hb2 (by simpa using hl)]
theorem mEqS_sound (hr : HR K G ρ H mh) {n : Nat} {f : MV → MV → Option Bool} (hf : ∀ {x y v w b}, f x y = some b → VR K G ρ H x v → VR K G ρ H y w → EqW K H n v w b) {x y : MV} {v w : V} {b : Bool}
    (h : mEqS f mh x y = some b) (rx : VR K G ρ H x v) (ry : VR K G ρ H y w) : RcW K H (n + 1) v w b ∧ EqW K H (n + 1) v w b := by
  unfold mEqS at h
  split at h
  · obtain ⟨a, vs, rfl, h1, r1⟩ := VR.tup (x := x) (by assumption) rx
    obtain ⟨c, ws, rfl, h2, r2⟩ := VR.tup (x := y) (by assumption) ry
    obtain ⟨e, he, hb, _⟩ := eqs_sound (P := fun x y b => EqW K H n x y b) (fun h a b => hf h a b) h r1 r2
    rw [hb]
    exact ⟨.tup e h1 h2 he, .tup e h1 h2 he⟩
  · obtain ⟨a, vs, rfl, h1, r1⟩ := hr.lst' (x := x) (by assumption) rx
    obtain ⟨c, ws, rfl, h2, r2⟩ := hr.lst' (x := y) (by assumption) ry
    have l1 := r1.length
    have l2 := r2.length
    split at h
    · obtain ⟨e, he, _, hb⟩ := eqs_sound (P := fun x y b => EqW K H n x y b) (fun h a b => hf h a b) h r1 r2
      rw [hb (by omega)]
      exact ⟨.lst e h1 h2 (by omega) he, .lst e h1 h2 (by omega) he⟩
    · cases h
      exact ⟨.lstL h1 h2 (by omega), .lstL h1 h2 (by omega)⟩
  · obtain ⟨a, vs, rfl, h1, r1⟩ := VR.tup (x := x) (by assumption) rx
    obtain ⟨c, ws, rfl, h2, r2⟩ := hr.lst' (x := y) (by assumption) ry
    cases h
    exact ⟨.tupL h1 h2, .tupL h1 h2⟩
  · obtain ⟨a, vs, rfl, h1, r1⟩ := VR.tup (x := y) (by assumption) ry
    obtain ⟨c, ws, rfl, h2, r2⟩ := hr.lst' (x := x) (by assumption) rx
    cases h
    exact ⟨.lstT h2 h1, .lstT h2 h1⟩
  · obtain ⟨a, vs, rfl, h1, r1⟩ := VR.tup (x := x) (by assumption) rx
    split at h
    · rename_i f2
      cases h
      exact ⟨.tupF (flM_V ry f2).1 h1, .tupF (flM_V ry f2).1 h1⟩
    · cases h
  · obtain ⟨a, vs, rfl, h1, r1⟩ := VR.tup (x := y) (by assumption) ry
    split at h
    · rename_i f2
      cases h
      exact ⟨.flatT (flM_V rx f2).1 h1, .flatT (flM_V rx f2).1 h1⟩
    · cases h
  · obtain ⟨a, vs, rfl, h1, r1⟩ := hr.lst' (x := x) (by assumption) rx
    split at h
    · rename_i f2
      cases h
      exact ⟨.lstF (flM_V ry f2).1 h1, .lstF (flM_V ry f2).1 h1⟩
    · cases h
  · obtain ⟨a, vs, rfl, h1, r1⟩ := hr.lst' (x := y) (by assumption) ry
    split at h
    · rename_i f2
      cases h
      exact ⟨.flatL (flM_V rx f2).1 h1, .flatL (flM_V rx f2).1 h1⟩
    · cases h
  · cases h
theorem mEq_sound (hr : HR K G ρ H mh) : ∀ {n : Nat} {x y : MV} {v w : V} {b : Bool}, mEq n mh x y = some b → VR K G ρ H x v → VR K G ρ H y w → EqW K H n v w b := by
  intro n
  induction n with
  | zero =>
    intro x y v w b h rx ry
    unfold mEq at h
    by_cases f : (flM x && flM y) = true
    · rw [if_pos f] at h
      rw [Bool.and_eq_true] at f
      obtain ⟨f1, e1⟩ := flM_V rx f.1
      rw [← Option.some.inj h, ← e1 ry f.2]
      exact .flat f1 (flM_V ry f.2).1
    · rw [if_neg f] at h; simp at h
  | succ n ih =>
    intro x y v w b h rx ry
    unfold mEq at h
    by_cases f : (flM x && flM y) = true
    · rw [if_pos f] at h
      rw [Bool.and_eq_true] at f
      obtain ⟨f1, e1⟩ := flM_V rx f.1
      rw [← Option.some.inj h, ← e1 ry f.2]
      exact .flat f1 (flM_V ry f.2).1
    · rw [if_neg f] at h
      dsimp only at h
      split at h
      · rename_i hs
        cases h
        cases x <;> cases y <;> simp [sameR] at hs
        subst hs
        simp only [VR] at rx ry
        obtain ⟨a, rfl, ha⟩ := rx
        obtain ⟨c, rfl, hc⟩ := ry
        rw [ha] at hc; cases hc
        exact .same
      · exact (mEqS_sound hr (fun h a b => ih h a b) h rx ry).2
theorem mRc_sound (hr : HR K G ρ H mh) {x y : MV} {v w : V} {b : Bool} (h : mRc mh x y = some b) (rx : VR K G ρ H x v) (ry : VR K G ρ H y w) : RcW K H DEP v w b := by
  unfold mRc at h
  split at h
  · simp only [VR] at rx ry; subst rx ry
    cases h
    rename_i p q
    have : decide (p = q) = decide (V.byt p = V.byt q) := by simp
    rw [this]
    exact .sc rfl
  · split at h
    · rename_i f
      cases h
      have hh : scal v w = true ∧ eqF x y = decide (v = w) := by
        cases x <;> simp [scM, flM] at f <;> cases y <;> simp [scM, flM] at f <;> simp only [VR] at rx ry <;> subst rx ry <;> first
          | exact ⟨rfl, by simp [eqF, Bool.beq_eq_decide_eq]⟩
          | exact ⟨rfl, by simp [eqF]⟩
      rw [hh.2]
      exact .sc hh.1
    · exact (mEqS_sound hr (fun h a b => mEq_sound hr h a b) h rx ry).1
end
end Mo
/-! Mo4: expressions: combinators of the model and their rules. -/
namespace Mo
open PySem L2

abbrev SZ : Nat := 16777216
theorem SZ_eq : sizeLine = SZ := sizeLine_eq
abbrev OV := Option (MV × MH)
def lift : OV → Rz MV
  | some (v, h) => .ok v h
  | none => .no
def eC (v : MV) : ME := fun _ h => .ok v h
def eV (i : Nat) : ME := fun s h => match s[i]? with
  | some (some v) => .ok v h
  | _ => .no
def e1 (f : MV → MH → OV) (a : ME) : ME := fun s h => (a s h).bnd fun x h1 => lift (f x h1)
def e2 (f : MV → MV → MH → OV) (a b : ME) : ME := fun s h => (a s h).bnd fun x h1 => (b s h1).bnd fun y h2 => lift (f x y h2)
def eA (f : List MV → MH → OV) (as : MEs) : ME := fun s h => (as s h).bnd fun xs h1 => lift (f xs h1)
def eM (f : MV → List MV → MH → OV) (a : ME) (as : MEs) : ME := fun s h => (a s h).bnd fun x h1 => (as s h1).bnd fun xs h2 => lift (f x xs h2)
def aNil : MEs := fun _ h => .ok [] h
def aCons (a : ME) (r : MEs) : MEs := fun s h => (a s h).bnd fun x h1 => (r s h1).bnd fun xs h2 => .ok (x :: xs) h2
def eIf (c : MB) (a b : ME) : ME := fun s h => (c s h).bnd fun k h1 => if k = true then a s h1 else b s h1
def asB (v : MV) : Option Bool := match v with | .bl b => some b | _ => none
def bB (a : ME) : MB := fun s h => (a s h).bnd fun x h1 => match asB x with
  | some b => .ok b h1
  | none => .no
def tru (h : MH) : MV → Option Bool
  | .non => some false
  | .bl b => some b
  | .int i => some (i != 0)
  | .str x => if x.length ≤ SZ then some ((x.length : Int) != 0) else none
  | .ref i => match h[i]? with
    | some (.lst xs) => some (!xs.isEmpty)
    | some (.dk kvs) => some (!kvs.isEmpty)
    | _ => none
  | .tup xs => some (!xs.isEmpty)
  | .ktp xs => some (!xs.isEmpty)
  | _ => none
def bT (a : ME) : MB := fun s h => (a s h).bnd fun x h1 => match tru h1 x with
  | some b => .ok b h1
  | none => .no
def bAnd (a b : MB) : MB := fun s h => (a s h).bnd fun k h1 => if k = true then b s h1 else .ok false h1
def bOr (a b : MB) : MB := fun s h => (a s h).bnd fun k h1 => if k = true then .ok true h1 else b s h1
def bNot (a : MB) : MB := fun s h => (a s h).bnd fun k h1 => .ok (!k) h1
def eAnd (a b : ME) : ME := fun s h => (a s h).bnd fun x h1 => match asB x with
  | some k => if k = true then b s h1 else .ok (.bl false) h1
  | none => .no
def eOr (a b : ME) : ME := fun s h => (a s h).bnd fun x h1 => match asB x with
  | some k => if k = true then .ok (.bl true) h1 else b s h1
  | none => .no
def eNot (a : ME) : ME := fun s h => (a s h).bnd fun x h1 => match asB x with
  | some k => .ok (.bl (!k)) h1
  | none => .no

section
variable {X : Cx} {G : String → Option V} {W : WX} {a b c : Expr} {ma mb mc : ME} {pos : Pos} {σ : St} {H : Hp} {Q : VK} {ρ : List Addr} {mh : MH}
/-- the value of an operation on values -/
theorem ro_lift {P : MV → List Addr → Hp → Prop} {o : OV} (h : RO X.K G W σ P ρ H (lift o)) : ∃ v h1, o = some (v, h1) ∧ ∀ ρ1 H1, Ext X.K ρ H ρ1 H1 → HR X.K G ρ1 H1 h1 → P v ρ1 H1 := by
  cases o with
  | none => exact False.elim h
  | some p => exact ⟨p.1, p.2, rfl, h⟩

theorem m_var {i : Nat} {x : Str} (h : PE X (.Name x pos) (tVar i)) : PE X (.Name x pos) (RE X.K G W (eV i)) := pe_imp h fun σ H Q ⟨ρ, sm, mh, r, q⟩ => by
  unfold eV at q
  cases e : sm[i]? with
  | none => rw [e] at q; exact False.elim q
  | some o =>
    cases o with
    | none => rw [e] at q; exact False.elim q
    | some v =>
      rw [e] at q
      obtain ⟨w, h1, h2⟩ := r.sr.2 i v e
      exact ⟨w, h1, q.ok r.hr w h2⟩
theorem m_const {v : MV} {w : V} (h : PE X a (tC w)) (hv : ∀ ρ H, VR X.K G ρ H v w) : PE X a (RE X.K G W (eC v)) := pe_imp h fun σ H Q ⟨ρ, sm, mh, r, q⟩ => q.ok r.hr w (hv ρ H)
theorem m_int {i : Int} {j} : PE X (.Constant (.int i) j pos) (RE X.K G W (eC (.int i))) := m_const pe_int fun _ _ => by simp [VR]
theorem m_bl {i : Bool} {j} : PE X (.Constant (.bool i) j pos) (RE X.K G W (eC (.bl i))) := m_const pe_bl fun _ _ => by simp [VR]
theorem m_non {j} : PE X (.Constant .none j pos) (RE X.K G W (eC .non)) := m_const pe_non fun _ _ => by simp [VR]
theorem m_str {x : Str} {j} : PE X (.Constant (.str x) j pos) (RE X.K G W (eC (.str x))) := m_const pe_str fun _ _ => by simp [VR]

/-! ### two values -/
def R2S (K : PySem.W.Frag) (G : String → Option V) (r : R2) (f : MV → MV → MH → OV) : Prop :=
  ∀ {ρ : List Addr} {H : Hp} {mh mh1 : MH} {x y z : MV} {v w : V} {Q : VK}, HR K G ρ H mh → VR K G ρ H x v → VR K G ρ H y w → f x y mh = some (z, mh1) →
    (∀ ρ1 H1, Ext K ρ H ρ1 H1 → HR K G ρ1 H1 mh1 → ∀ v1, VR K G ρ1 H1 z v1 → Q v1 H1) → r v w H Q
theorem op_re {r : R2} {f : MV → MV → MH → OV} (hs : R2S X.K G r f) (σ : St) (H : Hp) (Q : VK) (h : RE X.K G W (e2 f ma mb) σ H Q) : tOp r (RE X.K G W ma) (RE X.K G W mb) σ H Q := by
  obtain ⟨ρ, sm, mh, r0, q⟩ := h
  refine re_bnd r0 q fun x ρ1 H1 mh1 v x1 r1 rv q1 => ?_
  refine re_bnd r1 q1 fun y ρ2 H2 mh2 w x2 r2 rw' q2 => ?_
  obtain ⟨z, h1, e, k⟩ := ro_lift q2
  exact hs r2.hr (rv.ext x2) rw' e k
theorem m_op {op : Operator} {r : R2} {f : MV → MV → MH → OV} (ho : OpR X (binaryOp op) r) (hs : R2S X.K G r f) (ha : PE X a (RE X.K G W ma)) (hb : PE X b (RE X.K G W mb)) : PE X (.BinOp a op b pos) (RE X.K G W (e2 f ma mb)) :=
  pe_imp (pe_op ho ha hb) (op_re hs)
theorem m_cmp {op : CmpOp} {r : R2} {f : MV → MV → MH → OV} (ho : OpR X (compareOp op) r) (hs : R2S X.K G r f) (ha : PE X a (RE X.K G W ma)) (hb : PE X b (RE X.K G W mb)) (hm : behindInMarks op b = false) : PE X (.Compare a [op] [b] pos) (RE X.K G W (e2 f ma mb)) :=
  pe_imp (pe_cmpR ho ha hb hm) (op_re hs)
theorem bB_re {m : ME} (σ : St) (H : Hp) (Q : Bool → Hp → Prop) (h : RT X.K G W (bB m) σ H Q) : RE X.K G W m σ H fun x H' => ∃ k, x = .bl k ∧ Q k H' := by
  obtain ⟨ρ, sm, mh, r0, q⟩ := h
  refine re_bnd r0 q fun x ρ1 H1 mh1 v x1 r1 rv q1 => ?_
  cases x with
  | bl k => simp only [VR] at rv; exact ⟨k, rv, RO.ok (P := PB Q) q1 r1.hr⟩
  | _ => exact False.elim q1
theorem m_cmpT {op : CmpOp} {r : R2} {f : MV → MV → MH → OV} (ho : OpR X (compareOp op) r) (hs : R2S X.K G r f) (ha : PE X a (RE X.K G W ma)) (hb : PE X b (RE X.K G W mb)) (hm : behindInMarks op b = false) : PT X (.Compare a [op] [b] pos) (RT X.K G W (bB (e2 f ma mb))) := by
  refine pt_imp (pt_cmpR ho ha hb hm) fun σ H Q h => ?_
  have h' := bB_re σ H Q h
  exact op_re hs σ H _ h'
/-- any other expression as a test -/
theorem m_truth {m : ME} (ha : PE X a (RE X.K G W m)) (he : ∀ whole, isTrue a X.env whole = (do let v ← whole; standAt a.pos; holding [v] (truthy v))) : PT X a (RT X.K G W (bT m)) := by
  refine pt_imp (pt_truth ha he) fun σ H Q ⟨ρ, sm, mh, r0, q⟩ => ?_
  refine re_bnd r0 q fun x ρ1 H1 mh1 v x1 r1 rv q1 => ?_
  cases e : tru mh1 x with
  | none => rw [e] at q1; exact False.elim q1
  | some k =>

    rw [e] at q1
    refine ⟨k, ?_, RO.ok (P := PB Q) q1 r1.hr⟩
    cases x with
    | non => simp only [VR] at rv; subst rv; simp [tru] at e; exact e
    | bl b => simp only [VR] at rv; subst rv; simp [tru] at e; exact e.symm
    | int i => simp only [VR] at rv; subst rv; simp only [tru, Option.some.injEq] at e; exact e.symm
    | str y =>
      simp only [VR] at rv; subst rv
      simp only [tru] at e
      split at e
      · rename_i hy
        exact ⟨by rw [SZ_eq]; exact hy, (Option.some.inj e).symm⟩
      · simp at e
    | tup xs =>
      obtain ⟨p, vs, rfl, h1, h2⟩ := rv.tup rfl
      simp only [tru, Option.some.injEq] at e
      refine .inr (.inl ⟨vs, h1, ?_⟩)
      rw [← e]
      have := h2.length
      cases xs <;> cases vs <;> simp at this <;> rfl
    | ktp xs =>
      obtain ⟨p, vs, rfl, h1, h2⟩ := rv.tup rfl
      simp only [tru, Option.some.injEq] at e
      refine .inr (.inl ⟨vs, h1, ?_⟩)
      rw [← e]
      have := h2.length
      cases xs <;> cases vs <;> simp at this <;> rfl
    | ref i =>
      simp only [tru] at e
      split at e
      · rename_i xs q2
        obtain ⟨p, vs, rfl, _, h1, h2⟩ := r1.hr.lst q2 rv
        refine .inl ⟨vs, SqL.of h1, ?_⟩
        rw [← Option.some.inj e]
        have := h2.length
        cases xs <;> cases vs <;> simp at this <;> rfl
      · rename_i kvs q2
        simp only [VR] at rv
        obtain ⟨p, rfl, hp⟩ := rv
        obtain ⟨vs, h1, h2⟩ := r1.hr.get q2 hp
        refine .inr (.inr ⟨vs, h1, ?_⟩)
        rw [← Option.some.inj e]
        cases kvs with
        | nil => simp only [KRs] at h2; subst h2; rfl
        | cons p r => simp only [KRs] at h2; obtain ⟨_, _, rfl, _⟩ := h2; rfl
      · simp at e
    | _ => simp [tru] at e
/-! ### and, or, not -/
theorem rt_if {ta tb : MB} {op : Bool} : True := trivial
variable {tA tB : MB} {rest : List Expr}
theorem m_and1 (ha : PT X a (RT X.K G W tA)) : PW X (.BoolOp .And [a] pos) (RT X.K G W tA) := pw_and1 ha
theorem m_or1 (ha : PT X a (RT X.K G W tA)) : PW X (.BoolOp .Or [a] pos) (RT X.K G W tA) := pw_or1 ha
theorem pw_imp {e : Expr} {t t' : TT} (h : PW X e t) (i : ∀ σ H Q, t' σ H Q → t σ H Q) : PW X e t' := ⟨fun wh pins s σ H Q I q => h.run wh pins s σ H Q I (i σ H Q q)⟩
theorem m_and (ha : PT X a (RT X.K G W tA)) (hb : PW X (.BoolOp .And (b :: rest) pos) (RT X.K G W tB)) : PW X (.BoolOp .And (a :: b :: rest) pos) (RT X.K G W (bAnd tA tB)) := by
  refine pw_imp (pw_and ha hb) fun σ H Q ⟨ρ, sm, mh, r0, q⟩ => ?_
  refine rt_bnd r0 q fun k ρ1 H1 mh1 x1 r1 q1 => ?_
  cases k with
  | true => rw [if_pos rfl] at q1 ⊢; exact ⟨_, _, _, r1, q1⟩
  | false => rw [if_neg Bool.false_ne_true] at q1 ⊢; exact RO.ok (P := PB Q) q1 r1.hr
theorem m_or (ha : PT X a (RT X.K G W tA)) (hb : PW X (.BoolOp .Or (b :: rest) pos) (RT X.K G W tB)) : PW X (.BoolOp .Or (a :: b :: rest) pos) (RT X.K G W (bOr tA tB)) := by
  refine pw_imp (pw_or ha hb) fun σ H Q ⟨ρ, sm, mh, r0, q⟩ => ?_
  refine rt_bnd r0 q fun k ρ1 H1 mh1 x1 r1 q1 => ?_
  cases k with
  | true => rw [if_pos rfl] at q1 ⊢; exact RO.ok (P := PB Q) q1 r1.hr
  | false => rw [if_neg Bool.false_ne_true] at q1 ⊢; exact ⟨_, _, _, r1, q1⟩
theorem m_not (ha : PT X a (RT X.K G W tA)) : PT X (.UnaryOp .Not a pos) (RT X.K G W (bNot tA)) := by
  refine pt_imp (pt_not ha) fun σ H Q ⟨ρ, sm, mh, r0, q⟩ => ?_
  exact rt_bnd r0 q fun k ρ1 H1 mh1 x1 r1 q1 => RO.ok (P := PB Q) q1 r1.hr
theorem m_eone {op} {m : ME} (h : PE X a (RE X.K G W m)) : PE X (.BoolOp op [a] pos) (RE X.K G W m) := pe_one h
theorem m_eand (ha : PE X a (RE X.K G W ma)) (hb : PE X (.BoolOp .And (b :: rest) pos) (RE X.K G W mb)) : PE X (.BoolOp .And (a :: b :: rest) pos) (RE X.K G W (eAnd ma mb)) := by
  refine pe_imp (pe_and ha hb) fun σ H Q ⟨ρ, sm, mh, r0, q⟩ => ?_
  refine re_bnd r0 q fun x ρ1 H1 mh1 v x1 r1 rv q1 => ?_
  cases x with
  | bl k =>
    simp only [VR] at rv
    refine ⟨k, rv, ?_⟩
    cases k with
    | true => rw [if_pos rfl]; exact ⟨_, _, _, r1, q1⟩
    | false => rw [if_neg Bool.false_ne_true]; exact RO.ok (P := PV X.K G Q) q1 r1.hr _ (by simp [VR])
  | _ => exact False.elim q1
theorem m_eor (ha : PE X a (RE X.K G W ma)) (hb : PE X (.BoolOp .Or (b :: rest) pos) (RE X.K G W mb)) : PE X (.BoolOp .Or (a :: b :: rest) pos) (RE X.K G W (eOr ma mb)) := by
  refine pe_imp (pe_or ha hb) fun σ H Q ⟨ρ, sm, mh, r0, q⟩ => ?_
  refine re_bnd r0 q fun x ρ1 H1 mh1 v x1 r1 rv q1 => ?_
  cases x with
  | bl k =>
    simp only [VR] at rv
    refine ⟨k, rv, ?_⟩
    cases k with
    | true => rw [if_pos rfl]; exact RO.ok (P := PV X.K G Q) q1 r1.hr _ (by simp [VR])
    | false => rw [if_neg Bool.false_ne_true]; exact ⟨_, _, _, r1, q1⟩
  | _ => exact False.elim q1
theorem m_enot (ha : PE X a (RE X.K G W ma)) : PE X (.UnaryOp .Not a pos) (RE X.K G W (eNot ma)) := by
  refine pe_imp (pe_not ha) fun σ H Q ⟨ρ, sm, mh, r0, q⟩ => ?_
  refine re_bnd r0 q fun x ρ1 H1 mh1 v x1 r1 rv q1 => ?_
  cases x with
  | bl k =>
    simp only [VR] at rv
    exact ⟨k, rv, RO.ok (P := PV X.K G Q) q1 r1.hr _ (by simp [VR])⟩
  | _ => exact False.elim q1
theorem m_ifExp {mt : MB} (hc : PT X c (RT X.K G W mt)) (ha : PE X a (RE X.K G W ma)) (hb : PE X b (RE X.K G W mb)) : PE X (.IfExp c a b pos) (RE X.K G W (eIf mt ma mb)) := by
  refine pe_imp (pe_ifExp hc ha hb) fun σ H Q ⟨ρ, sm, mh, r0, q⟩ => ?_
  refine rt_bnd r0 q fun k ρ1 H1 mh1 x1 r1 q1 => ?_
  cases k with
  | true => rw [if_pos rfl] at q1 ⊢; exact ⟨_, _, _, r1, q1⟩
  | false => rw [if_neg Bool.false_ne_true] at q1 ⊢; exact ⟨_, _, _, r1, q1⟩
end

/-! ### arguments -/
section
variable {X : Cx} {G : String → Option V} {W : WX} {e : Expr} {es : List Expr} {m : ME} {ms : MEs} {pos : Pos}
theorem m_anil : PA X [] (RA X.K G W aNil) := pa_imp pa_nil fun σ H Q ⟨ρ, sm, mh, r, q⟩ => RO.ok (P := PVs X.K G Q) q r.hr _ VRs.nil
theorem m_acons (ha : PE X e (RE X.K G W m)) (hr : PA X es (RA X.K G W ms)) (hs : starEach (e :: es) X.env = (false, eval e X.env) :: starEach es X.env := by rfl) : PA X (e :: es) (RA X.K G W (aCons m ms)) := by
  refine pa_imp (pa_cons ha hr hs) fun σ H Q ⟨ρ, sm, mh, r0, q⟩ => ?_
  refine re_bnd r0 q fun x ρ1 H1 mh1 v x1 r1 rv q1 => ?_
  exact ra_bnd r1 q1 fun xs ρ2 H2 mh2 vs x2 r2 rvs q2 => RO.ok (P := PVs X.K G Q) q2 r2.hr _ (VRs.cons (rv.ext x2) rvs)
end

/-! ### new lists, tuples -/
def fLst (xs : List MV) (h : MH) : OV := if xs.length ≤ SZ then some (.ref h.length, h ++ [.lst xs]) else none
def fTup (xs : List MV) (h : MH) : OV := if xs.length ≤ SZ then some (.tup xs, h) else none
section
variable {X : Cx} {G : String → Option V} {W : WX} {e : Expr} {es : List Expr} {m : ME} {ms : MEs} {pos : Pos} {ρ : List Addr} {H : Hp} {mh : MH}
/-- a new list -/
theorem new_lst {K : PySem.W.Frag} {xs : List MV} {vs : List V} {p : Addr} (hr : HR K G ρ H mh) (r : VRs K G ρ H xs vs) (hp : H p = none) :
    HR K G (ρ ++ [p]) (upd H p (.lst vs)) (mh ++ [.lst xs]) ∧ Ext K ρ H (ρ ++ [p]) (upd H p (.lst vs)) ∧ VR K G (ρ ++ [p]) (upd H p (.lst vs)) (.ref mh.length) (.ref p) := by
  have x : Ext K ρ H (ρ ++ [p]) (upd H p (.lst vs)) := ext_new hp
  obtain ⟨h1, h2⟩ := hr.new (u := .lst vs) (o := .lst xs) hp ⟨vs, upd_same, r.ext x⟩
  exact ⟨h1, h2, by simp only [VR]; exact ⟨p, rfl, by rw [← hr.len]; simp⟩⟩
theorem m_lst (h : PA X es (RA X.K G W ms)) : PE X (.List es pos) (RE X.K G W (eA fLst ms)) := by
  refine pe_imp (pe_lst h) fun σ H Q ⟨ρ, sm, mh, r0, q⟩ => ?_
  refine ra_bnd r0 q fun xs ρ1 H1 mh1 vs x1 r1 rvs q1 => ?_
  obtain ⟨z, h1, e, k⟩ := ro_lift q1
  unfold fLst at e
  split at e
  · rename_i hl
    obtain ⟨rfl, rfl⟩ := Prod.mk.inj (Option.some.inj e)
    refine ⟨by rw [SZ_eq, ← rvs.length]; exact hl, fun p hp => ?_⟩
    obtain ⟨a1, a2, a3⟩ := new_lst r1.hr rvs hp
    exact k _ _ a2 a1 _ a3
  · cases e
theorem new_tup {K : PySem.W.Frag} {xs : List MV} {vs : List V} {p : Addr} (hr : HR K G ρ H mh) (r : VRs K G ρ H xs vs) (hp : H p = none) :
    HR K G ρ (upd H p (.tup vs)) mh ∧ Ext K ρ H ρ (upd H p (.tup vs)) ∧ VR K G ρ (upd H p (.tup vs)) (.tup xs) (.ref p) := by
  have x : Ext K ρ H ρ (upd H p (.tup vs)) := ext_new0 hp
  refine ⟨⟨hr.len, hr.nd, fun i o e => ?_⟩, x, by simp only [VR]; exact ⟨p, vs, rfl, upd_same, r.ext x⟩⟩
  obtain ⟨a, ha, q⟩ := hr.obj i o e
  refine ⟨a, ha, q.keep x fun u hu => ?_⟩
  rw [upd_ne (ne_of_none hu hp)]
  exact hu
theorem m_tup {x1} (h : PA X es (RA X.K G W ms)) : PE X (.Tuple es x1 pos) (RE X.K G W (eA fTup ms)) := by
  refine pe_imp (pe_tup h) fun σ H Q ⟨ρ, sm, mh, r0, q⟩ => ?_
  refine ra_bnd r0 q fun xs ρ1 H1 mh1 vs x1 r1 rvs q1 => ?_
  obtain ⟨z, h1, e, k⟩ := ro_lift q1
  unfold fTup at e
  split at e
  · rename_i hl
    obtain ⟨rfl, rfl⟩ := Prod.mk.inj (Option.some.inj e)
    refine ⟨by rw [SZ_eq, ← rvs.length]; exact hl, fun p hp => ?_⟩
    obtain ⟨a1, a2, a3⟩ := new_tup r1.hr rvs hp
    exact k _ _ a2 a1 _ a3
  · cases e
end
end Mo
/-! Mo5: operators on values. -/
namespace Mo
open PySem L2

/-! ### x in a list or tuple of data -/
section
variable {X : Cx}
def InW (K : PySem.W.Frag) (x y : V) (H : Hp) (r : Bool) : Prop := ∃ (p : Addr) (ys : List V) (bs : List Bool), y = .ref p ∧ (SqL K H p ys ∨ SqT K H p ys) ∧ bs.length = ys.length ∧
  (∀ (j : Nat) (y : V) (b : Bool), ys[j]? = some y → bs[j]? = some b → EqW K H 7 y x b) ∧ r = bs.any id
def rInM (K : PySem.W.Frag) (neg : Bool) : R2 := fun x y H Q => ∃ r, InW K x y H r ∧ Q (.bl (if neg then !r else r)) H
open Classical in
noncomputable def evU (ys : List V) (bs : List Bool) (u : Value) : Bool := decide (∃ (j : Nat) (y : V), ys[j]? = some y ∧ RelV y u ∧ bs[j]? = some true)
open Classical in
theorem any_evU {ys : List V} {bs : List Bool} {is : List Value} (r : Vals ys is) (hl : bs.length = ys.length) : is.any (evU ys bs) = bs.any id := by
  have l := r.length
  rw [Bool.eq_iff_iff, List.any_eq_true, List.any_eq_true]
  constructor
  · rintro ⟨u, hu, h⟩
    obtain ⟨j, y, h1, h2, h3⟩ := of_decide_eq_true h
    exact ⟨true, List.mem_of_getElem? h3, rfl⟩
  · rintro ⟨b, hb, h⟩
    have hb' : b = true := h
    subst hb'
    obtain ⟨j, hj, e⟩ := List.mem_iff_getElem.mp hb
    have h1 : ys[j]? = some ys[j] := List.getElem?_eq_getElem (by omega)
    obtain ⟨u, h2, h3⟩ := r.get h1
    exact ⟨u, List.mem_of_getElem? h2, decide_eq_true ⟨j, _, h1, h3, by rw [List.getElem?_eq_getElem hj, e]⟩⟩
open Classical in
theorem evU_at {pins : List (Addr × Obj)} {σ : St} {H : Hp} {s : Shared} {x : V} {v : Value} {ys : List V} {bs : List Bool} {is : List Value} (I : Inv X pins σ H s) (rx : RelV x v) (r : Vals ys is) (hl : bs.length = ys.length)
    (he : ∀ (j : Nat) (y : V) (b : Bool), ys[j]? = some y → bs[j]? = some b → EqW X.K H 7 y x b) {A : Around} (hu : A.units + 7 < cLine) : ∀ u ∈ is, SeqAt.EqAt A s u v (evU ys bs u) := fun u hm => by
  by_cases h : ∃ (j : Nat) (y : V), ys[j]? = some y ∧ RelV y u ∧ bs[j]? = some true
  · have e : evU ys bs u = true := decide_eq_true h
    rw [e]
    obtain ⟨j, y, h1, h2, h3⟩ := h
    exact (he j y true h1 h3).at I hu h2 rx
  · have e : evU ys bs u = false := decide_eq_false h
    rw [e]
    obtain ⟨j, hj, q⟩ := List.mem_iff_getElem.mp hm
    have l := r.length
    have h1 : ys[j]? = some ys[j] := List.getElem?_eq_getElem (by omega)
    obtain ⟨w, h2, h3⟩ := r.get h1
    rw [List.getElem?_eq_getElem hj, q] at h2
    cases h2
    have h4 : bs[j]? = some bs[j] := List.getElem?_eq_getElem (by omega)
    have h5 : bs[j] = false := by
      cases q : bs[j] with
      | false => rfl
      | true => exact absurd ⟨j, _, h1, h3, by rw [h4, q]⟩ h
    rw [h5] at h4
    exact (he j _ false h1 h4).at I hu h3 rx
theorem op_inM (hu : X.A.units + 64 < cLine) : OpR X (compareOp .In) (rInM X.K false) := by
  intro pins s σ H x y v u Q I rx ry h
  obtain ⟨r, ⟨p, ys, bs, rfl, hq, hl, he, rfl⟩, q⟩ := h
  cases ry
  rcases hq with hq | hq
  · obtain ⟨its, r, pl, hz⟩ := I.list hq
    refine SeqAt.in_listAt (evU ys bs) pl.isList (fun w hw => evU_at I rx r hl he (by show X.A.units + 1 + 7 < cLine; omega) w (by simpa using hw)) ⟨.bl _, H, I, rfl, ?_⟩
    rw [show its.toArray.any (evU ys bs) = its.any (evU ys bs) by simp, any_evU r hl]
    exact q
  · obtain ⟨its, r, pl, hz⟩ := I.tuple hq
    refine SeqAt.in_tupleAt (evU ys bs) pl (fun w hw => evU_at I rx r hl he (by show X.A.units + 1 + 7 < cLine; omega) w (by simpa using hw)) ⟨.bl _, H, I, rfl, ?_⟩
    rw [show its.toArray.any (evU ys bs) = its.any (evU ys bs) by simp, any_evU r hl]
    exact q
theorem op_notInM (hu : X.A.units + 64 < cLine) : OpR X (compareOp .NotIn) (rInM X.K true) := by
  intro pins s σ H x y v u Q I rx ry h
  obtain ⟨r, ⟨p, ys, bs, rfl, hq, hl, he, rfl⟩, q⟩ := h
  cases ry
  rcases hq with hq | hq
  · obtain ⟨its, r, pl, hz⟩ := I.list hq
    refine SeqAt.notIn_listAt (evU ys bs) pl.isList (fun w hw => evU_at I rx r hl he (by show X.A.units + 1 + 7 < cLine; omega) w (by simpa using hw)) ⟨.bl _, H, I, rfl, ?_⟩
    rw [show its.toArray.any (evU ys bs) = its.any (evU ys bs) by simp, any_evU r hl]
    exact q
  · obtain ⟨its, r, pl, hz⟩ := I.tuple hq
    refine SeqAt.notIn_tupleAt (evU ys bs) pl (fun w hw => evU_at I rx r hl he (by show X.A.units + 1 + 7 < cLine; omega) w (by simpa using hw)) ⟨.bl _, H, I, rfl, ?_⟩
    rw [show its.toArray.any (evU ys bs) = its.any (evU ys bs) by simp, any_evU r hl]
    exact q
end
/-- the items' answers -/
def insM (f : MV → Option Bool) : List MV → Option (List Bool)
  | [] => some []
  | y :: ys => match f y, insM f ys with
    | some b, some bs => some (b :: bs)
    | _, _ => none
def seqOf (h : MH) : MV → Option (List MV)
  | .ref i => match h[i]? with
    | some (.lst xs) => some xs
    | _ => none
  | .tup xs => some xs
  | .ktp xs => some xs
  | .frl xs => some xs
  | _ => none
def mIn (h : MH) (x y : MV) : Option Bool := match y with
  | .str z => match x with
    | .str c => match c.cps with
      | ⟨[n]⟩ => some (decide (n ∈ z.cps.toList))
      | _ => none
    | _ => none
  | y => match seqOf h y with
    | some ys => (insM (fun y => mEq 7 h y x) ys).map fun bs => bs.any id
    | none => none
section
variable {K : PySem.W.Frag} {G : String → Option V} {ρ : List Addr} {H : Hp} {mh : MH}
theorem seq_V (hr : HR K G ρ H mh) {y : MV} {v : V} {ys : List MV} (e : seqOf mh y = some ys) (r : VR K G ρ H y v) : ∃ p vs, v = .ref p ∧ (SqL K H p vs ∨ SqT K H p vs) ∧ VRs K G ρ H ys vs := by
  unfold seqOf at e
  split at e
  · split at e
    · rename_i q
      cases e
      obtain ⟨a, vs, rfl, _, h1, h2⟩ := hr.lst q r
      exact ⟨a, vs, rfl, .inl (SqL.of h1), h2⟩
    · cases e
  · cases e
    obtain ⟨a, vs, rfl, h1, h2⟩ := r.tup rfl
    exact ⟨a, vs, rfl, .inr h1, h2⟩
  · cases e
    obtain ⟨a, vs, rfl, h1, h2⟩ := r.tup rfl
    exact ⟨a, vs, rfl, .inr h1, h2⟩
  · cases e
    simp only [VR] at r
    obtain ⟨a, vs, rfl, h1, h2⟩ := r
    exact ⟨a, vs, rfl, .inl h1.sq, h2⟩
  · cases e
theorem insM_sound {f : MV → Option Bool} {P : V → Bool → Prop} (hf : ∀ {y v b}, f y = some b → VR K G ρ H y v → P v b) : ∀ {ys : List MV} {vs : List V} {bs : List Bool}, insM f ys = some bs → VRs K G ρ H ys vs →
    bs.length = vs.length ∧ ∀ (j : Nat) (y : V) (b : Bool), vs[j]? = some y → bs[j]? = some b → P y b
  | [], _, _, h, r => by simp only [VRs] at r; subst r; cases h; exact ⟨rfl, fun j y b e => by simp at e⟩
  | y :: ys, _, bs, h, r => by
    simp only [VRs] at r
    obtain ⟨v, vs, rfl, q, t⟩ := r
    simp only [insM] at h
    cases h1 : f y with
    | none => rw [h1] at h; simp at h
    | some a =>
      cases h2 : insM f ys with
      | none => rw [h1, h2] at h; simp at h
      | some cs =>
        rw [h1, h2] at h
        cases h
        obtain ⟨i1, i2⟩ := insM_sound hf h2 t
        refine ⟨by simp [i1], fun j y' b e1 e2 => ?_⟩
        cases j with
        | zero => simp at e1 e2; subst e1 e2; exact hf h1 q
        | succ j => simp at e1 e2; exact i2 j _ _ e1 e2
end

/-! ### functions on values -/
def ob (b : Option Bool) (h : MH) : OV := b.map fun b => (.bl b, h)
def fAdd (x y : MV) (h : MH) : OV := match x, y with
  | .int i, .int j => some (.int (i + j), h)
  | .str a, .str b => if a.length + b.length ≤ SZ then some (.str (a ++ b), h) else none
  | .ref i, .ref j => match h[i]?, h[j]? with
    | some (.lst xs), some (.lst ys) => if xs.length + ys.length ≤ SZ then some (.ref h.length, h ++ [.lst (xs ++ ys)]) else none
    | _, _ => none
  | _, _ => none
def fSub (x y : MV) (h : MH) : OV := match x, y with
  | .int i, .int j => some (.int (i - j), h)
  | _, _ => none
def fMul (x y : MV) (h : MH) : OV := match x, y with
  | .int i, .int j => if (-(2 ^ 64) < i ∧ i < 2 ^ 64) ∨ (-(2 ^ 64) < j ∧ j < 2 ^ 64) then some (.int (i * j), h) else none
  | _, _ => none
def fMod (x y : MV) (h : MH) : OV := match x, y with
  | .int i, .int j => if 0 < j then some (.int (i % j), h) else none
  | _, _ => none
def fDiv (x y : MV) (h : MH) : OV := match x, y with
  | .int i, .int j => if 0 < j ∧ j < 1073741824 then some (.int (i / j), h) else none
  | _, _ => none
def fPow (x y : MV) (h : MH) : OV := match x, y with
  | .int i, .int j => if 0 ≤ j ∧ j ≤ 1000000 ∧ i.natAbs < 2 ^ 64 then some (.int (i ^ j.toNat), h) else none
  | _, _ => none
def fNeg (x : MV) (h : MH) : OV := match x with
  | .int i => some (.int (-i), h)
  | _ => none
def fEq (x y : MV) (h : MH) : OV := ob (mRc h x y) h
def fNe (x y : MV) (h : MH) : OV := ob ((mRc h x y).map not) h
def fIn (x y : MV) (h : MH) : OV := ob (mIn h x y) h
def fNotIn (x y : MV) (h : MH) : OV := ob ((mIn h x y).map not) h
def fCmp (p : Int → Int → Bool) (x y : MV) (h : MH) : OV := match x, y with
  | .int i, .int j => some (.bl (p i j), h)
  | _, _ => none
abbrev fLt := fCmp fun i j => decide (i < j)
abbrev fLe := fCmp fun i j => decide (i ≤ j)
abbrev fGt := fCmp fun i j => decide (j < i)
abbrev fGe := fCmp fun i j => decide (j ≤ i)
def isN : MV → Bool | .non => true | _ => false
def fIsN (x y : MV) (h : MH) : OV := match y with
  | .non => match x with
    | .glo _ => none
    | x => some (.bl (isN x), h)
  | _ => none
def fNotN (x y : MV) (h : MH) : OV := match y with
  | .non => match x with
    | .glo _ => none
    | x => some (.bl (!isN x), h)
  | _ => none

section
variable {X : Cx} {G : String → Option V}
theorem s_add : R2S X.K G (fun x y H Q => (rI0 fun i j => .int (i + j)) x y H Q ∨ (fun x y H Q => ∃ i j, x = .str i ∧ y = .str j ∧ i.length + j.length ≤ sizeLine ∧ Q (.str (i ++ j)) H : R2) x y H Q ∨ rCat x y H Q) fAdd := by
  intro ρ H mh mh1 x y z v w Q hr rx ry e k
  unfold fAdd at e
  split at e
  · simp only [VR] at rx ry; subst rx ry; cases e
    exact .inl ⟨_, _, rfl, rfl, k _ _ Ext.refl hr _ (by simp [VR])⟩
  · split at e
    · simp only [VR] at rx ry; subst rx ry; cases e
      rename_i hz
      exact .inr (.inl ⟨_, _, rfl, rfl, by rw [SZ_eq]; exact hz, k _ _ Ext.refl hr _ (by simp [VR])⟩)
    · cases e
  · split at e
    · split at e
      · rename_i e1 e2 hz
        cases e
        obtain ⟨a, vs, rfl, _, h1, r1⟩ := hr.lst e1 rx
        obtain ⟨b, ws, rfl, _, h2, r2⟩ := hr.lst e2 ry
        refine .inr (.inr ⟨_, _, _, _, rfl, rfl, h1, h2, by rw [SZ_eq, ← r1.length, ← r2.length]; exact hz, fun p hp => ?_⟩)
        obtain ⟨a1, a2, a3⟩ := new_lst hr (r1.append r2) hp
        exact k _ _ a2 a1 _ a3
      · cases e
    · cases e
  · cases e
theorem o_add : OpR X (binaryOp .Add) (fun x y H Q => (rI0 fun i j => .int (i + j)) x y H Q ∨ (fun x y H Q => ∃ i j, x = .str i ∧ y = .str j ∧ i.length + j.length ≤ sizeLine ∧ Q (.str (i ++ j)) H : R2) x y H Q ∨ rCat x y H Q) := op_add.or (op_add_str.or op_cat)
theorem s_ints {C : Int → Int → Prop} {g : Int → Int → Int} {f : MV → MV → MH → OV} (hf : ∀ x y h z h1, f x y h = some (z, h1) → ∃ i j, x = .int i ∧ y = .int j ∧ C i j ∧ z = .int (g i j) ∧ h1 = h) : R2S X.K G (rI C fun i j => .int (g i j)) f := by
  intro ρ H mh mh1 x y z v w Q hr rx ry e k
  obtain ⟨i, j, rfl, rfl, hc, rfl, rfl⟩ := hf _ _ _ _ _ e
  simp only [VR] at rx ry; subst rx ry
  exact ⟨_, _, rfl, rfl, hc, k _ _ Ext.refl hr _ (by simp [VR])⟩
theorem s_sub : R2S X.K G (rI0 fun i j => .int (i - j)) fSub := by
  intro ρ H mh mh1 x y z v w Q hr rx ry e k
  unfold fSub at e
  split at e
  · simp only [VR] at rx ry; subst rx ry; cases e
    exact ⟨_, _, rfl, rfl, k _ _ Ext.refl hr _ (by simp [VR])⟩
  · cases e
theorem s_mul : R2S X.K G (rI CMul fun i j => .int (i * j)) fMul := s_ints fun x y h z h1 e => by
  unfold fMul at e
  split at e
  · split at e
    · rename_i hc; cases e; exact ⟨_, _, rfl, rfl, hc, rfl, rfl⟩
    · cases e
  · cases e
theorem s_mod : R2S X.K G (rI (fun _ j => 0 < j) fun i j => .int (i % j)) fMod := s_ints fun x y h z h1 e => by
  unfold fMod at e
  split at e
  · split at e
    · rename_i hc; cases e; exact ⟨_, _, rfl, rfl, hc, rfl, rfl⟩
    · cases e
  · cases e
theorem s_div : R2S X.K G (rI CDiv fun i j => .int (i / j)) fDiv := s_ints fun x y h z h1 e => by
  unfold fDiv at e
  split at e
  · split at e
    · rename_i hc; cases e; exact ⟨_, _, rfl, rfl, hc, rfl, rfl⟩
    · cases e
  · cases e
theorem s_pow : R2S X.K G (rI CPow fun i j => .int (i ^ j.toNat)) fPow := s_ints fun x y h z h1 e => by
  unfold fPow at e
  split at e
  · split at e
    · rename_i hc; cases e; exact ⟨_, _, rfl, rfl, hc, rfl, rfl⟩
    · cases e
  · cases e
theorem s_cmp {p : Int → Int → Bool} : R2S X.K G (rI0 fun i j => .bl (p i j)) (fCmp p) := by
  intro ρ H mh mh1 x y z v w Q hr rx ry e k
  unfold fCmp at e
  split at e
  · simp only [VR] at rx ry; subst rx ry; cases e
    exact ⟨_, _, rfl, rfl, k _ _ Ext.refl hr _ (by simp [VR])⟩
  · cases e
theorem s_eq : R2S X.K G (rEqM X.K) fEq := by
  intro ρ H mh mh1 x y z v w Q hr rx ry e k
  unfold fEq ob at e
  cases h : mRc mh x y with
  | none => rw [h] at e; cases e
  | some b =>
    rw [h] at e; cases e
    exact ⟨b, mRc_sound hr h rx ry, k _ _ Ext.refl hr _ (by simp [VR])⟩
theorem s_ne : R2S X.K G (rNeM X.K) fNe := by
  intro ρ H mh mh1 x y z v w Q hr rx ry e k
  unfold fNe ob at e
  cases h : mRc mh x y with
  | none => rw [h] at e; cases e
  | some b =>
    rw [h] at e; cases e
    exact ⟨b, mRc_sound hr h rx ry, k _ _ Ext.refl hr _ (by simp [VR])⟩
theorem mIn_sound {K : PySem.W.Frag} {ρ : List Addr} {H : Hp} {mh : MH} {x y : MV} {v w : V} {b : Bool} (hr : HR K G ρ H mh) (e : mIn mh x y = some b) (rx : VR K G ρ H x v) (ry : VR K G ρ H y w) :
    (∃ (c : Nat) (z : Str), v = .str ⟨#[c]⟩ ∧ w = .str z ∧ b = decide (c ∈ z.cps.toList)) ∨ InW K v w H b := by
  unfold mIn at e
  split at e
  · split at e
    · split at e
      · rename_i z0 c n hn
        cases e
        simp only [VR] at rx ry
        subst ry
        refine .inl ⟨n, _, ?_, rfl, rfl⟩
        rw [rx]
        cases z0 with
        | mk cps =>
          have hn' : cps = #[n] := hn
          rw [hn']
      · cases e
    · cases e
  · split at e
    · rename_i ys hs
      cases hi : insM (fun y => mEq 7 mh y x) ys with
      | none => rw [hi] at e; cases e
      | some bs =>
        rw [hi] at e; cases e
        obtain ⟨p, vs, rfl, hq, r⟩ := seq_V hr hs ry
        obtain ⟨l, he⟩ := insM_sound (P := fun y b => EqW K H 7 y v b) (fun h r => mEq_sound hr h r rx) hi r
        exact .inr ⟨p, vs, bs, rfl, hq, l, he, rfl⟩
    · cases e
abbrev rInA (K : PySem.W.Frag) (neg : Bool) : R2 := fun x y H Q => (∃ (c : Nat) (z : Str), x = .str ⟨#[c]⟩ ∧ y = .str z ∧ Q (.bl (if neg then !decide (c ∈ z.cps.toList) else decide (c ∈ z.cps.toList))) H) ∨ rInM K neg x y H Q
theorem o_in (hu : X.A.units + 64 < cLine) : OpR X (compareOp .In) (rInA X.K false) := op_in_sign.or (op_inM hu)
theorem o_notIn (hu : X.A.units + 64 < cLine) : OpR X (compareOp .NotIn) (rInA X.K true) := op_notIn_sign.or (op_notInM hu)
theorem s_in : R2S X.K G (rInA X.K false) fIn := by
  intro ρ H mh mh1 x y z v w Q hr rx ry e k
  unfold fIn ob at e
  cases h : mIn mh x y with
  | none => rw [h] at e; cases e
  | some b =>
    rw [h] at e; cases e
    rcases mIn_sound hr h rx ry with ⟨c, z, rfl, rfl, rfl⟩ | q
    · exact .inl ⟨c, z, rfl, rfl, k _ _ Ext.refl hr _ (by simp [VR])⟩
    · exact .inr ⟨b, q, k _ _ Ext.refl hr _ (by simp [VR])⟩
theorem s_notIn : R2S X.K G (rInA X.K true) fNotIn := by
  intro ρ H mh mh1 x y z v w Q hr rx ry e k
  unfold fNotIn ob at e
  cases h : mIn mh x y with
  | none => rw [h] at e; cases e
  | some b =>
    rw [h] at e; cases e
    rcases mIn_sound hr h rx ry with ⟨c, z, rfl, rfl, rfl⟩ | q
    · exact .inl ⟨c, z, rfl, rfl, k _ _ Ext.refl hr _ (by simp [VR])⟩
    · exact .inr ⟨b, q, k _ _ Ext.refl hr _ (by simp [VR])⟩
theorem isN_V {K : PySem.W.Frag} {ρ : List Addr} {H : Hp} {x : MV} {v : V} (rx : VR K G ρ H x v) (hg : ∀ s, x ≠ .glo s) : isN x = decide (v = .non) := by
  cases x with
  | non => simp only [VR] at rx; subst rx; rfl
  | glo s => exact absurd rfl (hg s)
  | tup xs => obtain ⟨a, vs, rfl, _⟩ := rx.tup rfl; simp [isN]
  | ktp xs => obtain ⟨a, vs, rfl, _⟩ := rx.tup rfl; simp [isN]
  | frl xs => simp only [VR] at rx; obtain ⟨a, vs, rfl, _⟩ := rx; simp [isN]
  | ref i => simp only [VR] at rx; obtain ⟨a, rfl, _⟩ := rx; simp [isN]
  | bl _ => simp only [VR] at rx; subst rx; simp [isN]
  | int _ => simp only [VR] at rx; subst rx; simp [isN]
  | str _ => simp only [VR] at rx; subst rx; simp [isN]
  | byt _ => simp only [VR] at rx; subst rx; simp [isN]
  | ty _ => simp only [VR] at rx; subst rx; simp [isN]
theorem s_isN : R2S X.K G (fun x y H Q => y = .non ∧ Q (.bl (decide (x = .non))) H) fIsN := by
  intro ρ H mh mh1 x y z v w Q hr rx ry e k
  unfold fIsN at e
  split at e
  · split at e
    · cases e
    · rename_i hg
      cases e
      simp only [VR] at ry
      refine ⟨ry, ?_⟩
      rw [← isN_V rx hg]
      exact k _ _ Ext.refl hr _ (by simp [VR])
  · cases e
theorem s_notN : R2S X.K G (fun x y H Q => y = .non ∧ Q (.bl (!decide (x = .non))) H) fNotN := by
  intro ρ H mh mh1 x y z v w Q hr rx ry e k
  unfold fNotN at e
  split at e
  · split at e
    · cases e
    · rename_i hg
      cases e
      simp only [VR] at ry
      refine ⟨ry, ?_⟩
      rw [← isN_V rx hg]
      exact k _ _ Ext.refl hr _ (by simp [VR])
  · cases e
end
end Mo
/-! Mo6: subscripts, slices, built-ins, calls of the text's own defs. -/
namespace Mo
open PySem L2

/-! ### dicts of the model -/
def keyM : MV → Option Key
  | .int i => some (.inl i)
  | .str x => some (.inr x)
  | _ => none
def keysM : List MV → Option (List Key)
  | [] => some []
  | x :: xs => match keyM x, keysM xs with
    | some k, some ks => some (k :: ks)
    | _, _ => none
def valM {κ : Type} [DecidableEq κ] (kvs : List (κ × MV)) (k : κ) : Option MV := (kvs.find? fun kv => decide (kv.1 = k)).map (·.2)
def putM {κ : Type} [DecidableEq κ] (kvs : List (κ × MV)) (k : κ) (v : MV) : List (κ × MV) :=
  if (kvs.any fun kv => decide (kv.1 = k)) = true then kvs.map (fun kv => if kv.1 = k then (kv.1, v) else kv) else kvs ++ [(k, v)]
section
variable {K : PySem.W.Frag} {G : String → Option V} {ρ : List Addr} {H : Hp} {mh : MH}
theorem keyM_V {x : MV} {v : V} {k : Key} (e : keyM x = some k) (r : VR K G ρ H x v) : v = kV k := by
  cases x <;> simp [keyM] at e <;> subst e <;> simp only [VR] at r <;> exact r
theorem keysM_V : ∀ {xs : List MV} {vs : List V} {ks : List Key}, keysM xs = some ks → VRs K G ρ H xs vs → vs = ks.map kV
  | [], _, _, e, r => by simp only [VRs] at r; subst r; cases e; rfl
  | x :: xs, _, ks, e, r => by
    simp only [VRs] at r
    obtain ⟨v, vs, rfl, q, t⟩ := r
    simp only [keysM] at e
    cases h1 : keyM x with
    | none => rw [h1] at e; simp at e
    | some a =>
      cases h2 : keysM xs with
      | none => rw [h1, h2] at e; simp at e
      | some b =>
        rw [h1, h2] at e; cases e
        rw [keyM_V h1 q, keysM_V h2 t]
        rfl
theorem KRs.length {κ : Type} : ∀ {xs : List (κ × MV)} {vs : List (κ × V)}, KRs K G ρ H id xs vs → xs.length = vs.length
  | [], _, h => by simp only [KRs] at h; subst h; rfl
  | x :: xs, _, h => by
    simp only [KRs] at h
    obtain ⟨v, r, rfl, _, t⟩ := h
    simp [KRs.length t]
theorem valM_V {κ : Type} [DecidableEq κ] {k : κ} : ∀ {xs : List (κ × MV)} {vs : List (κ × V)}, KRs K G ρ H id xs vs →
    (∀ x, valM xs k = some x → ∃ v, valV vs k = some v ∧ VR K G ρ H x v) ∧ (valM xs k = none → valV vs k = none)
  | [], _, h => by simp only [KRs] at h; subst h; exact ⟨fun x e => by simp [valM] at e, fun _ => rfl⟩
  | x :: xs, _, h => by
    simp only [KRs] at h
    obtain ⟨v, r, rfl, q, t⟩ := h
    obtain ⟨i1, i2⟩ := valM_V (k := k) t
    by_cases e : x.1 = k
    · have e1 : valM (x :: xs) k = some x.2 := by simp [valM, List.find?_cons, e]
      have e2 : valV ((id x.1, v) :: r) k = some v := valV_pos e
      rw [e1, e2]
      exact ⟨fun y h => by cases h; exact ⟨v, rfl, q⟩, fun h => by cases h⟩
    · have e1 : valM (x :: xs) k = valM xs k := by simp [valM, List.find?_cons, e]
      have e2 : valV ((id x.1, v) :: r) k = valV r k := valV_neg e
      rw [e1, e2]
      exact ⟨i1, i2⟩
theorem any_V {κ : Type} [DecidableEq κ] {k : κ} : ∀ {xs : List (κ × MV)} {vs : List (κ × V)}, KRs K G ρ H id xs vs → (xs.any fun kv => decide (kv.1 = k)) = (vs.any fun kv => decide (kv.1 = k))
  | [], _, h => by simp only [KRs] at h; subst h; rfl
  | x :: xs, _, h => by
    simp only [KRs] at h
    obtain ⟨v, r, rfl, q, t⟩ := h
    rw [List.any_cons, List.any_cons, any_V t]
    rfl
theorem map_V {κ : Type} [DecidableEq κ] {k : κ} {y : MV} {w : V} (hy : VR K G ρ H y w) : ∀ {xs : List (κ × MV)} {vs : List (κ × V)}, KRs K G ρ H id xs vs →
    KRs K G ρ H id (xs.map (fun kv => if kv.1 = k then (kv.1, y) else kv)) (vs.map (fun kv => if kv.1 = k then (kv.1, w) else kv))
  | [], _, h => by simp only [KRs] at h; subst h; rfl
  | x :: xs, _, h => by
    simp only [KRs] at h
    obtain ⟨v, r, rfl, q, t⟩ := h
    rw [List.map_cons, List.map_cons]
    refine ⟨if x.1 = k then w else v, _, ?_, ?_, map_V hy t⟩
    · by_cases e : x.1 = k
      · have e' : (id x.1, v).1 = k := e
        rw [if_pos e', if_pos e, if_pos e]
        first | done | rfl
      · have e' : ¬ (id x.1, v).1 = k := e
        rw [if_neg e', if_neg e, if_neg e]
        first | done | rfl
    · by_cases e : x.1 = k
      · rw [if_pos e, if_pos e]; exact hy
      · rw [if_neg e, if_neg e]; exact q
theorem KRs.append {κ κ' : Type} {j : κ → κ'} : ∀ {xs ys : List (κ × MV)} {vs ws : List (κ' × V)}, KRs K G ρ H j xs vs → KRs K G ρ H j ys ws → KRs K G ρ H j (xs ++ ys) (vs ++ ws)
  | [], _, _, _, h, k => by simp only [KRs] at h; subst h; exact k
  | x :: xs, _, _, _, h, k => by
    simp only [KRs] at h
    obtain ⟨v, r, rfl, q, t⟩ := h
    exact ⟨v, _, rfl, q, KRs.append t k⟩
theorem putM_V {κ : Type} [DecidableEq κ] {k : κ} {y : MV} {w : V} {xs : List (κ × MV)} {vs : List (κ × V)} (h : KRs K G ρ H id xs vs) (hy : VR K G ρ H y w) : KRs K G ρ H id (putM xs k y) (putK vs k w) := by
  unfold putM putK
  rw [any_V h]
  by_cases e : (vs.any fun kv => decide (kv.1 = k)) = true
  · rw [if_pos e, if_pos e]; exact map_V hy h
  · rw [if_neg e, if_neg e]; exact h.append ⟨w, [], rfl, hy, rfl⟩
theorem HR.dk (hr : HR K G ρ H mh) {i : Nat} {xs : List (Key × MV)} {v : V} (e : mh[i]? = some (.dk xs)) (r : VR K G ρ H (.ref i) v) : ∃ a vs, v = .ref a ∧ ρ[i]? = some a ∧ H a = some (.dK vs) ∧ KRs K G ρ H id xs vs := by
  simp only [VR] at r
  obtain ⟨a, rfl, ha⟩ := r
  obtain ⟨vs, h1, h2⟩ := hr.get e ha
  exact ⟨a, vs, rfl, ha, h1, h2⟩
theorem HR.dt (hr : HR K G ρ H mh) {i : Nat} {xs : List (List Key × MV)} {v : V} (e : mh[i]? = some (.dt xs)) (r : VR K G ρ H (.ref i) v) : ∃ a vs, v = .ref a ∧ ρ[i]? = some a ∧ H a = some (.dT vs) ∧ KRs K G ρ H id xs vs := by
  simp only [VR] at r
  obtain ⟨a, rfl, ha⟩ := r
  obtain ⟨vs, h1, h2⟩ := hr.get e ha
  exact ⟨a, vs, rfl, ha, h1, h2⟩
end

/-! ### x[i] -/
def fIx (x y : MV) (h : MH) : OV := match y with
  | .int i => match x with
    | .str z => if z.length ≤ SZ then (atI z.cps.toList i).map fun c => (.str ⟨#[c]⟩, h) else none
    | x => match seqOf h x with
      | some xs => (atI xs i).map fun v => (v, h)
      | none => none
  | _ => none
theorem atI_V {K : PySem.W.Frag} {G : String → Option V} {ρ : List Addr} {H : Hp} {xs : List MV} {vs : List V} {i : Int} {z : MV} (r : VRs K G ρ H xs vs) (e : atI xs i = some z) : ∃ v, atI vs i = some v ∧ VR K G ρ H z v := by
  unfold atI at e ⊢
  rw [← r.length]
  cases h : ixN xs.length i with
  | none => rw [h] at e; simp at e
  | some j => rw [h] at e; exact r.get e
section
variable {X : Cx} {G : String → Option V} {W : WX} {a b c : Expr} {ma mb mc : ME} {pos : Pos}
theorem s_ix : R2S X.K G (rIx X.K) fIx := by
  intro ρ H mh mh1 x y z v w Q hr rx ry e k
  unfold fIx at e
  split at e
  · rename_i i
    simp only [VR] at ry; subst ry
    split at e
    · rename_i z0
      simp only [VR] at rx; subst rx
      split at e
      · rename_i hz
        cases h : atI z0.cps.toList i with
        | none => rw [h] at e; cases e
        | some c =>
          rw [h] at e; cases e
          exact .inr (.inr ⟨_, _, c, rfl, rfl, by rw [SZ_eq]; exact hz, h, k _ _ Ext.refl hr _ (by simp [VR])⟩)
      · cases e
    · split at e
      · rename_i xs hs
        cases h : atI xs i with
        | none => rw [h] at e; cases e
        | some u =>
          rw [h] at e; cases e
          obtain ⟨p, vs, rfl, hq, r⟩ := seq_V hr hs rx
          obtain ⟨u1, h1, h2⟩ := atI_V r h
          rcases hq with hq | hq
          · exact .inl ⟨p, vs, i, u1, rfl, rfl, hq, h1, k _ _ Ext.refl hr _ h2⟩
          · exact .inr (.inl ⟨p, vs, i, u1, rfl, rfl, hq, h1, k _ _ Ext.refl hr _ h2⟩)
      · cases e
  · cases e
theorem m_ix (ha : PE X a (RE X.K G W ma)) (hb : PE X b (RE X.K G W mb)) (hs : PlainIx b) : PE X (.Subscript a b pos) (RE X.K G W (e2 fIx ma mb)) := pe_imp (pe_ix ix_seq ha hb hs) (op_re s_ix)
end
/-- what a dict holds -/
def dGet (h : MH) (x y : MV) : Option (Option MV) := match x with
  | .ref i => match h[i]? with
    | some (.dk kvs) => (keyM y).map fun k => valM kvs k
    | some (.dt kvs) => match y with
      | .tup ys => (keysM ys).map fun k => valM kvs k
      | _ => none
    | _ => none
  | _ => none
def fDGet (x y : MV) (h : MH) : OV := match dGet h x y with
  | some (some v) => some (v, h)
  | _ => none
def fDIn (y x : MV) (h : MH) : OV := match dGet h x y with
  | some o => some (.bl o.isSome, h)
  | _ => none
def fDNotIn (y x : MV) (h : MH) : OV := match dGet h x y with
  | some o => some (.bl (!o.isSome), h)
  | _ => none
section
variable {X : Cx} {G : String → Option V} {W : WX} {a b c : Expr} {ma mb mc : ME} {pos : Pos}
theorem dGet_V {K : PySem.W.Frag} {ρ : List Addr} {H : Hp} {mh : MH} {x y : MV} {v w : V} {o : Option MV} (hr : HR K G ρ H mh) (e : dGet mh x y = some o) (rx : VR K G ρ H x v) (ry : VR K G ρ H y w) :
    ∃ a r, v = .ref a ∧ DGet H a w r ∧ (∀ z, o = some z → ∃ u, r = some u ∧ VR K G ρ H z u) ∧ (o = none → r = none) := by
  unfold dGet at e
  split at e
  · split at e
    · rename_i kvs h1
      obtain ⟨a, vs, rfl, _, h2, h3⟩ := hr.dk h1 rx
      cases h4 : keyM y with
      | none => rw [h4] at e; cases e
      | some k =>
        rw [h4] at e; cases e
        obtain ⟨q1, q2⟩ := valM_V (k := k) h3
        have := keyM_V h4 ry
        subst this
        exact ⟨a, _, rfl, DGet.k h2, q1, q2⟩
    · rename_i kvs h1
      obtain ⟨a, vs, rfl, _, h2, h3⟩ := hr.dt h1 rx
      split at e
      · rename_i ys
        cases h4 : keysM ys with
        | none => rw [h4] at e; cases e
        | some k =>
          rw [h4] at e; cases e
          obtain ⟨q1, q2⟩ := valM_V (k := k) h3
          simp only [VR] at ry
          obtain ⟨b, ws, rfl, h5, h6⟩ := ry
          have h7 := keysM_V h4 h6
          subst h7
          exact ⟨a, _, rfl, DGet.t h2 h5, q1, q2⟩
      · cases e
    · cases e
  · cases e
end
end Mo
/-! Mo7: built-ins, calls, statements, loops, defs. -/
namespace Mo
open PySem L2

/-! ### built-ins by values -/
def CallS (K : PySem.W.Frag) (G : String → Option V) (r : List V → Hp → VK → Prop) (f : List MV → MH → OV) : Prop :=
  ∀ {ρ : List Addr} {H : Hp} {mh mh1 : MH} {xs : List MV} {z : MV} {vs : List V} {Q : VK}, HR K G ρ H mh → VRs K G ρ H xs vs → f xs mh = some (z, mh1) →
    (∀ ρ1 H1, Ext K ρ H ρ1 H1 → HR K G ρ1 H1 mh1 → ∀ v1, VR K G ρ1 H1 z v1 → Q v1 H1) → r vs H Q
theorem VRs.one {K : PySem.W.Frag} {G : String → Option V} {ρ : List Addr} {H : Hp} {x : MV} {vs : List V} (h : VRs K G ρ H [x] vs) : ∃ v, vs = [v] ∧ VR K G ρ H x v := by
  simp only [VRs] at h
  obtain ⟨v, r, rfl, q, rfl⟩ := h
  exact ⟨v, rfl, q⟩
theorem VRs.two {K : PySem.W.Frag} {G : String → Option V} {ρ : List Addr} {H : Hp} {x y : MV} {vs : List V} (h : VRs K G ρ H [x, y] vs) : ∃ v w, vs = [v, w] ∧ VR K G ρ H x v ∧ VR K G ρ H y w := by
  simp only [VRs] at h
  obtain ⟨v, r, rfl, q, w, r', rfl, q', rfl⟩ := h
  exact ⟨v, w, rfl, q, q'⟩
section
variable {X : Cx} {G : String → Option V} {W : WX} {e : Expr} {es : List Expr} {ms : MEs} {x : Str} {p pos : Pos} {id T : String} {r : List V → Hp → VK → Prop} {f : List MV → MH → OV}
theorem cb_re (hs : CallS X.K G r f) (σ : St) (H : Hp) (Q : VK) (h : RE X.K G W (eA f ms) σ H Q) : tCB r (RA X.K G W ms) σ H Q := by
  obtain ⟨ρ, sm, mh, r0, q⟩ := h
  refine ra_bnd r0 q fun xs ρ1 H1 mh1 vs x1 r1 rvs q1 => ?_
  obtain ⟨z, h1, e, k⟩ := ro_lift q1
  exact hs r1.hr rvs e k
theorem m_callB (hc : CallR X (.builtin id) r) (hs : CallS X.K G r f) (hg : Gl X x) (hm : X.mg x = none) (hv : bootBuiltins x = some (.builtin id)) (ha : PA X (e :: es) (RA X.K G W ms)) (hn : x ≠ "__name__" := by decide) (hdb : (x == ("__debug__" : Str)) = false := by decide)
    (he : starEach (e :: es) X.env = (false, eval e X.env) :: starEach es X.env := by rfl) (hpl : (backTo pos (starEach es X.env)).any (·.1) = false := by rfl) : PE X (.Call (.Name x p) (e :: es) [] pos) (RE X.K G W (eA f ms)) :=
  pe_imp (pe_callB hc hg hm hv ha hn hdb he hpl) (cb_re hs)
theorem m_callTy (hc : CallR X (.type T) r) (hs : CallS X.K G r f) (hg : Gl X x) (hm : X.mg x = none) (hv : bootBuiltins x = some (.type T)) (ha : PA X (e :: es) (RA X.K G W ms)) (hn : x ≠ "__name__" := by decide) (hdb : (x == ("__debug__" : Str)) = false := by decide)
    (he : starEach (e :: es) X.env = (false, eval e X.env) :: starEach es X.env := by rfl) (hpl : (backTo pos (starEach es X.env)).any (·.1) = false := by rfl) : PE X (.Call (.Name x p) (e :: es) [] pos) (RE X.K G W (eA f ms)) :=
  pe_imp (pe_callTy hc hg hm hv ha hn hdb he hpl) (cb_re hs)
theorem CallR.or {fv : Value} {r r' : List V → Hp → VK → Prop} (h : CallR X fv r) (h' : CallR X fv r') : CallR X fv (fun xs H Q => r xs H Q ∨ r' xs H Q) := by
  intro pins s σ H xs us Q I rs q
  rcases q with q | q
  · exact h pins s σ H xs us Q I rs q
  · exact h' pins s σ H xs us Q I rs q
end
def fLen (xs : List MV) (h : MH) : OV := match xs with
  | [.str z] => if z.length ≤ SZ then some (.int z.length, h) else none
  | [.ref i] => match h[i]? with
    | some (.lst ys) => some (.int ys.length, h)
    | some (.dk ys) => some (.int ys.length, h)
    | _ => none
  | [.tup ys] => some (.int ys.length, h)
  | [.ktp ys] => some (.int ys.length, h)
  | [.frl ys] => some (.int ys.length, h)
  | _ => none
def fInt (xs : List MV) (h : MH) : OV := match xs with
  | [.int i] => some (.int i, h)
  | _ => none
def fAbs (xs : List MV) (h : MH) : OV := match xs with
  | [.int i] => some (.int (if i < 0 then -i else i), h)
  | _ => none
section
variable {X : Cx} {G : String → Option V}
abbrev rLenA (K : PySem.W.Frag) : List V → Hp → VK → Prop := fun xs H Q => (∃ x n, xs = [x] ∧ LenV K x H n ∧ Q (.int n) H) ∨ ∃ a kvs, xs = [V.ref a] ∧ H a = some (.dK kvs) ∧ Q (.int kvs.length) H
theorem c_len : CallR X (.builtin "len") (rLenA X.K) := call_len.or call_lenD
theorem s_len : CallS X.K G (rLenA X.K) fLen := by
  intro ρ H mh mh1 xs z vs Q hr rvs e k
  unfold fLen at e
  split at e
  · obtain ⟨v, rfl, rv⟩ := rvs.one
    simp only [VR] at rv; subst rv
    split at e
    · rename_i hz
      cases e
      exact .inl ⟨_, _, rfl, ⟨by rw [SZ_eq]; exact hz, rfl⟩, k _ _ Ext.refl hr _ (by simp [VR])⟩
    · cases e
  · obtain ⟨v, rfl, rv⟩ := rvs.one
    split at e
    · rename_i q
      cases e
      obtain ⟨a, ws, rfl, _, h1, h2⟩ := hr.lst q rv
      exact .inl ⟨_, _, rfl, .inl ⟨_, SqL.of h1, h2.length⟩, k _ _ Ext.refl hr _ (by simp [VR])⟩
    · rename_i q
      cases e
      obtain ⟨a, ws, rfl, _, h1, h2⟩ := hr.dk q rv
      refine .inr ⟨_, _, rfl, h1, k _ _ Ext.refl hr _ ?_⟩
      simp only [VR]; rw [h2.length]
    · cases e
  · obtain ⟨v, rfl, rv⟩ := rvs.one
    cases e
    obtain ⟨a, ws, rfl, h1, h2⟩ := rv.tup rfl
    exact .inl ⟨_, _, rfl, .inr ⟨_, h1, h2.length⟩, k _ _ Ext.refl hr _ (by simp [VR])⟩
  · obtain ⟨v, rfl, rv⟩ := rvs.one
    cases e
    obtain ⟨a, ws, rfl, h1, h2⟩ := rv.tup rfl
    exact .inl ⟨_, _, rfl, .inr ⟨_, h1, h2.length⟩, k _ _ Ext.refl hr _ (by simp [VR])⟩
  · obtain ⟨v, rfl, rv⟩ := rvs.one
    cases e
    simp only [VR] at rv
    obtain ⟨a, ws, rfl, h1, h2⟩ := rv
    exact .inl ⟨_, _, rfl, .inl ⟨_, h1.sq, h2.length⟩, k _ _ Ext.refl hr _ (by simp [VR])⟩
  · cases e
theorem s_int : CallS X.K G (fun xs H Q => (∃ i, xs = [.int i] ∧ Q (.int i) H) ∨ ∃ k, xs = [.bl k] ∧ Q (.int (if k then 1 else 0)) H) fInt := by
  intro ρ H mh mh1 xs z vs Q hr rvs e k
  unfold fInt at e
  split at e
  · obtain ⟨v, rfl, rv⟩ := rvs.one
    simp only [VR] at rv; subst rv
    cases e
    exact .inl ⟨_, rfl, k _ _ Ext.refl hr _ (by simp [VR])⟩
  · cases e
theorem s_abs : CallS X.K G (fun xs H Q => ∃ i, xs = [.int i] ∧ Q (.int (if i < 0 then -i else i)) H) fAbs := by
  intro ρ H mh mh1 xs z vs Q hr rvs e k
  unfold fAbs at e
  split at e
  · obtain ⟨v, rfl, rv⟩ := rvs.one
    simp only [VR] at rv; subst rv
    cases e
    exact ⟨_, rfl, k _ _ Ext.refl hr _ (by simp [VR])⟩
  · cases e
end
/-! ### isinstance -/
/-- a value's type as the tables name it -/
def tyM (h : MH) : MV → Option MV
  | .non => some (.ty "NoneType")
  | .bl _ => some (.ty "bool")
  | .int _ => some (.ty "int")
  | .str _ => some (.ty "str")
  | .byt _ => some (.ty "bytes")
  | .tup _ => some (.ty "tuple")
  | .ref i => match h[i]? with
    | some (.lst _) => some (.ty "list")
    | some (.dk _) => some (.ty "dict")
    | some (.dt _) => some (.ty "dict")
    | some (.ins c _) => some (.glo c)
    | _ => none
  | _ => none
/-- the built-in types among themselves -/
def tabB (a b : String) : Option Bool := if a = b then some true else if a = "bool" ∧ b = "int" then some true else
  if ["NoneType", "bool", "int", "str", "bytes", "tuple", "list", "dict"].contains a ∧ ["bool", "int", "str", "bytes", "tuple", "list", "dict"].contains b then some false else none
/-- own : of own classes -/
def isiM (own : String → String → Option Bool) (t c : MV) : Option Bool := match t, c with
  | .ty a, .ty b => tabB a b
  | .ty a, .glo b => if ["NoneType", "bool", "int", "str", "bytes", "tuple", "list", "dict"].contains a then own a b else none
  | .glo a, .glo b => own a b
  | .glo a, .ty b => own a b
  | _, _ => none
def fIsi (own : String → String → Option Bool) (xs : List MV) (h : MH) : OV := match xs with
  | [x, c] => match tyM h x with
    | some t => ob (isiM own t c) h
    | none => none
  | _ => none
/-- a class's value in the fragment -/
def clsV (G : String → Option V) : MV → Option Value
  | .ty a => some (.type a)
  | .glo s => match G s with
    | some (.ref C) => some (.ref C)
    | _ => none
  | _ => none
structure IsiOk (K : PySem.W.Frag) (G : String → Option V) (own : String → String → Option Bool) : Prop where
  gref : ∀ s v, G s = some v → ∃ C, v = .ref C
  ok : ∀ t c b tv cv, isiM own t c = some b → clsV G t = some tv → clsV G c = some cv → PySem.W.kitOne K tv cv = some b
  ins : ∀ s C c b, G s = some (.ref C) → isiM own (.glo s) c = some b → Cls K C ∧ PySem.W.findIn K (.ref C) "__class__" = some (some (.builtin "object.__class__")) ∧
    PySem.W.specialIn K (.builtin "object.__class__") "__get__" = some (some (.builtin "getset_descriptor.__get__")) ∧ PySem.W.takesIn K (.builtin "object.__class__") = some true ∧ PySem.W.mroIn K C (.type "object") = some true
section
variable {X : Cx} {G : String → Option V}
theorem cls_V {K : PySem.W.Frag} {own : String → String → Option Bool} (T : IsiOk K G own) {ρ : List Addr} {H : Hp} {c : MV} {w : V} (hc : (∃ n, c = .ty n) ∨ ∃ s, c = .glo s) (r : VR K G ρ H c w) : ∃ cv, clsV G c = some cv ∧ ClsV w cv := by
  rcases hc with ⟨n, rfl⟩ | ⟨s, rfl⟩
  · simp only [VR] at r; subst r; exact ⟨_, rfl, .ty n⟩
  · simp only [VR] at r
    obtain ⟨C, rfl⟩ := T.gref s w r
    exact ⟨.ref C, by simp [clsV, r], .own C⟩
theorem isiM_cls {own : String → String → Option Bool} {t c : MV} {b : Bool} (h : isiM own t c = some b) : (∃ n, c = .ty n) ∨ ∃ s, c = .glo s := by
  cases c with
  | ty n => exact .inl ⟨n, rfl⟩
  | glo s => exact .inr ⟨s, rfl⟩
  | _ => cases t <;> simp [isiM] at h
theorem ty_V {K : PySem.W.Frag} {own : String → String → Option Bool} (T : IsiOk K G own) {ρ : List Addr} {H : Hp} {mh : MH} {x t c : MV} {v : V} {b : Bool} (hr : HR K G ρ H mh) (e : tyM mh x = some t) (rv : VR K G ρ H x v) (hb : isiM own t c = some b) :
    ∃ tv, clsV G t = some tv ∧ TyX K H v tv := by
  unfold tyM at e
  split at e
  · cases e; simp only [VR] at rv; subst rv; exact ⟨_, rfl, .base .non⟩
  · cases e; simp only [VR] at rv; subst rv; exact ⟨_, rfl, .base (.bl _)⟩
  · cases e; simp only [VR] at rv; subst rv; exact ⟨_, rfl, .base (.int _)⟩
  · cases e; simp only [VR] at rv; subst rv; exact ⟨_, rfl, .base (.str _)⟩
  · cases e; simp only [VR] at rv; subst rv; exact ⟨_, rfl, .byt _⟩
  · cases e; simp only [VR] at rv; obtain ⟨a, vs, rfl, h1, _⟩ := rv; exact ⟨_, rfl, .base (.tup h1)⟩
  · split at e
    · rename_i q; cases e; obtain ⟨a, ws, rfl, _, h1, h2⟩ := hr.lst q rv; exact ⟨_, rfl, .base (.lst h1)⟩
    · rename_i q; cases e; obtain ⟨a, ws, rfl, _, h1, h2⟩ := hr.dk q rv; exact ⟨_, rfl, .base (.dK h1)⟩
    · rename_i q; cases e; obtain ⟨a, ws, rfl, _, h1, h2⟩ := hr.dt q rv; exact ⟨_, rfl, .base (.dT h1)⟩
    · rename_i q; cases e
      simp only [VR] at rv
      obtain ⟨a, rfl, ha⟩ := rv
      obtain ⟨C, dx, vs, h1, h2, _⟩ := hr.get q ha
      obtain ⟨i1, i2, i3, i4, i5⟩ := T.ins _ C c b h1 hb
      exact ⟨.ref C, by simp [clsV, h1], .base (.ins h2 i1 i2 i3 i4 i5)⟩
    · cases e
  · cases e
theorem s_isi {own : String → String → Option Bool} (T : IsiOk X.K G own) : CallS X.K G (rIsi X.K) (fIsi own) := by
  intro ρ H mh mh1 xs z vs Q hr rvs e k
  unfold fIsi at e
  split at e
  · rename_i x c
    obtain ⟨v, w, rfl, rv, rw'⟩ := rvs.two
    cases h1 : tyM mh x with
    | none => rw [h1] at e; cases e
    | some t =>
      rw [h1] at e
      cases h2 : isiM own t c with
      | none => simp only [h2] at e; cases e
      | some b =>
        simp only [h2] at e; cases e
        obtain ⟨cv, c1, c2⟩ := cls_V T (isiM_cls h2) rw'
        obtain ⟨tv, t1, t2⟩ := ty_V T hr h1 rv h2
        exact ⟨v, w, tv, cv, b, rfl, c2, t2, T.ok t c b tv cv h2 t1 c1, k _ _ Ext.refl hr _ (by simp [VR])⟩
  · cases e
end

/-! ### the text's own defs -/
def call (n : Nat) (f : MF) (ms : MEs) : ME := fun s h => (ms s h).bnd fun xs h1 => if xs.length = n then f xs h1 else .no
theorem ro_any {α : Type} {K : PySem.W.Frag} {G : String → Option V} {W : WX} {σ : St} {P : α → List Addr → Hp → Prop} {ρ : List Addr} {H : Hp} {r : Rz α} (h : RO K G W σ P ρ H r) : RO K G (fun cls d _ H => W cls d σ H) [] P ρ H r := by
  cases r with
  | ok v m => exact h
  | err e m => exact h
  | no => exact h
section
variable {X : Cx} {G : String → Option V} {W : WX} {e : Expr} {es : List Expr} {ms : MEs} {x : Str} {p pos : Pos} {k n : Nat} {fa : Addr} {fd : FuncData} {ps : List Str} {f : MF}
theorem call_re {σ : St} {H : Hp} {Q : VK} (h : RE X.K G W (call n f ms) σ H Q) : RA X.K G W ms σ H fun vs H1 => SpM X.K G n f vs H1 Q (WE W σ) := by
  obtain ⟨ρ, sm, mh, r0, q⟩ := h
  refine ra_bnd r0 q fun xs ρ1 H1 mh1 vs x1 r1 rvs q1 => ?_
  by_cases hl : xs.length = n
  · rw [if_pos hl] at q1
    exact ⟨ρ1, xs, mh1, r1.hr, rvs, by rw [← rvs.length]; exact hl, ro_any q1⟩
  · rw [if_neg hl] at q1; exact False.elim q1
theorem m_call (F : FnOk X.prog X.w X.K X.mg X.base (L2.CX X.prog X.w) k fa fd ps (SpM X.K G n f)) (hr : Room k X.A) (hg : Gl X x) (hm : X.mg x = some (.ref fa)) (hk : PySem.W.keepIn X.K (.ref fa) = true) (hb : Binds X.K fd ps []) (tk : Takes X W)
    (ha : PA X (e :: es) (RA X.K G W ms)) (hdb : (x == ("__debug__" : Str)) = false := by decide) (he : starEach (e :: es) X.env = (false, eval e X.env) :: starEach es X.env := by rfl) (hpl : (backTo pos (starEach es X.env)).any (·.1) = false := by rfl) :
    PE X (.Call (.Name x p) (e :: es) [] pos) (RE X.K G W (call n f ms)) :=
  pe_imp (pe_callS F hr hg hm hk hb (fun σ => passAt tk σ) ha hdb he hpl) fun _ _ _ h => call_re h
end

/-! ### statements -/
def Rz.bnS {α : Type} (r : Rz α) (s : Lo) (k : α → MH → SR) : SR := match r with
  | .ok v h => k v h
  | .err e h => .err e s h
  | .no => .no
def sNx : MS := fun s h => .nx s h
def sSeq (a b : MS) : MS := fun s h => match a s h with
  | .nx s1 h1 => b s1 h1
  | r => r
abbrev MG := MV → Lo → Option Lo
def gN (i : Nat) : MG := fun v s => some (s.set i (some v))
def setAll : List Nat → List MV → Lo → Option Lo
  | [], [], s => some s
  | i :: is, v :: vs, s => setAll is vs (s.set i (some v))
  | _, _, _ => none
def gT (is : List Nat) : MG := fun v s => (asT v).bind fun xs => setAll is xs s
def sAsg (e : ME) (g : MG) : MS := fun s h => (e s h).bnS s fun v h1 => match g v s with
  | some s1 => .nx s1 h1
  | none => .no
def sExp (e : ME) : MS := fun s h => (e s h).bnS s fun _ h1 => .nx s h1
def sRet (e : ME) : MS := fun s h => (e s h).bnS s fun v h1 => .rt v h1
def sRetN : MS := fun _ h => .rt .non h
def sIf (c : MB) (a b : MS) : MS := fun s h => (c s h).bnS s fun k h1 => if k = true then a s h1 else b s h1
def sBrk : MS := fun s h => .bk s h
def sCnt : MS := fun s h => .ct s h
section
variable {K : PySem.W.Frag} {G : String → Option V} {W : WX} {D : Ends} {ρ : List Addr} {H : Hp} {sm : Lo} {σ : St} {mh : MH}
theorem res_bnd {m : ME} {k : MV → MH → SR} {Q : VK} (r : Rl K G ρ H sm σ mh) (h : RSE K G W D ρ H ((m sm mh).bnS sm k))
    (hq : ∀ v ρ1 H1 mh1 x, Ext K ρ H ρ1 H1 → Rl K G ρ1 H1 sm σ mh1 → VR K G ρ1 H1 v x → RSE K G W D ρ1 H1 (k v mh1) → Q x H1) : RE K G W m σ H Q := by
  refine ⟨ρ, sm, mh, r, ?_⟩
  cases e : m sm mh with
  | ok v m1 => rw [e] at h; exact fun ρ1 H1 x hr w rv => hq v ρ1 H1 m1 w x (r.at x hr) rv (h.mono x)
  | err v m1 => rw [e] at h; exact fun ρ1 H1 cls d x hr er => h ρ1 H1 σ cls d x hr (r.sr.ext x) er
  | no => rw [e] at h; exact h
theorem rts_bnd {m : MB} {k : Bool → MH → SR} {Q : Bool → Hp → Prop} (r : Rl K G ρ H sm σ mh) (h : RSE K G W D ρ H ((m sm mh).bnS sm k))
    (hq : ∀ v ρ1 H1 mh1, Ext K ρ H ρ1 H1 → Rl K G ρ1 H1 sm σ mh1 → RSE K G W D ρ1 H1 (k v mh1) → Q v H1) : RT K G W m σ H Q := by
  refine ⟨ρ, sm, mh, r, ?_⟩
  cases e : m sm mh with
  | ok v m1 => rw [e] at h; exact fun ρ1 H1 x hr => hq v ρ1 H1 m1 x (r.at x hr) (h.mono x)
  | err v m1 => rw [e] at h; exact fun ρ1 H1 cls d x hr er => h ρ1 H1 σ cls d x hr (r.sr.ext x) er
  | no => rw [e] at h; exact h
theorem ras_bnd {m : MEs} {k : List MV → MH → SR} {Q : List V → Hp → Prop} (r : Rl K G ρ H sm σ mh) (h : RSE K G W D ρ H ((m sm mh).bnS sm k))
    (hq : ∀ v ρ1 H1 mh1 x, Ext K ρ H ρ1 H1 → Rl K G ρ1 H1 sm σ mh1 → VRs K G ρ1 H1 v x → RSE K G W D ρ1 H1 (k v mh1) → Q x H1) : RA K G W m σ H Q := by
  refine ⟨ρ, sm, mh, r, ?_⟩
  cases e : m sm mh with
  | ok v m1 => rw [e] at h; exact fun ρ1 H1 x hr w rv => hq v ρ1 H1 m1 w x (r.at x hr) rv (h.mono x)
  | err v m1 => rw [e] at h; exact fun ρ1 H1 cls d x hr er => h ρ1 H1 σ cls d x hr (r.sr.ext x) er
  | no => rw [e] at h; exact h
theorem RSE.nx {s1 : Lo} {m1 : MH} {σ1 : St} (h : RSE K G W D ρ H (.nx s1 m1)) (hr : HR K G ρ H m1) (sr : SRl K G ρ H s1 σ1) : D.nx σ1 H := h ρ H σ1 Ext.refl hr sr
theorem RSE.rt {v : MV} {m1 : MH} {w : V} (h : RSE K G W D ρ H (.rt v m1)) (hr : HR K G ρ H m1) (rv : VR K G ρ H v w) : D.rt w H := h ρ H w Ext.refl hr rv
theorem SRl.set {i : Nat} {x : MV} {v : V} (h : SRl K G ρ H sm σ) (r : VR K G ρ H x v) : SRl K G ρ H (sm.set i (some x)) (σ.set i (some v)) := by
  refine ⟨by simp [h.1], fun j y e => ?_⟩
  by_cases hj : i = j
  · subst hj
    by_cases hl : i < sm.length
    · rw [List.getElem?_set_self hl] at e
      cases e
      exact ⟨v, List.getElem?_set_self (by rw [← h.1]; exact hl), r⟩
    · rw [List.getElem?_eq_none (by simp; omega)] at e; cases e
  · rw [List.getElem?_set_ne hj] at e
    obtain ⟨w, a, b⟩ := h.2 j y e
    exact ⟨w, by rw [List.getElem?_set_ne hj]; exact a, b⟩
end
/-- a target: the model's and the layer's -/
def GS (K : PySem.W.Frag) (G : String → Option V) (t : TG) (g : MG) : Prop :=
  ∀ {ρ : List Addr} {H : Hp} {sm s1 : Lo} {σ : St} {x : MV} {v : V} {mh : MH} {Q : St → Hp → Prop}, HR K G ρ H mh → SRl K G ρ H sm σ → VR K G ρ H x v → g x sm = some s1 → (∀ σ1, SRl K G ρ H s1 σ1 → Q σ1 H) → t v σ H Q
def GSs (K : PySem.W.Frag) (G : String → Option V) (t : TGs) (is : List Nat) : Prop :=
  ∀ {ρ : List Addr} {H : Hp} {sm s1 : Lo} {σ : St} {xs : List MV} {vs : List V} {mh : MH} {Q : St → Hp → Prop}, HR K G ρ H mh → SRl K G ρ H sm σ → VRs K G ρ H xs vs → setAll is xs sm = some s1 → (∀ σ1, SRl K G ρ H s1 σ1 → Q σ1 H) → t vs σ H Q
section
variable {K : PySem.W.Frag} {G : String → Option V}
theorem gs_name {i : Nat} : GS K G (gName i) (gN i) := by
  intro ρ H sm s1 σ x v mh Q hr sr rv e k
  cases e
  exact k _ (sr.set rv)
theorem gss_nil : GSs K G gNil [] := by
  intro ρ H sm s1 σ xs vs mh Q hr sr rvs e k
  cases xs with
  | nil => simp only [VRs] at rvs; subst rvs; cases e; exact ⟨rfl, k _ sr⟩
  | cons x xs => cases e
theorem gss_cons {i : Nat} {is : List Nat} {u : TGs} (h : GSs K G u is) : GSs K G (gCons (gName i) u) (i :: is) := by
  intro ρ H sm s1 σ xs vs mh Q hr sr rvs e k
  cases xs with
  | nil => cases e
  | cons x xs =>
    simp only [VRs] at rvs
    obtain ⟨v, r, rfl, q, t⟩ := rvs
    exact ⟨v, r, rfl, h hr (sr.set q) t e k⟩
theorem setAll_len : ∀ {is : List Nat} {xs : List MV} {s s1 : Lo}, setAll is xs s = some s1 → xs.length = is.length
  | [], [], _, _, _ => rfl
  | i :: is, x :: xs, s, s1, h => by simp [setAll_len (is := is) (xs := xs) h]
  | [], _ :: _, _, _, h => by cases h
  | _ :: _, [], _, _, h => by cases h
theorem gs_tup {is : List Nat} {u : TGs} (h : GSs K G u is) : GS K G (gTup K is.length u) (gT is) := by
  intro ρ H sm s1 σ x v mh Q hr sr rv e k
  unfold gT at e
  cases e1 : asT x with
  | none => rw [e1] at e; cases e
  | some xs =>
    rw [e1] at e
    have e' : setAll is xs sm = some s1 := e
    obtain ⟨a, vs, rfl, h1, h2⟩ := rv.tup e1
    exact ⟨a, vs, rfl, h1, by rw [← h2.length, setAll_len e'], h hr sr h2 e' k⟩
end
section
variable {X : Cx} {G : String → Option V} {W : WX} {st : Stmt} {rest : List Stmt} {a b : MS} {e : Expr} {m : ME} {pos : Pos}
theorem m_snil : PSs X [] (RS X.K G W sNx) := pss_imp pss_nil fun D σ H ⟨ρ, sm, mh, r, q⟩ => RSE.nx (σ1 := σ) q r.hr r.sr
theorem m_scons (h1 : PS X st (RS X.K G W a)) (h2 : PSs X rest (RS X.K G W b)) : PSs X (st :: rest) (RS X.K G W (sSeq a b)) := by
  refine pss_imp (pss_cons h1 h2) fun D σ H ⟨ρ, sm, mh, r, q⟩ => ⟨ρ, sm, mh, r, ?_⟩
  unfold sSeq at q
  cases e : a sm mh with
  | nx s m => rw [e] at q; exact fun ρ1 H1 σ1 x hr sr => ⟨ρ1, s, m, ⟨hr, sr⟩, RSE.mono x q⟩
  | rt v m => rw [e] at q; exact q
  | bk s m => rw [e] at q; exact q
  | ct s m => rw [e] at q; exact q
  | err v s m => rw [e] at q; exact q
  | no => rw [e] at q; exact q
theorem m_sone (h1 : PS X st (RS X.K G W a)) : PSs X [st] (RS X.K G W a) := pss_one h1
theorem m_pass : PS X (.Pass pos) (RS X.K G W sNx) := ps_imp ps_pass fun D σ H ⟨ρ, sm, mh, r, q⟩ => RSE.nx (σ1 := σ) q r.hr r.sr
theorem m_break : PS X (.Break pos) (RS X.K G W sBrk) := ps_imp ps_break fun D σ H ⟨ρ, sm, mh, r, q⟩ => q ρ H σ Ext.refl r.hr r.sr
theorem m_cont : PS X (.Continue pos) (RS X.K G W sCnt) := ps_imp ps_continue fun D σ H ⟨ρ, sm, mh, r, q⟩ => q ρ H σ Ext.refl r.hr r.sr
theorem m_doc {x j pos pos'} : PS X (.Expr (.Constant (.str x) j pos) pos') (RS X.K G W sNx) := ps_imp ps_doc fun D σ H ⟨ρ, sm, mh, r, q⟩ => RSE.nx (σ1 := σ) q r.hr r.sr
theorem m_expr (he : PE X e (RE X.K G W m)) (hs : swapsWith e none pos.line X.env = pure false := by rfl) : PS X (.Expr e pos) (RS X.K G W (sExp m)) :=
  ps_imp (ps_expr he hs) fun D σ H ⟨ρ, sm, mh, r, q⟩ => res_bnd r q fun v ρ1 H1 mh1 x x1 r1 rv q1 => RSE.nx (σ1 := σ) q1 r1.hr r1.sr
theorem m_ret (he : PE X e (RE X.K G W m)) : PS X (.Return (some e) pos) (RS X.K G W (sRet m)) :=
  ps_imp (ps_ret he) fun D σ H ⟨ρ, sm, mh, r, q⟩ => res_bnd r q fun v ρ1 H1 mh1 x x1 r1 rv q1 => RSE.rt q1 r1.hr rv
theorem m_retN : PS X (.Return none pos) (RS X.K G W sRetN) := ps_imp ps_retN fun D σ H ⟨ρ, sm, mh, r, q⟩ => RSE.rt q r.hr (by simp [VR])
theorem m_if {c : Expr} {as bs : List Stmt} {mc : MB} (hc : PT X c (RT X.K G W mc)) (ha : PSs X as (RS X.K G W a)) (hb : PSs X bs (RS X.K G W b)) : PS X (.If c as bs pos) (RS X.K G W (sIf mc a b)) := by
  refine ps_imp (ps_if hc ha hb) fun D σ H ⟨ρ, sm, mh, r, q⟩ => rts_bnd r q fun k ρ1 H1 mh1 x1 r1 q1 => ?_
  cases k with
  | true => rw [if_pos rfl] at q1 ⊢; exact ⟨_, _, _, r1, q1⟩
  | false => rw [if_neg Bool.false_ne_true] at q1 ⊢; exact ⟨_, _, _, r1, q1⟩
theorem asg_re {te : TE} {t : TG} {g : MG} (hg : GS X.K G t g) (i : ∀ σ H Q, RE X.K G W m σ H Q → te σ H Q) (D : Ends) (σ : St) (H : Hp) (h : RS X.K G W (sAsg m g) D σ H) : tAsg te t D σ H := by
  obtain ⟨ρ, sm, mh, r, q⟩ := h
  refine i σ H _ (res_bnd r q fun v ρ1 H1 mh1 x x1 r1 rv q1 => ?_)
  cases e : g v sm with
  | none => rw [e] at q1; exact False.elim q1
  | some s1 =>
    rw [e] at q1
    exact hg r1.hr r1.sr rv e fun σ1 sr => RSE.nx (σ1 := σ1) q1 r1.hr sr
theorem m_set {i : Nat} {x : Str} {pos' : Pos} (hN : X.N.Nodup) (hi : X.N[i]? = some x) (hx : L2.Loc X.env.scope x) (he : PE X e (RE X.K G W m)) (hs : swapsWith e (some (.Name x pos')) pos.line X.env = pure false := by rfl) (hf : X.fn x = true ∨ X.env.scope.names.lookup x = some .local := by first | exact .inl rfl | exact .inr rfl | assumption) :
    PS X (.Assign [.Name x pos'] e pos) (RS X.K G W (sAsg m (gN i))) := ps_imp (ps_set hN hi hx he hs hf) fun D σ H h => asg_re gs_name (fun _ _ _ q => q) D σ H h
theorem m_asg {tg : Expr} {t : TG} {g : MG} (he : PE X e (RE X.K G W m)) (hg : PG X tg t) (hgs : GS X.K G t g) (hs : swapsWithSole [tg] e pos.line X.env = pure false := by rfl) (hw : swappedStores [tg] e X.env = pure none := by rfl)
    (h1 : (assignEach [tg] X.env).map (·.2) = [assign tg X.env] := by rfl) : PS X (.Assign [tg] e pos) (RS X.K G W (sAsg m g)) := ps_imp (ps_asg he hg hs hw h1) fun D σ H h => asg_re hgs (fun _ _ _ q => q) D σ H h
end

/-! ### a def -/
def mDef (n : Nat) (b : MS) : MF := fun xs h => match b (xs.map some ++ List.replicate (n - xs.length) none) h with
  | .nx _ h1 => .ok .non h1
  | .rt v h1 => .ok v h1
  | .err e _ h1 => .err e h1
  | _ => .no
section
variable {P : Program} {w : World} {K : PySem.W.Frag} {mg : Str → Option Value} {base : Heap} {G : String → Option V}
theorem VRs.at {ρ : List Addr} {H : Hp} {xs : List MV} {vs : List V} (r : VRs K G ρ H xs vs) {n : Nat} : SRl K G ρ H (xs.map some ++ List.replicate (n - xs.length) none) (vs.map some ++ List.replicate (n - vs.length) none) := by
  have hl := r.length
  refine ⟨by simp [hl], fun i x e => ?_⟩
  by_cases hi : i < xs.length
  · rw [List.getElem?_append_left (by simpa using hi), List.getElem?_map] at e
    cases e1 : xs[i]? with
    | none => rw [e1] at e; cases e
    | some y =>
      rw [e1] at e
      cases e
      obtain ⟨v, h1, h2⟩ := r.get e1
      exact ⟨v, by rw [List.getElem?_append_left (by rw [List.length_map]; omega), List.getElem?_map, h1]; rfl, h2⟩
  · rw [List.getElem?_append_right (by simpa using hi)] at e
    have := List.mem_of_getElem? e
    simp at this
theorem fn_m {x qual : Str} {st : Stmt} {f : Addr} {fd : FuncData} {N ps : List Str} {k : Nat} {b : MS} (F : Fun K x qual st f fd) (S : FnScope N ps (defScope st))
    (hb : ∀ (cdv : Value) (A : Around) (outer : List Env) (s : Shared) (H : Hp) (E : XK), Room k (A.deeper (PyProof.Rows.envOfC qual (defScope st) s.heap.objs.size f cdv)) →
      PSs (cxOf (L2.CX P w) P w K mg base N qual (defScope st) f cdv A outer s H E) (defBody st) (RS K G (fun cls d _ H => E cls d H) b)) :
    FnOk P w K mg base (L2.CX P w) (k + 1) f fd ps (SpM K G ps.length (mDef N.length b)) := by
  refine F.okX S (fun vs H Q E h => h.choose_spec.choose_spec.choose_spec.2.2.1) (fun cdv A outer s H vs Q E hr h => ⟨_, hb cdv A outer s H E hr, ?_⟩)
  obtain ⟨ρ, xs, mh, h1, h2, h3, h4⟩ := h
  refine ⟨ρ, _, mh, ⟨h1, h2.at (n := N.length)⟩, ?_⟩
  unfold mDef at h4
  cases e : b (xs.map some ++ List.replicate (N.length - xs.length) none) mh with
  | nx s m => rw [e] at h4; exact fun ρ1 H1 σ1 x hr sr => h4 ρ1 H1 x hr _ (by simp [VR])
  | rt v m => rw [e] at h4; exact fun ρ1 H1 v1 x hr rv => h4 ρ1 H1 x hr v1 rv
  | bk s m => rw [e] at h4; exact False.elim h4
  | ct s m => rw [e] at h4; exact False.elim h4
  | err v s m => rw [e] at h4; exact fun ρ1 H1 σ1 cls d x hr sr er => h4 ρ1 H1 cls d x hr er
  | no => rw [e] at h4; exact h4
end
end Mo
/-! Mo8: loops; the law's end. -/
namespace Mo
open PySem L2

abbrev Itm := Nat → MH → Option (Option MV)
def forG (get : Itm) (g : MG) (b : MS) : Nat → Nat → MS
  | 0, _, _, _ => .no
  | n + 1, i, s, h => match get i h with
    | none => .no
    | some none => .nx s h
    | some (some x) => match g x s with
      | none => .no
      | some s1 => match b s1 h with
        | .nx s2 h2 => forG get g b n (i + 1) s2 h2
        | .ct s2 h2 => forG get g b n (i + 1) s2 h2
        | .bk s2 h2 => .nx s2 h2
        | r => r
def whileG (c : MB) (b : MS) : Nat → MS
  | 0, _, _ => .no
  | n + 1, s, h => (c s h).bnS s fun k h1 => if k = true then (match b s h1 with
      | .nx s2 h2 => whileG c b n s2 h2
      | .ct s2 h2 => whileG c b n s2 h2
      | .bk s2 h2 => .nx s2 h2
      | r => r) else .nx s h1
/-- what an iterator gives, as the model has it -/
structure ItS (K : PySem.W.Frag) (G : String → Option V) (ρ0 : List Addr) (H0 : Hp) (J : It) (get : Itm) : Prop where
  stop : ∀ {i ρ H mh}, Ext K ρ0 H0 ρ H → HR K G ρ H mh → get i mh = some none → J.stop i H
  go : ∀ {i ρ H mh x}, Ext K ρ0 H0 ρ H → HR K G ρ H mh → get i mh = some (some x) → J.go i H
  yld : ∀ {i ρ H mh x y H'}, Ext K ρ0 H0 ρ H → HR K G ρ H mh → get i mh = some (some x) → J.yld i H y H' → ∃ ρ', Ext K ρ H ρ' H' ∧ HR K G ρ' H' mh ∧ VR K G ρ' H' x y
section
variable {K : PySem.W.Frag} {G : String → Option V} {W : WX}
theorem for_sim {ρ0 ρ : List Addr} {H0 H : Hp} {J : It} {get : Itm} {t : TG} {g : MG} {b : MS} {D : Ends} {n : Nat} {sm : Lo} {σ : St} {mh : MH} (T : ItS K G ρ0 H0 J get) (hg : GS K G t g) (x0 : Ext K ρ0 H0 ρ H) (r0 : Rl K G ρ H sm σ mh)
    (h : RSE K G W D ρ H (forG get g b n 0 sm mh)) :
    ∃ W' : Nat → Nat → St → Hp → Prop, (∃ m, W' 0 m σ H) ∧ ∀ i m σ H, W' i m σ H →
      (J.stop i H ∧ D.nx σ H) ∨ (J.go i H ∧ ∃ N : St → Hp → Prop, (∀ σ' H', N σ' H' → ∃ m', m' < m ∧ W' (i + 1) m' σ' H') ∧ ∀ x H', J.yld i H x H' → t x σ H' fun σ2 H2 => RS K G W b { D with nx := N, ct := N, bk := D.nx } σ2 H2) := by
  refine ⟨fun i m σ H => ∃ ρ sm mh, Ext K ρ0 H0 ρ H ∧ Rl K G ρ H sm σ mh ∧ RSE K G W D ρ H (forG get g b m i sm mh), ⟨n, ρ, sm, mh, x0, r0, h⟩, ?_⟩
  rintro i m σ H ⟨ρ, sm, mh, x, r, q⟩
  cases m with
  | zero => exact False.elim q
  | succ m =>
    unfold forG at q
    cases e : get i mh with
    | none => rw [e] at q; exact False.elim q
    | some o =>
      rw [e] at q
      cases o with
      | none => exact .inl ⟨T.stop x r.hr e, RSE.nx (σ1 := σ) q r.hr r.sr⟩
      | some v =>
        refine .inr ⟨T.go x r.hr e, fun σ' H' => ∃ ρ sm mh, Ext K ρ0 H0 ρ H' ∧ Rl K G ρ H' sm σ' mh ∧ RSE K G W D ρ H' (forG get g b m (i + 1) sm mh), fun σ' H' z => ⟨m, Nat.lt_succ_self _, z⟩, fun y H' hy => ?_⟩
        obtain ⟨ρ', x', hr', rv⟩ := T.yld x r.hr e hy
        dsimp only at q
        cases e2 : g v sm with
        | none => rw [e2] at q; exact False.elim q
        | some s1 =>
          rw [e2] at q
          refine hg hr' (r.sr.ext x') rv e2 fun σ1 sr1 => ⟨ρ', s1, mh, ⟨hr', sr1⟩, ?_⟩
          dsimp only at q
          cases e3 : b s1 mh with
          | nx s2 h2 => rw [e3] at q; exact fun ρ1 H1 σ2 x1 hr1 sr2 => ⟨ρ1, s2, h2, (x.trans x').trans x1, ⟨hr1, sr2⟩, (RSE.mono (x'.trans x1) q)⟩
          | ct s2 h2 => rw [e3] at q; exact fun ρ1 H1 σ2 x1 hr1 sr2 => ⟨ρ1, s2, h2, (x.trans x').trans x1, ⟨hr1, sr2⟩, (RSE.mono (x'.trans x1) q)⟩
          | bk s2 h2 => rw [e3] at q; exact fun ρ1 H1 σ2 x1 hr1 sr2 => q ρ1 H1 σ2 (x'.trans x1) hr1 sr2
          | rt v2 h2 => rw [e3] at q; exact fun ρ1 H1 σ2 x1 hr1 sr2 => q ρ1 H1 σ2 (x'.trans x1) hr1 sr2
          | err v2 s2 h2 => rw [e3] at q; exact fun ρ1 H1 σ2 c d x1 hr1 sr2 er => q ρ1 H1 σ2 c d (x'.trans x1) hr1 sr2 er
          | no => rw [e3] at q; exact False.elim q
theorem while_sim {ρ : List Addr} {H : Hp} {c : MB} {b : MS} {D : Ends} {n : Nat} {sm : Lo} {σ : St} {mh : MH} (r0 : Rl K G ρ H sm σ mh) (h : RSE K G W D ρ H (whileG c b n sm mh)) : tWhile (RT K G W c) (RS K G W b) D σ H := by
  refine ⟨fun m σ H => ∃ ρ sm mh, Rl K G ρ H sm σ mh ∧ RSE K G W D ρ H (whileG c b m sm mh), ⟨n, ρ, sm, mh, r0, h⟩, ?_⟩
  rintro m σ H ⟨ρ, sm, mh, r, q⟩
  cases m with
  | zero => exact False.elim q
  | succ m =>
    unfold whileG at q
    refine rts_bnd r q fun k ρ1 H1 mh1 x1 r1 q1 => ?_
    cases k with
    | false =>
      rw [if_neg Bool.false_ne_true] at q1 ⊢
      exact RSE.nx (σ1 := σ) q1 r1.hr r1.sr
    | true =>
      rw [if_pos rfl] at q1 ⊢
      refine ⟨fun σ' H' => ∃ ρ sm mh, Rl K G ρ H' sm σ' mh ∧ RSE K G W D ρ H' (whileG c b m sm mh), fun σ' H' z => ⟨m, Nat.lt_succ_self _, z⟩, ρ1, sm, mh1, r1, ?_⟩
      cases e3 : b sm mh1 with
      | nx s2 h2 => rw [e3] at q1; exact fun ρ1 H1 σ2 x1 hr1 sr2 => ⟨ρ1, s2, h2, ⟨hr1, sr2⟩, (RSE.mono x1 q1)⟩
      | ct s2 h2 => rw [e3] at q1; exact fun ρ1 H1 σ2 x1 hr1 sr2 => ⟨ρ1, s2, h2, ⟨hr1, sr2⟩, (RSE.mono x1 q1)⟩
      | bk s2 h2 => rw [e3] at q1; exact q1
      | rt v2 h2 => rw [e3] at q1; exact q1
      | err v2 s2 h2 => rw [e3] at q1; exact q1
      | no => rw [e3] at q1; exact False.elim q1
end

/-! ### what is walked -/
def getSeq (v : MV) : Itm := fun i h => (seqOf h v).map fun xs => xs[i]?
def getL (xs : List MV) : Itm := fun i _ => some xs[i]?
def getR (lo : Int) (n : Nat) : Itm := fun i _ => some (if i < n then some (.int (lo + i)) else none)
section
variable {K : PySem.W.Frag} {G : String → Option V} {ρ0 : List Addr} {H0 : Hp}
theorem its_list {v : MV} {a : Addr} (hv : VR K G ρ0 H0 v (.ref a)) (hn : asT v = none) : ItS K G ρ0 H0 (Itl K a) (getSeq v) := by
  have key : ∀ {ρ H mh xs}, Ext K ρ0 H0 ρ H → HR K G ρ H mh → seqOf mh v = some xs → ∃ vs, SqL K H a vs ∧ VRs K G ρ H xs vs := fun {ρ H mh xs} x hr e => by
    cases v with
    | ref i =>
      simp only [seqOf] at e
      split at e
      · rename_i q
        cases e
        obtain ⟨b, vs, e1, _, h1, h2⟩ := hr.lst q (hv.ext x)
        cases e1
        exact ⟨vs, SqL.of h1, h2⟩
      · cases e
    | frl ys =>
      simp only [seqOf] at e; cases e
      have := hv.ext x
      simp only [VR] at this
      obtain ⟨b, vs, e1, h1, h2⟩ := this
      cases e1
      exact ⟨vs, h1.sq, h2⟩
    | tup _ => simp [asT] at hn
    | ktp _ => simp [asT] at hn
    | _ => simp [seqOf] at e
  have get : ∀ {i mh o}, getSeq v i mh = some o → ∃ xs, seqOf mh v = some xs ∧ xs[i]? = o := fun {i mh o} e => by
    unfold getSeq at e
    cases h : seqOf mh v with
    | none => rw [h] at e; cases e
    | some xs => rw [h] at e; exact ⟨xs, rfl, Option.some.inj e⟩
  refine ⟨fun {i ρ H mh} x hr e => ?_, fun {i ρ H mh z} x hr e => ?_, fun {i ρ H mh z y H'} x hr e hy => ?_⟩
  · obtain ⟨xs, e1, e2⟩ := get e
    obtain ⟨vs, h1, h2⟩ := key x hr e1
    exact ⟨vs, h1, by rw [← h2.length]; exact List.getElem?_eq_none_iff.mp e2⟩
  · obtain ⟨xs, e1, e2⟩ := get e
    obtain ⟨vs, h1, h2⟩ := key x hr e1
    obtain ⟨u, h3, _⟩ := h2.get e2
    exact ⟨vs, u, h1, h3⟩
  · obtain ⟨xs, e1, e2⟩ := get e
    obtain ⟨vs, h1, h2⟩ := key x hr e1
    obtain ⟨u, h3, h4⟩ := h2.get e2
    obtain ⟨rfl, h5⟩ := hy
    have := h5 vs h1
    rw [h3] at this; cases this
    exact ⟨ρ, Ext.refl, hr, h4⟩
theorem its_tup {v : MV} {a : Addr} {xs : List MV} (hv : VR K G ρ0 H0 v (.ref a)) (hn : asT v = some xs) : ItS K G ρ0 H0 (Itt K a) (getL xs) := by
  have key : ∀ {ρ H}, Ext K ρ0 H0 ρ H → ∃ vs, SqT K H a vs ∧ VRs K G ρ H xs vs := fun {ρ H} x => by
    obtain ⟨b, vs, e, h1, h2⟩ := (hv.ext x).tup hn
    cases e
    exact ⟨vs, h1, h2⟩
  refine ⟨fun {i ρ H mh} x hr e => ?_, fun {i ρ H mh z} x hr e => ?_, fun {i ρ H mh z y H'} x hr e hy => ?_⟩
  · obtain ⟨vs, h1, h2⟩ := key x
    exact ⟨vs, h1, by rw [← h2.length]; exact List.getElem?_eq_none_iff.mp (Option.some.inj e)⟩
  · obtain ⟨vs, h1, h2⟩ := key x
    obtain ⟨u, h3, _⟩ := h2.get (Option.some.inj e)
    exact ⟨vs, u, h1, h3⟩
  · obtain ⟨vs, h1, h2⟩ := key x
    obtain ⟨u, h3, h4⟩ := h2.get (Option.some.inj e)
    obtain ⟨rfl, h5⟩ := hy
    have := h5 vs h1
    rw [h3] at this; cases this
    exact ⟨ρ, Ext.refl, hr, h4⟩
theorem its_rng {lo : Int} {n : Nat} : ItS K G ρ0 H0 (Itr lo n) (getR lo n) := by
  refine ⟨fun {i ρ H mh} x hr e => ?_, fun {i ρ H mh z} x hr e => ?_, fun {i ρ H mh z y H'} x hr e hy => ?_⟩
  · unfold getR at e
    split at e
    · cases e
    · rename_i h; exact Nat.le_of_not_lt h
  · unfold getR at e
    split at e
    · rename_i h; exact h
    · cases e
  · unfold getR at e
    split at e
    · cases e
      obtain ⟨rfl, rfl⟩ := hy
      exact ⟨ρ, Ext.refl, hr, by simp [VR]⟩
    · cases e
def chars (z : Str) : List MV := z.cps.toList.map fun c => .str ⟨#[c]⟩
theorem its_str {z : Str} : ItS K G ρ0 H0 (Its z) (getL (chars z)) := by
  have ln : (chars z).length = z.cps.size := by simp [chars]
  refine ⟨fun {i ρ H mh} x hr e => ?_, fun {i ρ H mh u} x hr e => ?_, fun {i ρ H mh u y H'} x hr e hy => ?_⟩
  · have h := List.getElem?_eq_none_iff.mp (Option.some.inj e)
    rw [ln] at h; exact h
  · have h := (List.getElem?_eq_some_iff.mp (Option.some.inj e)).1
    rw [ln] at h; exact h
  · have e' := Option.some.inj e
    obtain ⟨rfl, c, h1, rfl⟩ := hy
    refine ⟨ρ, Ext.refl, hr, ?_⟩
    unfold chars at e'
    rw [List.getElem?_map, Array.getElem?_toList, h1] at e'
    cases e'
    simp [VR]
end

/-! ### for -/
def sFor (it : ME) (g : MG) (b : MS) : MS := fun s h => (it s h).bnS s fun v h1 => match v with
  | .str z => forG (getL (chars z)) g b (z.length + 1) 0 s h1
  | v => match asT v with
    | some xs => forG (getL xs) g b (xs.length + 1) 0 s h1
    | none => match seqOf h1 v with
      | some xs => forG (getSeq v) g b (xs.length + 1) 0 s h1
      | none => .no
def rng1 (xs : List MV) : Option (Int × Nat) := match xs with
  | [.int j] => if -(2 ^ 62) ≤ j ∧ j < 2 ^ 62 then some (0, j.toNat) else none
  | _ => none
def rng2 (xs : List MV) : Option (Int × Nat) := match xs with
  | [.int i, .int j] => if -(2 ^ 62) ≤ i ∧ i < 2 ^ 62 ∧ -(2 ^ 62) ≤ j ∧ j < 2 ^ 62 then some (i, (j - i).toNat) else none
  | _ => none
def sForR (rg : List MV → Option (Int × Nat)) (as : MEs) (g : MG) (b : MS) : MS := fun s h => (as s h).bnS s fun xs h1 => match rg xs with
  | some (lo, n) => forG (getR lo n) g b (n + 1) 0 s h1
  | none => .no
def sWhile (n : Nat) (c : MB) (b : MS) : MS := whileG c b n
section
variable {X : Cx} {G : String → Option V} {W : WX} {tg iter a b' : Expr} {body : List Stmt} {m : ME} {ms : MEs} {t : TG} {g : MG} {b : MS} {mc : MB} {pos p cpos : Pos}
theorem ps_alt {st : Stmt} {t t' : TS} (h : PS X st t) (h' : PS X st t') : PS X st (fun D σ H => t D σ H ∨ t' D σ H) :=
  ⟨fun pins s σ H D I q => q.elim (fun q => h.run pins s σ H D I q) fun q => h'.run pins s σ H D I q⟩
theorem m_for (hp : PassesOwn (model X.prog X.w) X.A X.env X.xe) (hc : X.calm = true) (hi : PE X iter (RE X.K G W m)) (hg : PG X tg t) (hgs : GS X.K G t g) (hb : PSs X body (RS X.K G W b))
    (hs : ∀ x, foldedSetIterable iter X.env x = pure x := by intro _; rfl) : PS X (.For tg iter body [] pos) (RS X.K G W (sFor m g b)) := by
  refine ps_imp (ps_alt (ps_for hp hc (pi_list hi) hg hb hs) (ps_alt (ps_for hp hc (pi_tup hi) hg hb hs) (ps_for hp hc (pi_str hi) hg hb hs))) fun D σ H ⟨ρ, sm, mh, r, q⟩ => ?_
  unfold sFor at q
  cases e : m sm mh with
  | no => rw [e] at q; exact False.elim q
  | err v m1 =>
    rw [e] at q
    refine .inl ⟨ρ, sm, mh, r, ?_⟩
    rw [e]
    exact fun ρ1 H1 cls d x hr er => q ρ1 H1 σ cls d x hr (r.sr.ext x) er
  | ok v m1 =>
    have run : ∀ {Q : VK}, (∀ ρ1 H1 w, Ext X.K ρ H ρ1 H1 → Rl X.K G ρ1 H1 sm σ m1 → VR X.K G ρ1 H1 v w → Q w H1) → RE X.K G W m σ H Q := fun {Q} k => by
      refine ⟨ρ, sm, mh, r, ?_⟩
      rw [e]
      exact fun ρ1 H1 x hr w rv => k ρ1 H1 w x (r.at x hr) rv
    rw [e] at q
    dsimp only [Rz.bnS] at q
    split at q
    · rename_i z
      refine .inr (.inr (run fun ρ1 H1 w x1 r1 rv => ?_))
      simp only [VR] at rv
      subst rv
      exact ⟨z, rfl, for_sim its_str hgs (Ext.refl (ρ := ρ1)) r1 (RSE.mono x1 q)⟩
    · split at q
      · rename_i xs hx
        refine .inr (.inl (run fun ρ1 H1 w x1 r1 rv => ?_))
        obtain ⟨a, vs, rfl, h1, h2⟩ := rv.tup hx
        exact ⟨a, rfl, ⟨vs, h1⟩, for_sim (its_tup rv hx) hgs (Ext.refl (ρ := ρ1)) r1 (RSE.mono x1 q)⟩
      · rename_i hx
        split at q
        · rename_i xs hq
          refine .inl (run fun ρ1 H1 w x1 r1 rv => ?_)
          obtain ⟨a, vs, rfl, h1, h2⟩ := seq_V r1.hr hq rv
          refine ⟨a, rfl, ?_, for_sim (its_list rv hx) hgs (Ext.refl (ρ := ρ1)) r1 (RSE.mono x1 q)⟩
          rcases h1 with h1 | h1
          · exact ⟨vs, h1⟩
          · have z : ∃ vs, SqL X.K H1 a vs := by
              cases v with
              | ref i =>
                simp only [seqOf] at hq
                split at hq
                · rename_i q2
                  obtain ⟨b, ws, e1, _, h3, _⟩ := r1.hr.lst q2 rv
                  cases e1
                  exact ⟨ws, SqL.of h3⟩
                · cases hq
              | frl ys =>
                simp only [VR] at rv
                obtain ⟨b, ws, e1, h3, _⟩ := rv
                cases e1
                exact ⟨ws, h3.sq⟩
              | tup _ => simp [asT] at hx
              | ktp _ => simp [asT] at hx
              | _ => simp [seqOf] at hq
            exact z
        · exact False.elim q
theorem m_forR1 (hp : PassesOwn (model X.prog X.w) X.A X.env X.xe) (hc : X.calm = true) (hgl : Gl X "range") (hm : X.mg "range" = none) (ha : PA X [a] (RA X.K G W ms)) (hg : PG X tg t) (hgs : GS X.K G t g) (hb : PSs X body (RS X.K G W b))
    (hs : starEach [a] X.env = [(false, eval a X.env)] := by rfl) (hs2 : ∀ x, foldedSetIterable (.Call (.Name "range" p) [a] [] cpos) X.env x = pure x := by intro _; rfl) :
    PS X (.For tg (.Call (.Name "range" p) [a] [] cpos) body [] pos) (RS X.K G W (sForR rng1 ms g b)) := by
  refine ps_imp (ps_for hp hc (pi_range1 hgl hm ha hs) hg hb hs2) fun D σ H ⟨ρ, sm, mh, r, q⟩ => ?_
  refine ras_bnd r q fun xs ρ1 H1 mh1 vs x1 r1 rvs q1 => ?_
  unfold rng1 at q1
  split at q1
  · rename_i e
    split at e
    · rename_i j
      obtain ⟨v, rfl, rv⟩ := rvs.one
      simp only [VR] at rv
      subst rv
      split at e
      · rename_i hj
        cases e
        exact ⟨j, rfl, hj.1, hj.2, for_sim its_rng hgs (Ext.refl (ρ := ρ1)) r1 q1⟩
      · cases e
    · cases e
  · exact False.elim q1
theorem m_forR2 (hp : PassesOwn (model X.prog X.w) X.A X.env X.xe) (hc : X.calm = true) (hgl : Gl X "range") (hm : X.mg "range" = none) (ha : PA X [a, b'] (RA X.K G W ms)) (hg : PG X tg t) (hgs : GS X.K G t g) (hb : PSs X body (RS X.K G W b))
    (hs : starEach [a, b'] X.env = [(false, eval a X.env), (false, eval b' X.env)] := by rfl) (hs1 : starEach [b'] X.env = [(false, eval b' X.env)] := by rfl) (hs2 : ∀ x, foldedSetIterable (.Call (.Name "range" p) [a, b'] [] cpos) X.env x = pure x := by intro _; rfl) :
    PS X (.For tg (.Call (.Name "range" p) [a, b'] [] cpos) body [] pos) (RS X.K G W (sForR rng2 ms g b)) := by
  refine ps_imp (ps_for hp hc (pi_range2 hgl hm ha hs hs1) hg hb hs2) fun D σ H ⟨ρ, sm, mh, r, q⟩ => ?_
  refine ras_bnd r q fun xs ρ1 H1 mh1 vs x1 r1 rvs q1 => ?_
  unfold rng2 at q1
  split at q1
  · rename_i e
    split at e
    · rename_i i j
      obtain ⟨v, v2, rfl, rv, rv2⟩ := rvs.two
      simp only [VR] at rv rv2
      subst rv rv2
      split at e
      · rename_i hj
        cases e
        exact ⟨_, _, rfl, hj, for_sim its_rng hgs (Ext.refl (ρ := ρ1)) r1 q1⟩
      · cases e
    · cases e
  · exact False.elim q1
theorem m_while {c : Expr} {n : Nat} (hp : PassesOwn (model X.prog X.w) X.A X.env X.xe) (hc : PT X c (RT X.K G W mc)) (hb : PSs X body (RS X.K G W b)) : PS X (.While c body [] pos) (RS X.K G W (sWhile n mc b)) :=
  ps_imp (ps_while hp hc hb) fun D σ H ⟨ρ, sm, mh, r, q⟩ => while_sim r q
end

/-! ### the law -/
/-- what the law's def is called with: the script, nothing else is there -/
theorem law_sp {K : PySem.W.Frag} {G : String → Option V} {f : MF} {H : Hp} {a : Addr} {ns : List Int} (hO : Only H) (hS : SqL K H a (ns.map V.int)) (h : ∃ h1, f [.frl (ns.map MV.int)] [] = .ok (.bl true) h1) :
    SpM K G 1 f [.ref a] H (fun v _ => v = .bl true) fun _ _ _ => False := by
  obtain ⟨h1, e⟩ := h
  have allI : ∀ (ns : List Int), VRs K G [] H (ns.map MV.int) (ns.map V.int) := by
    intro ns
    induction ns with
    | nil => exact VRs.nil
    | cons n ns ih => exact VRs.cons (by simp [VR]) ih
  have fr : FrL K H a (ns.map V.int) := by
    rcases hS with (q | q) | q
    · rcases hO a with z | ⟨o, xs, z⟩
      · rw [z] at q; cases q
      · rw [z] at q; cases q
    · exact .inl q
    · exact .inr q
  refine ⟨[], [.frl (ns.map MV.int)], [], ⟨rfl, List.nodup_nil, fun i o e => by simp at e⟩, VRs.cons (by simp only [VR]; exact ⟨a, _, rfl, fr, allI ns⟩) VRs.nil, rfl, ?_⟩
  rw [e]
  exact fun ρ1 H1 x hr v rv => by simpa [VR] using rv
end Mo
/-! Mo9: methods of built-in types. -/
namespace Mo
open PySem L2

def eMt (g : MV → MH → Bool) (f : MV → List MV → MH → OV) (a : ME) (as : MEs) : ME := fun s h => (a s h).bnd fun x h1 => if g x h1 = true then (as s h1).bnd fun xs h2 => lift (f x xs h2) else .no
def MtS (K : PySem.W.Frag) (G : String → Option V) (r : V → List V → Hp → VK → Prop) (f : MV → List MV → MH → OV) : Prop :=
  ∀ {ρ : List Addr} {H : Hp} {mh mh1 : MH} {x z : MV} {xs : List MV} {v : V} {vs : List V} {Q : VK}, HR K G ρ H mh → VR K G ρ H x v → VRs K G ρ H xs vs → f x xs mh = some (z, mh1) →
    (∀ ρ1 H1, Ext K ρ H ρ1 H1 → HR K G ρ1 H1 mh1 → ∀ v1, VR K G ρ1 H1 z v1 → Q v1 H1) → r v vs H Q
def TyS (K : PySem.W.Frag) (G : String → Option V) (T : String) (g : MV → MH → Bool) : Prop := ∀ {ρ : List Addr} {H : Hp} {mh : MH} {x : MV} {v : V}, HR K G ρ H mh → VR K G ρ H x v → g x mh = true → tyV K T v H
def isL (x : MV) (h : MH) : Bool := match x with
  | .ref i => match h[i]? with
    | some (.lst _) => true
    | _ => false
  | .frl _ => true
  | _ => false
def isS (x : MV) (_ : MH) : Bool := match x with
  | .str _ => true
  | _ => false
section
variable {X : Cx} {G : String → Option V} {W : WX} {o e : Expr} {es : List Expr} {mo : ME} {ms : MEs} {name : Str} {apos cpos : Pos} {T id : String} {r : V → List V → Hp → VK → Prop} {f : MV → List MV → MH → OV} {g : MV → MH → Bool}
theorem t_lst {K : PySem.W.Frag} : TyS K G "list" isL := by
  intro ρ H mh x v hr rv h
  unfold isL at h
  split at h
  · split at h
    · rename_i q
      obtain ⟨a, vs, rfl, _, h1, _⟩ := hr.lst q rv
      exact .inl ⟨rfl, _, SqL.of h1⟩
    · cases h
  · simp only [VR] at rv
    obtain ⟨a, vs, rfl, h1, _⟩ := rv
    exact .inl ⟨rfl, _, h1.sq⟩
  · cases h
theorem t_str {K : PySem.W.Frag} : TyS K G "str" isS := by
  intro ρ H mh x v hr rv h
  unfold isS at h
  split at h
  · simp only [VR] at rv; subst rv; exact rfl
  · cases h
theorem bm_run {σ : St} {H : Hp} {Q : VK} {P : V → Hp → Prop} (hT : TyS X.K G T g) (h : RE X.K G W (eMt g f mo ms) σ H Q)
    (k : ∀ ρ H mh sm x v, Rl X.K G ρ H sm σ mh → VR X.K G ρ H x v → tyV X.K T v H → RO X.K G W σ (PV X.K G Q) ρ H ((ms sm mh).bnd fun xs h2 => lift (f x xs h2)) → P v H) : RE X.K G W mo σ H P := by
  obtain ⟨ρ, sm, mh, r0, q⟩ := h
  refine re_bnd r0 q fun x ρ1 H1 mh1 v x1 r1 rv q1 => ?_
  by_cases hg : g x mh1 = true
  · rw [if_pos hg] at q1; exact k ρ1 H1 mh1 sm x v r1 rv (hT r1.hr rv hg) q1
  · rw [if_neg hg] at q1; exact False.elim q1
theorem m_bm (pa : PlainAttrs T) (slot : Slot T name id) (hty : typeOf (.builtin id) = pure (.type "method_descriptor")) (hm : MtR X id r) (hT : TyS X.K G T g) (hs : MtS X.K G r f) (ho : PE X o (RE X.K G W mo)) (ha : PA X (e :: es) (RA X.K G W ms))
    (hbase : attributeBase o name X.env (eval o X.env) = eval o X.env := by rfl)
    (hfew : ((backTo cpos (starEach (e :: es) X.env)).all (fun x => !x.1) && (backToKw cpos (keywordEach [] X.env)).all (fun x => x.1.isSome)
      && decide ((e :: es).length + ([] : List Keyword).length + (if ([] : List Keyword).isEmpty then 0 else 1) < 30)) = true := by rfl)
    (hline : (apos.endLine == cpos.line) = true := by rfl) (hst : starEach (e :: es) X.env = (false, eval e X.env) :: starEach es X.env := by rfl) (hplain : (backTo cpos (starEach es X.env)).any (·.1) = false := by rfl) :
    PE X (.Call (.Attribute o name apos) (e :: es) [] cpos) (RE X.K G W (eMt g f mo ms)) := by
  refine pe_imp (pe_bm pa slot hty hm ho ha hbase hfew hline hst hplain) fun σ H Q h => ?_
  refine bm_run hT h fun ρ1 H1 mh1 sm x v r1 rv ty q1 => ⟨ty, ?_⟩
  refine ra_bnd r1 q1 fun xs ρ2 H2 mh2 vs x2 r2 rvs q2 => ?_
  obtain ⟨z, h1, e, k⟩ := ro_lift q2
  exact hs r2.hr (rv.ext x2) rvs e k
theorem m_bm0 (pa : PlainAttrs T) (slot : Slot T name id) (hty : typeOf (.builtin id) = pure (.type "method_descriptor")) (hm : MtR X id r) (hT : TyS X.K G T g) (hs : MtS X.K G r f) (ho : PE X o (RE X.K G W mo))
    (hbase : attributeBase o name X.env (eval o X.env) = eval o X.env := by rfl) (hline : (apos.endLine == cpos.line) = true := by rfl) :
    PE X (.Call (.Attribute o name apos) [] [] cpos) (RE X.K G W (eMt g f mo aNil)) := by
  refine pe_imp (pe_bm0 pa slot hty hm ho hbase hline) fun σ H Q h => ?_
  refine bm_run hT h fun ρ1 H1 mh1 sm x v r1 rv ty q1 => ⟨ty, ?_⟩
  obtain ⟨z, h1, e, k⟩ := ro_lift q1
  exact hs r1.hr rv VRs.nil e k
end

/-! ### lists -/
def lstOp (f : List MV → List MV → Option (MV × List MV)) (x : MV) (xs : List MV) (h : MH) : OV := match x with
  | .ref i => match h[i]? with
    | some (.lst ys) => (f ys xs).map fun p => (p.1, h.set i (.lst p.2))
    | _ => none
  | _ => none
def oAppend (ys xs : List MV) : Option (MV × List MV) := match xs with
  | [y] => if ys.length < SZ then some (.non, ys ++ [y]) else none
  | _ => none
def oPopAt (ys xs : List MV) : Option (MV × List MV) := match xs with
  | [.int i] => if -(2 ^ 63) ≤ i ∧ i < 2 ^ 63 then (seqIndex? i ys.length).bind fun k => ys[k]?.map fun y => (y, ys.eraseIdx k) else none
  | _ => none
abbrev fAppend := lstOp oAppend
abbrev fPopAt := lstOp oPopAt
def fExtend (x : MV) (xs : List MV) (h : MH) : OV := match x, xs with
  | .ref i, [.ref j] => match h[i]?, h[j]? with
    | some (.lst ys), some (.lst zs) => if ys.length + zs.length ≤ SZ then some (.non, h.set i (.lst (ys ++ zs))) else none
    | _, _ => none
  | _, _ => none
section
variable {K : PySem.W.Frag} {G : String → Option V} {ρ : List Addr} {H : Hp} {mh : MH}
theorem VRs.erase : ∀ {xs : List MV} {vs : List V} (k : Nat), VRs K G ρ H xs vs → VRs K G ρ H (xs.eraseIdx k) (vs.eraseIdx k)
  | [], _, _, h => by simp only [VRs] at h; subst h; exact VRs.nil
  | x :: xs, _, 0, h => by simp only [VRs] at h; obtain ⟨v, r, rfl, q, t⟩ := h; exact t
  | x :: xs, _, k + 1, h => by simp only [VRs] at h; obtain ⟨v, r, rfl, q, t⟩ := h; exact VRs.cons q (VRs.erase k t)
/-- a list is written -/
theorem put_lst (hr : HR K G ρ H mh) {i : Nat} {ys zs : List MV} {a : Addr} {vs ws : List V} (e : mh[i]? = some (.lst ys)) (ha : ρ[i]? = some a) (hH : H a = some (.lst vs)) (r : VRs K G ρ H zs ws) :
    HR K G ρ (upd H a (.lst ws)) (mh.set i (.lst zs)) ∧ Ext K ρ H ρ (upd H a (.lst ws)) :=
  hr.write e ha ⟨ws, upd_same, r.ext (ext_write hH (by simp [Plain]))⟩
theorem s_append : MtS K G rAppend fAppend := by
  intro ρ H mh mh1 x z xs v vs Q hr rv rvs e k
  unfold fAppend lstOp at e
  split at e
  · split at e
    · rename_i ys q
      cases h : oAppend ys xs with
      | none => rw [h] at e; cases e
      | some p =>
        rw [h] at e; cases e
        unfold oAppend at h
        split at h
        · split at h
          · rename_i hl
            cases h
            obtain ⟨w, rfl, rw'⟩ := rvs.one
            obtain ⟨a, us, rfl, ha, h1, h2⟩ := hr.lst q rv
            obtain ⟨a1, a2⟩ := put_lst hr q ha h1 (h2.append (VRs.cons rw' VRs.nil))
            exact ⟨a, us, w, rfl, rfl, h1, by rw [SZ_eq, ← h2.length]; exact hl, k _ _ a2 a1 _ (by simp [VR])⟩
          · cases h
        · cases h
    · cases e
  · cases e
theorem s_popAt : MtS K G rPopAt fPopAt := by
  intro ρ H mh mh1 x z xs v vs Q hr rv rvs e k
  unfold fPopAt lstOp at e
  split at e
  · split at e
    · rename_i ys q
      cases h : oPopAt ys xs with
      | none => rw [h] at e; cases e
      | some p =>
        rw [h] at e; cases e
        unfold oPopAt at h
        split at h
        · rename_i i
          split at h
          · rename_i hl
            obtain ⟨w, rfl, rw'⟩ := rvs.one
            simp only [VR] at rw'
            subst rw'
            obtain ⟨a, us, rfl, ha, h1, h2⟩ := hr.lst q rv
            cases h3 : seqIndex? i ys.length with
            | none => rw [h3] at h; cases h
            | some n =>
              rw [h3] at h
              cases h4 : ys[n]? with
              | none => simp [h4] at h
              | some y =>
                simp [h4] at h
                subst h
                obtain ⟨u, h5, h6⟩ := h2.get h4
                obtain ⟨a1, a2⟩ := put_lst hr q ha h1 (h2.erase n)
                exact ⟨a, us, i, n, u, rfl, rfl, h1, hl.1, hl.2, by rw [← h2.length]; exact h3, h5, k _ _ a2 a1 _ (h6.ext a2)⟩
          · cases h
        · cases h
    · cases e
  · cases e
theorem s_extend : MtS K G rExtend fExtend := by
  intro ρ H mh mh1 x z xs v vs Q hr rv rvs e k
  unfold fExtend at e
  split at e
  · split at e
    · split at e
      · rename_i q1 q2 hl
        cases e
        obtain ⟨w, rfl, rw'⟩ := rvs.one
        obtain ⟨a, us, rfl, ha, h1, h2⟩ := hr.lst q1 rv
        obtain ⟨b, ws, rfl, hb, h3, h4⟩ := hr.lst q2 rw'
        obtain ⟨a1, a2⟩ := put_lst hr q1 ha h1 (h2.append h4)
        exact ⟨a, b, us, ws, rfl, rfl, h1, h3, by rw [SZ_eq, ← h2.length, ← h4.length]; exact hl, k _ _ a2 a1 _ (by simp [VR])⟩
      · cases e
    · cases e
  · cases e
end
end Mo
/-! Mo10: running the model by simp: what a combinator gives, one step at a time. -/
namespace Mo
open PySem L2
section
variable {s s1 : Lo} {h h1 : MH} {x y v : MV} {e : MX}
/-! continuations without bound names -/
def K2 (r : Rz MV) (f : MV → MV → MH → OV) (b : ME) (s : Lo) : Rz MV := r.bnd fun x h1 => (b s h1).bnd fun y h2 => lift (f x y h2)
def K3 (r : Rz MV) (f : MV → MV → MH → OV) (x : MV) : Rz MV := r.bnd fun y h2 => lift (f x y h2)
def KA (r : Rz (List MV)) (f : List MV → MH → OV) : Rz MV := r.bnd fun xs h => lift (f xs h)
def KC (r : Rz MV) (t : MEs) (s : Lo) : Rz (List MV) := r.bnd fun x h1 => (t s h1).bnd fun xs h2 => .ok (x :: xs) h2
def KC2 (r : Rz (List MV)) (x : MV) : Rz (List MV) := r.bnd fun xs h2 => .ok (x :: xs) h2
def KM (r : Rz MV) (g : MV → MH → Bool) (f : MV → List MV → MH → OV) (as : MEs) (s : Lo) : Rz MV := r.bnd fun x h1 => if g x h1 = true then (as s h1).bnd fun xs h2 => lift (f x xs h2) else .no
def KM2 (r : Rz (List MV)) (f : MV → List MV → MH → OV) (x : MV) : Rz MV := r.bnd fun xs h2 => lift (f x xs h2)
def KCl (r : Rz (List MV)) (n : Nat) (f : MF) : Rz MV := r.bnd fun xs h1 => if xs.length = n then f xs h1 else .no
def KBB (r : Rz MV) : Rz Bool := r.bnd fun x h1 => match asB x with
  | some b => .ok b h1
  | none => .no
def KBT (r : Rz MV) : Rz Bool := r.bnd fun x h1 => match tru h1 x with
  | some b => .ok b h1
  | none => .no
def KIf (r : Rz Bool) (a b : ME) (s : Lo) : Rz MV := r.bnd fun k h1 => if k = true then a s h1 else b s h1
def KAn (r : Rz Bool) (b : MB) (s : Lo) : Rz Bool := r.bnd fun k h1 => if k = true then b s h1 else .ok false h1
def KOr (r : Rz Bool) (b : MB) (s : Lo) : Rz Bool := r.bnd fun k h1 => if k = true then .ok true h1 else b s h1
def KNo (r : Rz Bool) : Rz Bool := r.bnd fun k h1 => .ok (!k) h1
def KEA (r : Rz MV) (b : ME) (s : Lo) : Rz MV := r.bnd fun x h1 => match asB x with
  | some k => if k = true then b s h1 else .ok (.bl false) h1
  | none => .no
def KEO (r : Rz MV) (b : ME) (s : Lo) : Rz MV := r.bnd fun x h1 => match asB x with
  | some k => if k = true then .ok (.bl true) h1 else b s h1
  | none => .no
def KEN (r : Rz MV) : Rz MV := r.bnd fun x h1 => match asB x with
  | some k => .ok (.bl (!k)) h1
  | none => .no
@[simp] theorem eC_ev : eC v s h = .ok v h := rfl
@[simp] theorem e2_ev {f a b} : e2 f a b s h = K2 (a s h) f b s := rfl
@[simp] theorem K2_ok {f b} : K2 (.ok x h) f b s = K3 (b s h) f x := rfl
@[simp] theorem K2_err {f b} : K2 (.err e h) f b s = .err e h := rfl
@[simp] theorem K3_ok {f} : K3 (.ok y h) f x = lift (f x y h) := rfl
@[simp] theorem K3_err {f} : K3 (.err e h) f x = .err e h := rfl
@[simp] theorem lift_some : lift (some (v, h)) = .ok v h := rfl
@[simp] theorem eA_ev {f as} : eA f as s h = KA (as s h) f := rfl
@[simp] theorem KA_ok {f xs} : KA (.ok xs h) f = lift (f xs h) := rfl
@[simp] theorem KA_err {f} : KA (.err e h) f = .err e h := rfl
@[simp] theorem aNil_ev : aNil s h = .ok [] h := rfl
@[simp] theorem aCons_ev {a r} : aCons a r s h = KC (a s h) r s := rfl
@[simp] theorem KC_ok {t} : KC (.ok x h) t s = KC2 (t s h) x := rfl
@[simp] theorem KC_err {t} : KC (.err e h) t s = .err e h := rfl
@[simp] theorem KC2_ok {xs} : KC2 (.ok xs h) x = .ok (x :: xs) h := rfl
@[simp] theorem KC2_err : KC2 (.err e h) x = .err e h := rfl
@[simp] theorem eMt_ev {g f a as} : eMt g f a as s h = KM (a s h) g f as s := rfl
@[simp] theorem KM_ok {g f as} : KM (.ok x h) g f as s = if g x h = true then KM2 (as s h) f x else .no := rfl
@[simp] theorem KM2_ok {f xs} : KM2 (.ok xs h) f x = lift (f x xs h) := rfl
@[simp] theorem call_ev {n f ms} : call n f ms s h = KCl (ms s h) n f := rfl
@[simp] theorem KCl_ok {n f xs} : KCl (.ok xs h) n f = if xs.length = n then f xs h else .no := rfl
@[simp] theorem KCl_err {n f} : KCl (.err e h) n f = .err e h := rfl
@[simp] theorem bB_ev {a} : bB a s h = KBB (a s h) := rfl
@[simp] theorem KBB_ok {b} : KBB (.ok (.bl b) h) = .ok b h := rfl
@[simp] theorem KBB_err : KBB (.err e h) = .err e h := rfl
@[simp] theorem bT_ev {a} : bT a s h = KBT (a s h) := rfl
@[simp] theorem KBT_bl {b} : KBT (.ok (.bl b) h) = .ok b h := rfl
@[simp] theorem KBT_non : KBT (.ok .non h) = .ok false h := rfl
@[simp] theorem KBT_err : KBT (.err e h) = .err e h := rfl
@[simp] theorem eIf_ev {c a b} : eIf c a b s h = KIf (c s h) a b s := rfl
@[simp] theorem KIf_ok {k a b} : KIf (.ok k h) a b s = if k = true then a s h else b s h := rfl
@[simp] theorem bAnd_ev {a b} : bAnd a b s h = KAn (a s h) b s := rfl
@[simp] theorem KAn_ok {k b} : KAn (.ok k h) b s = if k = true then b s h else .ok false h := rfl
@[simp] theorem bOr_ev {a b} : bOr a b s h = KOr (a s h) b s := rfl
@[simp] theorem KOr_ok {k b} : KOr (.ok k h) b s = if k = true then .ok true h else b s h := rfl
@[simp] theorem bNot_ev {a} : bNot a s h = KNo (a s h) := rfl
@[simp] theorem KNo_ok {k} : KNo (.ok k h) = .ok (!k) h := rfl
@[simp] theorem eAnd_ev {a b} : eAnd a b s h = KEA (a s h) b s := rfl
@[simp] theorem KEA_ok {k b} : KEA (.ok (.bl k) h) b s = if k = true then b s h else .ok (.bl false) h := rfl
@[simp] theorem eOr_ev {a b} : eOr a b s h = KEO (a s h) b s := rfl
@[simp] theorem KEO_ok {k b} : KEO (.ok (.bl k) h) b s = if k = true then .ok (.bl true) h else b s h := rfl
@[simp] theorem eNot_ev {a} : eNot a s h = KEN (a s h) := rfl
@[simp] theorem KEN_ok {k} : KEN (.ok (.bl k) h) = .ok (.bl (!k)) h := rfl
/-! statements -/
def SR.nxt (r : SR) (b : MS) : SR := match r with
  | .nx s1 h1 => b s1 h1
  | r => r
def KSet (r : Rz MV) (s : Lo) (i : Nat) : SR := r.bnS s fun v h1 => .nx (s.set i (some v)) h1
def KAsg (r : Rz MV) (s : Lo) (g : MG) : SR := r.bnS s fun v h1 => match g v s with
  | some s1 => .nx s1 h1
  | none => .no
def KExp (r : Rz MV) (s : Lo) : SR := r.bnS s fun _ h1 => .nx s h1
def KRet (r : Rz MV) (s : Lo) : SR := r.bnS s fun v h1 => .rt v h1
def KSIf (r : Rz Bool) (s : Lo) (a b : MS) : SR := r.bnS s fun k h1 => if k = true then a s h1 else b s h1
@[simp] theorem sNx_ev : sNx s h = .nx s h := rfl
@[simp] theorem sSeq_ev {a b} : sSeq a b s h = (a s h).nxt b := by unfold sSeq SR.nxt; cases a s h <;> rfl
@[simp] theorem nxt_nx {b} : (SR.nx s h).nxt b = b s h := rfl
@[simp] theorem nxt_rt {b} : (SR.rt v h).nxt b = .rt v h := rfl
@[simp] theorem nxt_bk {b} : (SR.bk s h).nxt b = .bk s h := rfl
@[simp] theorem nxt_ct {b} : (SR.ct s h).nxt b = .ct s h := rfl
@[simp] theorem nxt_err {b} : (SR.err e s h).nxt b = .err e s h := rfl
@[simp] theorem sAsgN_ev {a i} : sAsg a (gN i) s h = KSet (a s h) s i := rfl
@[simp] theorem KSet_ok {i} : KSet (.ok v h) s i = .nx (s.set i (some v)) h := rfl
@[simp] theorem KSet_err {i} : KSet (.err e h) s i = .err e s h := rfl
@[simp] theorem sAsgT_ev {a is} : sAsg a (gT is) s h = KAsg (a s h) s (gT is) := rfl
@[simp] theorem KAsgT_tup {xs is} : KAsg (.ok (.tup xs) h) s (gT is) = match setAll is xs s with
  | some s1 => .nx s1 h
  | none => .no := rfl
@[simp] theorem KAsgT_ktp {xs is} : KAsg (.ok (.ktp xs) h) s (gT is) = match setAll is xs s with
  | some s1 => .nx s1 h
  | none => .no := rfl
@[simp] theorem sExp_ev {a} : sExp a s h = KExp (a s h) s := rfl
@[simp] theorem KExp_ok : KExp (.ok v h) s = .nx s h := rfl
@[simp] theorem KExp_err : KExp (.err e h) s = .err e s h := rfl
@[simp] theorem sRet_ev {a} : sRet a s h = KRet (a s h) s := rfl
@[simp] theorem KRet_ok : KRet (.ok v h) s = .rt v h := rfl
@[simp] theorem KRet_err : KRet (.err e h) s = .err e s h := rfl
@[simp] theorem sRetN_ev : sRetN s h = .rt .non h := rfl
@[simp] theorem sIf_ev {c a b} : sIf c a b s h = KSIf (c s h) s a b := rfl
@[simp] theorem KSIf_ok {k a b} : KSIf (.ok k h) s a b = if k = true then a s h else b s h := rfl
@[simp] theorem KSIf_err {a b} : KSIf (.err e h) s a b = .err e s h := rfl
@[simp] theorem sBrk_ev : sBrk s h = .bk s h := rfl
@[simp] theorem sCnt_ev : sCnt s h = .ct s h := rfl
/-! loops -/
def KF (o : Option (Option MV)) (get : Itm) (g : MG) (b : MS) (n i : Nat) (s : Lo) (h : MH) : SR := match o with
  | none => .no
  | some none => .nx s h
  | some (some x) => match g x s with
    | none => .no
    | some s1 => match b s1 h with
      | .nx s2 h2 => forG get g b n (i + 1) s2 h2
      | .ct s2 h2 => forG get g b n (i + 1) s2 h2
      | .bk s2 h2 => .nx s2 h2
      | r => r
def KFB (r : SR) (get : Itm) (g : MG) (b : MS) (n i : Nat) : SR := match r with
  | .nx s2 h2 => forG get g b n (i + 1) s2 h2
  | .ct s2 h2 => forG get g b n (i + 1) s2 h2
  | .bk s2 h2 => .nx s2 h2
  | r => r
theorem forG_ev {get g b n i} : forG get g b (n + 1) i s h = KF (get i h) get g b n i s h := rfl
@[simp] theorem KF_stop {get g b n i} : KF (some none) get g b n i s h = .nx s h := rfl
@[simp] theorem KF_go {get j b n i} : KF (some (some x)) get (gN j) b n i s h = KFB (b (s.set j (some x)) h) get (gN j) b n i := by
  show (match b (s.set j (some x)) h with
      | .nx s2 h2 => forG get (gN j) b n (i + 1) s2 h2
      | .ct s2 h2 => forG get (gN j) b n (i + 1) s2 h2
      | .bk s2 h2 => .nx s2 h2
      | r => r) = _
  unfold KFB
  cases b (s.set j (some x)) h <;> rfl
@[simp] theorem KFB_nx {get g b n i} : KFB (.nx s h) get g b n i = forG get g b n (i + 1) s h := rfl
@[simp] theorem KFB_ct {get g b n i} : KFB (.ct s h) get g b n i = forG get g b n (i + 1) s h := rfl
@[simp] theorem KFB_bk {get g b n i} : KFB (.bk s h) get g b n i = .nx s h := rfl
@[simp] theorem KFB_rt {get g b n i} : KFB (.rt v h) get g b n i = .rt v h := rfl
@[simp] theorem KFB_err {get g b n i} : KFB (.err e s h) get g b n i = .err e s h := rfl
def KFR (r : Rz (List MV)) (rg : List MV → Option (Int × Nat)) (g : MG) (b : MS) (s : Lo) : SR := r.bnS s fun xs h1 => match rg xs with
  | some (lo, n) => forG (getR lo n) g b (n + 1) 0 s h1
  | none => .no
@[simp] theorem sForR_ev {rg as g b} : sForR rg as g b s h = KFR (as s h) rg g b s := rfl
theorem KFR_ok {rg g b xs lo n} (e : rg xs = some (lo, n)) : KFR (.ok xs h) rg g b s = forG (getR lo n) g b (n + 1) 0 s h := by
  show (match rg xs with
  | some (lo, n) => forG (getR lo n) g b (n + 1) 0 s h
  | none => .no) = _
  rw [e]
theorem KFR_1 {g b j} : KFR (.ok [.int j] h) rng1 g b s = if -(2 ^ 62) ≤ j ∧ j < 2 ^ 62 then forG (getR 0 j.toNat) g b (j.toNat + 1) 0 s h else .no := by
  unfold KFR rng1 Rz.bnS
  by_cases c : -(2 ^ 62) ≤ j ∧ j < 2 ^ 62
  · simp only [if_pos c]
  · simp only [if_neg c]
theorem KFR_2 {g b i j} : KFR (.ok [.int i, .int j] h) rng2 g b s = if -(2 ^ 62) ≤ i ∧ i < 2 ^ 62 ∧ -(2 ^ 62) ≤ j ∧ j < 2 ^ 62 then forG (getR i (j - i).toNat) g b ((j - i).toNat + 1) 0 s h else .no := by
  unfold KFR rng2 Rz.bnS
  by_cases c : -(2 ^ 62) ≤ i ∧ i < 2 ^ 62 ∧ -(2 ^ 62) ≤ j ∧ j < 2 ^ 62
  · simp only [if_pos c]
  · simp only [if_neg c]
@[simp] theorem getR_ev {lo : Int} {n i : Nat} : getR lo n i h = some (if i < n then some (.int (lo + i)) else none) := rfl
@[simp] theorem getL_ev {xs : List MV} {i : Nat} : getL xs i h = some xs[i]? := rfl
def KD (r : SR) : Rz MV := match r with
  | .nx _ h1 => .ok .non h1
  | .rt v h1 => .ok v h1
  | .err e _ h1 => .err e h1
  | _ => .no
theorem mDef_ev {n b xs} : mDef n b xs h = KD (b (xs.map some ++ List.replicate (n - xs.length) none) h) := by unfold mDef KD; rfl
@[simp] theorem KD_nx : KD (.nx s h) = .ok .non h := rfl
@[simp] theorem KD_rt : KD (.rt v h) = .ok v h := rfl
@[simp] theorem KD_err : KD (.err e s h) = .err e h := rfl
/-! functions on values -/
@[simp] theorem fAdd_int {i j} : fAdd (.int i) (.int j) h = some (.int (i + j), h) := rfl
@[simp] theorem fSub_int {i j} : fSub (.int i) (.int j) h = some (.int (i - j), h) := rfl
@[simp] theorem fCmp_int {p i j} : fCmp p (.int i) (.int j) h = some (.bl (p i j), h) := rfl
@[simp] theorem fInt_int {i} : fInt [.int i] h = some (.int i, h) := rfl
@[simp] theorem fAbs_int {i} : fAbs [.int i] h = some (.int (if i < 0 then -i else i), h) := rfl
@[simp] theorem fLen_frl {ys} : fLen [.frl ys] h = some (.int ys.length, h) := rfl
@[simp] theorem fLen_tup {ys} : fLen [.tup ys] h = some (.int ys.length, h) := rfl
@[simp] theorem fLen_ktp {ys} : fLen [.ktp ys] h = some (.int ys.length, h) := rfl
theorem fMod_int {i j : Int} (hj : 0 < j) : fMod (.int i) (.int j) h = some (.int (i % j), h) := by simp [fMod, hj]
theorem fDiv_int {i j : Int} (hj : 0 < j) (h2 : j < 1073741824) : fDiv (.int i) (.int j) h = some (.int (i / j), h) := by simp [fDiv, hj, h2]
@[simp] theorem fMod_lit {i : Int} {n : Nat} [NeZero n] : fMod (.int i) (.int (no_index (OfNat.ofNat n))) h = some (.int (i % (OfNat.ofNat n)), h) := fMod_int (by
  have : n ≠ 0 := NeZero.ne n
  show (0 : Int) < ((n : Nat) : Int)
  omega)
@[simp] theorem ob_some {b} : ob (some b) h = some (.bl b, h) := rfl
@[simp] theorem mEq_ss {n a b} : mEq n h (.str a) (.str b) = some (a == b) := by cases n <;> rfl
@[simp] theorem mEq_ii {n a b} : mEq n h (.int a) (.int b) = some (a == b) := by cases n <;> rfl
@[simp] theorem mEq_bb {n a b} : mEq n h (.bl a) (.bl b) = some (a == b) := by cases n <;> rfl
@[simp] theorem mEq_nn {n} : mEq n h .non .non = some true := by cases n <;> rfl
@[simp] theorem mEq_ns {n a} : mEq n h .non (.str a) = some false := by cases n <;> rfl
@[simp] theorem mEq_sn {n a} : mEq n h (.str a) .non = some false := by cases n <;> rfl
@[simp] theorem mEq_ni {n a} : mEq n h .non (.int a) = some false := by cases n <;> rfl
@[simp] theorem mEq_in {n a} : mEq n h (.int a) .non = some false := by cases n <;> rfl
@[simp] theorem mEq_is {n a b} : mEq n h (.int a) (.str b) = some false := by cases n <;> rfl
@[simp] theorem mEq_si {n a b} : mEq n h (.str a) (.int b) = some false := by cases n <;> rfl
@[simp] theorem mEq_tt {n xs ys} : mEq (n + 1) h (.tup xs) (.tup ys) = eqs (mEq n h) xs ys := rfl
@[simp] theorem mEq_kt {n xs ys} : mEq (n + 1) h (.ktp xs) (.tup ys) = eqs (mEq n h) xs ys := rfl
@[simp] theorem mEq_tk {n xs ys} : mEq (n + 1) h (.tup xs) (.ktp ys) = eqs (mEq n h) xs ys := rfl
@[simp] theorem mRc_ss {a b} : mRc h (.str a) (.str b) = some (a == b) := rfl
@[simp] theorem mRc_ii {a b} : mRc h (.int a) (.int b) = some (a == b) := rfl
@[simp] theorem mRc_bb {a b} : mRc h (.bl a) (.bl b) = some (a == b) := rfl
@[simp] theorem mRc_nn : mRc h .non .non = some true := rfl
@[simp] theorem mRc_ns {a} : mRc h .non (.str a) = some false := rfl
@[simp] theorem mRc_sn {a} : mRc h (.str a) .non = some false := rfl
@[simp] theorem mRc_tt {xs ys} : mRc h (.tup xs) (.tup ys) = eqs (mEq 7 h) xs ys := rfl
@[simp] theorem mRc_kt {xs ys} : mRc h (.ktp xs) (.tup ys) = eqs (mEq 7 h) xs ys := rfl
@[simp] theorem mRc_tk {xs ys} : mRc h (.tup xs) (.ktp ys) = eqs (mEq 7 h) xs ys := rfl
def KQ (o r : Option Bool) : Option Bool := match o, r with
  | some a, some b => some (a && b)
  | _, _ => none
@[simp] theorem eqs_nil {f} : eqs f [] [] = some true := rfl
@[simp] theorem eqs_cons {f ys} {xs : List MV} : eqs f (x :: xs) (y :: ys) = KQ (f x y) (eqs f xs ys) := rfl
@[simp] theorem eqs_nc {f ys} : eqs f [] (y :: ys) = some false := rfl
@[simp] theorem eqs_cn {f} {xs : List MV} : eqs f (x :: xs) [] = some false := rfl
@[simp] theorem KQ_some {a b} : KQ (some a) (some b) = some (a && b) := rfl
def KI (o r : Option Bool) : Option Bool := match o, r with
  | some a, some b => some (a || b)
  | _, _ => none
def inL (f : MV → Option Bool) (ys : List MV) : Option Bool := (insM f ys).map fun bs => bs.any id
@[simp] theorem KI_some {a b} : KI (some a) (some b) = some (a || b) := rfl
@[simp] theorem inL_nil {f} : inL f [] = some false := rfl
@[simp] theorem inL_cons {f ys} : inL f (y :: ys) = KI (f y) (inL f ys) := by
  unfold inL KI
  simp only [insM]
  cases f y <;> cases insM f ys <;> simp
@[simp] theorem fEq_ev : fEq x y h = ob (mRc h x y) h := rfl
@[simp] theorem fNe_ev : fNe x y h = ob ((mRc h x y).map not) h := rfl
@[simp] theorem fIn_ktp {ys} : fIn x (.ktp ys) h = ob (inL (fun y => mEq 7 h y x) ys) h := rfl
@[simp] theorem fIn_tup {ys} : fIn x (.tup ys) h = ob (inL (fun y => mEq 7 h y x) ys) h := rfl
theorem fIn_ref {i ys} (e : h[i]? = some (.lst ys)) : fIn x (.ref i) h = ob (inL (fun y => mEq 7 h y x) ys) h := by
  simp [fIn, mIn, seqOf, e, inL]
@[simp] theorem fNotIn_ktp {ys} : fNotIn x (.ktp ys) h = ob ((inL (fun y => mEq 7 h y x) ys).map not) h := rfl
@[simp] theorem fNotIn_tup {ys} : fNotIn x (.tup ys) h = ob ((inL (fun y => mEq 7 h y x) ys).map not) h := rfl
theorem fNotIn_ref {i ys} (e : h[i]? = some (.lst ys)) : fNotIn x (.ref i) h = ob ((inL (fun y => mEq 7 h y x) ys).map not) h := by
  simp [fNotIn, mIn, seqOf, e, inL]
@[simp] theorem fIsN_non : fIsN .non .non h = some (.bl true, h) := rfl
@[simp] theorem fIsN_str {a} : fIsN (.str a) .non h = some (.bl false, h) := rfl
@[simp] theorem fIsN_tup {a} : fIsN (.tup a) .non h = some (.bl false, h) := rfl
@[simp] theorem fIsN_ref {a} : fIsN (.ref a) .non h = some (.bl false, h) := rfl
@[simp] theorem fIsN_int {a} : fIsN (.int a) .non h = some (.bl false, h) := rfl
@[simp] theorem fNotN_non : fNotN .non .non h = some (.bl false, h) := rfl
@[simp] theorem fNotN_str {a} : fNotN (.str a) .non h = some (.bl true, h) := rfl
@[simp] theorem fNotN_tup {a} : fNotN (.tup a) .non h = some (.bl true, h) := rfl
@[simp] theorem fNotN_ref {a} : fNotN (.ref a) .non h = some (.bl true, h) := rfl
@[simp] theorem fNotN_int {a} : fNotN (.int a) .non h = some (.bl true, h) := rfl
/-! x[i] -/
theorem atI_ofNat {α : Type} {xs : List α} {n : Nat} : atI xs (n : Int) = xs[n]? := by
  unfold atI ixN
  by_cases hn : n < xs.length
  · rw [if_pos (by omega), if_pos (by omega)]; simp
  · rw [if_pos (by omega), if_neg (by omega), List.getElem?_eq_none (by omega)]; rfl
theorem atI_nn {α : Type} {xs : List α} {i : Int} (h : 0 ≤ i) : atI xs i = xs[i.toNat]? := by
  obtain ⟨n, rfl⟩ := Int.eq_ofNat_of_zero_le h
  rw [atI_ofNat]; simp
@[simp] theorem atI_lit {α : Type} {xs : List α} {n : Nat} : atI xs (no_index (OfNat.ofNat n : Int)) = xs[(OfNat.ofNat n : Nat)]? := atI_ofNat
@[simp] theorem atI_0 {α : Type} {xs : List α} : atI xs (0 : Int) = xs[0]? := atI_ofNat (n := 0)
@[simp] theorem atI_1 {α : Type} {xs : List α} : atI xs (1 : Int) = xs[1]? := atI_ofNat (n := 1)
def KX (o : Option MV) (h : MH) : OV := o.map fun v => (v, h)
@[simp] theorem KX_some : KX (some v) h = some (v, h) := rfl
@[simp] theorem fIx_frl {xs i} : fIx (.frl xs) (.int i) h = KX (atI xs i) h := rfl
@[simp] theorem fIx_tup {xs i} : fIx (.tup xs) (.int i) h = KX (atI xs i) h := rfl
@[simp] theorem fIx_ktp {xs i} : fIx (.ktp xs) (.int i) h = KX (atI xs i) h := rfl
theorem fIx_ref {xs j i} (e : h[j]? = some (.lst xs)) : fIx (.ref j) (.int i) h = KX (atI xs i) h := by
  simp [fIx, seqOf, e, KX]
/-! new lists, tuples -/
theorem fLst_ev {xs} (hl : xs.length ≤ SZ) : fLst xs h = some (.ref h.length, h ++ [.lst xs]) := by simp [fLst, hl]
theorem fTup_ev {xs} (hl : xs.length ≤ SZ) : fTup xs h = some (.tup xs, h) := by simp [fTup, hl]
@[simp] theorem fLst_0 : fLst [] h = some (.ref h.length, h ++ [.lst []]) := rfl
@[simp] theorem fLst_c {xs} : fLst (x :: xs) h = if (x :: xs).length ≤ SZ then some (.ref h.length, h ++ [.lst (x :: xs)]) else none := rfl
@[simp] theorem fTup_c {xs} : fTup (x :: xs) h = if (x :: xs).length ≤ SZ then some (.tup (x :: xs), h) else none := rfl
theorem isL_ref {i ys} (e : h[i]? = some (.lst ys)) : isL (.ref i) h = true := by simp [isL, e]
theorem fAppend_ref {i ys} (e : h[i]? = some (.lst ys)) (hl : ys.length < SZ) : fAppend (.ref i) [y] h = some (.non, h.set i (.lst (ys ++ [y]))) := by
  simp [fAppend, lstOp, oAppend, e, hl]
theorem at_app {α : Type} {h l : List α} {k : Nat} : (h ++ l)[h.length + k]? = l[k]? := by
  rw [List.getElem?_append_right (by omega)]; congr 1; omega
theorem at_app0 {α : Type} {h l : List α} : (h ++ l)[h.length]? = l[0]? := by simpa using at_app (h := h) (l := l) (k := 0)
theorem set_app {α : Type} {h l : List α} {k : Nat} {o : α} : (h ++ l).set (h.length + k) o = h ++ l.set k o := by
  rw [List.set_append_right _ _ (by omega)]; congr 2; omega
theorem set_app0 {α : Type} {h l : List α} {o : α} : (h ++ l).set h.length o = h ++ l.set 0 o := by simpa using set_app (h := h) (l := l) (k := 0) (o := o)
end
end Mo
/-! Mo11: the law's promise; the tables of types. -/
namespace Mo
open PySem L2

/-- the law's promise: it gives True -/
def spLaw (K : PySem.W.Frag) : Sp := fun vs H Q _ => ∃ (a : Addr) (ns : List Int), vs = [.ref a] ∧ Only H ∧ SqL K H a (ns.map V.int) ∧ ns.length ≤ 63 ∧ ∀ v H', v = .bl true → Q v H'
theorem spLaw_of {K : PySem.W.Frag} {G : String → Option V} {f : MF} (h : ∀ ns : List Int, ns.length ≤ 63 → ∃ h1, f [.frl (ns.map MV.int)] [] = .ok (.bl true) h1) (vs : List V) (H : Hp) (Q : VK) (E : XK) (q : spLaw K vs H Q E) : SpM K G 1 f vs H Q E := by
  obtain ⟨a, ns, rfl, hO, hS, hl, k⟩ := q
  obtain ⟨ρ, xs, mh, h1, h2, h3, h4⟩ := law_sp (G := G) (f := f) hO hS (h ns hl)
  refine ⟨ρ, xs, mh, h1, h2, h3, ?_⟩
  cases e : f xs mh with
  | ok v m => rw [e] at h4; exact fun ρ1 H1 x hr v1 rv => k v1 H1 (h4 ρ1 H1 x hr v1 rv)
  | err v m => rw [e] at h4; exact fun ρ1 H1 c d x hr er => (h4 ρ1 H1 c d x hr er).elim
  | no => rw [e] at h4; exact h4
theorem no_out {P : Program} {w : World} {H : Hp} {s : Shared} {e : Value} {s' : Shared} (h : L2.CX P w [] H s (fun _ _ _ => False) e s') : False := by
  obtain ⟨_, _, _, _, _, _, _, _, _, _, _, _, z⟩ := h
  exact z
theorem law_walk {l : PySem.W.OpenLaw} {q : Program} {loose : List Str} {XP : (Str → Option Value) → Heap → Prop} {YP : World → Heap → Prop} {d : DefRec} {K : Params → PySem.W.Frag} {k : Nat} (hk : k ≤ 200) (hn : l.most = some 63) (hdf : d.params.defaults = [])
    (hY : ∀ (w : World) (h : Heap), YP w h → (K w.params).In h)
    (F : ∀ (w : World) (mg : Str → Option Value) (fa : Addr) (h : Heap), (K w.params).In h → h.Ns mainGlobals mg → mg d.name = some (.ref fa) →
      ∃ fd : FuncData, (∀ (s : Shared) (u : Value), BindsTo s fd ⟨[u], []⟩ [("_law_script", u)]) ∧ ∀ base : Heap, (K w.params).In base → base.Ns mainGlobals mg → FnOk l.prog w (K w.params) mg base (L2.CX l.prog w) k fa fd ["_law_script"] (spLaw (K w.params))) :
    PySem.W.WalkO q loose XP YP l.row.toRowW d [] (fun f vs => PySem.call f vs) :=
  L2.walk_of (n := 63) (k := k) (x := "_law_script") (CX := fun w => L2.CX l.prog w) (sp := fun w => spLaw (K w.params)) hn (by decide) hdf
    (Room.mono (k := 200) ⟨rfl, by decide, by decide⟩ hk) hY F (fun w H a ns hl hO hS => ⟨a, ns, rfl, hO, hS, hl, fun _ _ e => e⟩) fun w H s e s' h => no_out h

/-! ### built-in types among themselves -/
def tyNames : List String := ["NoneType", "bool", "int", "str", "bytes", "tuple", "list", "dict"]
theorem tabB_all : (tyNames.all fun a => tyNames.all fun b => match tabB a b with
    | some r => kitB a b == some r
    | none => true) = true := by decide +kernel
theorem tabB_dom {a b : String} {r : Bool} (h : tabB a b = some r) : a = b ∨ (a ∈ tyNames ∧ b ∈ tyNames) := by
  unfold tabB at h
  split at h
  · exact .inl (by assumption)
  · split at h
    · rename_i q
      exact .inr (by rw [q.1, q.2]; decide)
    · split at h
      · rename_i q
        refine .inr ⟨?_, ?_⟩
        · exact List.contains_iff_mem.mp q.1
        · have := List.contains_iff_mem.mp q.2
          exact List.mem_cons_of_mem _ this
      · cases h
theorem tabB_ok {K : PySem.W.Frag} {a b : String} {r : Bool} (h : tabB a b = some r) : PySem.W.kitOne K (.type a) (.type b) = some r := by
  rcases tabB_dom h with e | ⟨ha, hb⟩
  · subst e
    have : r = true := by
      unfold tabB at h
      rw [if_pos rfl] at h
      exact (Option.some.inj h).symm
    subst this
    unfold PySem.W.kitOne
    rw [if_pos (by simp)]
  · have h1 := List.all_eq_true.mp tabB_all a ha
    have h2 := List.all_eq_true.mp h1 b hb
    rw [h] at h2
    exact kit_ty (beq_iff_eq.mp h2)
theorem isi_none {K : PySem.W.Frag} {G : String → Option V} (hG : ∀ s, G s = none) : IsiOk K G fun _ _ => none := by
  refine ⟨fun s v h => (by rw [hG] at h; cases h), fun t c b tv cv h ht hc => ?_, fun s C c b h _ => (by rw [hG] at h; cases h)⟩
  cases t with
  | ty a =>
    cases c with
    | ty n =>
      simp only [clsV, Option.some.injEq] at ht hc
      subst ht hc
      exact tabB_ok h
    | glo s => simp [clsV, hG] at hc
    | _ => simp [isiM] at h
  | glo a => simp [clsV, hG] at ht
  | _ => simp [isiM] at h
end Mo
namespace Lw
open PySem L2 Mo

def FUEL : Nat := 100000
def ownT : String → String → Option Bool := fun _ _ => none
def k_AT_WORK : MV := .ktp [.str "works", .str "late", .str "ghost", .str "ghost+"]
def k_IN_BOOK : MV := .ktp [.str "idle", .str "dealt", .str "works", .str "late", .str "rests"]
def k_OWNERS : MV := .ktp [.str "dealt", .str "works", .str "rests"]
def b__law_cell : MS :=
    sSeq (sIf (bB (e2 fLt (eV 1) (eA fLen (aCons (eV 0) (aNil))))) (sRet (eA fInt (aCons (e2 fIx (eV 0) (eV 1)) (aNil)))) (sNx))
    (sRet (eC (.int 0)))
def m__law_cell : MF := mDef 2 b__law_cell
def b_at_work : MS :=
    sRet (e2 fIn (eV 0) (eC k_AT_WORK))
def m_at_work : MF := mDef 1 b_at_work
def b_owns : MS :=
    sRet (e2 fIn (eV 0) (eC k_OWNERS))
def m_owns : MF := mDef 1 b_owns
def b_in_book : MS :=
    sRet (e2 fIn (eV 0) (eC k_IN_BOOK))
def m_in_book : MF := mDef 1 b_in_book
def b__law_right : MS :=
    sSeq (sAsg (eA fLst (aCons (call 1 m_at_work (aCons (eV 0) (aNil))) (aCons (call 1 m_owns (aCons (eV 0) (aNil))) (aCons (call 1 m_in_book (aCons (eV 0) (aNil))) (aNil))))) (gN 1))
    (sSeq (sAsg (eA fLst (aCons (e2 fIn (eV 0) (eA fLst (aCons (eC (.str "works")) (aCons (eC (.str "late")) (aCons (eC (.str "ghost")) (aCons (eC (.str "ghost+")) (aNil))))))) (aCons (e2 fIn (eV 0) (eA fLst (aCons (eC (.str "dealt")) (aCons (eC (.str "works")) (aCons (eC (.str "rests")) (aNil)))))) (aNil)))) (gN 2))
    (sSeq (sExp (eMt isL fAppend (eV 2) (aCons (e2 fIn (eV 0) (eA fLst (aCons (eC (.str "idle")) (aCons (eC (.str "dealt")) (aCons (eC (.str "works")) (aCons (eC (.str "late")) (aCons (eC (.str "rests")) (aNil)))))))) (aNil))))
    (sSeq (sForR rng1 (aCons (eC (.int 3)) (aNil)) (gN 3) (sIf (bOr (bNot (bT (eA (fIsi ownT) (aCons (e2 fIx (eV 1) (eV 3)) (aCons (eC (.ty "bool")) (aNil)))))) (bB (e2 fNe (e2 fIx (eV 1) (eV 3)) (e2 fIx (eV 2) (eV 3))))) (sRet (eC (.bl false))) (sNx)))
    (sRet (eC (.bl true))))))
def m__law_right : MF := mDef 4 b__law_right
def b_law : MS :=
    sSeq (sAsg (eA fLst (aCons (eC (.str "out")) (aCons (eC (.str "out+")) (aCons (eC (.str "latent")) (aCons (eC (.str "latent+")) (aCons (eC (.str "ghost")) (aCons (eC (.str "ghost+")) (aCons (eC (.str "idle")) (aCons (eC (.str "dealt")) (aCons (eC (.str "works")) (aCons (eC (.str "late")) (aCons (eC (.str "rests")) (aNil))))))))))))) (gN 1))
    (sSeq (sAsg (e2 fMod (eA fInt (aCons (call 2 m__law_cell (aCons (eV 0) (aCons (eC (.int 0)) (aNil)))) (aNil))) (eC (.int 11))) (gN 2))
    (sSeq (sAsg (e2 fIx (eV 1) (e2 fMod (eA fInt (aCons (call 2 m__law_cell (aCons (eV 0) (aCons (eC (.int 1)) (aNil)))) (aNil))) (eC (.int 11)))) (gN 3))
    (sSeq (sForR rng1 (aCons (eC (.int 11)) (aNil)) (gN 4) (sIf (bOr (bNot (bT (call 1 m__law_right (aCons (e2 fIx (eV 1) (e2 fMod (eA fInt (aCons (e2 fAdd (eV 2) (eV 4)) (aNil))) (eC (.int 11)))) (aNil))))) (bNot (bT (call 1 m__law_right (aCons (eV 3) (aNil)))))) (sRet (eC (.bl false))) (sNx)))
    (sRet (eC (.bl true))))))
def m_law : MF := mDef 5 b_law
/-! the text -/
def top (i : Nat) : Stmt := PySem.Challenge.pw_lanesdealt_k07_kinds_of_places.main.body.getD i (.Pass ⟨0, 0, 0, 0⟩)
abbrev s__law_cell : Stmt := top 8
theorem sc__law_cell : FnScope ["_law_script", "_law_k"] ["_law_script", "_law_k"] (defScope s__law_cell) := ⟨rfl, rfl, rfl, by decide +kernel, rfl, by decide +kernel, by decide +kernel⟩
abbrev s_at_work : Stmt := top 4
theorem sc_at_work : FnScope ["place"] ["place"] (defScope s_at_work) := ⟨rfl, rfl, rfl, by decide +kernel, rfl, by decide +kernel, by decide +kernel⟩
abbrev s_owns : Stmt := top 5
theorem sc_owns : FnScope ["place"] ["place"] (defScope s_owns) := ⟨rfl, rfl, rfl, by decide +kernel, rfl, by decide +kernel, by decide +kernel⟩
abbrev s_in_book : Stmt := top 6
theorem sc_in_book : FnScope ["place"] ["place"] (defScope s_in_book) := ⟨rfl, rfl, rfl, by decide +kernel, rfl, by decide +kernel, by decide +kernel⟩
abbrev s__law_right : Stmt := top 9
theorem sc__law_right : FnScope ["_law_place", "_law_told", "_law_due", "_law_k"] ["_law_place"] (defScope s__law_right) := ⟨rfl, rfl, rfl, by decide +kernel, rfl, by decide +kernel, by decide +kernel⟩
abbrev s_law : Stmt := top 10
theorem sc_law : FnScope ["_law_script", "_law_places", "_law_begin", "_law_again", "_law_k"] ["_law_script"] (defScope s_law) := ⟨rfl, rfl, rfl, by decide +kernel, rfl, by decide +kernel, by decide +kernel⟩
structure Ad where
  f__law_cell : Addr
  d__law_cell : FuncData
  f_at_work : Addr
  d_at_work : FuncData
  f_owns : Addr
  d_owns : FuncData
  f_in_book : Addr
  d_in_book : FuncData
  f__law_right : Addr
  d__law_right : FuncData
  f_law : Addr
  d_law : FuncData
def gOf (A : Ad) : String → Option V := fun _ => none
structure Txt (K : PySem.W.Frag) (mg : Str → Option Value) (A : Ad) : Prop where
  f__law_cell : Fun K "_law_cell" "_law_cell" s__law_cell A.f__law_cell A.d__law_cell ∧ Binds K A.d__law_cell ["_law_script", "_law_k"] [] ∧ mg "_law_cell" = some (.ref A.f__law_cell)
  f_at_work : Fun K "at_work" "at_work" s_at_work A.f_at_work A.d_at_work ∧ Binds K A.d_at_work ["place"] [] ∧ mg "at_work" = some (.ref A.f_at_work)
  f_owns : Fun K "owns" "owns" s_owns A.f_owns A.d_owns ∧ Binds K A.d_owns ["place"] [] ∧ mg "owns" = some (.ref A.f_owns)
  f_in_book : Fun K "in_book" "in_book" s_in_book A.f_in_book A.d_in_book ∧ Binds K A.d_in_book ["place"] [] ∧ mg "in_book" = some (.ref A.f_in_book)
  f__law_right : Fun K "_law_right" "_law_right" s__law_right A.f__law_right A.d__law_right ∧ Binds K A.d__law_right ["_law_place"] [] ∧ mg "_law_right" = some (.ref A.f__law_right)
  f_law : Fun K "law" "law" s_law A.f_law A.d_law ∧ Binds K A.d_law ["_law_script"] [] ∧ mg "law" = some (.ref A.f_law)
  b_bool : mg "bool" = none
  b_int : mg "int" = none
  b_isinstance : mg "isinstance" = none
  b_len : mg "len" = none
  b_range : mg "range" = none
  q_AT_WORK : ∃ a, mg "AT_WORK" = some (.ref a) ∧ ∃ vs, KtT K a vs ∧ ∀ ρ H, VRs K (gOf A) ρ H [.str "works", .str "late", .str "ghost", .str "ghost+"] vs
  q_IN_BOOK : ∃ a, mg "IN_BOOK" = some (.ref a) ∧ ∃ vs, KtT K a vs ∧ ∀ ρ H, VRs K (gOf A) ρ H [.str "idle", .str "dealt", .str "works", .str "late", .str "rests"] vs
  q_OWNERS : ∃ a, mg "OWNERS" = some (.ref a) ∧ ∃ vs, KtT K a vs ∧ ∀ ρ H, VRs K (gOf A) ρ H [.str "dealt", .str "works", .str "rests"] vs
  isi : IsiOk K (gOf A) ownT
section
variable {P : Program} {w : World} {K : PySem.W.Frag} {mg : Str → Option Value} {base : Heap} {A : Ad}
theorem tc_AT_WORK {X : Cx} {W : WX} {pos : Pos} (T : Txt X.K X.mg A) (hg : Gl X "AT_WORK") (hd : ("AT_WORK" == ("__debug__" : Str)) = false := by decide) : PE X (.Name "AT_WORK" pos) (RE X.K (gOf A) W (eC k_AT_WORK)) := by
  obtain ⟨a, h1, vs, h2, h3⟩ := T.q_AT_WORK
  exact m_const (pe_glob (v := .ref a) hg h1 rfl) fun ρ H => by simp only [k_AT_WORK, VR]; exact ⟨a, vs, rfl, h2, h3 ρ H⟩
theorem tc_IN_BOOK {X : Cx} {W : WX} {pos : Pos} (T : Txt X.K X.mg A) (hg : Gl X "IN_BOOK") (hd : ("IN_BOOK" == ("__debug__" : Str)) = false := by decide) : PE X (.Name "IN_BOOK" pos) (RE X.K (gOf A) W (eC k_IN_BOOK)) := by
  obtain ⟨a, h1, vs, h2, h3⟩ := T.q_IN_BOOK
  exact m_const (pe_glob (v := .ref a) hg h1 rfl) fun ρ H => by simp only [k_IN_BOOK, VR]; exact ⟨a, vs, rfl, h2, h3 ρ H⟩
theorem tc_OWNERS {X : Cx} {W : WX} {pos : Pos} (T : Txt X.K X.mg A) (hg : Gl X "OWNERS") (hd : ("OWNERS" == ("__debug__" : Str)) = false := by decide) : PE X (.Name "OWNERS" pos) (RE X.K (gOf A) W (eC k_OWNERS)) := by
  obtain ⟨a, h1, vs, h2, h3⟩ := T.q_OWNERS
  exact m_const (pe_glob (v := .ref a) hg h1 rfl) fun ρ H => by simp only [k_OWNERS, VR]; exact ⟨a, vs, rfl, h2, h3 ρ H⟩
theorem ok__law_cell (T : Txt K mg A) : FnOk P w K mg base (L2.CX P w) 1 A.f__law_cell A.d__law_cell ["_law_script", "_law_k"] (SpM K (gOf A) 2 m__law_cell) :=
  fn_m (N := ["_law_script", "_law_k"]) (T.f__law_cell).1 sc__law_cell fun cdv Ar outer s H E hr => by
    have tk := takes_of (X := cxOf (L2.CX P w) P w K mg base ["_law_script", "_law_k"] "_law_cell" (defScope s__law_cell) A.f__law_cell cdv Ar outer s H E) rfl rfl rfl rfl
    exact (m_scons (m_if (m_cmpT op_lt s_cmp (m_var (pv 1)) (m_callB c_len s_len (by rfl) T.b_len PySem.boot_len (m_acons (m_var (pv 0)) m_anil)) (nomark _)) (m_sone (m_ret (m_callTy call_int1 s_int (by rfl) T.b_int (by decide +kernel) (m_acons (m_ix (m_var (pv 0)) (m_var (pv 1)) (fun _ _ => rfl)) m_anil)))) m_snil)
      (m_sone (m_ret m_int)))
theorem ok_at_work (T : Txt K mg A) : FnOk P w K mg base (L2.CX P w) 1 A.f_at_work A.d_at_work ["place"] (SpM K (gOf A) 1 m_at_work) :=
  fn_m (N := ["place"]) (T.f_at_work).1 sc_at_work fun cdv Ar outer s H E hr => by
    have tk := takes_of (X := cxOf (L2.CX P w) P w K mg base ["place"] "at_work" (defScope s_at_work) A.f_at_work cdv Ar outer s H E) rfl rfl rfl rfl
    exact (m_sone (m_ret (m_cmp (o_in hr.units) s_in (m_var (pv 0)) (tc_AT_WORK T (by rfl)) rfl)))
theorem ok_owns (T : Txt K mg A) : FnOk P w K mg base (L2.CX P w) 1 A.f_owns A.d_owns ["place"] (SpM K (gOf A) 1 m_owns) :=
  fn_m (N := ["place"]) (T.f_owns).1 sc_owns fun cdv Ar outer s H E hr => by
    have tk := takes_of (X := cxOf (L2.CX P w) P w K mg base ["place"] "owns" (defScope s_owns) A.f_owns cdv Ar outer s H E) rfl rfl rfl rfl
    exact (m_sone (m_ret (m_cmp (o_in hr.units) s_in (m_var (pv 0)) (tc_OWNERS T (by rfl)) rfl)))
theorem ok_in_book (T : Txt K mg A) : FnOk P w K mg base (L2.CX P w) 1 A.f_in_book A.d_in_book ["place"] (SpM K (gOf A) 1 m_in_book) :=
  fn_m (N := ["place"]) (T.f_in_book).1 sc_in_book fun cdv Ar outer s H E hr => by
    have tk := takes_of (X := cxOf (L2.CX P w) P w K mg base ["place"] "in_book" (defScope s_in_book) A.f_in_book cdv Ar outer s H E) rfl rfl rfl rfl
    exact (m_sone (m_ret (m_cmp (o_in hr.units) s_in (m_var (pv 0)) (tc_IN_BOOK T (by rfl)) rfl)))
theorem ok__law_right (T : Txt K mg A) : FnOk P w K mg base (L2.CX P w) 2 A.f__law_right A.d__law_right ["_law_place"] (SpM K (gOf A) 1 m__law_right) :=
  fn_m (N := ["_law_place", "_law_told", "_law_due", "_law_k"]) (T.f__law_right).1 sc__law_right fun cdv Ar outer s H E hr => by
    have tk := takes_of (X := cxOf (L2.CX P w) P w K mg base ["_law_place", "_law_told", "_law_due", "_law_k"] "_law_right" (defScope s__law_right) A.f__law_right cdv Ar outer s H E) rfl rfl rfl rfl
    exact (m_scons (m_set (i := 1) sc__law_right.nd rfl (Or.inl rfl) (m_lst (m_acons (m_call (ok_at_work T) (hr.mono (by decide)) rfl T.f_at_work.2.2 T.f_at_work.1.kp T.f_at_work.2.1 tk (m_acons (m_var (pv 0)) m_anil)) (m_acons (m_call (ok_owns T) (hr.mono (by decide)) rfl T.f_owns.2.2 T.f_owns.1.kp T.f_owns.2.1 tk (m_acons (m_var (pv 0)) m_anil)) (m_acons (m_call (ok_in_book T) (hr.mono (by decide)) rfl T.f_in_book.2.2 T.f_in_book.1.kp T.f_in_book.2.1 tk (m_acons (m_var (pv 0)) m_anil)) m_anil)))))
      (m_scons (m_set (i := 2) sc__law_right.nd rfl (Or.inl rfl) (m_lst (m_acons (m_cmp (o_in hr.units) s_in (m_var (pv 0)) (m_lst (m_acons m_str (m_acons m_str (m_acons m_str (m_acons m_str m_anil))))) rfl) (m_acons (m_cmp (o_in hr.units) s_in (m_var (pv 0)) (m_lst (m_acons m_str (m_acons m_str (m_acons m_str m_anil)))) rfl) m_anil))))
      (m_scons (m_expr (m_bm PySem.F.plainAttrs_list PySem.F.slot_list_append PySem.F.type_list_append mt_append t_lst s_append (m_var (pv 2)) (m_acons (m_cmp (o_in hr.units) s_in (m_var (pv 0)) (m_lst (m_acons m_str (m_acons m_str (m_acons m_str (m_acons m_str (m_acons m_str m_anil)))))) rfl) m_anil)))
      (m_scons (m_forR1 (passes_of rfl) rfl (by rfl) T.b_range (m_acons m_int m_anil) (pg_name (i := 3) sc__law_right.nd rfl (Or.inl rfl)) gs_name (m_sone (m_if (PW.pt (m_or (m_not (m_truth (m_callB call_isi (s_isi T.isi) (by rfl) T.b_isinstance (by decide +kernel) (m_acons (m_ix (m_var (pv 1)) (m_var (pv 3)) (fun _ _ => rfl)) (m_acons (m_const (pe_bltn (v := .ty "bool") (by rfl) T.b_bool (by decide +kernel) rfl) fun _ _ => by simp [VR]) m_anil))) (by intro _; rfl))) (m_or1 (m_cmpT (op_neM hr.units) s_ne (m_ix (m_var (pv 1)) (m_var (pv 3)) (fun _ _ => rfl)) (m_ix (m_var (pv 2)) (m_var (pv 3)) (fun _ _ => rfl)) (nomark _))))) (m_sone (m_ret m_bl)) m_snil)))
      (m_sone (m_ret m_bl))))))
theorem ok_law (T : Txt K mg A) : FnOk P w K mg base (L2.CX P w) 3 A.f_law A.d_law ["_law_script"] (SpM K (gOf A) 1 m_law) :=
  fn_m (N := ["_law_script", "_law_places", "_law_begin", "_law_again", "_law_k"]) (T.f_law).1 sc_law fun cdv Ar outer s H E hr => by
    have tk := takes_of (X := cxOf (L2.CX P w) P w K mg base ["_law_script", "_law_places", "_law_begin", "_law_again", "_law_k"] "law" (defScope s_law) A.f_law cdv Ar outer s H E) rfl rfl rfl rfl
    exact (m_scons (m_set (i := 1) sc_law.nd rfl (Or.inl rfl) (m_lst (m_acons m_str (m_acons m_str (m_acons m_str (m_acons m_str (m_acons m_str (m_acons m_str (m_acons m_str (m_acons m_str (m_acons m_str (m_acons m_str (m_acons m_str m_anil)))))))))))))
      (m_scons (m_set (i := 2) sc_law.nd rfl (Or.inl rfl) (m_op op_mod s_mod (m_callTy call_int1 s_int (by rfl) T.b_int (by decide +kernel) (m_acons (m_call (ok__law_cell T) (hr.mono (by decide)) rfl T.f__law_cell.2.2 T.f__law_cell.1.kp T.f__law_cell.2.1 tk (m_acons (m_var (pv 0)) (m_acons m_int m_anil))) m_anil)) m_int))
      (m_scons (m_set (i := 3) sc_law.nd rfl (Or.inl rfl) (m_ix (m_var (pv 1)) (m_op op_mod s_mod (m_callTy call_int1 s_int (by rfl) T.b_int (by decide +kernel) (m_acons (m_call (ok__law_cell T) (hr.mono (by decide)) rfl T.f__law_cell.2.2 T.f__law_cell.1.kp T.f__law_cell.2.1 tk (m_acons (m_var (pv 0)) (m_acons m_int m_anil))) m_anil)) m_int) (fun _ _ => rfl)))
      (m_scons (m_forR1 (passes_of rfl) rfl (by rfl) T.b_range (m_acons m_int m_anil) (pg_name (i := 4) sc_law.nd rfl (Or.inl rfl)) gs_name (m_sone (m_if (PW.pt (m_or (m_not (m_truth (m_call (ok__law_right T) (hr.mono (by decide)) rfl T.f__law_right.2.2 T.f__law_right.1.kp T.f__law_right.2.1 tk (m_acons (m_ix (m_var (pv 1)) (m_op op_mod s_mod (m_callTy call_int1 s_int (by rfl) T.b_int (by decide +kernel) (m_acons (m_op o_add s_add (m_var (pv 2)) (m_var (pv 4))) m_anil)) m_int) (fun _ _ => rfl)) m_anil)) (by intro _; rfl))) (m_or1 (m_not (m_truth (m_call (ok__law_right T) (hr.mono (by decide)) rfl T.f__law_right.2.2 T.f__law_right.1.kp T.f__law_right.2.1 tk (m_acons (m_var (pv 3)) m_anil)) (by intro _; rfl)))))) (m_sone (m_ret m_bl)) m_snil)))
      (m_sone (m_ret m_bl))))))
end
end Lw
namespace Lw
open PySem L2 Mo
theorem at_work_eq (p : Str) (h : MH) : m_at_work [.str p] h = .ok (.bl ((["works", "late", "ghost", "ghost+"] : List Str).any fun q => q == p)) h := by
  simp [m_at_work, b_at_work, mDef_ev, eV, k_AT_WORK]
theorem owns_eq (p : Str) (h : MH) : m_owns [.str p] h = .ok (.bl ((["dealt", "works", "rests"] : List Str).any fun q => q == p)) h := by
  simp [m_owns, b_owns, mDef_ev, eV, k_OWNERS]
theorem in_book_eq (p : Str) (h : MH) : m_in_book [.str p] h = .ok (.bl ((["idle", "dealt", "works", "late", "rests"] : List Str).any fun q => q == p)) h := by
  simp [m_in_book, b_in_book, mDef_ev, eV, k_IN_BOOK]
theorem cell_eq (ns : List Int) (k : Nat) (h : MH) : m__law_cell [.frl (ns.map MV.int), .int k] h = .ok (.int (ns.getD k 0)) h := by
  by_cases hk : k < ns.length
  · simp [m__law_cell, b__law_cell, mDef_ev, eV, hk, atI_ofNat]
  · simp [m__law_cell, b__law_cell, mDef_ev, eV, hk, List.getElem?_eq_none (Nat.le_of_not_lt hk)]
theorem right_eq : ∃ g : Str → MH → MH, ∀ p h, m__law_right [.str p] h = .ok (.bl true) (h ++ g p h) := by
  have key : ∀ p h, ∃ g, m__law_right [.str p] h = .ok (.bl true) (h ++ g) := fun p h => by
    simp [m__law_right, b__law_right, mDef_ev, eV, at_work_eq, owns_eq, in_book_eq, fIn_ref, at_app, at_app0, isL_ref, fAppend_ref, set_app, set_app0, KFR_1, SZ, forG_ev, fIx_ref, fIsi, tyM, isiM, tabB]
  exact ⟨fun p h => (key p h).choose, fun p h => (key p h).choose_spec⟩
def pls : List Str := ["out", "out+", "latent", "latent+", "ghost", "ghost+", "idle", "dealt", "works", "late", "rests"]
theorem pls_at (j : Int) : ∃ p, atI (pls.map MV.str) (j % 11) = some (.str p) := by
  have h0 : 0 ≤ j % 11 := Int.emod_nonneg _ (by decide)
  have h1 : j % 11 < 11 := Int.emod_lt_of_pos _ (by decide)
  rw [atI_nn h0, List.getElem?_map]
  have : (j % 11).toNat < pls.length := by show _ < 11; omega
  rw [List.getElem?_eq_getElem this]
  exact ⟨_, rfl⟩
theorem pls_all : ∃ pl : Int → Str, ∀ j, atI [.str "out", .str "out+", .str "latent", .str "latent+", .str "ghost", .str "ghost+", .str "idle", .str "dealt", .str "works", .str "late", .str "rests"] (j % 11) = some (MV.str (pl j)) :=
  ⟨fun j => (pls_at j).choose, fun j => (pls_at j).choose_spec⟩
theorem pure_law (ns : List Int) : ∃ h1, m_law [.frl (ns.map MV.int)] [] = .ok (.bl true) h1 := by
  obtain ⟨g, hg⟩ := right_eq
  obtain ⟨pl, hp⟩ := pls_all
  have c0 : ∀ h, m__law_cell [.frl (ns.map MV.int), .int 0] h = .ok (.int (ns.getD 0 0)) h := fun h => cell_eq ns 0 h
  have c1 : ∀ h, m__law_cell [.frl (ns.map MV.int), .int 1] h = .ok (.int (ns.getD 1 0)) h := fun h => cell_eq ns 1 h
  simp [m_law, b_law, mDef_ev, eV, c0, c1, SZ, fIx_ref, hp, hg, KFR_1, forG_ev]
end Lw
/-! the end -/
namespace Lw
open PySem L2 Mo
section
theorem all_mk {l : PySem.W.OpenLaw} {w : World} {K : PySem.W.Frag} {h : Heap} {mg : Str → Option Value} {fa : Addr} (X : K.In h) (G : h.Ns mainGlobals mg) (hfa : mg "law" = some (.ref fa))
    {f0 : Addr} {od0 an0 : Option Addr} {sl0 : Array (Option Value)} {oc0 kV0 dc0 pm0 cd0 ct0 : Value}
    {f1 : Addr} {od1 an1 : Option Addr} {sl1 : Array (Option Value)} {oc1 kV1 dc1 pm1 cd1 ct1 : Value}
    {f2 : Addr} {od2 an2 : Option Addr} {sl2 : Array (Option Value)} {oc2 kV2 dc2 pm2 cd2 ct2 : Value}
    {f3 : Addr} {od3 an3 : Option Addr} {sl3 : Array (Option Value)} {oc3 kV3 dc3 pm3 cd3 ct3 : Value}
    {f4 : Addr} {od4 an4 : Option Addr} {sl4 : Array (Option Value)} {oc4 kV4 dc4 pm4 cd4 ct4 : Value}
    {f5 : Addr} {od5 an5 : Option Addr} {sl5 : Array (Option Value)} {oc5 kV5 dc5 pm5 cd5 ct5 : Value}
    {g_AT_WORK : Addr} {d_AT_WORK : Option Addr} {n_AT_WORK : Nat} {s_AT_WORK_ : Array (Option Value)} {t_AT_WORK_0 t_AT_WORK_1 t_AT_WORK_2 t_AT_WORK_3 : Tok}
    {g_IN_BOOK : Addr} {d_IN_BOOK : Option Addr} {n_IN_BOOK : Nat} {s_IN_BOOK_ : Array (Option Value)} {t_IN_BOOK_0 t_IN_BOOK_1 t_IN_BOOK_2 t_IN_BOOK_3 t_IN_BOOK_4 : Tok}
    {g_OWNERS : Addr} {d_OWNERS : Option Addr} {n_OWNERS : Nat} {s_OWNERS_ : Array (Option Value)} {t_OWNERS_0 t_OWNERS_1 t_OWNERS_2 : Tok}
    (a0 : PySem.W.nsIn K mainGlobals "_law_cell" = some (some (.ref f0))) (l0 : K.lookup f0 = some ⟨oc0, od0, .func (PySem.W.fnOf "_law_cell" "_law_cell" (defArgs s__law_cell) (defBody s__law_cell) (defScope s__law_cell) .none kV0 dc0 pm0 an0 cd0 ct0), sl0⟩) (c0 : PySem.W.codeIn K cd0 "_law_cell" = true) (k0 : PySem.W.keepIn K (.ref f0) = true)
    (a1 : PySem.W.nsIn K mainGlobals "at_work" = some (some (.ref f1))) (l1 : K.lookup f1 = some ⟨oc1, od1, .func (PySem.W.fnOf "at_work" "at_work" (defArgs s_at_work) (defBody s_at_work) (defScope s_at_work) .none kV1 dc1 pm1 an1 cd1 ct1), sl1⟩) (c1 : PySem.W.codeIn K cd1 "at_work" = true) (k1 : PySem.W.keepIn K (.ref f1) = true)
    (a2 : PySem.W.nsIn K mainGlobals "owns" = some (some (.ref f2))) (l2 : K.lookup f2 = some ⟨oc2, od2, .func (PySem.W.fnOf "owns" "owns" (defArgs s_owns) (defBody s_owns) (defScope s_owns) .none kV2 dc2 pm2 an2 cd2 ct2), sl2⟩) (c2 : PySem.W.codeIn K cd2 "owns" = true) (k2 : PySem.W.keepIn K (.ref f2) = true)
    (a3 : PySem.W.nsIn K mainGlobals "in_book" = some (some (.ref f3))) (l3 : K.lookup f3 = some ⟨oc3, od3, .func (PySem.W.fnOf "in_book" "in_book" (defArgs s_in_book) (defBody s_in_book) (defScope s_in_book) .none kV3 dc3 pm3 an3 cd3 ct3), sl3⟩) (c3 : PySem.W.codeIn K cd3 "in_book" = true) (k3 : PySem.W.keepIn K (.ref f3) = true)
    (a4 : PySem.W.nsIn K mainGlobals "_law_right" = some (some (.ref f4))) (l4 : K.lookup f4 = some ⟨oc4, od4, .func (PySem.W.fnOf "_law_right" "_law_right" (defArgs s__law_right) (defBody s__law_right) (defScope s__law_right) .none kV4 dc4 pm4 an4 cd4 ct4), sl4⟩) (c4 : PySem.W.codeIn K cd4 "_law_right" = true) (k4 : PySem.W.keepIn K (.ref f4) = true)
    (a5 : PySem.W.nsIn K mainGlobals "law" = some (some (.ref f5))) (l5 : K.lookup f5 = some ⟨oc5, od5, .func (PySem.W.fnOf "law" "law" (defArgs s_law) (defBody s_law) (defScope s_law) .none kV5 dc5 pm5 an5 cd5 ct5), sl5⟩) (c5 : PySem.W.codeIn K cd5 "law" = true) (k5 : PySem.W.keepIn K (.ref f5) = true)
    (z_bool : PySem.W.nsIn K mainGlobals "bool" = some none)
    (z_int : PySem.W.nsIn K mainGlobals "int" = some none)
    (z_isinstance : PySem.W.nsIn K mainGlobals "isinstance" = some none)
    (z_len : PySem.W.nsIn K mainGlobals "len" = some none)
    (z_range : PySem.W.nsIn K mainGlobals "range" = some none)
    (h_AT_WORK : PySem.W.nsIn K mainGlobals "AT_WORK" = some (some (.ref g_AT_WORK))) (i_AT_WORK : K.lookup g_AT_WORK = some ⟨.type "tuple", d_AT_WORK, .seq #[.str "works" t_AT_WORK_0, .str "late" t_AT_WORK_1, .str "ghost" t_AT_WORK_2, .str "ghost+" t_AT_WORK_3] n_AT_WORK, s_AT_WORK_⟩)
    (h_IN_BOOK : PySem.W.nsIn K mainGlobals "IN_BOOK" = some (some (.ref g_IN_BOOK))) (i_IN_BOOK : K.lookup g_IN_BOOK = some ⟨.type "tuple", d_IN_BOOK, .seq #[.str "idle" t_IN_BOOK_0, .str "dealt" t_IN_BOOK_1, .str "works" t_IN_BOOK_2, .str "late" t_IN_BOOK_3, .str "rests" t_IN_BOOK_4] n_IN_BOOK, s_IN_BOOK_⟩)
    (h_OWNERS : PySem.W.nsIn K mainGlobals "OWNERS" = some (some (.ref g_OWNERS))) (i_OWNERS : K.lookup g_OWNERS = some ⟨.type "tuple", d_OWNERS, .seq #[.str "dealt" t_OWNERS_0, .str "works" t_OWNERS_1, .str "rests" t_OWNERS_2] n_OWNERS, s_OWNERS_⟩) :
    ∃ fd : FuncData, (∀ (s : Shared) (v : Value), BindsTo s fd ⟨[v], []⟩ [("_law_script", v)]) ∧ ∀ base : Heap, K.In base → base.Ns mainGlobals mg → FnOk l.prog w K mg base (L2.CX l.prog w) 3 fa fd ["_law_script"] (spLaw K) := by
  have e := hfa.symm.trans (PySem.W.mg_of X G a5)
  cases e
  have F0 := fun_mk (st := s__law_cell) l0 c0 k0
  have B0 := F0.binds (ps := ["_law_script", "_law_k"]) fun _ _ _ _ _ _ us hl => match us, hl with | [_, _], _ => rfl
  have F1 := fun_mk (st := s_at_work) l1 c1 k1
  have B1 := F1.binds (ps := ["place"]) fun _ _ _ _ _ _ us hl => match us, hl with | [_], _ => rfl
  have F2 := fun_mk (st := s_owns) l2 c2 k2
  have B2 := F2.binds (ps := ["place"]) fun _ _ _ _ _ _ us hl => match us, hl with | [_], _ => rfl
  have F3 := fun_mk (st := s_in_book) l3 c3 k3
  have B3 := F3.binds (ps := ["place"]) fun _ _ _ _ _ _ us hl => match us, hl with | [_], _ => rfl
  have F4 := fun_mk (st := s__law_right) l4 c4 k4
  have B4 := F4.binds (ps := ["_law_place"]) fun _ _ _ _ _ _ us hl => match us, hl with | [_], _ => rfl
  have F5 := fun_mk (st := s_law) l5 c5 k5
  have B5 := F5.binds (ps := ["_law_script"]) fun _ _ _ _ _ _ us hl => match us, hl with | [_], _ => rfl
  have T : Txt K mg ⟨f0, _, f1, _, f2, _, f3, _, f4, _, fa, _⟩ := ⟨⟨F0, B0, PySem.W.mg_of X G a0⟩,
    ⟨F1, B1, PySem.W.mg_of X G a1⟩,
    ⟨F2, B2, PySem.W.mg_of X G a2⟩,
    ⟨F3, B3, PySem.W.mg_of X G a3⟩,
    ⟨F4, B4, PySem.W.mg_of X G a4⟩,
    ⟨F5, B5, PySem.W.mg_of X G a5⟩,
    PySem.W.mg_none_of X G z_bool,
    PySem.W.mg_none_of X G z_int,
    PySem.W.mg_none_of X G z_isinstance,
    PySem.W.mg_none_of X G z_len,
    PySem.W.mg_none_of X G z_range,
    ⟨_, PySem.W.mg_of X G h_AT_WORK, [.str "works", .str "late", .str "ghost", .str "ghost+"], ⟨_, _, _, i_AT_WORK, rfl, rfl, by show 4 ≤ sizeLine; decide, (.cons ⟨_, rfl⟩ (.cons ⟨_, rfl⟩ (.cons ⟨_, rfl⟩ (.cons ⟨_, rfl⟩ .nil))))⟩, fun ρ H => by simp [VRs, VR]⟩,
    ⟨_, PySem.W.mg_of X G h_IN_BOOK, [.str "idle", .str "dealt", .str "works", .str "late", .str "rests"], ⟨_, _, _, i_IN_BOOK, rfl, rfl, by show 5 ≤ sizeLine; decide, (.cons ⟨_, rfl⟩ (.cons ⟨_, rfl⟩ (.cons ⟨_, rfl⟩ (.cons ⟨_, rfl⟩ (.cons ⟨_, rfl⟩ .nil)))))⟩, fun ρ H => by simp [VRs, VR]⟩,
    ⟨_, PySem.W.mg_of X G h_OWNERS, [.str "dealt", .str "works", .str "rests"], ⟨_, _, _, i_OWNERS, rfl, rfl, by show 3 ≤ sizeLine; decide, (.cons ⟨_, rfl⟩ (.cons ⟨_, rfl⟩ (.cons ⟨_, rfl⟩ .nil)))⟩, fun ρ H => by simp [VRs, VR]⟩,
    isi_none fun _ => rfl⟩
  exact ⟨_, fun s v => .of_eq rfl, fun base _ _ => (ok_law T).imp (spLaw_of fun ns _ => pure_law ns)⟩
end
end Lw
open PySem PySem.W PyProof.Rows in
set_option maxRecDepth 100000 in
set_option maxHeartbeats 0 in
theorem PySem.Challenge.cw_lanesdealt_k07_kinds_of_places_holds : PySem.Challenge.rw_lanesdealt_k07_kinds_of_places.Holds := by
  w_on; o_law; k_head; (case hw => w_witness2)
  k_fill
  refine Mo.law_walk (l := PySem.Challenge.rw_lanesdealt_k07_kinds_of_places) (k := 3) (by decide) rfl rfl (fun w h Y => PySem.W.kIn_of Y) ?F
  case F =>
    intro w mg fa h KX G hmg
    refine' Lw.all_mk KX G hmg ?a0 ?l0 ?c0 ?k0 ?a1 ?l1 ?c1 ?k1 ?a2 ?l2 ?c2 ?k2 ?a3 ?l3 ?c3 ?k3 ?a4 ?l4 ?c4 ?k4 ?a5 ?l5 ?c5 ?k5 ?z_bool ?z_int ?z_isinstance ?z_len ?z_range ?h_AT_WORK ?i_AT_WORK ?h_IN_BOOK ?i_IN_BOOK ?h_OWNERS ?i_OWNERS
    (case a0 => k_is)
    (case l0 => k_is)
    (case c0 => k_is)
    (case k0 => k_is)
    (case a1 => k_is)
    (case l1 => k_is)
    (case c1 => k_is)
    (case k1 => k_is)
    (case a2 => k_is)
    (case l2 => k_is)
    (case c2 => k_is)
    (case k2 => k_is)
    (case a3 => k_is)
    (case l3 => k_is)
    (case c3 => k_is)
    (case k3 => k_is)
    (case a4 => k_is)
    (case l4 => k_is)
    (case c4 => k_is)
    (case k4 => k_is)
    (case a5 => k_is)
    (case l5 => k_is)
    (case c5 => k_is)
    (case k5 => k_is)
    (case z_bool => k_is)
    (case z_int => k_is)
    (case z_isinstance => k_is)
    (case z_len => k_is)
    (case z_range => k_is)
    (case h_AT_WORK => k_is)
    (case i_AT_WORK => k_is)
    (case h_IN_BOOK => k_is)
    (case i_IN_BOOK => k_is)
    (case h_OWNERS => k_is)
    (case i_OWNERS => k_is)
