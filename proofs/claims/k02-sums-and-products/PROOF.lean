import PyProof.Rows.All
import Wide.All
import OpenK.AllK
import Wide.FinOn
import HandS.ForExc
import HandS.ForMost
import HandS.Wide
import HandS.Defaults
import HandS.HeadHook2
import HandS.Flow
import HandS.IsInst
import HandS.Deep
import HandS.CallSlots
import HandS.RaiseMore
import HandS.StrMore
import HandS.Codes
import HandS.HeadEnd
import HandS.EndBits
import HandS.Head2
import PySem.Challenge.RW_markscale_k02_sums_and_products
set_option Elab.async false
set_option linter.all false
set_option maxRecDepth 100000
set_option maxHeartbeats 4000000
/-! MI1: results, views, the frozen heap; expressions' readings over data. -/
namespace MI
open PySem PySem.Spec PyProof.Rows L2
abbrev D := PyData
/-- a result: a value, an exception (its class's name, its one field), or no claim -/
inductive R (α : Type) where
  | ok (a : α)
  | exc (c : Str) (p : Option D)
  | bad
def R.bind {α β : Type} (x : R α) (f : α → R β) : R β := match x with
  | .ok a => f a
  | .exc c p => .exc c p
  | .bad => .bad
def R.of {α : Type} : Option α → R α
  | some a => .ok a
  | none => .bad
@[simp] theorem R.bind_ok {α β : Type} (a : α) (f : α → R β) : (R.ok a).bind f = f a := Eq.trans rfl rfl
@[simp] theorem R.bind_exc {α β : Type} (c : Str) (p : Option D) (f : α → R β) : (R.exc c p : R α).bind f = .exc c p := Eq.trans rfl rfl
@[simp] theorem R.bind_bad {α β : Type} (f : α → R β) : (R.bad : R α).bind f = .bad := Eq.trans rfl rfl
@[simp] theorem R.of_some {α : Type} (a : α) : R.of (some a) = .ok a := Eq.trans rfl rfl
@[simp] theorem R.of_none {α : Type} : R.of (none : Option α) = .bad := Eq.trans rfl rfl
abbrev Vw := List (Option D)
abbrev M := Vw → R D
/-! ### heaps -/
structure Ext (F H F' H' : Hp) : Prop where
  f : Same F F'
  h : Same H H'
  s : Same F' H'
  n : ∀ a o, F' a = some o → F a = none → H a = none
theorem Ext.refl {F H : Hp} (s : Same F H) : Ext F H F H := ⟨Same.refl F, Same.refl H, s, fun a o e n => by rw [n] at e; cases e⟩
theorem Ext.trans {F H F1 H1 F2 H2 : Hp} (a : Ext F H F1 H1) (b : Ext F1 H1 F2 H2) : Ext F H F2 H2 := by
  refine ⟨a.f.trans b.f, a.h.trans b.h, b.s, fun x o e n => ?_⟩
  cases q : F1 x with
  | some o1 => exact a.n x o1 q n
  | none =>
    have z := b.n x o e q
    cases w : H x with
    | none => rfl
    | some u => rw [a.h x u w] at z; cases z
theorem same_upd {H : Hp} {p : Addr} {o : HO} (h : H p = none) : Same H (upd H p o) := fun a u e => by
  rw [upd_ne (ne_of_none e h)]
  exact e
/-- a new object, frozen at once -/
theorem Ext.new {F H : Hp} (s : Same F H) {p : Addr} {o : HO} (h : H p = none) : Ext F H (upd F p o) (upd H p o) := by
  have hf : F p = none := s.free h
  refine ⟨same_upd hf, same_upd h, fun a u e => ?_, fun a u e n => ?_⟩
  · by_cases z : a = p
    · subst z; rw [upd_same] at e ⊢; exact e
    · rw [upd_ne z] at e ⊢; exact s a u e
  · by_cases z : a = p
    · subst z; exact h
    · rw [upd_ne z, n] at e; cases e
/-- a new object, not frozen -/
theorem Ext.loose {F H : Hp} (s : Same F H) {p : Addr} {o : HO} (h : H p = none) : Ext F H F (upd H p o) :=
  ⟨Same.refl F, same_upd h, s.trans (same_upd h), fun a u e n => by rw [n] at e; cases e⟩
theorem same_t {K : PySem.W.Frag} {H H' : Hp} {a : Addr} {xs : List V} (e : Same H H') (h : SqT K H a xs) : SqT K H' a xs := by
  rcases h with (h | ⟨o, h⟩) | h
  · exact .inl (.inl (e _ _ h))
  · exact .inl (.inr ⟨o, e _ _ h⟩)
  · exact .inr h
mutual
theorem dp_mono {K : PySem.W.Frag} {F F' : Hp} (e : Same F F') : ∀ (d : D) {v : V}, Dp K F v d → Dp K F' v d
  | .none, _, h => by cases h; exact .non
  | .bool _, _, h => by cases h; exact .bl _
  | .int _, _, h => by cases h; exact .int _
  | .str _, _, h => by cases h; exact .str _
  | .list ds, _, h => by
    cases h with
    | lst a b => exact .lst (e.seq a) (dpa_mono e ds b)
  | .tuple ds, _, h => by
    cases h with
    | tup a b => exact .tup (same_t e a) (dpa_mono e ds b)
  | .dict _, _, h => by cases h
theorem dpa_mono {K : PySem.W.Frag} {F F' : Hp} (e : Same F F') : ∀ (ds : List D) {vs : List V}, DpAll K F vs ds → DpAll K F' vs ds
  | [], _, h => by cases h; exact .nil
  | d :: ds, _, h => by
    cases h with
    | cons a b => exact .cons (dp_mono e d a) (dpa_mono e ds b)
end
theorem dpa_len {K : PySem.W.Frag} {F : Hp} : ∀ {vs : List V} {ds : List D}, DpAll K F vs ds → vs.length = ds.length
  | [], [], .nil => rfl
  | _ :: _, _ :: _, .cons _ b => congrArg Nat.succ (dpa_len b)
theorem dpa_append {K : PySem.W.Frag} {F : Hp} : ∀ {vs ws : List V} {ds es : List D}, DpAll K F vs ds → DpAll K F ws es → DpAll K F (vs ++ ws) (ds ++ es)
  | [], _, [], _, .nil, h => h
  | _ :: _, _, _ :: _, _, .cons a b, h => .cons a (dpa_append b h)
theorem dpa_get {K : PySem.W.Frag} {F : Hp} : ∀ {vs : List V} {ds : List D} {i : Nat} {d : D}, DpAll K F vs ds → ds[i]? = some d → ∃ v, vs[i]? = some v ∧ Dp K F v d
  | [], [], _, _, .nil, e => by simp at e
  | v :: _, d :: _, 0, _, .cons a b, e => by
    simp at e
    subst e
    exact ⟨v, by simp, a⟩
  | _ :: _, _ :: _, i + 1, _, .cons a b, e => by
    obtain ⟨v, h1, h2⟩ := dpa_get (i := i) b (by simpa using e)
    exact ⟨v, by simpa using h1, h2⟩
theorem dpa_get' {K : PySem.W.Frag} {F : Hp} : ∀ {vs : List V} {ds : List D} {i : Nat} {v : V}, DpAll K F vs ds → vs[i]? = some v → ∃ d, ds[i]? = some d ∧ Dp K F v d
  | [], [], _, _, .nil, e => by simp at e
  | v :: _, d :: _, 0, _, .cons a b, e => by
    simp at e
    subst e
    exact ⟨d, by simp, a⟩
  | _ :: _, _ :: _, i + 1, _, .cons a b, e => by
    obtain ⟨v, h1, h2⟩ := dpa_get' (i := i) b (by simpa using e)
    exact ⟨v, by simpa using h1, h2⟩
theorem dpa_drop {K : PySem.W.Frag} {F : Hp} : ∀ (n : Nat) {vs : List V} {ds : List D}, DpAll K F vs ds → DpAll K F (vs.drop n) (ds.drop n)
  | 0, _, _, h => h
  | _ + 1, _, _, .nil => .nil
  | n + 1, _, _, .cons _ b => dpa_drop n b
theorem dpa_take {K : PySem.W.Frag} {F : Hp} : ∀ (n : Nat) {vs : List V} {ds : List D}, DpAll K F vs ds → DpAll K F (vs.take n) (ds.take n)
  | 0, _, _, _ => .nil
  | _ + 1, _, _, .nil => .nil
  | n + 1, _, _, .cons a b => .cons a (dpa_take n b)
/-- what a view tells of the slots -/
def VwOk (K : PySem.W.Frag) (F : Hp) (σ : L2.St) (δ : Vw) : Prop := ∀ (i : Nat) (d : D), δ[i]? = some (some d) → ∃ v, σ[i]? = some (some v) ∧ Dp K F v d
theorem VwOk.mono {K : PySem.W.Frag} {F F' : Hp} {σ : L2.St} {δ : Vw} (h : VwOk K F σ δ) (e : Same F F') : VwOk K F' σ δ := fun i d q =>
  let ⟨v, a, b⟩ := h i d q
  ⟨v, a, dp_mono e d b⟩
/-- the one field that some of the exceptions have -/
def xfield (c : Str) : Option Str :=
  if c = "NoTable" then some "row" else if c = "NoPlan" then some "step" else if c = "NoTelling" then some "part" else none
/-- an exception, by its class's name and its field -/
def XV (K : PySem.W.Frag) (mg : Str → Option Value) (F : Hp) (c : Str) (p : Option D) (cls : Value) (od : Option Addr) : Prop :=
  ∃ C, mg c = some (.ref C) ∧ cls = .ref C ∧ match p with
    | none => True
    | some d => ∃ dx f v, od = some dx ∧ F dx = some (.xd [(f, v)]) ∧ xfield c = some f ∧ Dp K F v d
section
variable (X : Cx) (W : WX)
def EPost (F H : Hp) (σ : L2.St) (Q : VK) : R D → Prop
  | .ok d => ∀ v F' H', Ext F H F' H' → Dp X.K F' v d → Q v H'
  | .exc c p => ∀ cls od F' H', Ext F H F' H' → XV X.K X.mg F' c p cls od → W cls od σ H'
  | .bad => False
def BPost (F H : Hp) (σ : L2.St) (Q : Bool → Hp → Prop) : R Bool → Prop
  | .ok b => ∀ F' H', Ext F H F' H' → Q b H'
  | .exc c p => ∀ cls od F' H', Ext F H F' H' → XV X.K X.mg F' c p cls od → W cls od σ H'
  | .bad => False
def APost (F H : Hp) (σ : L2.St) (Q : List V → Hp → Prop) : R (List D) → Prop
  | .ok ds => ∀ vs F' H', Ext F H F' H' → DpAll X.K F' vs ds → Q vs H'
  | .exc c p => ∀ cls od F' H', Ext F H F' H' → XV X.K X.mg F' c p cls od → W cls od σ H'
  | .bad => False
def tM (m : M) : TE := fun σ H Q => ∃ F δ, Same F H ∧ VwOk X.K F σ δ ∧ EPost X W F H σ Q (m δ)
def tT (m : Vw → R Bool) : TT := fun σ H Q => ∃ F δ, Same F H ∧ VwOk X.K F σ δ ∧ BPost X W F H σ Q (m δ)
def tA (m : Vw → R (List D)) : TA := fun σ H Q => ∃ F δ, Same F H ∧ VwOk X.K F σ δ ∧ APost X W F H σ Q (m δ)
end
abbrev ME (X : Cx) (W : WX) (e : Expr) (m : M) : Prop := PE X e (tM X W m)
abbrev MT (X : Cx) (W : WX) (e : Expr) (m : Vw → R Bool) : Prop := PT X e (tT X W m)
abbrev MA (X : Cx) (W : WX) (es : List Expr) (m : Vw → R (List D)) : Prop := PA X es (tA X W m)
theorem PE.imp {X : Cx} {e : Expr} {t t' : TE} (h : PE X e t) (i : ∀ σ H Q, t' σ H Q → t σ H Q) : PE X e t' := ⟨fun pins s σ H Q I hw => h.run pins s σ H Q I (i _ _ _ hw)⟩
theorem PT.imp {X : Cx} {e : Expr} {t t' : TT} (h : PT X e t) (i : ∀ σ H Q, t' σ H Q → t σ H Q) : PT X e t' := ⟨fun pins s σ H Q I hw => h.run pins s σ H Q I (i _ _ _ hw)⟩
theorem PW.imp {X : Cx} {e : Expr} {t t' : TT} (h : PW X e t) (i : ∀ σ H Q, t' σ H Q → t σ H Q) : PW X e t' := ⟨fun wh pins s σ H Q I hw => h.run wh pins s σ H Q I (i _ _ _ hw)⟩
theorem PA.imp {X : Cx} {e : List Expr} {t t' : TA} (h : PA X e t) (i : ∀ σ H Q, t' σ H Q → t σ H Q) : PA X e t' := ⟨fun pos pins s σ H Q I hw => h.run pos pins s σ H Q I (i _ _ _ hw)⟩
theorem PS.imp {X : Cx} {e : Stmt} {t t' : TS} (h : PS X e t) (i : ∀ D σ H, t' D σ H → t D σ H) : PS X e t' := ⟨fun pins s σ H D I hw => h.run pins s σ H D I (i _ _ _ hw)⟩
theorem PSs.imp {X : Cx} {e : List Stmt} {t t' : TS} (h : PSs X e t) (i : ∀ D σ H, t' D σ H → t D σ H) : PSs X e t' := ⟨fun pins s σ H D I hw => h.run pins s σ H D I (i _ _ _ hw)⟩
/-! ### the bind of readings -/
section
variable {X : Cx} {W : WX} {F H : Hp} {σ : L2.St} {δ : Vw}
/-- a reading at a view, with what follows -/
theorem tM_bind {m : M} {f : D → R D} {Q : VK} {P : VK} (s : Same F H) (v : VwOk X.K F σ δ) (h : EPost X W F H σ Q ((m δ).bind f))
    (k : ∀ d x F' H', m δ = .ok d → Ext F H F' H' → Dp X.K F' x d → EPost X W F' H' σ Q (f d) → P x H') : tM X W m σ H P := by
  refine ⟨F, δ, s, v, ?_⟩
  cases e : m δ with
  | ok d =>
    rw [e] at h
    intro x F' H' E hx
    refine k d x F' H' e E hx ?_
    have h' : EPost X W F H σ Q (f d) := h
    cases e2 : f d with
    | ok d2 => rw [e2] at h'; exact fun v2 F2 H2 E2 hd => h' v2 F2 H2 (E.trans E2) hd
    | exc c p => rw [e2] at h'; exact fun cls od F2 H2 E2 hd => h' cls od F2 H2 (E.trans E2) hd
    | bad => rw [e2] at h'; exact h'
  | exc c p => rw [e] at h; exact h
  | bad => rw [e] at h; exact h
theorem tM_bindB {m : M} {f : D → R Bool} {Q : Bool → Hp → Prop} {P : VK} (s : Same F H) (v : VwOk X.K F σ δ) (h : BPost X W F H σ Q ((m δ).bind f))
    (k : ∀ d x F' H', m δ = .ok d → Ext F H F' H' → Dp X.K F' x d → BPost X W F' H' σ Q (f d) → P x H') : tM X W m σ H P := by
  refine ⟨F, δ, s, v, ?_⟩
  cases e : m δ with
  | ok d =>
    rw [e] at h
    intro x F' H' E hx
    refine k d x F' H' e E hx ?_
    have h' : BPost X W F H σ Q (f d) := h
    cases e2 : f d with
    | ok d2 => rw [e2] at h'; exact fun F2 H2 E2 => h' F2 H2 (E.trans E2)
    | exc c p => rw [e2] at h'; exact fun cls od F2 H2 E2 hd => h' cls od F2 H2 (E.trans E2) hd
    | bad => rw [e2] at h'; exact h'
  | exc c p => rw [e] at h; exact h
  | bad => rw [e] at h; exact h
theorem tT_bind {m : Vw → R Bool} {f : Bool → R D} {Q : VK} {P : Bool → Hp → Prop} (s : Same F H) (v : VwOk X.K F σ δ) (h : EPost X W F H σ Q ((m δ).bind f))
    (k : ∀ b F' H', Ext F H F' H' → EPost X W F' H' σ Q (f b) → P b H') : tT X W m σ H P := by
  refine ⟨F, δ, s, v, ?_⟩
  cases e : m δ with
  | ok d =>
    rw [e] at h
    intro F' H' E
    refine k d F' H' E ?_
    have h' : EPost X W F H σ Q (f d) := h
    cases e2 : f d with
    | ok d2 => rw [e2] at h'; exact fun v2 F2 H2 E2 hd => h' v2 F2 H2 (E.trans E2) hd
    | exc c p => rw [e2] at h'; exact fun cls od F2 H2 E2 hd => h' cls od F2 H2 (E.trans E2) hd
    | bad => rw [e2] at h'; exact h'
  | exc c p => rw [e] at h; exact h
  | bad => rw [e] at h; exact h
theorem tT_bindB {m : Vw → R Bool} {f : Bool → R Bool} {Q : Bool → Hp → Prop} {P : Bool → Hp → Prop} (s : Same F H) (v : VwOk X.K F σ δ) (h : BPost X W F H σ Q ((m δ).bind f))
    (k : ∀ b F' H', Ext F H F' H' → BPost X W F' H' σ Q (f b) → P b H') : tT X W m σ H P := by
  refine ⟨F, δ, s, v, ?_⟩
  cases e : m δ with
  | ok d =>
    rw [e] at h
    intro F' H' E
    refine k d F' H' E ?_
    have h' : BPost X W F H σ Q (f d) := h
    cases e2 : f d with
    | ok d2 => rw [e2] at h'; exact fun F2 H2 E2 => h' F2 H2 (E.trans E2)
    | exc c p => rw [e2] at h'; exact fun cls od F2 H2 E2 hd => h' cls od F2 H2 (E.trans E2) hd
    | bad => rw [e2] at h'; exact h'
  | exc c p => rw [e] at h; exact h
  | bad => rw [e] at h; exact h
theorem tA_bind {m : Vw → R (List D)} {f : List D → R D} {Q : VK} {P : List V → Hp → Prop} (s : Same F H) (v : VwOk X.K F σ δ) (h : EPost X W F H σ Q ((m δ).bind f))
    (k : ∀ ds xs F' H', m δ = .ok ds → Ext F H F' H' → DpAll X.K F' xs ds → EPost X W F' H' σ Q (f ds) → P xs H') : tA X W m σ H P := by
  refine ⟨F, δ, s, v, ?_⟩
  cases e : m δ with
  | ok d =>
    rw [e] at h
    intro x F' H' E hx
    refine k d x F' H' e E hx ?_
    have h' : EPost X W F H σ Q (f d) := h
    cases e2 : f d with
    | ok d2 => rw [e2] at h'; exact fun v2 F2 H2 E2 hd => h' v2 F2 H2 (E.trans E2) hd
    | exc c p => rw [e2] at h'; exact fun cls od F2 H2 E2 hd => h' cls od F2 H2 (E.trans E2) hd
    | bad => rw [e2] at h'; exact h'
  | exc c p => rw [e] at h; exact h
  | bad => rw [e] at h; exact h
end
/-! ### atoms -/
def mVar (i : Nat) : M := fun δ => match δ[i]? with
  | some (some d) => .ok d
  | _ => .bad
def mC (d : D) : M := fun _ => .ok d
section
variable {X : Cx} {W : WX} {pos : Pos}
theorem me_var {i : Nat} {x : Str} (hN : X.N[i]? = some x) (hv : Vis X.env.scope x) (hd : (x == ("__debug__" : Str)) = false) (hcd : (x == ("__classdict__" : Str)) = false) : ME X W (.Name x pos) (mVar i) := by
  refine PE.imp (pe_var hN hv hd hcd) fun σ H Q ⟨F, δ, s, v, h⟩ => ?_
  unfold mVar at h
  cases e : δ[i]? with
  | none => rw [e] at h; exact h.elim
  | some o =>
    cases o with
    | none => rw [e] at h; exact h.elim
    | some d =>
      rw [e] at h
      obtain ⟨u, hu, dp⟩ := v i d e
      exact ⟨u, hu, h u F H (Ext.refl s) dp⟩
theorem me_c {e : Expr} {d : D} {x : V} (h : PE X e (tC x)) (hd : ∀ F, Dp X.K F x d) : ME X W e (mC d) := by
  refine PE.imp h fun σ H Q ⟨F, δ, s, v, h⟩ => ?_
  exact h x F H (Ext.refl s) (hd F)
theorem me_int {i j} : ME X W (.Constant (.int i) j pos) (mC (.int i)) := me_c pe_int fun _ => .int i
theorem me_bl {i j} : ME X W (.Constant (.bool i) j pos) (mC (.bool i)) := me_c pe_bl fun _ => .bl i
theorem me_str {i j} : ME X W (.Constant (.str i) j pos) (mC (.str i)) := me_c pe_str fun _ => .str i
theorem me_non {j} : ME X W (.Constant .none j pos) (mC .none) := me_c pe_non fun _ => .non
end
/-! ### operations on values -/
/-- f on data, read on values -/
def rD2 (K : PySem.W.Frag) (f : D → D → Option D) : R2 := fun x y H Q => ∃ F d1 d2 d, Same F H ∧ Dp K F x d1 ∧ Dp K F y d2 ∧ f d1 d2 = some d ∧ ∀ v F' H', Ext F H F' H' → Dp K F' v d → Q v H'
def rD1 (K : PySem.W.Frag) (f : D → Option D) : V → Hp → VK → Prop := fun x H Q => ∃ F d1 d, Same F H ∧ Dp K F x d1 ∧ f d1 = some d ∧ ∀ v F' H', Ext F H F' H' → Dp K F' v d → Q v H'
def rDs (K : PySem.W.Frag) (f : List D → Option D) : List V → Hp → VK → Prop := fun xs H Q => ∃ F ds d, Same F H ∧ DpAll K F xs ds ∧ f ds = some d ∧ ∀ v F' H', Ext F H F' H' → Dp K F' v d → Q v H'
def mBin (f : D → D → Option D) (a b : M) : M := fun δ => (a δ).bind fun x => (b δ).bind fun y => R.of (f x y)
def mUn (f : D → Option D) (a : M) : M := fun δ => (a δ).bind fun x => R.of (f x)
def mDs (f : List D → Option D) (a : Vw → R (List D)) : M := fun δ => (a δ).bind fun x => R.of (f x)
def mNil : Vw → R (List D) := fun _ => .ok []
def mCons (a : M) (r : Vw → R (List D)) : Vw → R (List D) := fun δ => (a δ).bind fun x => (r δ).bind fun y => .ok (x :: y)
section
variable {X : Cx} {W : WX} {pos : Pos} {a b : Expr} {ma mb : M}
theorem of_post {F H : Hp} {σ : L2.St} {Q : VK} {o : Option D} (h : EPost X W F H σ Q (R.of o)) : ∃ d, o = some d ∧ ∀ v F' H', Ext F H F' H' → Dp X.K F' v d → Q v H' := by
  cases o with
  | none => exact h.elim
  | some d => exact ⟨d, rfl, h⟩
theorem bin_tM {r : R2} {f : D → D → Option D} (hr : ∀ x y H Q, rD2 X.K f x y H Q → r x y H Q) {σ : L2.St} {H : Hp} {Q : VK} (h : tM X W (mBin f ma mb) σ H Q) : tOp r (tM X W ma) (tM X W mb) σ H Q := by
  obtain ⟨F, δ, s, v, h⟩ := h
  refine tM_bind s v h fun d x F1 H1 _ E hx h1 => ?_
  refine tM_bind E.s (v.mono E.f) h1 fun d2 y F2 H2 _ E2 hy h2 => ?_
  obtain ⟨d3, e, q⟩ := of_post h2
  exact hr _ _ _ _ ⟨F2, d, d2, d3, E2.s, dp_mono E2.f d hx, hy, e, q⟩
theorem me_op {op : Operator} {f : D → D → Option D} (ho : OpR X (binaryOp op) (rD2 X.K f)) (ha : ME X W a ma) (hb : ME X W b mb) : ME X W (.BinOp a op b pos) (mBin f ma mb) :=
  PE.imp (pe_op ho ha hb) fun _ _ _ h => bin_tM (fun _ _ _ _ z => z) h
theorem me_un {op : UnaryOp} {f : D → Option D} (ho : UnR X (unaryOp op) (rD1 X.K f)) (ha : ME X W a ma) : ME X W (.UnaryOp op a pos) (mUn f ma) := by
  refine PE.imp (pe_un ho ha) fun σ H Q ⟨F, δ, s, v, h⟩ => ?_
  refine tM_bind s v h fun d x F1 H1 _ E hx h1 => ?_
  obtain ⟨d3, e, q⟩ := of_post h1
  exact ⟨F1, d, d3, E.s, hx, e, q⟩
theorem me_cmp {op : CmpOp} {f : D → D → Option D} (ho : OpR X (compareOp op) (rD2 X.K f)) (ha : ME X W a ma) (hb : ME X W b mb) (hm : behindInMarks op b = false) : ME X W (.Compare a [op] [b] pos) (mBin f ma mb) :=
  PE.imp (pe_cmpR ho ha hb hm) fun _ _ _ h => bin_tM (fun _ _ _ _ z => z) h
theorem me_ix {f : D → D → Option D} {r : R2} (hr : IxR X r) (hf : ∀ x y H Q, rD2 X.K f x y H Q → r x y H Q) (ha : ME X W a ma) (hb : ME X W b mb) (hs : PlainIx b) : ME X W (.Subscript a b pos) (mBin f ma mb) :=
  PE.imp (pe_ix hr ha hb hs) fun _ _ _ h => bin_tM hf h
/-! ### arguments, displays -/
theorem ma_nil : MA X W [] mNil := PA.imp pa_nil fun σ H Q ⟨F, δ, s, v, h⟩ => h [] F H (Ext.refl s) .nil
theorem ma_cons {es : List Expr} {mr : Vw → R (List D)} (ha : ME X W a ma) (hr : MA X W es mr) (hs : starEach (a :: es) X.env = (false, eval a X.env) :: starEach es X.env) : MA X W (a :: es) (mCons ma mr) := by
  refine PA.imp (pa_cons ha hr hs) fun σ H Q ⟨F, δ, s, v, h⟩ => ?_
  refine ⟨F, δ, s, v, ?_⟩
  unfold mCons at h
  cases e : ma δ with
  | ok d =>
    rw [e] at h
    intro x F1 H1 E hx
    refine ⟨F1, δ, E.s, v.mono E.f, ?_⟩
    cases e2 : mr δ with
    | ok ds =>
      rw [R.bind_ok, e2] at h
      intro xs F2 H2 E2 hxs
      exact h (x :: xs) F2 H2 (E.trans E2) (.cons (dp_mono E2.f d hx) hxs)
    | exc c p => rw [R.bind_ok, e2] at h; exact fun cls od F2 H2 E2 hd => h cls od F2 H2 (E.trans E2) hd
    | bad => rw [R.bind_ok, e2] at h; exact h
  | exc c p => rw [e] at h; exact h
  | bad => rw [e] at h; exact h
/-- the longest list, tuple, text -/
def most : Nat := 16777216
theorem most_eq : most = sizeLine := by rw [sizeLine_eq]; rfl
theorem most_le {n : Nat} (h : n ≤ most) : n ≤ sizeLine := by rw [← most_eq]; exact h
def dTup (ds : List D) : Option D := if ds.length ≤ most then some (.tuple ds) else none
def dLst (ds : List D) : Option D := if ds.length ≤ most then some (.list ds) else none
theorem me_tup {es : List Expr} {m : Vw → R (List D)} {k} (h : MA X W es m) : ME X W (.Tuple es k pos) (mDs dTup m) := by
  refine PE.imp (pe_tup h) fun σ H Q ⟨F, δ, s, v, h⟩ => ?_
  refine tA_bind s v h fun ds xs F1 H1 _ E hx h1 => ?_
  obtain ⟨d3, e, q⟩ := of_post h1
  unfold dTup at e
  split at e
  · rename_i hl
    cases e
    refine ⟨by rw [dpa_len hx]; exact most_le hl, fun p hp => ?_⟩
    have E2 := Ext.new (o := .tup xs) E.s hp
    exact q _ _ _ E2 (.tup (SqT.of upd_same) (dpa_mono E2.f _ hx))
  · cases e
theorem me_lst {es : List Expr} {m : Vw → R (List D)} (h : MA X W es m) : ME X W (.List es pos) (mDs dLst m) := by
  refine PE.imp (pe_lst h) fun σ H Q ⟨F, δ, s, v, h⟩ => ?_
  refine tA_bind s v h fun ds xs F1 H1 _ E hx h1 => ?_
  obtain ⟨d3, e, q⟩ := of_post h1
  unfold dLst at e
  split at e
  · rename_i hl
    cases e
    refine ⟨by rw [dpa_len hx]; exact most_le hl, fun p hp => ?_⟩
    have E2 := Ext.new (o := .lst xs) E.s hp
    exact q _ _ _ E2 (.lst (SqL.of upd_same) (dpa_mono E2.f _ hx))
  · cases e
end
/-! ### truth, tests -/
def truthD : D → Option Bool
  | .none => some false
  | .bool b => some b
  | .int i => some (i != 0)
  | .str s => if s.length ≤ most then some ((s.length : Int) != 0) else none
  | .list xs => some (!xs.isEmpty)
  | .tuple xs => some (!xs.isEmpty)
  | .dict _ => none
theorem dpall_empty {K : PySem.W.Frag} {F : Hp} {vs : List V} {ds : List D} (h : DpAll K F vs ds) : vs.isEmpty = ds.isEmpty := by
  cases h <;> rfl
theorem truth_ok {K : PySem.W.Frag} {F H : Hp} {x : V} {d : D} {b : Bool} (s : Same F H) (h : Dp K F x d) (e : truthD d = some b) : TruV K x H b := by
  cases h with
  | non => exact (Option.some.inj e).symm
  | bl c => exact (Option.some.inj e).symm
  | int i => exact (Option.some.inj e).symm
  | str z =>
    unfold truthD at e
    dsimp only at e
    split at e
    · rename_i hl
      exact ⟨most_le hl, (Option.some.inj e).symm⟩
    · cases e
  | lst q r =>
    refine .inl ⟨_, s.seq q, ?_⟩
    rw [dpall_empty r]
    exact (Option.some.inj e).symm
  | tup q r =>
    refine .inr (.inl ⟨_, same_t s q, ?_⟩)
    rw [dpall_empty r]
    exact (Option.some.inj e).symm
def mTru (m : M) : Vw → R Bool := fun δ => (m δ).bind fun d => R.of (truthD d)
def mNot (t : Vw → R Bool) : Vw → R Bool := fun δ => (t δ).bind fun b => .ok (!b)
def mAndT (t u : Vw → R Bool) : Vw → R Bool := fun δ => (t δ).bind fun b => if b = true then u δ else .ok false
def mOrT (t u : Vw → R Bool) : Vw → R Bool := fun δ => (t δ).bind fun b => if b = true then .ok true else u δ
/-- a test as a value -/
def mTV (t : Vw → R Bool) : M := fun δ => (t δ).bind fun b => .ok (.bool b)
def mAndV (a b : M) : M := fun δ => (a δ).bind fun x => (R.of (truthD x)).bind fun k => if k = true then b δ else .ok x
def mOrV (a b : M) : M := fun δ => (a δ).bind fun x => (R.of (truthD x)).bind fun k => if k = true then .ok x else b δ
def mIf (t : Vw → R Bool) (a b : M) : M := fun δ => (t δ).bind fun k => if k = true then a δ else b δ
section
variable {X : Cx} {W : WX} {pos : Pos} {a b c : Expr} {ma mb : M} {t u : Vw → R Bool}
theorem of_postB {F H : Hp} {σ : L2.St} {Q : Bool → Hp → Prop} {o : Option Bool} (h : BPost X W F H σ Q (R.of o)) : ∃ d, o = some d ∧ ∀ F' H', Ext F H F' H' → Q d H' := by
  cases o with
  | none => exact h.elim
  | some d => exact ⟨d, rfl, h⟩
theorem mt_tru (ha : ME X W a ma) (he : ∀ whole, isTrue a X.env whole = (do let v ← whole; standAt a.pos; holding [v] (truthy v))) : MT X W a (mTru ma) := by
  refine PT.imp (pt_truth ha he) fun σ H Q ⟨F, δ, s, v, h⟩ => ?_
  refine tM_bindB s v h fun d x F1 H1 _ E hx h1 => ?_
  obtain ⟨k, e, q⟩ := of_postB h1
  exact ⟨k, truth_ok E.s hx e, q F1 H1 (Ext.refl E.s)⟩
theorem mt_cmp {op : CmpOp} {f : D → D → Option D} (ho : OpR X (compareOp op) (rD2 X.K f)) (hb' : ∀ x y d, f x y = some d → ∃ z : Bool, d = .bool z) (ha : ME X W a ma) (hb : ME X W b mb) (hm : behindInMarks op b = false) : MT X W (.Compare a [op] [b] pos) (mTru (mBin f ma mb)) := by
  refine PT.imp (pt_cmpR ho ha hb hm) fun σ H Q ⟨F, δ, s, v, h⟩ => ?_
  refine bin_tM (X := X) (W := W) (fun _ _ _ _ z => z) ?_
  refine tM_bindB s v h fun d x F1 H1 e E hx h1 => ?_
  obtain ⟨k, e2, q⟩ := of_postB h1
  have : ∃ z : Bool, d = .bool z := by
    unfold mBin at e
    cases e3 : ma δ with
    | ok d1 =>
      rw [e3, R.bind_ok] at e
      cases e4 : mb δ with
      | ok d2 =>
        rw [e4, R.bind_ok] at e
        cases e5 : f d1 d2 with
        | none => rw [e5] at e; cases e
        | some z => rw [e5] at e; cases e; exact hb' _ _ _ e5
      | exc c p => rw [e4] at e; cases e
      | bad => rw [e4] at e; cases e
    | exc c p => rw [e3] at e; cases e
    | bad => rw [e3] at e; cases e
  obtain ⟨b0, rfl⟩ := this
  cases hx
  cases e2
  exact ⟨k, rfl, q F1 H1 (Ext.refl E.s)⟩
theorem mt_not (ha : MT X W a t) : MT X W (.UnaryOp .Not a pos) (mNot t) := by
  refine PT.imp (pt_not ha) fun σ H Q ⟨F, δ, s, v, h⟩ => ?_
  refine tT_bindB s v h fun b F1 H1 E h1 => h1 F1 H1 (Ext.refl E.s)
theorem mw_and1 (ha : MT X W a t) : PW X (.BoolOp .And [a] pos) (tT X W t) := pw_and1 ha
theorem mw_or1 (ha : MT X W a t) : PW X (.BoolOp .Or [a] pos) (tT X W t) := pw_or1 ha
theorem mw_and {rest : List Expr} (ha : MT X W a t) (hb : PW X (.BoolOp .And (b :: rest) pos) (tT X W u)) : PW X (.BoolOp .And (a :: b :: rest) pos) (tT X W (mAndT t u)) := by
  refine PW.imp (pw_and ha hb) fun σ H Q ⟨F, δ, s, v, h⟩ => ?_
  refine tT_bindB s v h fun k F1 H1 E h1 => ?_
  cases k with
  | true => exact ⟨F1, δ, E.s, v.mono E.f, h1⟩
  | false => exact h1 F1 H1 (Ext.refl E.s)
theorem mw_or {rest : List Expr} (ha : MT X W a t) (hb : PW X (.BoolOp .Or (b :: rest) pos) (tT X W u)) : PW X (.BoolOp .Or (a :: b :: rest) pos) (tT X W (mOrT t u)) := by
  refine PW.imp (pw_or ha hb) fun σ H Q ⟨F, δ, s, v, h⟩ => ?_
  refine tT_bindB s v h fun k F1 H1 E h1 => ?_
  cases k with
  | false => exact ⟨F1, δ, E.s, v.mono E.f, h1⟩
  | true => exact h1 F1 H1 (Ext.refl E.s)
/-! values -/
theorem me_one {op} (h : ME X W a ma) : ME X W (.BoolOp op [a] pos) ma := pe_one h
theorem me_and {rest : List Expr} (ha : ME X W a ma) (hb : ME X W (.BoolOp .And (b :: rest) pos) mb) : ME X W (.BoolOp .And (a :: b :: rest) pos) (mAndV ma mb) := by
  refine PE.imp (pe_andT ha hb) fun σ H Q ⟨F, δ, s, v, h⟩ => ?_
  refine tM_bind s v h fun d x F1 H1 _ E hx h1 => ?_
  cases e : truthD d with
  | none => rw [e] at h1; exact h1.elim
  | some k =>
    rw [e] at h1
    refine ⟨k, truth_ok E.s hx e, ?_⟩
    cases k with
    | true => exact ⟨F1, δ, E.s, v.mono E.f, h1⟩
    | false => exact h1 x F1 H1 (Ext.refl E.s) hx
theorem me_or {rest : List Expr} (ha : ME X W a ma) (hb : ME X W (.BoolOp .Or (b :: rest) pos) mb) : ME X W (.BoolOp .Or (a :: b :: rest) pos) (mOrV ma mb) := by
  refine PE.imp (pe_orT ha hb) fun σ H Q ⟨F, δ, s, v, h⟩ => ?_
  refine tM_bind s v h fun d x F1 H1 _ E hx h1 => ?_
  cases e : truthD d with
  | none => rw [e] at h1; exact h1.elim
  | some k =>
    rw [e] at h1
    refine ⟨k, truth_ok E.s hx e, ?_⟩
    cases k with
    | false => exact ⟨F1, δ, E.s, v.mono E.f, h1⟩
    | true => exact h1 x F1 H1 (Ext.refl E.s) hx
def mNotV (a : M) : M := fun δ => (a δ).bind fun x => (R.of (truthD x)).bind fun k => .ok (.bool (!k))
theorem me_not (ha : ME X W a ma) : ME X W (.UnaryOp .Not a pos) (mNotV ma) := by
  refine PE.imp (pe_notT ha) fun σ H Q ⟨F, δ, s, v, h⟩ => ?_
  refine tM_bind s v h fun d x F1 H1 _ E hx h1 => ?_
  cases e : truthD d with
  | none => rw [e] at h1; exact h1.elim
  | some k =>
    rw [e] at h1
    exact ⟨k, truth_ok E.s hx e, h1 (.bl (!k)) F1 H1 (Ext.refl E.s) (.bl _)⟩
theorem me_if (hc : MT X W c t) (ha : ME X W a ma) (hb : ME X W b mb) : ME X W (.IfExp c a b pos) (mIf t ma mb) := by
  refine PE.imp (pe_ifExp hc ha hb) fun σ H Q ⟨F, δ, s, v, h⟩ => ?_
  refine tT_bind s v h fun k F1 H1 E h1 => ?_
  cases k with
  | true => exact ⟨F1, δ, E.s, v.mono E.f, h1⟩
  | false => exact ⟨F1, δ, E.s, v.mono E.f, h1⟩
end
end MI
set_option Elab.async false
set_option linter.all false
set_option maxRecDepth 100000
set_option maxHeartbeats 4000000
/-! MI2: statements over cells; defs. -/
namespace MI
open PySem PySem.Spec PyProof.Rows L2
/-- a slot: nothing, data that stands frozen, a list that this def alone holds -/
inductive Cell where
  | un
  | dat (d : D)
  | own (ds : List D)
abbrev Ce := List Cell
inductive Out where
  | nx (g : Ce)
  | rt (d : D)
  | bk (g : Ce)
  | ct (g : Ce)
  | ex (c : Str) (p : Option D) (g : Ce)
  | bad
abbrev S := Ce → Out
def Cell.vd : Cell → Option D
  | .dat d => some d
  | _ => none
def Cell.va : Cell → Option D
  | .dat d => some d
  | .own ds => some (.list ds)
  | .un => none
def vd (g : Ce) : Vw := g.map Cell.vd
def va (g : Ce) : Vw := g.map Cell.va
mutual
/-- no list within -/
def flat : D → Bool
  | .list _ => false
  | .dict _ => false
  | .tuple ds => flatL ds
  | _ => true
def flatL : List D → Bool
  | [] => true
  | d :: ds => flat d && flatL ds
end
def flatO : Option D → Bool
  | none => true
  | some d => flat d
/-- frozen: F0, F; tracked: H0 (the def's entry), H -/
structure StOk (K : PySem.W.Frag) (F0 H0 F H : Hp) (σ : L2.St) (g : Ce) : Prop where
  e : Ext F0 H0 F H
  len : σ.length = g.length
  dat : ∀ (i : Nat) (d : D), g[i]? = some (.dat d) → ∃ v, σ[i]? = some (some v) ∧ Dp K F v d
  own : ∀ (i : Nat) (ds : List D), g[i]? = some (.own ds) → ∃ a xs, σ[i]? = some (some (.ref a)) ∧ H a = some (.lst xs) ∧ F a = none ∧ H0 a = none ∧ DpAll K F xs ds
  inj : ∀ (i j : Nat) (ds es : List D) (a : Addr), g[i]? = some (.own ds) → g[j]? = some (.own es) → σ[i]? = some (some (.ref a)) → σ[j]? = some (some (.ref a)) → i = j
section
variable {K : PySem.W.Frag} {F0 H0 F H F' H' : Hp} {σ : L2.St} {g : Ce}
theorem Ext.new_none (E : Ext F H F' H') {a : Addr} {o : HO} (hf : F a = none) (hh : H a = some o) : F' a = none := by
  cases q : F' a with
  | none => rfl
  | some o' =>
    have := E.n a o' q hf
    rw [hh] at this
    cases this
theorem StOk.mono (ok : StOk K F0 H0 F H σ g) (E : Ext F H F' H') : StOk K F0 H0 F' H' σ g :=
  ⟨ok.e.trans E, ok.len, fun i d q => let ⟨v, a, b⟩ := ok.dat i d q; ⟨v, a, dp_mono E.f d b⟩,
    fun i ds q => let ⟨a, xs, h1, h2, h3, h4, h5⟩ := ok.own i ds q; ⟨a, xs, h1, E.h _ _ h2, E.new_none h3 h2, h4, dpa_mono E.f ds h5⟩, ok.inj⟩
theorem StOk.vd (ok : StOk K F0 H0 F H σ g) : VwOk K F σ (vd g) := by
  intro i d q
  unfold MI.vd at q
  rw [List.getElem?_map] at q
  cases e : g[i]? with
  | none => rw [e] at q; cases q
  | some c =>
    rw [e] at q
    cases c with
    | un => cases q
    | dat d' => cases q; exact ok.dat i d e
    | own ds => cases q
/-- an address of an own list -/
def Own (σ : L2.St) (g : Ce) (a : Addr) : Prop := ∃ (i : Nat) (ds : List D), g[i]? = some (Cell.own ds) ∧ σ[i]? = some (some (V.ref a))
open Classical in
noncomputable def frz (F H : Hp) (σ : L2.St) (g : Ce) : Hp := fun a => if Own σ g a then H a else F a
open Classical in
noncomputable def thw (F' : Hp) (σ : L2.St) (g : Ce) : Hp := fun a => if Own σ g a then none else F' a
theorem frz_own {a : Addr} (h : Own σ g a) : frz F H σ g a = H a := by unfold frz; rw [if_pos h]
theorem frz_not {a : Addr} (h : ¬ Own σ g a) : frz F H σ g a = F a := by unfold frz; rw [if_neg h]
theorem thw_own {a : Addr} (h : Own σ g a) : thw F σ g a = none := by unfold thw; rw [if_pos h]
theorem thw_not {a : Addr} (h : ¬ Own σ g a) : thw F σ g a = F a := by unfold thw; rw [if_neg h]
theorem StOk.ownAt (ok : StOk K F0 H0 F H σ g) {a : Addr} (h : Own σ g a) : ∃ xs, H a = some (.lst xs) ∧ F a = none ∧ H0 a = none := by
  obtain ⟨i, ds, h1, h2⟩ := h
  obtain ⟨b, xs, q1, q2, q3, q4, _⟩ := ok.own i ds h1
  rw [h2] at q1
  cases q1
  exact ⟨xs, q2, q3, q4⟩
theorem StOk.frzF (ok : StOk K F0 H0 F H σ g) : Same F (frz F H σ g) := fun a o e => by
  by_cases h : Own σ g a
  · obtain ⟨_, _, q, _⟩ := ok.ownAt h
    rw [q] at e; cases e
  · rw [frz_not h]; exact e
theorem StOk.frzH (ok : StOk K F0 H0 F H σ g) : Same (frz F H σ g) H := fun a o e => by
  by_cases h : Own σ g a
  · rw [frz_own h] at e; exact e
  · rw [frz_not h] at e; exact ok.e.s _ _ e
theorem StOk.va (ok : StOk K F0 H0 F H σ g) : VwOk K (frz F H σ g) σ (va g) := by
  intro i d q
  unfold MI.va at q
  rw [List.getElem?_map] at q
  cases e : g[i]? with
  | none => rw [e] at q; cases q
  | some c =>
    rw [e] at q
    cases c with
    | un => cases q
    | dat d' => cases q; exact let ⟨v, a, b⟩ := ok.dat i d e; ⟨v, a, dp_mono ok.frzF d b⟩
    | own ds =>
      cases q
      obtain ⟨a, xs, h1, h2, h3, h4, h5⟩ := ok.own i ds e
      refine ⟨_, h1, .lst (.inl (.inl ?_)) (dpa_mono ok.frzF ds h5)⟩
      rw [frz_own ⟨i, ds, e, h1⟩]
      exact h2
mutual
theorem dp_flat {F G : Hp} (h : ∀ a o, F a = some o → (∀ xs, o ≠ .lst xs) → G a = some o) : ∀ (d : D) {v : V}, Dp K F v d → flat d = true → Dp K G v d
  | .none, _, q, _ => by cases q; exact .non
  | .bool _, _, q, _ => by cases q; exact .bl _
  | .int _, _, q, _ => by cases q; exact .int _
  | .str _, _, q, _ => by cases q; exact .str _
  | .list ds, _, q, f => by unfold flat at f; cases f
  | .tuple ds, _, q, f => by
    cases q with
    | tup a b =>
      unfold flat at f
      refine .tup ?_ (dpa_flat h ds b f)
      rcases a with (a | ⟨o, a⟩) | a
      · exact .inl (.inl (h _ _ a (by intro xs e; cases e)))
      · exact .inl (.inr ⟨o, h _ _ a (by intro xs e; cases e)⟩)
      · exact .inr a
  | .dict _, _, q, f => by cases q
theorem dpa_flat {F G : Hp} (h : ∀ a o, F a = some o → (∀ xs, o ≠ .lst xs) → G a = some o) : ∀ (ds : List D) {vs : List V}, DpAll K F vs ds → flatL ds = true → DpAll K G vs ds
  | [], _, q, _ => by cases q; exact .nil
  | d :: ds, _, q, f => by
    unfold flatL at f
    rw [Bool.and_eq_true] at f
    cases q with
    | cons a b => exact .cons (dp_flat h d a f.1) (dpa_flat h ds b f.2)
end
theorem StOk.thwOk (ok : StOk K F0 H0 F H σ g) (E : Ext (frz F H σ g) H F' H') : StOk K F0 H0 (thw F' σ g) H' σ g := by
  have fF : Same F (thw F' σ g) := fun a o e => by
    have hn : ¬ Own σ g a := fun h => by
      obtain ⟨_, _, q, _⟩ := ok.ownAt h
      rw [q] at e; cases e
    rw [thw_not hn]
    exact E.f _ _ (by rw [frz_not hn]; exact e)
  have tF : Same (thw F' σ g) F' := fun a o e => by
    by_cases h : Own σ g a
    · rw [thw_own h] at e; cases e
    · rw [thw_not h] at e; exact e
  refine ⟨⟨ok.e.f.trans fF, ok.e.h.trans E.h, tF.trans E.s, fun a o e n => ?_⟩, ok.len, fun i d q => let ⟨v, a, b⟩ := ok.dat i d q; ⟨v, a, dp_mono fF d b⟩, fun i ds q => ?_, ok.inj⟩
  · have hn : ¬ Own σ g a := fun h => by rw [thw_own h] at e; cases e
    rw [thw_not hn] at e
    cases q : frz F H σ g a with
    | some u =>
      rw [frz_not hn] at q
      exact ok.e.n a u q n
    | none => exact ok.e.h.free (E.n a o e q)
  · obtain ⟨a, xs, h1, h2, h3, h4, h5⟩ := ok.own i ds q
    exact ⟨a, xs, h1, E.h _ _ h2, thw_own ⟨i, ds, q, h1⟩, h4, dpa_mono fF ds h5⟩
theorem StOk.thwKeep (ok : StOk K F0 H0 F H σ g) (E : Ext (frz F H σ g) H F' H') : ∀ a o, F' a = some o → (∀ xs, o ≠ .lst xs) → thw F' σ g a = some o := fun a o e n => by
  have hn : ¬ Own σ g a := fun h => by
    obtain ⟨xs, q, _, _⟩ := ok.ownAt h
    have : F' a = some (.lst xs) := E.f _ _ (by rw [frz_own h]; exact q)
    rw [this] at e
    cases e
    exact n xs rfl
  rw [thw_not hn]
  exact e
theorem xv_flat {mg : Str → Option Value} {G : Hp} {c : Str} {p : Option D} {cls : Value} {od : Option Addr} (x : XV K mg F c p cls od) (f : flatO p = true) (h : ∀ a o, F a = some o → (∀ xs, o ≠ .lst xs) → G a = some o) : XV K mg G c p cls od := by
  obtain ⟨C, h1, h2, h3⟩ := x
  refine ⟨C, h1, h2, ?_⟩
  cases p with
  | none => trivial
  | some d =>
    obtain ⟨dx, fl, v, q1, q2, q3, q4⟩ := h3
    exact ⟨dx, fl, v, q1, h _ _ q2 (by intro xs e; cases e), q3, dp_flat h d q4 f⟩
theorem StOk.set (ok : StOk K F0 H0 F H σ g) {i : Nat} {v : V} {d : D} (h : Dp K F v d) : StOk K F0 H0 F H (σ.set i (some v)) (g.set i (.dat d)) := by
  refine ⟨ok.e, by simpa using ok.len, fun j d' q => ?_, fun j ds q => ?_, fun j k ds es a q1 q2 q3 q4 => ?_⟩
  · rw [List.getElem?_set] at q ⊢
    by_cases e : i = j
    · subst e
      rw [if_pos rfl] at q ⊢
      by_cases l : i < g.length
      · rw [if_pos l] at q
        rw [if_pos (by rw [ok.len]; exact l)]
        cases q
        exact ⟨v, rfl, h⟩
      · rw [if_neg l] at q; cases q
    · rw [if_neg e] at q ⊢
      exact ok.dat j d' q
  · rw [List.getElem?_set] at q ⊢
    by_cases e : i = j
    · subst e
      rw [if_pos rfl] at q
      split at q <;> cases q
    · rw [if_neg e] at q ⊢
      exact ok.own j ds q
  · rw [List.getElem?_set] at q1 q2 q3 q4
    by_cases e : i = j
    · subst e
      rw [if_pos rfl] at q1
      split at q1 <;> cases q1
    · by_cases e2 : i = k
      · subst e2
        rw [if_pos rfl] at q2
        split at q2 <;> cases q2
      · rw [if_neg e] at q1 q3
        rw [if_neg e2] at q2 q4
        exact ok.inj j k ds es a q1 q2 q3 q4
/-- a list that nobody else holds -/
theorem StOk.setOwn (ok : StOk K F0 H0 F H σ g) {i : Nat} {a : Addr} {xs : List V} {ds : List D} (h : DpAll K F xs ds) (hH : H a = some (.lst xs)) (hF : F a = none) (h0 : H0 a = none) (ho : ∀ j es, j ≠ i → g[j]? = some (.own es) → σ[j]? ≠ some (some (.ref a))) :
    StOk K F0 H0 F H (σ.set i (some (.ref a))) (g.set i (.own ds)) := by
  refine ⟨ok.e, by simpa using ok.len, fun j d' q => ?_, fun j es q => ?_, fun j k ds' es b q1 q2 q3 q4 => ?_⟩
  · rw [List.getElem?_set] at q ⊢
    by_cases e : i = j
    · subst e
      rw [if_pos rfl] at q
      split at q <;> cases q
    · rw [if_neg e] at q ⊢
      exact ok.dat j d' q
  · rw [List.getElem?_set] at q ⊢
    by_cases e : i = j
    · subst e
      rw [if_pos rfl] at q ⊢
      by_cases l : i < g.length
      · rw [if_pos l] at q
        rw [if_pos (by rw [ok.len]; exact l)]
        cases q
        exact ⟨a, xs, rfl, hH, hF, h0, h⟩
      · rw [if_neg l] at q; cases q
    · rw [if_neg e] at q ⊢
      exact ok.own j es q
  · rw [List.getElem?_set] at q1 q2 q3 q4
    by_cases e : i = j
    · subst e
      by_cases e2 : i = k
      · exact e2
      · rw [if_neg e2] at q2 q4
        rw [if_pos rfl] at q3
        split at q3
        · cases q3
          exact absurd q4 (ho k es (Ne.symm e2) q2)
        · cases q3
    · by_cases e2 : i = k
      · subst e2
        rw [if_neg e] at q1 q3
        rw [if_pos rfl] at q4
        split at q4
        · cases q4
          exact absurd q3 (ho j ds' (Ne.symm e) q1)
        · cases q4
      · rw [if_neg e] at q1 q3
        rw [if_neg e2] at q2 q4
        exact ok.inj j k ds' es b q1 q2 q3 q4
/-- new ground for a part: what is frozen now stays -/
theorem StOk.base (ok : StOk K F0 H0 F H σ g) : StOk K F H0 F H σ g :=
  ⟨⟨Same.refl F, ok.e.h, ok.e.s, fun a o e n => by rw [n] at e; cases e⟩, ok.len, ok.dat, ok.own, ok.inj⟩
theorem Ext.back (b : Ext F0 H0 F H) (a : Ext F H0 F' H') : Ext F0 H0 F' H' :=
  ⟨b.f.trans a.f, a.h, a.s, fun x o e n => by
    cases q : F x with
    | some u => exact b.n x u q n
    | none => exact a.n x o e q⟩
theorem StOk.back {σ' : L2.St} {g' : Ce} (b : Ext F0 H0 F H) (ok : StOk K F H0 F' H' σ' g') : StOk K F0 H0 F' H' σ' g' :=
  ⟨b.back ok.e, ok.len, ok.dat, ok.own, ok.inj⟩
end
section
variable (K : PySem.W.Frag) (mg : Str → Option Value) (W : WX)
def SPost (F0 H0 : Hp) (D : Ends) : Out → Prop
  | .nx g => ∀ F H σ, StOk K F0 H0 F H σ g → D.nx σ H
  | .rt d => ∀ v F H, Ext F0 H0 F H → Dp K F v d → D.rt v H
  | .bk g => ∀ F H σ, StOk K F0 H0 F H σ g → D.bk σ H
  | .ct g => ∀ F H σ, StOk K F0 H0 F H σ g → D.ct σ H
  | .ex c p g => ∀ cls od F H σ, StOk K F0 H0 F H σ g → XV K mg F c p cls od → W cls od σ H
  | .bad => False
def tS (m : S) : TS := fun D σ H => ∃ F0 H0 F g, StOk K F0 H0 F H σ g ∧ SPost K mg W F0 H0 D (m g)
end
section
variable {K : PySem.W.Frag} {mg : Str → Option Value} {W : WX} {F0 H0 F H : Hp} {D D' : Ends} {o : Out}
theorem SPost.base (b : Ext F0 H0 F H) (h : SPost K mg W F0 H0 D o) : SPost K mg W F H0 D o := by
  cases o with
  | nx g => exact fun F' H' σ ok => h F' H' σ (ok.back b)
  | rt d => exact fun v F' H' e q => h v F' H' (b.back e) q
  | bk g => exact fun F' H' σ ok => h F' H' σ (ok.back b)
  | ct g => exact fun F' H' σ ok => h F' H' σ (ok.back b)
  | ex c p g => exact fun cls od F' H' σ ok x => h cls od F' H' σ (ok.back b) x
  | bad => exact h
end
abbrev MS (X : Cx) (W : WX) (st : Stmt) (m : S) : Prop := PS X st (tS X.K X.mg W m)
abbrev MSs (X : Cx) (W : WX) (st : List Stmt) (m : S) : Prop := PSs X st (tS X.K X.mg W m)
/-! ### an expression within a statement -/
/-- what an expression told, to what follows; g: the cells, if it raised -/
def R.to {α : Type} (x : R α) (g : Ce) (k : α → Out) : Out := match x with
  | .ok a => k a
  | .exc c p => if flatO p = true then .ex c p g else .bad
  | .bad => .bad
section
variable {X : Cx} {W : WX} {F0 H0 F H : Hp} {σ : L2.St} {g : Ce} {D : Ends}
theorem ev_vd {m : M} {k : MI.D → Out} {Q : VK} (ok : StOk X.K F0 H0 F H σ g) (h : SPost X.K X.mg W F0 H0 D ((m (vd g)).to g k))
    (q : ∀ d v F' H', m (vd g) = .ok d → StOk X.K F0 H0 F' H' σ g → Dp X.K F' v d → SPost X.K X.mg W F0 H0 D (k d) → Q v H') : tM X W m σ H Q := by
  refine ⟨F, vd g, ok.e.s, ok.vd, ?_⟩
  cases e : m (vd g) with
  | ok d => rw [e] at h; exact fun v F' H' E hd => q d v F' H' e (ok.mono E) hd h
  | exc c p =>
    rw [e] at h
    unfold R.to at h
    dsimp only at h
    split at h
    · exact fun cls od F' H' E x => h cls od F' H' σ (ok.mono E) x
    · exact h.elim
  | bad => rw [e] at h; exact h
theorem evA_vd {m : Vw → R (List MI.D)} {k : List MI.D → Out} {Q : List V → Hp → Prop} (ok : StOk X.K F0 H0 F H σ g) (h : SPost X.K X.mg W F0 H0 D ((m (vd g)).to g k))
    (q : ∀ ds vs F' H', m (vd g) = .ok ds → StOk X.K F0 H0 F' H' σ g → DpAll X.K F' vs ds → SPost X.K X.mg W F0 H0 D (k ds) → Q vs H') : tA X W m σ H Q := by
  refine ⟨F, vd g, ok.e.s, ok.vd, ?_⟩
  cases e : m (vd g) with
  | ok d => rw [e] at h; exact fun v F' H' E hd => q d v F' H' e (ok.mono E) hd h
  | exc c p =>
    rw [e] at h
    unfold R.to at h
    dsimp only at h
    split at h
    · exact fun cls od F' H' E x => h cls od F' H' σ (ok.mono E) x
    · exact h.elim
  | bad => rw [e] at h; exact h
theorem ev_va {m : M} {k : MI.D → Out} {Q : VK} (ok : StOk X.K F0 H0 F H σ g) (h : SPost X.K X.mg W F0 H0 D ((m (va g)).to g k))
    (q : ∀ d v F' H', m (va g) = .ok d → StOk X.K F0 H0 F' H' σ g → (flat d = true → Dp X.K F' v d) → SPost X.K X.mg W F0 H0 D (k d) → Q v H') : tM X W m σ H Q := by
  refine ⟨frz F H σ g, va g, ok.frzH, ok.va, ?_⟩
  cases e : m (va g) with
  | ok d => rw [e] at h; exact fun v F' H' E hd => q d v _ H' e (ok.thwOk E) (fun f => dp_flat (ok.thwKeep E) d hd f) h
  | exc c p =>
    rw [e] at h
    unfold R.to at h
    dsimp only at h
    split at h
    · rename_i fl
      exact fun cls od F' H' E x => h cls od _ H' σ (ok.thwOk E) (xv_flat x fl (ok.thwKeep E))
    · exact h.elim
  | bad => rw [e] at h; exact h
theorem evT_va {m : Vw → R Bool} {k : Bool → Out} {Q : Bool → Hp → Prop} (ok : StOk X.K F0 H0 F H σ g) (h : SPost X.K X.mg W F0 H0 D ((m (va g)).to g k))
    (q : ∀ b F' H', m (va g) = .ok b → StOk X.K F0 H0 F' H' σ g → SPost X.K X.mg W F0 H0 D (k b) → Q b H') : tT X W m σ H Q := by
  refine ⟨frz F H σ g, va g, ok.frzH, ok.va, ?_⟩
  cases e : m (va g) with
  | ok b => rw [e] at h; exact fun F' H' E => q b _ H' e (ok.thwOk E) h
  | exc c p =>
    rw [e] at h
    unfold R.to at h
    dsimp only at h
    split at h
    · rename_i fl
      exact fun cls od F' H' E x => h cls od _ H' σ (ok.thwOk E) (xv_flat x fl (ok.thwKeep E))
    · exact h.elim
  | bad => rw [e] at h; exact h
end
/-! ### statements -/
def sNop : S := .nx
def sSeq (a b : S) : S := fun g => match a g with
  | .nx g' => b g'
  | o => o
def sIf (t : Vw → R Bool) (a b : S) : S := fun g => (t (va g)).to g fun k => if k = true then a g else b g
def sRet (m : M) : S := fun g => match m (va g) with
  | .ok d => .rt d
  | .exc c p => if flatO p = true then .ex c p g else .bad
  | .bad => .bad
def sRetN : S := fun _ => .rt .none
def sBreak : S := .bk
def sCont : S := .ct
def sExpr (m : M) : S := fun g => (m (va g)).to g fun _ => .nx g
def sSet (i : Nat) (m : M) : S := fun g => (m (vd g)).to g fun d => .nx (g.set i (.dat d))
def sSetF (i : Nat) (m : M) : S := fun g => (m (va g)).to g fun d => if flat d = true then .nx (g.set i (.dat d)) else .bad
def sPar (i j : Nat) (m : Vw → R (List D)) : S := fun g => (m (vd g)).to g fun ds => match ds with
  | [x, y] => .nx ((g.set i (.dat x)).set j (.dat y))
  | _ => .bad
def sRaise (c : Str) : S := fun g => .ex c none g
/-- what is own becomes data -/
def frzC (zs : List Nat) (g : Ce) : Ce := g.mapIdx fun i c => match c with
  | .own ds => if zs.contains i then .dat (.list ds) else .own ds
  | c => c
def sFrz (zs : List Nat) (m : S) : S := fun g => m (frzC zs g)
def sNewL (i : Nat) (m : Vw → R (List D)) : S := fun g => (m (vd g)).to g fun ds => if ds.length ≤ most then .nx (g.set i (.own ds)) else .bad
def sApp (i : Nat) (m : M) : S := fun g => (m (vd g)).to g fun d => match g[i]? with
  | some (.own ds) => if ds.length < most then .nx (g.set i (.own (ds ++ [d]))) else .bad
  | _ => .bad
section
variable {X : Cx} {W : WX} {pos : Pos} {st : Stmt} {rest : List Stmt} {a b : S}
theorem mss_nil : MSs X W [] sNop := PSs.imp pss_nil fun D σ H ⟨F0, H0, F, g, ok, h⟩ => h F H σ ok
theorem mss_cons (h1 : MS X W st a) (h2 : MSs X W rest b) : MSs X W (st :: rest) (sSeq a b) := by
  refine PSs.imp (pss_cons h1 h2) fun D σ H ⟨F0, H0, F, g, ok, h⟩ => ⟨F0, H0, F, g, ok, ?_⟩
  unfold sSeq at h
  cases e : a g with
  | nx g' =>
    rw [e] at h
    intro F' H' σ' ok'
    exact ⟨F0, H0, F', g', ok', h⟩
  | rt d => rw [e] at h; exact h
  | bk g' => rw [e] at h; exact h
  | ct g' => rw [e] at h; exact h
  | ex c p g' => rw [e] at h; exact h
  | bad => rw [e] at h; exact h
theorem mss_one (h1 : MS X W st a) : MSs X W [st] a := pss_one h1
theorem ms_pass : MS X W (.Pass pos) sNop := PS.imp ps_pass fun D σ H ⟨F0, H0, F, g, ok, h⟩ => h F H σ ok
theorem ms_break : MS X W (.Break pos) sBreak := PS.imp ps_break fun D σ H ⟨F0, H0, F, g, ok, h⟩ => h F H σ ok
theorem ms_cont : MS X W (.Continue pos) sCont := PS.imp ps_continue fun D σ H ⟨F0, H0, F, g, ok, h⟩ => h F H σ ok
theorem ms_if {c : Expr} {p q : List Stmt} {t : Vw → R Bool} (hc : MT X W c t) (ha : MSs X W p a) (hb : MSs X W q b) : MS X W (.If c p q pos) (sIf t a b) := by
  refine PS.imp (ps_if hc ha hb) fun D σ H ⟨F0, H0, F, g, ok, h⟩ => evT_va ok h fun k F' H' e ok' h' => ?_
  cases k with
  | true => exact ⟨F0, H0, F', g, ok', h'⟩
  | false => exact ⟨F0, H0, F', g, ok', h'⟩
theorem ms_ret {e : Expr} {m : M} (he : ME X W e m) : MS X W (.Return (some e) pos) (sRet m) := by
  refine PS.imp (ps_ret he) fun D σ H ⟨F0, H0, F, g, ok, h⟩ => ⟨frz F H σ g, va g, ok.frzH, ok.va, ?_⟩
  unfold sRet at h
  cases e : m (va g) with
  | ok d =>
    rw [e] at h
    intro v F' H' E hd
    refine h v F' H' ⟨ok.e.f.trans (ok.frzF.trans E.f), ok.e.h.trans E.h, E.s, fun a o q n => ?_⟩ hd
    cases z : frz F H σ g a with
    | some u =>
      by_cases w : Own σ g a
      · obtain ⟨_, _, _, y⟩ := ok.ownAt w
        exact y
      · rw [frz_not w] at z
        exact ok.e.n a u z n
    | none => exact ok.e.h.free (E.n a o q z)
  | exc c p =>
    rw [e] at h
    dsimp only at h
    split at h
    · rename_i fl
      exact fun cls od F' H' E x => h cls od _ H' σ (ok.thwOk E) (xv_flat x fl (ok.thwKeep E))
    · exact h.elim
  | bad => rw [e] at h; exact h
theorem ms_retN : MS X W (.Return none pos) sRetN := PS.imp ps_retN fun D σ H ⟨F0, H0, F, g, ok, h⟩ => h .non F H ok.e .non
theorem ms_expr {e : Expr} {m : M} (he : ME X W e m) (hs : swapsWith e none pos.line X.env = pure false) : MS X W (.Expr e pos) (sExpr m) := by
  refine PS.imp (ps_expr he hs) fun D σ H ⟨F0, H0, F, g, ok, h⟩ => ?_
  exact ev_va (Q := fun _ H1 => D.nx σ H1) ok h fun d v F' H' e ok' _ h' => h' F' H' σ ok'
theorem ms_set {i : Nat} {x : Str} {e : Expr} {m : M} {pos' : Pos} (hN : X.N.Nodup) (hi : X.N[i]? = some x) (hx : Loc X.env.scope x) (he : ME X W e m) (hs : swapsWith e (some (.Name x pos')) pos.line X.env = pure false) (hf : X.fn x = true ∨ X.env.scope.names.lookup x = some .local) :
    MS X W (.Assign [.Name x pos'] e pos) (sSet i m) := by
  refine PS.imp (ps_set hN hi hx he hs hf) fun D σ H ⟨F0, H0, F, g, ok, h⟩ => ?_
  exact ev_vd (Q := fun v H1 => D.nx (σ.set i (some v)) H1) ok h fun d v F' H' e ok' hd h' => h' F' H' _ (ok'.set hd)
theorem ms_setF {i : Nat} {x : Str} {e : Expr} {m : M} {pos' : Pos} (hN : X.N.Nodup) (hi : X.N[i]? = some x) (hx : Loc X.env.scope x) (he : ME X W e m) (hs : swapsWith e (some (.Name x pos')) pos.line X.env = pure false) (hf : X.fn x = true ∨ X.env.scope.names.lookup x = some .local) :
    MS X W (.Assign [.Name x pos'] e pos) (sSetF i m) := by
  refine PS.imp (ps_set hN hi hx he hs hf) fun D σ H ⟨F0, H0, F, g, ok, h⟩ => ?_
  refine ev_va (Q := fun v H1 => D.nx (σ.set i (some v)) H1) ok h fun d v F' H' e ok' hd h' => ?_
  split at h'
  · rename_i f
    exact h' F' H' _ (ok'.set (hd f))
  · exact h'.elim
theorem ms_par {i j : Nat} {x y : Str} {e f : Expr} {m : Vw → R (List D)} {px py pt : Pos} {kt k2 pt2} (hc : X.calm = true) (hN : X.N.Nodup) (hi : X.N[i]? = some x) (hj : X.N[j]? = some y) (hij : i ≠ j)
    (hx : X.env.scope.names.lookup x = some .local) (hy : X.env.scope.names.lookup y = some .local) (ha : MA X W [e, f] m)
    (hw : swappedStores [.Tuple [.Name x px, .Name y py] kt pt] (.Tuple [e, f] k2 pt2) X.env = pure (some [x, y]))
    (hs : swapsWithSole [.Tuple [.Name x px, .Name y py] kt pt] (.Tuple [e, f] k2 pt2) pos.line X.env = pure false) :
    MS X W (.Assign [.Tuple [.Name x px, .Name y py] kt pt] (.Tuple [e, f] k2 pt2) pos) (sPar i j m) := by
  refine PS.imp (ps_par hc hN hi hj hij hx hy ha hw hs) fun D σ H ⟨F0, H0, F, g, ok, h⟩ => ?_
  refine evA_vd ok h fun ds vs F' H' e ok' hd h' => ?_
  cases hd with
  | nil => exact h'.elim
  | cons h1 r =>
    cases r with
    | nil => exact h'.elim
    | cons h2 r =>
      cases r with
      | nil => exact ⟨_, _, rfl, h' F' H' _ ((ok'.set h1).set h2)⟩
      | cons h3 r => exact h'.elim
theorem ms_raise {c : Str} {e : Expr} {C : Addr} (hc : X.calm = true) (tk : Takes X W) (gC : X.mg c = some (.ref C)) (he : PMk X e (fun _ H Q => Q (.ref C) none H)) : MS X W (.Raise (some e) none pos) (sRaise c) :=
  PS.imp (ps_raise hc tk he) fun D σ H ⟨F0, H0, F, g, ok, h⟩ => h (.ref C) none F H σ ok ⟨C, gC, rfl, trivial⟩
theorem frz_ok {K : PySem.W.Frag} {F0 H0 F H : Hp} {σ : L2.St} {g : Ce} (zs : List Nat) (ok : StOk K F0 H0 F H σ g) : ∃ F', StOk K F0 H0 F' H σ (frzC zs g) := by
  classical
  let P : Addr → Prop := fun a => ∃ i ds, zs.contains i = true ∧ g[i]? = some (Cell.own ds) ∧ σ[i]? = some (some (V.ref a))
  let F' : Hp := fun a => if P a then H a else F a
  have own_of : ∀ a, P a → ∃ xs, H a = some (.lst xs) ∧ F a = none ∧ H0 a = none := fun a ⟨i, ds, _, h1, h2⟩ => ok.ownAt ⟨i, ds, h1, h2⟩
  have fF : Same F F' := fun a o e => by
    by_cases h : P a
    · obtain ⟨_, _, q, _⟩ := own_of a h
      rw [q] at e; cases e
    · show (if P a then H a else F a) = _
      rw [if_neg h]; exact e
  have fH : Same F' H := fun a o e => by
    have e' : (if P a then H a else F a) = some o := e
    by_cases h : P a
    · rw [if_pos h] at e'; exact e'
    · rw [if_neg h] at e'; exact ok.e.s _ _ e'
  have cell : ∀ i : Nat, (frzC zs g)[i]? = (g[i]?).map fun c => match c with
      | .own ds => if zs.contains i then Cell.dat (.list ds) else .own ds
      | c => c := fun i => by
    unfold frzC
    rw [List.getElem?_mapIdx]
  refine ⟨F', ⟨ok.e.f.trans fF, ok.e.h, fH, fun a o e n => ?_⟩, by unfold frzC; simpa using ok.len, fun i d q => ?_, fun i ds q => ?_, fun i j ds es a q1 q2 q3 q4 => ?_⟩
  · have e' : (if P a then H a else F a) = some o := e
    by_cases h : P a
    · obtain ⟨_, _, _, y⟩ := own_of a h
      exact y
    · rw [if_neg h] at e'; exact ok.e.n a o e' n
  · rw [cell] at q
    cases e : g[i]? with
    | none => rw [e] at q; cases q
    | some c =>
      rw [e] at q
      cases c with
      | un => cases q
      | dat d' =>
        cases q
        obtain ⟨v, h1, h2⟩ := ok.dat i d e
        exact ⟨v, h1, dp_mono fF d h2⟩
      | own ds =>
        by_cases z : zs.contains i = true
        · have q' : (if zs.contains i = true then Cell.dat (.list ds) else .own ds) = Cell.dat d := Option.some.inj q
          rw [if_pos z] at q'
          cases q'
          obtain ⟨a, xs, h1, h2, h3, h4, h5⟩ := ok.own i ds e
          refine ⟨_, h1, .lst (.inl (.inl ?_)) (dpa_mono fF ds h5)⟩
          show (if P a then H a else F a) = _
          rw [if_pos ⟨i, ds, z, e, h1⟩]
          exact h2
        · have q' : (if zs.contains i = true then Cell.dat (.list ds) else .own ds) = Cell.dat d := Option.some.inj q
          rw [if_neg z] at q'
          cases q'
  · rw [cell] at q
    cases e : g[i]? with
    | none => rw [e] at q; cases q
    | some c =>
      rw [e] at q
      cases c with
      | un => cases q
      | dat d' => cases q
      | own es =>
        by_cases z : zs.contains i = true
        · have q' : (if zs.contains i = true then Cell.dat (.list es) else .own es) = Cell.own ds := Option.some.inj q
          rw [if_pos z] at q'
          cases q'
        · have q' : (if zs.contains i = true then Cell.dat (.list es) else .own es) = Cell.own ds := Option.some.inj q
          rw [if_neg z] at q'
          cases q'
          obtain ⟨a, xs, h1, h2, h3, h4, h5⟩ := ok.own i ds e
          refine ⟨a, xs, h1, h2, ?_, h4, dpa_mono fF ds h5⟩
          show (if P a then H a else F a) = _
          rw [if_neg]
          · exact h3
          · rintro ⟨j, ds', zj, gj, sj⟩
            have := ok.inj i j ds ds' a e gj h1 sj
            subst this
            exact z zj
  · have un : ∀ (i : Nat) (ds : List D), (frzC zs g)[i]? = some (.own ds) → g[i]? = some (.own ds) := fun i ds q => by
      rw [cell] at q
      cases e : g[i]? with
      | none => rw [e] at q; cases q
      | some c =>
        rw [e] at q
        cases c with
        | un => cases q
        | dat d' => cases q
        | own es =>
          by_cases z : zs.contains i = true
          · have q' : (if zs.contains i = true then Cell.dat (.list es) else .own es) = Cell.own ds := Option.some.inj q
            rw [if_pos z] at q'
            cases q'
          · have q' : (if zs.contains i = true then Cell.dat (.list es) else .own es) = Cell.own ds := Option.some.inj q
            rw [if_neg z] at q'
            cases q'
            rfl
    exact ok.inj i j ds es a (un i ds q1) (un j es q2) q3 q4
theorem ms_frz (zs : List Nat) (h : MS X W st a) : MS X W st (sFrz zs a) := by
  refine PS.imp h fun D σ H ⟨F0, H0, F, g, ok, q⟩ => ?_
  obtain ⟨F', ok'⟩ := frz_ok zs ok
  exact ⟨F0, H0, F', _, ok', q⟩
theorem ms_newL {i : Nat} {x : Str} {es : List Expr} {m : Vw → R (List D)} {pos' pos2 : Pos} (hN : X.N.Nodup) (hi : X.N[i]? = some x) (hx : Loc X.env.scope x) (he : MA X W es m) (hs : swapsWith (.List es pos2) (some (.Name x pos')) pos.line X.env = pure false) (hf : X.fn x = true ∨ X.env.scope.names.lookup x = some .local) :
    MS X W (.Assign [.Name x pos'] (.List es pos2) pos) (sNewL i m) := by
  refine PS.imp (ps_set hN hi hx (pe_lst he) hs hf) fun D σ H ⟨F0, H0, F, g, ok, h⟩ => ?_
  refine evA_vd (Q := fun xs H1 => xs.length ≤ sizeLine ∧ ∀ p, H1 p = none → D.nx (σ.set i (some (.ref p))) (upd H1 p (.lst xs))) ok h fun ds xs F' H' e ok' hd h' => ?_
  split at h'
  · rename_i l
    refine ⟨by rw [dpa_len hd]; exact most_le l, fun p hp => h' F' _ _ ?_⟩
    have E := Ext.loose (o := .lst xs) ok'.e.s hp
    refine (ok'.mono E).setOwn hd upd_same (ok'.e.s.free hp) (ok'.e.h.free hp) fun j es' _ hj hs' => ?_
    obtain ⟨b, ys, q1, q2, _⟩ := ok'.own j es' hj
    rw [q1] at hs'
    cases hs'
    rw [hp] at q2
    cases q2
  · exact h'.elim
end
end MI
set_option Elab.async false
set_option linter.all false
set_option maxRecDepth 100000
set_option maxHeartbeats 4000000
/-! MI3: loops, targets, try, calls, defs. -/
namespace MI
open PySem PySem.Spec PyProof.Rows L2
/-! ### targets -/
abbrev Tg := D → Ce → Option Ce
def gN (i : Nat) : Tg := fun d g => some (g.set i (.dat d))
abbrev Tgs := List D → Ce → Option Ce
def gsNil : Tgs := fun ds g => match ds with
  | [] => some g
  | _ => none
def gsCons (t : Tg) (u : Tgs) : Tgs := fun ds g => match ds with
  | d :: r => (t d g).bind (u r)
  | [] => none
/-- a, b, .. = a tuple -/
def gT (u : Tgs) : Tg := fun d g => match d with
  | .tuple ds => u ds g
  | _ => none
/-- what a target's rule asks -/
def TgOk (K : PySem.W.Frag) (r : TG) (t : Tg) : Prop := ∀ (F0 H0 F H : Hp) (σ : L2.St) (g g' : Ce) (v : V) (d : D) (Q : L2.St → Hp → Prop),
  StOk K F0 H0 F H σ g → Dp K F v d → t d g = some g' → (∀ σ', StOk K F0 H0 F H σ' g' → Q σ' H) → r v σ H Q
def TgsOk (K : PySem.W.Frag) (n : Nat) (r : TGs) (t : Tgs) : Prop := (∀ ds g g', t ds g = some g' → ds.length = n) ∧ ∀ (F0 H0 F H : Hp) (σ : L2.St) (g g' : Ce) (vs : List V) (ds : List D) (Q : L2.St → Hp → Prop),
  StOk K F0 H0 F H σ g → DpAll K F vs ds → t ds g = some g' → (∀ σ', StOk K F0 H0 F H σ' g' → Q σ' H) → r vs σ H Q
theorem gN_ok {K : PySem.W.Frag} {i : Nat} : TgOk K (gName i) (gN i) := fun F0 H0 F H σ g g' v d Q ok hd e q => by
  cases e
  exact q _ (ok.set hd)
theorem gsNil_ok {K : PySem.W.Frag} : TgsOk K 0 gNil gsNil := by
  refine ⟨fun ds g g' e => ?_, fun F0 H0 F H σ g g' vs ds Q ok hd e q => ?_⟩
  · cases ds with
    | nil => rfl
    | cons a b => cases e
  · cases hd with
    | nil =>
      cases e
      exact ⟨rfl, q _ ok⟩
    | cons a b => cases e
theorem gsCons_ok {K : PySem.W.Frag} {n : Nat} {r : TG} {rs : TGs} {t : Tg} {ts : Tgs} (h1 : TgOk K r t) (h2 : TgsOk K n rs ts) : TgsOk K (n + 1) (gCons r rs) (gsCons t ts) := ⟨fun ds g g' e => by
  cases ds with
  | nil => cases e
  | cons d ds =>
    have e' : (t d g).bind (ts ds) = some g' := e
    cases q : t d g with
    | none => rw [q] at e'; cases e'
    | some g1 =>
      rw [q] at e'
      exact congrArg Nat.succ (h2.1 ds g1 g' e'), fun F0 H0 F H σ g g' vs ds Q ok hd e Q' => by
  cases hd with
  | nil => cases e
  | @cons v vs d ds a b =>
    have e' : (t d g).bind (ts ds) = some g' := e
    cases q : t d g with
    | none => rw [q] at e'; cases e'
    | some g1 =>
      rw [q] at e'
      exact ⟨v, vs, rfl, h1 F0 H0 F H σ g g1 v d _ ok a q fun σ' ok' => h2.2 F0 H0 F H σ' g1 g' vs ds Q ok' b e' Q'⟩⟩
theorem gT_ok {K : PySem.W.Frag} {n : Nat} {r : TGs} {t : Tgs} (h : TgsOk K n r t) : TgOk K (gTup K n r) (gT t) := fun F0 H0 F H σ g g' v d Q ok hd e q => by
  cases hd with
  | tup a b =>
    exact ⟨_, _, rfl, same_t ok.e.s a, (dpa_len b).trans (h.1 _ _ _ e), h.2 F0 H0 F H σ g g' _ _ Q ok b e q⟩
  | _ => cases e
def sAsg (t : Tg) (m : M) : S := fun g => (m (vd g)).to g fun d => match t d g with
  | some g' => .nx g'
  | none => .bad
theorem ms_asg {X : Cx} {W : WX} {pos : Pos} {tg e : Expr} {m : M} {r : TG} {t : Tg} (he : ME X W e m) (hg : PG X tg r) (ht : TgOk X.K r t) (hs : swapsWithSole [tg] e pos.line X.env = pure false) (hw : swappedStores [tg] e X.env = pure none) (h1 : (assignEach [tg] X.env).map (·.2) = [assign tg X.env]) : MS X W (.Assign [tg] e pos) (sAsg t m) := by
  refine PS.imp (ps_asg he hg hs hw h1) fun D σ H ⟨F0, H0, F, g, ok, h⟩ => ?_
  refine ev_vd (Q := fun v H1 => r v σ H1 D.nx) ok h fun d v F' H' e ok' hd h' => ?_
  cases q : t d g with
  | none => rw [q] at h'; exact h'.elim
  | some g' =>
    rw [q] at h'
    exact ht F0 H0 F' H' σ g g' v d D.nx ok' hd q fun σ' ok2 => h' F' H' σ' ok2
/-! ### for -/
def loopF (t : Tg) (b : S) : List D → S
  | [], g => .nx g
  | d :: ds, g => match t d g with
    | none => .bad
    | some g1 => match b g1 with
      | .nx g2 => loopF t b ds g2
      | .ct g2 => loopF t b ds g2
      | .bk g2 => .nx g2
      | o => o
def sForL (m : M) (t : Tg) (b : S) : S := fun g => (m (vd g)).to g fun d => match d with
  | .list ds => loopF t b ds g
  | .tuple ds => loopF t b ds g
  | _ => .bad
def iLT (K : PySem.W.Frag) (tl : TE) : TI := fun σ H R => iList K tl σ H R ∨ iTup K tl σ H R
theorem pi_lt {X : Cx} {tg l : Expr} {tl : TE} (hl : PE X l tl) : PI X tg l (iLT X.K tl) := ⟨fun pins s σ H R I h => by
  rcases h with h | h
  · exact (pi_list hl).run pins s σ H R I h
  · exact (pi_tup hl).run pins s σ H R I h⟩
/-- one turn -/
theorem loopF_turn {K : PySem.W.Frag} {mg : Str → Option Value} {W : WX} {F0 H0 F H : Hp} {σ : L2.St} {g : Ce} {D : Ends} {r : TG} {t : Tg} {b : S} {d : MI.D} {ds : List MI.D} {x : V} {N : L2.St → Hp → Prop} (ht : TgOk K r t)
    (ok : StOk K F0 H0 F H σ g) (hd : Dp K F x d) (h : SPost K mg W F0 H0 D (loopF t b (d :: ds) g))
    (n : ∀ F' H' σ' g', StOk K F H0 F' H' σ' g' → SPost K mg W F0 H0 D (loopF t b ds g') → N σ' H') :
    r x σ H fun σ2 H2 => tS K mg W b { D with nx := N, ct := N, bk := D.nx } σ2 H2 := by
  unfold loopF at h
  cases q : t d g with
  | none => rw [q] at h; exact h.elim
  | some g1 =>
    rw [q] at h
    refine ht F0 H0 F H σ g g1 x d _ ok hd q fun σ' ok' => ⟨F, H0, F, g1, ok'.base, ?_⟩
    dsimp only at h
    cases e : b g1 with
    | nx g2 =>
      rw [e] at h
      exact fun F' H' σ2 ok2 => n F' H' σ2 g2 ok2 h
    | ct g2 =>
      rw [e] at h
      exact fun F' H' σ2 ok2 => n F' H' σ2 g2 ok2 h
    | bk g2 =>
      rw [e] at h
      exact fun F' H' σ2 ok2 => h F' H' σ2 (ok2.back ok'.e)
    | rt v =>
      rw [e] at h
      have h' : SPost K mg W F0 H0 D (.rt v) := h
      exact fun v F' H' E q => h' v F' H' (ok'.e.back E) q
    | ex c p g2 =>
      rw [e] at h
      have h' : SPost K mg W F0 H0 D (.ex c p g2) := h
      exact fun cls od F' H' σ2 ok2 x => h' cls od F' H' σ2 (ok2.back ok'.e) x
    | bad => rw [e] at h; exact h
theorem drop_get {α : Type} {l : List α} {i : Nat} {x : α} (h : l[i]? = some x) : l.drop i = x :: l.drop (i + 1) := by
  obtain ⟨hi, e⟩ := List.getElem?_eq_some_iff.mp h
  rw [List.drop_eq_getElem_cons hi, e]
theorem ms_forL {X : Cx} {W : WX} {pos : Pos} {tg iter : Expr} {body : List Stmt} {m : M} {r : TG} {t : Tg} {b : S} (hp : PassesOwn (model X.prog X.w) X.A X.env X.xe) (hc : X.calm = true) (he : ME X W iter m) (hg : PG X tg r) (ht : TgOk X.K r t) (hb : MSs X W body b)
    (hs : ∀ x, foldedSetIterable iter X.env x = pure x) : MS X W (.For tg iter body [] pos) (sForL m t b) := by
  refine PS.imp (ps_for hp hc (pi_lt he) hg hb hs) fun D σ H ⟨F0, H0, F, g, ok, h⟩ => ?_
  have key : ∀ (ds : List MI.D) (xs : List V), SPost X.K X.mg W F0 H0 D (loopF t b ds g) → ∀ F' H', StOk X.K F0 H0 F' H' σ g → DpAll X.K F' xs ds →
      ∃ Pv : Nat → L2.St → Hp → Prop, Pv 0 σ H' ∧ (∀ i σ H, Pv i σ H → ∃ F2, Same F' F2 ∧ Same F2 H) ∧ (∀ i x σ H, xs[i]? = some x → Pv i σ H → r x σ H fun σ2 H2 => tS X.K X.mg W b { D with nx := Pv (i + 1), ct := Pv (i + 1), bk := D.nx } σ2 H2) ∧ ∀ σ H, Pv xs.length σ H → D.nx σ H := by
    intro ds xs hl F' H' ok' hd
    refine ⟨fun i σ H => ∃ F2 g2, Ext F' H0 F2 H ∧ StOk X.K F0 H0 F2 H σ g2 ∧ SPost X.K X.mg W F0 H0 D (loopF t b (ds.drop i) g2), ⟨F', g, ok'.base.e, ok', by simpa using hl⟩, fun i σ H ⟨F2, g2, E, ok2, _⟩ => ⟨F2, E.f, ok2.e.s⟩, fun i x σ H hi ⟨F2, g2, E, ok2, h2⟩ => ?_, fun σ H ⟨F2, g2, E, ok2, h2⟩ => ?_⟩
    · obtain ⟨d, e, dx⟩ := dpa_get' hd hi
      rw [drop_get e] at h2
      exact loopF_turn ht ok2 (dp_mono E.f d dx) h2 fun F3 H3 σ3 g3 ok3 h3 => ⟨F3, g3, E.back ok3.e, ok3.back ok2.e, h3⟩
    · rw [List.drop_of_length_le (by rw [dpa_len hd]; exact Nat.le_refl _)] at h2
      exact h2 F2 H σ ok2
  have h' : SPost X.K X.mg W F0 H0 D ((m (MI.vd g)).to g fun d => match d with
      | .list ds => loopF t b ds g
      | .tuple ds => loopF t b ds g
      | _ => .bad) := h
  cases em : m (MI.vd g) with
  | ok d =>
    cases d with
    | list ds =>
      refine .inl (ev_vd ok h' fun d v F' H' e ok' hd hl => ?_)
      rw [em] at e
      cases e
      cases hd with
      | lst hs ha =>
        obtain ⟨Pv, p0, ps, pt, pd⟩ := key ds _ hl F' H' ok' ha
        exact ⟨_, rfl, ⟨_, ok'.e.s.seq hs⟩, for_list Pv p0 (fun i σ H _ p => let ⟨F2, a, b⟩ := ps i σ H p; (a.trans b).seq hs) pt pd⟩
    | tuple ds =>
      refine .inr (ev_vd ok h' fun d v F' H' e ok' hd hl => ?_)
      rw [em] at e
      cases e
      cases hd with
      | tup hs ha =>
        obtain ⟨Pv, p0, ps, pt, pd⟩ := key ds _ hl F' H' ok' ha
        exact ⟨_, rfl, ⟨_, same_t ok'.e.s hs⟩, for_tup Pv p0 (fun i σ H _ p => let ⟨F2, a, b⟩ := ps i σ H p; same_t (a.trans b) hs) pt pd⟩
    | _ => rw [em] at h'; exact h'.elim
  | exc c p =>
    refine .inl (ev_vd (k := fun _ => .bad) (D := D) ok ?_ fun d v F' H' e ok' hd hl => hl.elim)
    rw [em] at h' ⊢
    exact h'
  | bad =>
    rw [em] at h'
    exact h'.elim
/-! ### while -/
def loopW (t : Vw → R Bool) (b : S) : Nat → S
  | 0, _ => .bad
  | n + 1, g => (t (va g)).to g fun k => if k = true then (match b g with
      | .nx g2 => loopW t b n g2
      | .ct g2 => loopW t b n g2
      | .bk g2 => .nx g2
      | o => o) else .nx g
theorem ms_while {X : Cx} {W : WX} {pos : Pos} {c : Expr} {body : List Stmt} {t : Vw → R Bool} {b : S} {n : Nat} (hp : PassesOwn (model X.prog X.w) X.A X.env X.xe) (hc : MT X W c t) (hb : MSs X W body b) : MS X W (.While c body [] pos) (loopW t b n) := by
  refine PS.imp (ps_while hp hc hb) fun D σ H ⟨F0, H0, F, g, ok, h⟩ => ?_
  refine ⟨fun m σ H => ∃ F g, StOk X.K F0 H0 F H σ g ∧ SPost X.K X.mg W F0 H0 D (loopW t b m g), ⟨n, F, g, ok, h⟩, ?_⟩
  rintro m σ H ⟨F, g, ok, h⟩
  cases m with
  | zero => exact h.elim
  | succ m =>
    refine evT_va ok h fun k F' H' e ok' h' => ?_
    cases k with
    | false => exact h' F' H' σ ok'
    | true =>
      rw [if_pos rfl] at h' ⊢
      refine ⟨fun σ' H' => ∃ F g, StOk X.K F0 H0 F H' σ' g ∧ SPost X.K X.mg W F0 H0 D (loopW t b m g), fun σ' H' q => ⟨m, Nat.lt_succ_self m, q⟩, F0, H0, F', g, ok', ?_⟩
      cases e : b g with
      | nx g2 =>
        rw [e] at h'
        exact fun F3 H3 σ3 ok3 => ⟨F3, g2, ok3, h'⟩
      | ct g2 =>
        rw [e] at h'
        exact fun F3 H3 σ3 ok3 => ⟨F3, g2, ok3, h'⟩
      | bk g2 =>
        rw [e] at h'
        exact fun F3 H3 σ3 ok3 => h' F3 H3 σ3 ok3
      | rt v => rw [e] at h'; exact h'
      | ex c p g2 => rw [e] at h'; exact h'
      | bad => rw [e] at h'; exact h'
/-! ### range -/
def rngL (lo c : Int) (n : Nat) : List D := (List.range n).map fun (i : Nat) => .int (lo + (i : Int) * c)
theorem rngL_get {lo c : Int} {n i : Nat} (h : i < n) : (rngL lo c n)[i]? = some (.int (lo + (i : Int) * c)) := by
  unfold rngL
  rw [List.getElem?_map, List.getElem?_range h]
  rfl
theorem rngL_len {lo c : Int} {n : Nat} : (rngL lo c n).length = n := by
  unfold rngL
  rw [List.length_map, List.length_range]
def lim62 (i : Int) : Bool := decide (-(2 ^ 62) ≤ i) && decide (i < 2 ^ 62)
def rng1 : List D → Option (List D)
  | [.int j] => if lim62 j = true then some (rngL 0 1 j.toNat) else none
  | _ => none
def rng2 : List D → Option (List D)
  | [.int i, .int j] => if (lim62 i && lim62 j) = true then some (rngL i 1 (j - i).toNat) else none
  | _ => none
def rng3 : List D → Option (List D)
  | [.int i, .int j, .int c] => if c ≠ 0 ∧ c.natAbs < 1073741824 ∧ Builtin.Range.small i j c = true ∧ 0 ≤ Builtin.Range.rangeSize i j c then some (rngL i c (Builtin.Range.rangeSize i j c).toNat) else none
  | _ => none
def sForR (f : List D → Option (List D)) (m : Vw → R (List D)) (t : Tg) (b : S) : S := fun g => (m (vd g)).to g fun ds => match f ds with
  | some xs => loopF t b xs g
  | none => .bad
section
variable {X : Cx} {W : WX} {F0 H0 : Hp} {D : Ends} {r : TG} {t : Tg} {b : S} {g : Ce}
theorem rng_key (ht : TgOk X.K r t) {lo c : Int} {n : Nat} (hl : SPost X.K X.mg W F0 H0 D (loopF t b (rngL lo c n) g)) {F H : Hp} {σ : L2.St} (ok : StOk X.K F0 H0 F H σ g) :
    ∃ Pv : Nat → L2.St → Hp → Prop, Pv 0 σ H ∧ (∀ i σ H, i < n → Pv i σ H → r (.int (lo + (i : Int) * c)) σ H fun σ2 H2 => tS X.K X.mg W b { D with nx := Pv (i + 1), ct := Pv (i + 1), bk := D.nx } σ2 H2) ∧ ∀ σ H, Pv n σ H → D.nx σ H := by
  refine ⟨fun i σ H => ∃ F2 g2, StOk X.K F0 H0 F2 H σ g2 ∧ SPost X.K X.mg W F0 H0 D (loopF t b ((rngL lo c n).drop i) g2), ⟨F, g, ok, by simpa using hl⟩, fun i σ H hi ⟨F2, g2, ok2, h2⟩ => ?_, fun σ H ⟨F2, g2, ok2, h2⟩ => ?_⟩
  · rw [drop_get (rngL_get hi)] at h2
    exact loopF_turn ht ok2 (.int _) h2 fun F3 H3 σ3 g3 ok3 h3 => ⟨F3, g3, ok3.back ok2.e, h3⟩
  · rw [List.drop_of_length_le (by rw [rngL_len]; exact Nat.le_refl _)] at h2
    exact h2 F2 H σ ok2
end
theorem dpa1 {K : PySem.W.Frag} {F : Hp} {vs : List V} {a : D} (h : DpAll K F vs [a]) : ∃ v, vs = [v] ∧ Dp K F v a := by
  cases h with
  | cons a b => cases b; exact ⟨_, rfl, a⟩
theorem dpa2 {K : PySem.W.Frag} {F : Hp} {vs : List V} {a b : D} (h : DpAll K F vs [a, b]) : ∃ v w, vs = [v, w] ∧ Dp K F v a ∧ Dp K F w b := by
  cases h with
  | cons a r =>
    obtain ⟨w, rfl, q⟩ := dpa1 r
    exact ⟨_, _, rfl, a, q⟩
theorem dpa3 {K : PySem.W.Frag} {F : Hp} {vs : List V} {a b c : D} (h : DpAll K F vs [a, b, c]) : ∃ v w x, vs = [v, w, x] ∧ Dp K F v a ∧ Dp K F w b ∧ Dp K F x c := by
  cases h with
  | cons a r =>
    obtain ⟨w, x, rfl, q, q'⟩ := dpa2 r
    exact ⟨_, _, _, rfl, a, q, q'⟩
theorem dp_int {K : PySem.W.Frag} {F : Hp} {v : V} {i : Int} (h : Dp K F v (.int i)) : v = .int i := by cases h; rfl
section
variable {X : Cx} {W : WX} {pos p : Pos} {tg a b c : Expr} {body : List Stmt} {m : Vw → R (List D)} {r : TG} {t : Tg} {s : S}
theorem ms_for1 (hp : PassesOwn (model X.prog X.w) X.A X.env X.xe) (hc : X.calm = true) (hG : Gl X "range") (hm : X.mg "range" = none) (ha : MA X W [a] m) (hst : starEach [a] X.env = [(false, eval a X.env)]) (hg : PG X tg r) (ht : TgOk X.K r t) (hb : MSs X W body s)
    {q : Pos} (hs : ∀ x, foldedSetIterable (.Call (.Name "range" p) [a] [] q) X.env x = pure x) : MS X W (.For tg (.Call (.Name "range" p) [a] [] q) body [] pos) (sForR rng1 m t s) := by
  refine PS.imp (ps_for hp hc (pi_range1 hG hm ha hst) hg hb hs) fun D σ H ⟨F0, H0, F, g, ok, h⟩ => ?_
  refine evA_vd ok h fun ds vs F' H' e ok' hd h' => ?_
  unfold rng1 at h'
  split at h'
  · rename_i xs e1
    split at e1
    · rename_i j
      split at e1
      · rename_i l
        cases e1
        obtain ⟨v, rfl, hv⟩ := dpa1 hd
        cases dp_int hv
        unfold lim62 at l
        rw [Bool.and_eq_true, decide_eq_true_eq, decide_eq_true_eq] at l
        obtain ⟨Pv, p0, pt, pd⟩ := rng_key ht h' ok'
        refine ⟨j, rfl, l.1, l.2, for_range Pv p0 (fun i σ H hi q => ?_) pd⟩
        have := pt i σ H hi q
        rw [Int.mul_one] at this
        exact this
      · cases e1
    · cases e1
  · exact h'.elim
theorem ms_for2 (hp : PassesOwn (model X.prog X.w) X.A X.env X.xe) (hc : X.calm = true) (hG : Gl X "range") (hm : X.mg "range" = none) (ha : MA X W [a, b] m) (hst : starEach [a, b] X.env = [(false, eval a X.env), (false, eval b X.env)]) (hst2 : starEach [b] X.env = [(false, eval b X.env)]) (hg : PG X tg r) (ht : TgOk X.K r t) (hb : MSs X W body s)
    {q : Pos} (hs : ∀ x, foldedSetIterable (.Call (.Name "range" p) [a, b] [] q) X.env x = pure x) : MS X W (.For tg (.Call (.Name "range" p) [a, b] [] q) body [] pos) (sForR rng2 m t s) := by
  refine PS.imp (ps_for hp hc (pi_range2 hG hm ha hst hst2) hg hb hs) fun D σ H ⟨F0, H0, F, g, ok, h⟩ => ?_
  refine evA_vd ok h fun ds vs F' H' e ok' hd h' => ?_
  unfold rng2 at h'
  split at h'
  · rename_i xs e1
    split at e1
    · rename_i i j
      split at e1
      · rename_i l
        cases e1
        obtain ⟨v, w, rfl, hv, hw⟩ := dpa2 hd
        cases dp_int hv
        cases dp_int hw
        unfold lim62 at l
        rw [Bool.and_eq_true, Bool.and_eq_true, Bool.and_eq_true, decide_eq_true_eq, decide_eq_true_eq, decide_eq_true_eq, decide_eq_true_eq] at l
        obtain ⟨Pv, p0, pt, pd⟩ := rng_key ht h' ok'
        refine ⟨i, j, rfl, ⟨l.1.1, l.1.2, l.2.1, l.2.2⟩, for_range Pv p0 (fun i σ H hi q => ?_) pd⟩
        have := pt i σ H hi q
        rw [Int.mul_one] at this
        exact this
      · cases e1
    · cases e1
  · exact h'.elim
theorem ms_for3 (hp : PassesOwn (model X.prog X.w) X.A X.env X.xe) (hc : X.calm = true) (hG : Gl X "range") (hm : X.mg "range" = none) (ha : MA X W [a, b, c] m) {q : Pos} (hst : starEach [a, b, c] X.env = (false, eval a X.env) :: starEach [b, c] X.env) (hpl : (backTo q (starEach [b, c] X.env)).any (·.1) = false) (hg : PG X tg r) (ht : TgOk X.K r t) (hb : MSs X W body s)
    (hs : ∀ x, foldedSetIterable (.Call (.Name "range" p) [a, b, c] [] q) X.env x = pure x) : MS X W (.For tg (.Call (.Name "range" p) [a, b, c] [] q) body [] pos) (sForR rng3 m t s) := by
  refine PS.imp (ps_for hp hc (pi_range3 hG hm ha hst hpl) hg hb hs) fun D σ H ⟨F0, H0, F, g, ok, h⟩ => ?_
  refine evA_vd ok h fun ds vs F' H' e ok' hd h' => ?_
  unfold rng3 at h'
  split at h'
  · rename_i xs e1
    split at e1
    · rename_i i j c
      split at e1
      · rename_i l
        cases e1
        obtain ⟨v, w, x, rfl, hv, hw, hx⟩ := dpa3 hd
        cases dp_int hv
        cases dp_int hw
        cases dp_int hx
        obtain ⟨Pv, p0, pt, pd⟩ := rng_key ht h' ok'
        exact ⟨i, j, c, _, rfl, ⟨l.1, l.2.1, l.2.2.1, (Int.toNat_of_nonneg l.2.2.2).symm⟩, for_rangeC Pv p0 pt pd⟩
      · cases e1
    · cases e1
  · exact h'.elim
end
/-! ### try: .. except X: .. -/
/-- sub: whether an exception of that class is caught; none: no claim -/
def sTry (sub : Str → Option Bool) (b u : S) : S := fun g => match b g with
  | .ex c p g' => (match sub c with
    | some true => (match u g' with
      | .ex _ _ _ => .bad
      | o => o)
    | some false => .ex c p g'
    | none => .bad)
  | o => o
def SubOk (K : PySem.W.Frag) (mg : Str → Option Value) (sub : Str → Option Bool) (c : Value) : Prop := ∀ x k C, sub x = some k → mg x = some (.ref C) → PySem.W.exmOne K (.ref C) c = some k
theorem ms_try {X : Cx} {W : WX} {x : Str} {c : Value} {body suite : List Stmt} {b0 : Stmt} {np pos pos' : Pos} {sub : Str → Option Bool} {b u : S} (hs : X.stack = X.env :: X.outer) (hf : X.env.frame = some X.env.locals) (hc : Names X x c) (tk : Takes X W) (so : SubOk X.K X.mg sub c)
    (hb : ∀ (W' : WX) (pn : List (Addr × Obj)) (xe : Value → Shared → Prop), Takes (X.tr pn xe) W' → PassesOwn (model X.prog X.w) X.A X.env xe → MSs (X.tr pn xe) W' body b)
    (hsu : ∀ (a : Addr) (oe : Obj) (cls : Value) (d : Option Addr) (pn : List (Addr × Obj)), Zc cls d oe → (∃ vs, oe.data = .fields vs) → ∀ W' : WX, MSs (X.suite a ((a, oe) :: pn)) W' (b0 :: suite) u) :
    MS X W (.Try body [.ExceptHandler (some (.Name x np)) none (b0 :: suite) pos'] [] [] pos) (sTry sub b u) := by
  refine PS.imp (ps_try_only (tb := fun W' => tS X.K X.mg W' b) (ts := fun _ _ _ => tS X.K X.mg (fun _ _ _ _ => False) u) hs hf hc tk hb fun a oe cls d pn z f => hsu a oe cls d pn z f _) fun D σ H ⟨F0, H0, F, g, ok, h⟩ => ⟨F0, H0, F, g, ok, ?_⟩
  unfold sTry at h
  cases e : b g with
  | nx g' => rw [e] at h; exact h
  | rt d => rw [e] at h; exact h
  | bk g' => rw [e] at h; exact h
  | ct g' => rw [e] at h; exact h
  | bad => rw [e] at h; exact h
  | ex cx p g' =>
    rw [e] at h
    dsimp only at h
    intro cls od F' H' σ' ok' xv
    obtain ⟨C, gC, rfl, xr⟩ := id xv
    cases q : sub cx with
    | none => rw [q] at h; exact h.elim
    | some k =>
      rw [q] at h
      refine ⟨k, so _ _ _ q gC, fun ek a ha => ?_, fun ek => ?_⟩
      · subst ek
        refine ⟨F0, H0, F', g', ok', ?_⟩
        cases e2 : u g' with
        | ex c2 p2 g2 => rw [e2] at h; exact h.elim
        | nx g2 => rw [e2] at h; exact h
        | rt d => rw [e2] at h; exact h
        | bk g2 => rw [e2] at h; exact h
        | ct g2 => rw [e2] at h; exact h
        | bad => rw [e2] at h; exact h
      · subst ek
        exact h (.ref C) od F' H' σ' ok' xv
end MI
set_option Elab.async false
set_option linter.all false
set_option maxRecDepth 100000
set_option maxHeartbeats 4000000
/-! MI4: defs and calls; operations on data. -/
namespace MI
open PySem PySem.Spec PyProof.Rows L2
/-! ### defs -/
def run (n N : Nat) (m : S) (ds : List D) : R D := if ds.length = n then (match m (ds.map Cell.dat ++ List.replicate (N - n) Cell.un) with
  | .nx _ => .ok .none
  | .rt d => .ok d
  | .ex c p _ => .exc c p
  | _ => .bad) else .bad
def FPost (K : PySem.W.Frag) (mg : Str → Option Value) (F H : Hp) (Q : VK) (E : XK) : R D → Prop
  | .ok d => ∀ v F' H', Ext F H F' H' → Dp K F' v d → Q v H'
  | .exc c p => ∀ cls od F' H', Ext F H F' H' → XV K mg F' c p cls od → E cls od H'
  | .bad => False
def spD (K : PySem.W.Frag) (mg : Str → Option Value) (n : Nat) (f : List D → R D) : Sp := fun vs H Q E => ∃ F ds, Same F H ∧ DpAll K F vs ds ∧ ds.length = n ∧ FPost K mg F H Q E (f ds)
theorem StOk.start {K : PySem.W.Frag} {F H : Hp} {vs : List V} {ds : List D} {N : List Str} (s : Same F H) (h : DpAll K F vs ds) (l : ds.length ≤ N.length) : StOk K F H F H (start N vs) (ds.map Cell.dat ++ List.replicate (N.length - ds.length) Cell.un) := by
  have hl := dpa_len h
  refine ⟨Ext.refl s, ?_, fun i d q => ?_, fun i es q => ?_, fun i j es es' a q => ?_⟩
  · unfold L2.start
    simp
    omega
  · by_cases hi : i < ds.length
    · rw [List.getElem?_append_left (by simpa using hi), List.getElem?_map] at q
      cases e : ds[i]? with
      | none => rw [e] at q; cases q
      | some d' =>
        rw [e] at q
        cases q
        obtain ⟨v, h1, h2⟩ := dpa_get h e
        refine ⟨v, ?_, h2⟩
        unfold L2.start
        rw [List.getElem?_append_left (by simpa [hl] using hi), List.getElem?_map, h1]
        rfl
    · rw [List.getElem?_append_right (by simpa using hi), List.getElem?_replicate] at q
      split at q <;> cases q
  · by_cases hi : i < ds.length
    · rw [List.getElem?_append_left (by simpa using hi), List.getElem?_map] at q
      cases e : ds[i]? with
      | none => rw [e] at q; cases q
      | some d' => rw [e] at q; cases q
    · rw [List.getElem?_append_right (by simpa using hi), List.getElem?_replicate] at q
      split at q <;> cases q
  · exfalso
    by_cases hi : i < ds.length
    · rw [List.getElem?_append_left (by simpa using hi), List.getElem?_map] at q
      cases e : ds[i]? with
      | none => rw [e] at q; cases q
      | some d' => rw [e] at q; cases q
    · rw [List.getElem?_append_right (by simpa using hi), List.getElem?_replicate] at q
      split at q <;> cases q
/-- a def's W -/
abbrev WD (E : XK) : WX := fun cls d _ H => E cls d H
theorem fn_ok {P : Program} {w : World} {K : PySem.W.Frag} {mg : Str → Option Value} {base : Heap} {x qual : Str} {params : Arguments} {body : List Stmt} {scope : Scope} {dvs : List V} {kws : List (Str × V)} {f : Addr} {fd : FuncData} {N ps : List Str} {k : Nat} {m : S}
    (F : FunD K x qual params body scope dvs kws f fd) (Sc : FnScope N ps scope)
    (hbody : ∀ (cdv : Value) (A : Around) (outer : List Env) (s : Shared) (H : Hp) (E : XK), Room k (A.deeper (envOfC qual scope s.heap.objs.size f cdv)) →
      MSs (cxOf (L2.CX P w) P w K mg base N qual scope f cdv A outer s H E) (WD E) body m) :
    FnOk P w K mg base (L2.CX P w) (k + 1) f fd ps (spD K mg ps.length (run ps.length N.length m)) := by
  refine F.ok Sc (fun vs H Q E ⟨F, ds, s, h, l, _⟩ => (dpa_len h).trans l) fun cdv A outer s H vs Q E hr ⟨F, ds, sm, h, l, hp⟩ => ⟨_, hbody cdv A outer s H E hr, F, H, F, _, StOk.start (N := N) sm h ?_, ?_⟩
  · rw [l]
    have := congrArg List.length Sc.pre
    rw [List.length_take] at this
    omega
  · unfold run at hp
    rw [if_pos l] at hp
    rw [l]
    cases e : m (ds.map Cell.dat ++ List.replicate (N.length - ps.length) Cell.un) with
    | nx g =>
      rw [e] at hp
      exact fun F' H' σ ok => hp .non F' H' ok.e .non
    | rt d =>
      rw [e] at hp
      exact hp
    | ex c p g =>
      rw [e] at hp
      exact fun cls od F' H' σ ok xv => hp cls od F' H' ok.e xv
    | bk g => rw [e] at hp; exact (show False from hp).elim
    | ct g => rw [e] at hp; exact (show False from hp).elim
    | bad => rw [e] at hp; exact (show False from hp).elim
theorem FPost.ext {K : PySem.W.Frag} {mg : Str → Option Value} {F H F' H' : Hp} {Q : VK} {E : XK} {r : R D} (e : Ext F H F' H') (h : FPost K mg F H Q E r) : FPost K mg F' H' Q E r := by
  cases r with
  | ok d => exact fun v F2 H2 e2 q => h v F2 H2 (e.trans e2) q
  | exc c p => exact fun cls od F2 H2 e2 q => h cls od F2 H2 (e.trans e2) q
  | bad => exact h
def mCall (n : Nat) (f : List D → R D) (dds : List D) (m : Vw → R (List D)) : M := fun δ => (m δ).bind fun ds => if (ds ++ dds).length = n then f (ds ++ dds) else .bad
theorem me_call {X : Cx} {W : WX} {k n : Nat} {f : Addr} {fd : FuncData} {ps : List Str} {dvs : List V} {ds : List Value} {x : Str} {p pos : Pos} {e : Expr} {es : List Expr} {m : Vw → R (List D)} {fn : List D → R D} {dds : List D}
    (G : FnOk X.prog X.w X.K X.mg X.base (L2.CX X.prog X.w) k f fd ps (spD X.K X.mg n fn)) (hr : Room k X.A) (hg : Gl X x) (hm : X.mg x = some (.ref f)) (hk : PySem.W.keepIn X.K (.ref f) = true) (hb : Binds X.K fd ps ds) (hd : Vals dvs ds)
    (hdd : ∀ F, DpAll X.K F dvs dds) (tk : Takes X W) (ha : MA X W (e :: es) m) (hdb : (x == ("__debug__" : Str)) = false) (he : starEach (e :: es) X.env = (false, eval e X.env) :: starEach es X.env) (hpl : (backTo pos (starEach es X.env)).any (·.1) = false) :
    ME X W (.Call (.Name x p) (e :: es) [] pos) (mCall n fn dds m) := by
  refine PE.imp (pe_callSD (E := WE W) G hr hg hm hk hb hd (fun σ => passAt tk σ) ha hdb he hpl) fun σ H Q ⟨F, δ, s, v, h⟩ => ?_
  refine ⟨F, δ, s, v, ?_⟩
  unfold mCall at h
  cases q : m δ with
  | ok ds' =>
    rw [q, R.bind_ok] at h
    intro vs F' H' E hvs
    split at h
    · rename_i hl
      refine ⟨F', ds' ++ dds, E.s, dpa_append hvs (hdd F'), hl, ?_⟩
      have h2 : FPost X.K X.mg F H Q (WE W σ) (fn (ds' ++ dds)) := by
        cases z : fn (ds' ++ dds) with
        | ok d => rw [z] at h; exact h
        | exc c p => rw [z] at h; exact h
        | bad => rw [z] at h; exact h
      exact h2.ext E
    · exact h.elim
  | exc c p => rw [q] at h; exact h
  | bad => rw [q] at h; exact h
/-! the law's end -/
theorem spD_law {K : PySem.W.Frag} {mg : Str → Option Value} {f : List D → R D} {H : Hp} {a : Addr} {ns : List Int} (hO : Only H) (hS : SqL K H a (ns.map V.int)) (h : f [.list (ns.map .int)] = .ok (.bool true)) :
    spD K mg 1 f [.ref a] H (fun v _ => v = .bl true) fun _ _ _ => False := by
  have intsD : ∀ ns : List Int, DpAll K H (ns.map V.int) (ns.map PyData.int) := fun ns => by
    induction ns with
    | nil => exact .nil
    | cons n ns ih => exact .cons (.int n) ih
  refine ⟨H, [.list (ns.map .int)], Same.refl H, .cons (.lst hS (intsD ns)) .nil, rfl, ?_⟩
  rw [h]
  intro v F' H' E q
  cases q
  rfl
/-! ### operations -/
section
variable {X : Cx}
theorem opr_of {f : Value → Value → Sem Value} {r' : R2} (h : ∀ x y H Q, r' x y H Q → ∃ r, OpR X f r ∧ r x y H Q) : OpR X f r' := fun pins s σ H x y v u Q I rx ry hh => by
  obtain ⟨r, ho, q⟩ := h x y H Q hh
  exact ho pins s σ H x y v u Q I rx ry q
theorem unr_of {f : Value → Sem Value} {r' : V → Hp → VK → Prop} (h : ∀ x H Q, r' x H Q → ∃ r, UnR X f r ∧ r x H Q) : UnR X f r' := fun pins s σ H x v Q I rx hh => by
  obtain ⟨r, ho, q⟩ := h x H Q hh
  exact ho pins s σ H x v Q I rx q
theorem callr_of {f : Value} {r' : List V → Hp → VK → Prop} (h : ∀ xs H Q, r' xs H Q → ∃ r, CallR X f r ∧ r xs H Q) : CallR X f r' := fun pins s σ H xs us Q I rx hh => by
  obtain ⟨r, ho, q⟩ := h xs H Q hh
  exact ho pins s σ H xs us Q I rx q
theorem mtr_of {id : String} {r' : V → List V → Hp → VK → Prop} (h : ∀ x xs H Q, r' x xs H Q → ∃ r, MtR X id r ∧ r x xs H Q) : MtR X id r' := fun pins s σ H x xs v us Q I rx rs hh => by
  obtain ⟨r, ho, q⟩ := h x xs H Q hh
  exact ho pins s σ H x xs v us Q I rx rs q
end
theorem dp_str {K : PySem.W.Frag} {F : Hp} {v : V} {i : Str} (h : Dp K F v (.str i)) : v = .str i := by cases h; rfl
theorem dp_bl {K : PySem.W.Frag} {F : Hp} {v : V} {i : Bool} (h : Dp K F v (.bool i)) : v = .bl i := by cases h; rfl
/-- great factors: together below a million bits -/
def okMul (i j : Int) : Bool := decide (i.natAbs.log2 + j.natAbs.log2 < 1000000)
theorem okMul_ok {i j : Int} (h : okMul i j = true) : CMulW i j := by
  unfold okMul at h
  unfold CMulW
  simpa using h
def okDiv (j : Int) : Bool := decide (j ≠ 0) && decide (j.natAbs.log2 < 9000)
def fAdd : D → D → Option D
  | .int i, .int j => some (.int (i + j))
  | .str a, .str b => if a.length + b.length ≤ most then some (.str (a ++ b)) else none
  | .list a, .list b => none
  | .tuple a, .tuple b => if a ≠ [] ∧ a.length + b.length ≤ most then some (.tuple (a ++ b)) else none
  | _, _ => none
def fSub : D → D → Option D
  | .int i, .int j => some (.int (i - j))
  | _, _ => none
def fMul : D → D → Option D
  | .int i, .int j => if okMul i j = true then some (.int (i * j)) else none
  | _, _ => none
def fFdv : D → D → Option D
  | .int i, .int j => if okDiv j = true then some (.int (i.fdiv j)) else none
  | _, _ => none
def fMod : D → D → Option D
  | .int i, .int j => if j ≠ 0 then some (.int (i.fmod j)) else none
  | _, _ => none
def fPow : D → D → Option D
  | .int i, .int j => if 0 ≤ j ∧ j ≤ 1000000 ∧ i.natAbs < 2 ^ 64 then some (.int (i ^ j.toNat)) else none
  | _, _ => none
def fNeg : D → Option D
  | .int i => some (.int (-i))
  | _ => none
section
variable {X : Cx}
theorem o_add : OpR X (binaryOp .Add) (rD2 X.K fAdd) := opr_of fun x y H Q ⟨F, d1, d2, d, s, h1, h2, e, q⟩ => by
  unfold fAdd at e
  split at e
  · cases e
    cases dp_int h1
    cases dp_int h2
    exact ⟨_, op_add, _, _, rfl, rfl, q _ F H (Ext.refl s) (.int _)⟩
  · split at e
    · rename_i l
      cases e
      cases dp_str h1
      cases dp_str h2
      exact ⟨_, op_add_str, _, _, rfl, rfl, most_le l, q _ F H (Ext.refl s) (.str _)⟩
    · cases e
  · cases e
  · split at e
    · rename_i l
      cases e
      cases h1 with
      | tup a b =>
        cases h2 with
        | tup a2 b2 =>
          refine ⟨_, op_catT, _, _, _, _, rfl, rfl, same_t s a, same_t s a2, ?_, ?_, fun z => ?_, fun _ p hp => q _ _ _ (Ext.new s hp) (.tup (SqT.of upd_same) (dpa_mono (Ext.new (o := .tup _) s hp).f _ (dpa_append b b2)))⟩
          · intro z
            subst z
            cases b
            exact l.1 rfl
          · rw [dpa_len b, dpa_len b2]
            exact most_le l.2
          · subst z
            cases b2
            rw [List.append_nil] at q
            exact q _ F H (Ext.refl s) (.tup a b)
    · cases e
  · cases e
theorem o_sub : OpR X (binaryOp .Sub) (rD2 X.K fSub) := opr_of fun x y H Q ⟨F, d1, d2, d, s, h1, h2, e, q⟩ => by
  unfold fSub at e
  split at e
  · cases e
    cases dp_int h1
    cases dp_int h2
    exact ⟨_, op_sub, _, _, rfl, rfl, q _ F H (Ext.refl s) (.int _)⟩
  · cases e
theorem o_mul : OpR X (binaryOp .Mult) (rD2 X.K fMul) := opr_of fun x y H Q ⟨F, d1, d2, d, s, h1, h2, e, q⟩ => by
  unfold fMul at e
  split at e
  · split at e
    · rename_i l
      cases e
      cases dp_int h1
      cases dp_int h2
      exact ⟨_, op_mulW, _, _, rfl, rfl, okMul_ok l, q _ F H (Ext.refl s) (.int _)⟩
    · cases e
  · cases e
theorem op_fdivZ : OpR X (binaryOp .FloorDiv) (rI (fun _ j => j ≠ 0 ∧ j.natAbs.log2 < 9000) fun i j => .int (i.fdiv j)) :=
  opI fun _ _ _ _ _ _ _ hc q => floordiv_int hc.1 q (.inl (PyProof.noPylong_of_log2 hc.2))
theorem o_fdv : OpR X (binaryOp .FloorDiv) (rD2 X.K fFdv) := opr_of fun x y H Q ⟨F, d1, d2, d, s, h1, h2, e, q⟩ => by
  unfold fFdv at e
  split at e
  · split at e
    · rename_i l
      cases e
      cases dp_int h1
      cases dp_int h2
      unfold okDiv at l
      rw [Bool.and_eq_true, decide_eq_true_eq, decide_eq_true_eq] at l
      exact ⟨_, op_fdivZ, _, _, rfl, rfl, l, q _ F H (Ext.refl s) (.int _)⟩
    · cases e
  · cases e
theorem o_mod : OpR X (binaryOp .Mod) (rD2 X.K fMod) := opr_of fun x y H Q ⟨F, d1, d2, d, s, h1, h2, e, q⟩ => by
  unfold fMod at e
  split at e
  · split at e
    · rename_i l
      cases e
      cases dp_int h1
      cases dp_int h2
      exact ⟨_, op_modN, _, _, rfl, rfl, l, q _ F H (Ext.refl s) (.int _)⟩
    · cases e
  · cases e
theorem o_pow : OpR X (binaryOp .Pow) (rD2 X.K fPow) := opr_of fun x y H Q ⟨F, d1, d2, d, s, h1, h2, e, q⟩ => by
  unfold fPow at e
  split at e
  · split at e
    · rename_i l
      cases e
      cases dp_int h1
      cases dp_int h2
      exact ⟨_, op_pow, _, _, rfl, rfl, l, q _ F H (Ext.refl s) (.int _)⟩
    · cases e
  · cases e
theorem o_neg : UnR X (unaryOp .USub) (rD1 X.K fNeg) := unr_of fun x H Q ⟨F, d1, d, s, h1, e, q⟩ => by
  unfold fNeg at e
  split at e
  · cases e
    cases dp_int h1
    exact ⟨_, un_neg, _, rfl, q _ F H (Ext.refl s) (.int _)⟩
  · cases e
end
/-! comparisons -/
def fLt : D → D → Option D
  | .int i, .int j => some (.bool (decide (i < j)))
  | .str a, .str b => some (.bool (decide (a.cps.toList < b.cps.toList)))
  | _, _ => none
def fLe : D → D → Option D
  | .int i, .int j => some (.bool (decide (i ≤ j)))
  | _, _ => none
def fGt : D → D → Option D
  | .int i, .int j => some (.bool (decide (j < i)))
  | _, _ => none
def fGe : D → D → Option D
  | .int i, .int j => some (.bool (decide (j ≤ i)))
  | _, _ => none
def dEq : D → D → Option Bool
  | .int i, .int j => some (decide (i = j))
  | .str a, .str b => some (decide (a = b))
  | .bool a, .bool b => some (decide (a = b))
  | .none, .none => some true
  | d, e => if (SeqAt.shaped d && SeqAt.shaped e) = true then some (PyData.eqv d e) else none
def fEq (d e : D) : Option D := (dEq d e).map .bool
def fNe (d e : D) : Option D := (dEq d e).map fun b => .bool (!b)
def fIs (d e : D) : Option D := match e with
  | .none => (match d with
    | .none => some (.bool true)
    | _ => some (.bool false))
  | _ => none
def fIsN (d e : D) : Option D := match e with
  | .none => (match d with
    | .none => some (.bool false)
    | _ => some (.bool true))
  | _ => none
def fIn (neg : Bool) : D → D → Option D
  | d, .list ds => if (SeqAt.shaped d && SeqAt.shaped (.list ds)) = true then some (.bool (if neg = true then !(ds.any fun z => PyData.eqv z d) else ds.any fun z => PyData.eqv z d)) else none
  | .str a, .str b => some (.bool (if neg = true then !(!(Builtin.Str.occurrences b a 0 b.length 1).isEmpty) else !(Builtin.Str.occurrences b a 0 b.length 1).isEmpty))
  | _, _ => none
section
variable {X : Cx}
theorem o_lt : OpR X (compareOp .Lt) (rD2 X.K fLt) := opr_of fun x y H Q ⟨F, d1, d2, d, s, h1, h2, e, q⟩ => by
  unfold fLt at e
  split at e
  · cases e
    cases dp_int h1
    cases dp_int h2
    exact ⟨_, op_lt, _, _, rfl, rfl, q _ F H (Ext.refl s) (.bl _)⟩
  · cases e
    cases dp_str h1
    cases dp_str h2
    exact ⟨_, op_lt_str, _, _, rfl, rfl, q _ F H (Ext.refl s) (.bl _)⟩
  · cases e
theorem o_le : OpR X (compareOp .LtE) (rD2 X.K fLe) := opr_of fun x y H Q ⟨F, d1, d2, d, s, h1, h2, e, q⟩ => by
  unfold fLe at e
  split at e
  · cases e
    cases dp_int h1
    cases dp_int h2
    exact ⟨_, op_le, _, _, rfl, rfl, q _ F H (Ext.refl s) (.bl _)⟩
  · cases e
theorem o_gt : OpR X (compareOp .Gt) (rD2 X.K fGt) := opr_of fun x y H Q ⟨F, d1, d2, d, s, h1, h2, e, q⟩ => by
  unfold fGt at e
  split at e
  · cases e
    cases dp_int h1
    cases dp_int h2
    exact ⟨_, op_gt, _, _, rfl, rfl, q _ F H (Ext.refl s) (.bl _)⟩
  · cases e
theorem o_ge : OpR X (compareOp .GtE) (rD2 X.K fGe) := opr_of fun x y H Q ⟨F, d1, d2, d, s, h1, h2, e, q⟩ => by
  unfold fGe at e
  split at e
  · cases e
    cases dp_int h1
    cases dp_int h2
    exact ⟨_, op_ge, _, _, rfl, rfl, q _ F H (Ext.refl s) (.bl _)⟩
  · cases e
theorem dEq_ok {K : PySem.W.Frag} {F H : Hp} {x y : V} {d e : D} {b : Bool} (s : Same F H) (h1 : Dp K F x d) (h2 : Dp K F y e) (q : dEq d e = some b) :
    (scal x y = true ∧ decide (x = y) = b) ∨ (Dp K H x d ∧ Dp K H y e ∧ SeqAt.shaped d = true ∧ SeqAt.shaped e = true ∧ PyData.eqv d e = b) := by
  unfold dEq at q
  split at q
  · cases q
    cases dp_int h1
    cases dp_int h2
    exact .inl ⟨rfl, by simp⟩
  · cases q
    cases dp_str h1
    cases dp_str h2
    exact .inl ⟨rfl, by simp⟩
  · cases q
    cases dp_bl h1
    cases dp_bl h2
    exact .inl ⟨rfl, by simp⟩
  · cases q
    cases h1
    cases h2
    exact .inl ⟨rfl, by simp⟩
  · split at q
    · rename_i l
      cases q
      rw [Bool.and_eq_true] at l
      exact .inr ⟨dp_mono s _ h1, dp_mono s _ h2, l.1, l.2, rfl⟩
    · cases q
theorem o_eq (hu : X.A.units + 64 < cLine) : OpR X (compareOp .Eq) (rD2 X.K fEq) := opr_of fun x y H Q ⟨F, d1, d2, d, s, h1, h2, e, q⟩ => by
  unfold fEq at e
  cases z : dEq d1 d2 with
  | none => rw [z] at e; cases e
  | some b =>
    rw [z] at e
    cases e
    have q' := q (.bl b) F H (Ext.refl s) (.bl b)
    rcases dEq_ok s h1 h2 z with ⟨a1, a2⟩ | ⟨a1, a2, a3, a4, a5⟩
    · exact ⟨_, op_eq, a1, by rw [a2]; exact q'⟩
    · exact ⟨_, op_eqD hu, _, _, a1, a2, a3, a4, by rw [a5]; exact q'⟩
theorem o_ne (hu : X.A.units + 64 < cLine) : OpR X (compareOp .NotEq) (rD2 X.K fNe) := opr_of fun x y H Q ⟨F, d1, d2, d, s, h1, h2, e, q⟩ => by
  unfold fNe at e
  cases z : dEq d1 d2 with
  | none => rw [z] at e; cases e
  | some b =>
    rw [z] at e
    cases e
    have q' := q (.bl (!b)) F H (Ext.refl s) (.bl _)
    rcases dEq_ok s h1 h2 z with ⟨a1, a2⟩ | ⟨a1, a2, a3, a4, a5⟩
    · exact ⟨_, op_ne, a1, by rw [a2]; exact q'⟩
    · exact ⟨_, op_neD hu, _, _, a1, a2, a3, a4, by rw [a5]; exact q'⟩
theorem o_is : OpR X (compareOp .Is) (rD2 X.K fIs) := opr_of fun x y H Q ⟨F, d1, d2, d, s, h1, h2, e, q⟩ => by
  unfold fIs at e
  split at e
  · cases h2
    refine ⟨_, op_isN, rfl, ?_⟩
    split at e
    · cases e
      cases h1
      exact q _ F H (Ext.refl s) (.bl _)
    · rename_i hn
      cases e
      have : decide (x = .non) = false := by
        cases h1 with
        | non => exact absurd rfl hn
        | _ => rfl
      rw [this]
      exact q _ F H (Ext.refl s) (.bl _)
  · cases e
theorem o_isN : OpR X (compareOp .IsNot) (rD2 X.K fIsN) := opr_of fun x y H Q ⟨F, d1, d2, d, s, h1, h2, e, q⟩ => by
  unfold fIsN at e
  split at e
  · cases h2
    refine ⟨_, op_notN, rfl, ?_⟩
    split at e
    · cases e
      cases h1
      exact q _ F H (Ext.refl s) (.bl _)
    · rename_i hn
      cases e
      have : decide (x = .non) = false := by
        cases h1 with
        | non => exact absurd rfl hn
        | _ => rfl
      rw [this]
      exact q _ F H (Ext.refl s) (.bl _)
  · cases e
theorem o_in (hu : X.A.units + 65 < cLine) : OpR X (compareOp .In) (rD2 X.K (fIn false)) := opr_of fun x y H Q ⟨F, d1, d2, d, s, h1, h2, e, q⟩ => by
  unfold fIn at e
  split at e
  · split at e
    · rename_i l
      cases e
      rw [Bool.and_eq_true] at l
      exact ⟨_, op_inD hu, _, _, dp_mono s _ h1, dp_mono s _ h2, l.1, l.2, q _ F H (Ext.refl s) (.bl _)⟩
    · cases e
  · cases e
    cases dp_str h1
    cases dp_str h2
    exact ⟨_, op_in_str, _, _, rfl, rfl, q _ F H (Ext.refl s) (.bl _)⟩
  · cases e
theorem o_notIn (hu : X.A.units + 65 < cLine) : OpR X (compareOp .NotIn) (rD2 X.K (fIn true)) := opr_of fun x y H Q ⟨F, d1, d2, d, s, h1, h2, e, q⟩ => by
  unfold fIn at e
  split at e
  · split at e
    · rename_i l
      cases e
      rw [Bool.and_eq_true] at l
      exact ⟨_, op_notInD hu, _, _, dp_mono s _ h1, dp_mono s _ h2, l.1, l.2, q _ F H (Ext.refl s) (.bl _)⟩
    · cases e
  · cases e
    cases dp_str h1
    cases dp_str h2
    exact ⟨_, op_notIn_str, _, _, rfl, rfl, q _ F H (Ext.refl s) (.bl _)⟩
  · cases e
end
/-- a comparison tells a truth -/
theorem bl_lt : ∀ x y d, fLt x y = some d → ∃ z : Bool, d = .bool z := fun x y d e => by
  unfold fLt at e
  split at e <;> cases e <;> exact ⟨_, rfl⟩
theorem bl_le : ∀ x y d, fLe x y = some d → ∃ z : Bool, d = .bool z := fun x y d e => by
  unfold fLe at e
  split at e <;> cases e <;> exact ⟨_, rfl⟩
theorem bl_gt : ∀ x y d, fGt x y = some d → ∃ z : Bool, d = .bool z := fun x y d e => by
  unfold fGt at e
  split at e <;> cases e <;> exact ⟨_, rfl⟩
theorem bl_ge : ∀ x y d, fGe x y = some d → ∃ z : Bool, d = .bool z := fun x y d e => by
  unfold fGe at e
  split at e <;> cases e <;> exact ⟨_, rfl⟩
theorem bl_eq : ∀ x y d, fEq x y = some d → ∃ z : Bool, d = .bool z := fun x y d e => by
  unfold fEq at e
  cases z : dEq x y with
  | none => rw [z] at e; cases e
  | some b => rw [z] at e; cases e; exact ⟨_, rfl⟩
theorem bl_ne : ∀ x y d, fNe x y = some d → ∃ z : Bool, d = .bool z := fun x y d e => by
  unfold fNe at e
  cases z : dEq x y with
  | none => rw [z] at e; cases e
  | some b => rw [z] at e; cases e; exact ⟨_, rfl⟩
theorem bl_is : ∀ x y d, fIs x y = some d → ∃ z : Bool, d = .bool z := fun x y d e => by
  unfold fIs at e
  split at e
  · split at e <;> cases e <;> exact ⟨_, rfl⟩
  · cases e
theorem bl_isN : ∀ x y d, fIsN x y = some d → ∃ z : Bool, d = .bool z := fun x y d e => by
  unfold fIsN at e
  split at e
  · split at e <;> cases e <;> exact ⟨_, rfl⟩
  · cases e
theorem bl_in (n : Bool) : ∀ x y d, fIn n x y = some d → ∃ z : Bool, d = .bool z := fun x y d e => by
  unfold fIn at e
  split at e
  · split at e <;> cases e <;> exact ⟨_, rfl⟩
  · cases e; exact ⟨_, rfl⟩
  · cases e
/-! items, slices -/
def fIx : D → D → Option D
  | .list ds, .int i => atI ds i
  | .tuple ds, .int i => atI ds i
  | .str z, .int i => if z.length ≤ most then (atI z.cps.toList i).map fun c => .str ⟨#[c]⟩ else none
  | _, _ => none
theorem dpa_at {K : PySem.W.Frag} {F : Hp} {vs : List V} {ds : List D} {i : Int} {d : D} (h : DpAll K F vs ds) (e : atI ds i = some d) : ∃ v, atI vs i = some v ∧ Dp K F v d := by
  unfold atI at e ⊢
  rw [dpa_len h]
  cases q : ixN ds.length i with
  | none => rw [q] at e; cases e
  | some j => rw [q] at e; exact dpa_get h e
theorem i_ix {K : PySem.W.Frag} : ∀ x y H Q, rD2 K fIx x y H Q → rIx K x y H Q := fun x y H Q ⟨F, d1, d2, d, s, h1, h2, e, q⟩ => by
  unfold fIx at e
  split at e
  · cases dp_int h2
    cases h1 with
    | lst a b =>
      obtain ⟨v, e1, e2⟩ := dpa_at b e
      exact .inl ⟨_, _, _, _, rfl, rfl, s.seq a, e1, q _ F H (Ext.refl s) e2⟩
  · cases dp_int h2
    cases h1 with
    | tup a b =>
      obtain ⟨v, e1, e2⟩ := dpa_at b e
      exact .inr (.inl ⟨_, _, _, _, rfl, rfl, same_t s a, e1, q _ F H (Ext.refl s) e2⟩)
  · split at e
    · rename_i z i l
      cases dp_int h2
      cases dp_str h1
      cases w : atI z.cps.toList i with
      | none => rw [w] at e; cases e
      | some c =>
        rw [w] at e
        cases e
        exact .inr (.inr ⟨_, _, _, rfl, rfl, most_le l, w, q _ F H (Ext.refl s) (.str _)⟩)
    · cases e
  · cases e
/-- a part of a slice -/
def mPart (m : M) : Vw → R (Option Int) := fun δ => (m δ).bind fun d => match d with
  | .int i => .ok (some i)
  | _ => .bad
def mNoPart : Vw → R (Option Int) := fun _ => .ok none
def cutD (xs : List D) (lo hi : Option Int) : List D := (xs.drop (HT.sIx xs.length 0 lo)).take (HT.sIx xs.length xs.length hi - HT.sIx xs.length 0 lo)
def fSl (d : D) (lo hi : Option Int) : Option D := match d with
  | .list ds => some (.list (cutD ds lo hi))
  | .tuple ds => if HT.sIx ds.length 0 lo = 0 ∧ HT.sIx ds.length ds.length hi = ds.length then none else some (.tuple (cutD ds lo hi))
  | .str z => if z.length ≤ most then some (.str (Txt.slice z lo hi)) else none
  | _ => none
def mSl (m : M) (lo hi : Vw → R (Option Int)) : M := fun δ => (m δ).bind fun d => (lo δ).bind fun l => (hi δ).bind fun h => R.of (fSl d l h)
section
variable {X : Cx} {W : WX}
def OPost (F H : Hp) (σ : L2.St) (Q : Option Int → Hp → Prop) : R (Option Int) → Prop
  | .ok b => ∀ F' H', Ext F H F' H' → Q b H'
  | .exc c p => ∀ cls od F' H', Ext F H F' H' → XV X.K X.mg F' c p cls od → W cls od σ H'
  | .bad => False
def tO (X : Cx) (W : WX) (m : Vw → R (Option Int)) : TO := fun σ H Q => ∃ F δ, Same F H ∧ VwOk X.K F σ δ ∧ OPost (X := X) (W := W) F H σ Q (m δ)
abbrev MO (X : Cx) (W : WX) (e : Option Expr) (m : Vw → R (Option Int)) : Prop := PO X e (tO X W m)
theorem PO.imp {e : Option Expr} {t t' : TO} (h : PO X e t) (i : ∀ σ H Q, t' σ H Q → t σ H Q) : PO X e t' := ⟨fun pins s σ H Q I hw => h.run pins s σ H Q I (i _ _ _ hw)⟩
theorem mo_none : MO X W none mNoPart := PO.imp po_none fun σ H Q ⟨F, δ, s, v, h⟩ => h F H (Ext.refl s)
theorem mo_some {e : Expr} {m : M} (he : ME X W e m) : MO X W (some e) (mPart m) := PO.imp (po_some he) fun σ H Q ⟨F, δ, s, v, h⟩ => by
  refine ⟨F, δ, s, v, ?_⟩
  unfold mPart at h
  cases e : m δ with
  | ok d =>
    rw [e, R.bind_ok] at h
    cases d with
    | int i =>
      intro x F' H' E hx
      cases dp_int hx
      exact ⟨i, rfl, h F' H' E⟩
    | _ => exact h.elim
  | exc c p => rw [e] at h; exact h
  | bad => rw [e] at h; exact h
theorem dpa_cut {K : PySem.W.Frag} {F : Hp} {vs : List V} {ds : List D} {lo hi : Option Int} (h : DpAll K F vs ds) : DpAll K F (cutV vs lo hi) (cutD ds lo hi) := by
  unfold cutV cutD
  rw [dpa_len h]
  exact dpa_take _ (dpa_drop _ h)
def rSlD (K : PySem.W.Frag) : V → Option Int → Option Int → Hp → VK → Prop := fun x lo hi H Q => ∃ F d1 d, Same F H ∧ Dp K F x d1 ∧ fSl d1 lo hi = some d ∧ ∀ v F' H', Ext F H F' H' → Dp K F' v d → Q v H'
theorem slr_of {r' : V → Option Int → Option Int → Hp → VK → Prop} (h : ∀ x lo hi H Q, r' x lo hi H Q → ∃ r, SlR X r ∧ r x lo hi H Q) : SlR X r' := by
  intro pins s σ H x v vl vu lo hi sl Q I rx hs pl pu hh
  obtain ⟨r, ho, q⟩ := h x lo hi H Q hh
  exact ho pins s σ H x v vl vu lo hi sl Q I rx hs pl pu q
theorem l_sl : SlR X (rSlD X.K) := slr_of fun x lo hi H Q ⟨F, d1, d, s, h1, e, q⟩ => by
  unfold fSl at e
  split at e
  · cases e
    cases h1 with
    | lst a b => exact ⟨_, sl_list, _, _, rfl, s.seq a, fun p hp => q _ _ _ (Ext.new s hp) (.lst (SqL.of upd_same) (dpa_mono (Ext.new (o := .lst _) s hp).f _ (dpa_cut b)))⟩
  · split at e
    · cases e
    · rename_i l
      cases e
      cases h1 with
      | tup a b => exact ⟨_, sl_tup, _, _, rfl, same_t s a, by rw [dpa_len b]; exact l, fun p hp => q _ _ _ (Ext.new s hp) (.tup (SqT.of upd_same) (dpa_mono (Ext.new (o := .tup _) s hp).f _ (dpa_cut b)))⟩
  · split at e
    · rename_i l
      cases e
      cases dp_str h1
      exact ⟨_, C8.sl_txt, _, rfl, most_le l, q _ F H (Ext.refl s) (.str _)⟩
    · cases e
  · cases e
theorem me_sl {e : Expr} {lo hi : Option Expr} {m : M} {ml mh : Vw → R (Option Int)} {pos p2 : Pos} (he : ME X W e m) (hl : MO X W lo ml) (hh : MO X W hi mh) : ME X W (.Subscript e (.Slice lo hi none p2) pos) (mSl m ml mh) := by
  refine PE.imp (pe_slice l_sl he hl hh) fun σ H Q ⟨F, δ, s, v, h⟩ => ?_
  refine tM_bind s v h fun d x F1 H1 _ E hx h1 => ?_
  refine ⟨F1, δ, E.s, v.mono E.f, ?_⟩
  cases e1 : ml δ with
  | ok l =>
    rw [e1, R.bind_ok] at h1
    intro F2 H2 E2
    refine ⟨F2, δ, E2.s, (v.mono E.f).mono E2.f, ?_⟩
    cases e2 : mh δ with
    | ok u =>
      rw [e2, R.bind_ok] at h1
      obtain ⟨d3, e3, q⟩ := of_post h1
      intro F3 H3 E3
      exact ⟨F3, d, d3, E3.s, dp_mono (E2.f.trans E3.f) d hx, e3, fun w F4 H4 E4 hw => q w F4 H4 (E2.trans (E3.trans E4)) hw⟩
    | exc c p =>
      rw [e2] at h1
      exact fun cls od F3 H3 E3 xv => h1 cls od F3 H3 (E2.trans E3) xv
    | bad => rw [e2] at h1; exact h1.elim
  | exc c p => rw [e1] at h1; exact h1
  | bad => rw [e1] at h1; exact h1.elim
end
/-! built-in functions -/
section
variable {X : Cx} {W : WX} {x : Str} {p pos : Pos} {e : Expr} {es : List Expr} {m : Vw → R (List D)} {id T : String} {f : List D → Option D}
theorem me_cB (hc : CallR X (.builtin id) (rDs X.K f)) (hg : Gl X x) (hm : X.mg x = none) (hv : bootBuiltins x = some (.builtin id)) (ha : MA X W (e :: es) m) (hn : x ≠ "__name__") (hdb : (x == ("__debug__" : Str)) = false)
    (he : starEach (e :: es) X.env = (false, eval e X.env) :: starEach es X.env) (hpl : (backTo pos (starEach es X.env)).any (·.1) = false) : ME X W (.Call (.Name x p) (e :: es) [] pos) (mDs f m) := by
  refine PE.imp (pe_callB hc hg hm hv ha hn hdb he hpl) fun σ H Q ⟨F, δ, s, v, h⟩ => ?_
  refine tA_bind s v h fun ds xs F1 H1 _ E hx h1 => ?_
  obtain ⟨d3, e, q⟩ := of_post h1
  exact ⟨F1, ds, d3, E.s, hx, e, q⟩
theorem me_cT (hc : CallR X (.type T) (rDs X.K f)) (hg : Gl X x) (hm : X.mg x = none) (hv : bootBuiltins x = some (.type T)) (ha : MA X W (e :: es) m) (hn : x ≠ "__name__") (hdb : (x == ("__debug__" : Str)) = false)
    (he : starEach (e :: es) X.env = (false, eval e X.env) :: starEach es X.env) (hpl : (backTo pos (starEach es X.env)).any (·.1) = false) : ME X W (.Call (.Name x p) (e :: es) [] pos) (mDs f m) := by
  refine PE.imp (pe_callTy hc hg hm hv ha hn hdb he hpl) fun σ H Q ⟨F, δ, s, v, h⟩ => ?_
  refine tA_bind s v h fun ds xs F1 H1 _ E hx h1 => ?_
  obtain ⟨d3, e, q⟩ := of_post h1
  exact ⟨F1, ds, d3, E.s, hx, e, q⟩
end
def fAbs : List D → Option D
  | [.int i] => some (.int (if i < 0 then -i else i))
  | _ => none
def fLen : List D → Option D
  | [.list ds] => some (.int ds.length)
  | [.tuple ds] => some (.int ds.length)
  | [.str z] => if z.length ≤ most then some (.int z.length) else none
  | _ => none
def fMax : List D → Option D
  | [.int i, .int j] => some (.int (if j > i then j else i))
  | _ => none
def fMin : List D → Option D
  | [.int i, .int j] => some (.int (if j < i then j else i))
  | _ => none
def fInt : List D → Option D
  | [.int i] => some (.int i)
  | [.bool k] => some (.int (if k then 1 else 0))
  | _ => none
def fStr : List D → Option D
  | [.int i] => if i.natAbs.log2 < 1920 then some (.str (toString i)) else none
  | [.str z] => some (.str z)
  | _ => none
def fListOf : List D → Option D
  | [.list ds] => some (.list ds)
  | [.tuple ds] => some (.list ds)
  | _ => none
def fTupOf : List D → Option D
  | [.list ds] => some (.tuple ds)
  | [.tuple ds] => some (.tuple ds)
  | _ => none
section
variable {X : Cx}
theorem c_abs : CallR X (.builtin "abs") (rDs X.K fAbs) := callr_of fun xs H Q ⟨F, ds, d, s, h, e, q⟩ => by
  unfold fAbs at e
  split at e
  · cases e
    obtain ⟨v, rfl, hv⟩ := dpa1 h
    cases dp_int hv
    exact ⟨_, call_abs, _, rfl, q _ F H (Ext.refl s) (.int _)⟩
  · cases e
theorem c_len : CallR X (.builtin "len") (rDs X.K fLen) := callr_of fun xs H Q ⟨F, ds, d, s, h, e, q⟩ => by
  unfold fLen at e
  split at e
  · cases e
    obtain ⟨v, rfl, hv⟩ := dpa1 h
    cases hv with
    | lst a b => exact ⟨_, call_len_seq, _, _, rfl, .inl (s.seq a), by rw [dpa_len b]; exact q _ F H (Ext.refl s) (.int _)⟩
  · cases e
    obtain ⟨v, rfl, hv⟩ := dpa1 h
    cases hv with
    | tup a b => exact ⟨_, call_len_seq, _, _, rfl, .inr (same_t s a), by rw [dpa_len b]; exact q _ F H (Ext.refl s) (.int _)⟩
  · split at e
    · rename_i l
      cases e
      obtain ⟨v, rfl, hv⟩ := dpa1 h
      cases dp_str hv
      exact ⟨_, call_len_str, _, rfl, most_le l, q _ F H (Ext.refl s) (.int _)⟩
    · cases e
  · cases e
theorem c_max (hc : X.calm = true) : CallR X (.builtin "max") (rDs X.K fMax) := callr_of fun xs H Q ⟨F, ds, d, s, h, e, q⟩ => by
  unfold fMax at e
  split at e
  · cases e
    obtain ⟨v, w, rfl, hv, hw⟩ := dpa2 h
    cases dp_int hv
    cases dp_int hw
    exact ⟨_, call_max2 hc, _, _, rfl, q _ F H (Ext.refl s) (.int _)⟩
  · cases e
theorem c_min (hc : X.calm = true) : CallR X (.builtin "min") (rDs X.K fMin) := callr_of fun xs H Q ⟨F, ds, d, s, h, e, q⟩ => by
  unfold fMin at e
  split at e
  · cases e
    obtain ⟨v, w, rfl, hv, hw⟩ := dpa2 h
    cases dp_int hv
    cases dp_int hw
    exact ⟨_, call_min2 hc, _, _, rfl, q _ F H (Ext.refl s) (.int _)⟩
  · cases e
theorem c_int : CallR X (.type "int") (rDs X.K fInt) := callr_of fun xs H Q ⟨F, ds, d, s, h, e, q⟩ => by
  unfold fInt at e
  split at e
  · cases e
    obtain ⟨v, rfl, hv⟩ := dpa1 h
    cases dp_int hv
    exact ⟨_, call_int1, .inl ⟨_, rfl, q _ F H (Ext.refl s) (.int _)⟩⟩
  · cases e
    obtain ⟨v, rfl, hv⟩ := dpa1 h
    cases dp_bl hv
    exact ⟨_, call_int1, .inr ⟨_, rfl, q _ F H (Ext.refl s) (.int _)⟩⟩
  · cases e
theorem c_str : CallR X (.type "str") (rDs X.K fStr) := callr_of fun xs H Q ⟨F, ds, d, s, h, e, q⟩ => by
  unfold fStr at e
  split at e
  · split at e
    · rename_i l
      cases e
      obtain ⟨v, rfl, hv⟩ := dpa1 h
      cases dp_int hv
      exact ⟨_, call_str_int, _, rfl, l, q _ F H (Ext.refl s) (.str _)⟩
    · cases e
  · cases e
    obtain ⟨v, rfl, hv⟩ := dpa1 h
    cases dp_str hv
    exact ⟨_, SkE.call_str_str, _, rfl, q _ F H (Ext.refl s) (.str _)⟩
  · cases e
theorem c_list : CallR X (.type "list") (rDs X.K fListOf) := callr_of fun xs H Q ⟨F, ds, d, s, h, e, q⟩ => by
  unfold fListOf at e
  split at e
  · cases e
    obtain ⟨v, rfl, hv⟩ := dpa1 h
    cases hv with
    | lst a b => exact ⟨_, call_list_of, _, _, rfl, .inl (s.seq a), fun p hp => q _ _ _ (Ext.new s hp) (.lst (SqL.of upd_same) (dpa_mono (Ext.new (o := .lst _) s hp).f _ b))⟩
  · cases e
    obtain ⟨v, rfl, hv⟩ := dpa1 h
    cases hv with
    | tup a b => exact ⟨_, call_list_of, _, _, rfl, .inr (same_t s a), fun p hp => q _ _ _ (Ext.new s hp) (.lst (SqL.of upd_same) (dpa_mono (Ext.new (o := .lst _) s hp).f _ b))⟩
  · cases e
theorem c_tuple : CallR X (.type "tuple") (rDs X.K fTupOf) := callr_of fun xs H Q ⟨F, ds, d, s, h, e, q⟩ => by
  unfold fTupOf at e
  split at e
  · cases e
    obtain ⟨v, rfl, hv⟩ := dpa1 h
    cases hv with
    | lst a b => exact ⟨_, call_tuple_of, _, _, rfl, .inl ⟨s.seq a, fun p hp => q _ _ _ (Ext.new s hp) (.tup (SqT.of upd_same) (dpa_mono (Ext.new (o := .tup _) s hp).f _ b))⟩⟩
  · cases e
    obtain ⟨v, rfl, hv⟩ := dpa1 h
    cases hv with
    | tup a b => exact ⟨_, call_tuple_of, _, _, rfl, .inr ⟨same_t s a, q _ F H (Ext.refl s) (.tup a b)⟩⟩
  · cases e
end
/-! isinstance -/
def tyD : D → String
  | .none => "NoneType"
  | .bool _ => "bool"
  | .int _ => "int"
  | .str _ => "str"
  | .list _ => "list"
  | .tuple _ => "tuple"
  | .dict _ => "dict"
theorem tyx_of {K : PySem.W.Frag} {F H : Hp} {x : V} {d : D} (s : Same F H) (h : Dp K F x d) : TyX K H x (.type (tyD d)) := by
  cases h with
  | non => exact .base .non
  | bl b => exact .base (.bl b)
  | int i => exact .base (.int i)
  | str z => exact .base (.str z)
  | lst a b =>
    rcases s.seq a with (h | ⟨o, h⟩) | ⟨o, its, n, h1, h2, _⟩
    · exact .base (.lst h)
    · exact .base (.frz h)
    · exact .kList h1 h2
  | tup a b =>
    rcases same_t s a with (h | ⟨o, h⟩) | ⟨o, its, n, h1, h2, _⟩
    · exact .base (.tup h)
    · exact .fTuple h
    · exact .kTuple h1 h2
/-- the built-in classes that are asked for, by data's own classes -/
def isT (T : String) (d : D) : Option Bool := match d with
  | .dict _ => none
  | d => kitB (tyD d) T
def mIsi (T : String) (a : M) : M := fun δ => (a δ).bind fun d => R.of ((isT T d).map .bool)
theorem pe_bty {X : Cx} {x : Str} {T : String} {pos : Pos} (hg : Gl X x) (hm : X.mg x = none) (hv : bootBuiltins x = some (.type T)) (hn : x ≠ "__name__") (hdb : (x == ("__debug__" : Str)) = false) : PE X (.Name x pos) (tC (.ty T)) :=
  ⟨fun pins s σ H Q I h => ld_blt I hg hm hv ⟨.ty T, H, I, rfl, h⟩ hn hdb⟩
theorem me_isi {X : Cx} {W : WX} {a : Expr} {ma : M} {x : Str} {T : String} {p p2 pos : Pos} (hgi : Gl X "isinstance") (hmi : X.mg "isinstance" = none) (ha : ME X W a ma) (hg : Gl X x) (hm : X.mg x = none) (hv : bootBuiltins x = some (.type T)) (hn : x ≠ "__name__") (hdb : (x == ("__debug__" : Str)) = false)
    (he : starEach [a, .Name x p2] X.env = (false, eval a X.env) :: starEach [.Name x p2] X.env) (he2 : starEach [.Name x p2] X.env = (false, eval (.Name x p2) X.env) :: starEach [] X.env) (hpl : (backTo pos (starEach [.Name x p2] X.env)).any (·.1) = false) :
    ME X W (.Call (.Name "isinstance" p) [a, .Name x p2] [] pos) (mIsi T ma) := by
  refine PE.imp (pe_callB call_isi hgi hmi (by decide +kernel) (pa_cons ha (pa_cons (pe_bty hg hm hv hn hdb) pa_nil he2) he) (by decide) (by decide) he hpl) fun σ H Q ⟨F, δ, s, v, h⟩ => ?_
  refine tM_bind s v h fun d y F1 H1 _ E hx h1 => ?_
  cases q : isT T d with
  | none => rw [q] at h1; exact h1.elim
  | some b =>
    rw [q] at h1
    refine ⟨y, .ty T, .type (tyD d), .type T, b, rfl, .ty T, tyx_of E.s hx, ?_, h1 (.bl b) F1 H1 (Ext.refl E.s) (.bl b)⟩
    unfold isT at q
    split at q
    · cases q
    · exact kit_ty q
end MI
set_option Elab.async false
set_option linter.all false
set_option maxRecDepth 100000
set_option maxHeartbeats 4000000
/-! MI5: what the printed walks use. -/
namespace MI
open PySem PySem.Spec PyProof.Rows L2
/-- a def of the row, with what it tells; dds: the defaults that a call may leave out -/
structure DefOk (P : Program) (w : World) (K : PySem.W.Frag) (mg : Str → Option Value) (base : Heap) (k : Nat) (x : Str) (n : Nat) (f : List D → R D) (dds : List (List D)) : Prop where
  gl : mg x = some (.ref (He.ga K x))
  ex : ∃ (fd : FuncData) (ps : List Str), PySem.W.keepIn K (.ref (He.ga K x)) = true ∧ FnOk P w K mg base (L2.CX P w) k (He.ga K x) fd ps (spD K mg n f) ∧ ∀ dd ∈ dds, ∃ (dvs : List V) (ds : List Value), Vals dvs ds ∧ (∀ F, DpAll K F dvs dd) ∧ Binds K fd ps ds
theorem me_def {X : Cx} {W : WX} {j k n : Nat} {x : Str} {p pos : Pos} {e : Expr} {es : List Expr} {m : Vw → R (List D)} {fn : List D → R D} {dds : List (List D)} {dd : List D}
    (G : DefOk X.prog X.w X.K X.mg X.base k x n fn dds) (hr : Room j X.A) (tk : Takes X W) (ha : MA X W (e :: es) m) (hmem : dd ∈ dds := by first | exact List.mem_cons_self | simp) (hk : k ≤ j := by decide) (hg : Gl X x := by rfl)
    (hdb : (x == ("__debug__" : Str)) = false := by decide) (he : starEach (e :: es) X.env = (false, eval e X.env) :: starEach es X.env := by rfl) (hpl : (backTo pos (starEach es X.env)).any (·.1) = false := by rfl) :
    ME X W (.Call (.Name x p) (e :: es) [] pos) (mCall n fn dd m) := by
  obtain ⟨fd, ps, kp, F, b⟩ := G.ex
  obtain ⟨dvs, ds, h1, h2, h3⟩ := b dd hmem
  exact me_call F (hr.mono hk) hg G.gl kp h3 h1 h2 tk ha hdb he hpl
/-- the package of a def -/
theorem def_ok {P : Program} {w : World} {K : PySem.W.Frag} {mg : Str → Option Value} {base : Heap} {d : He.DefD} {k n : Nat} {f : List D → R D} {dds : List (List D)} {fd : FuncData} {ps : List Str} (gl : mg d.name = some (.ref (He.ga K d.name)))
    (F : FunD K d.name d.qual d.params d.body d.scope (d.dvs K) (d.kws K) (He.ga K d.name) fd) (G : FnOk P w K mg base (L2.CX P w) k (He.ga K d.name) fd ps (spD K mg n f))
    (b : ∀ dd ∈ dds, ∃ (dvs : List V) (ds : List Value), Vals dvs ds ∧ (∀ F, DpAll K F dvs dd) ∧ Binds K fd ps ds) : DefOk P w K mg base k d.name n f dds := ⟨gl, fd, ps, F.kp, G, b⟩
/-! short names -/
section
variable {X : Cx} {W : WX}
theorem mv (i : Nat) {x : Str} {pos : Pos} (hN : X.N[i]? = some x := by rfl) (hv : Vis X.env.scope x := by first | exact Or.inl rfl | exact Or.inr (Or.inl rfl) | exact Or.inr (Or.inr rfl)) (hd : (x == ("__debug__" : Str)) = false := by decide)
    (hcd : (x == ("__classdict__" : Str)) = false := by decide) : ME X W (.Name x pos) (mVar i) := me_var hN hv hd hcd
theorem mac {a : Expr} {ma : M} {es : List Expr} {mr : Vw → R (List D)} (ha : ME X W a ma) (hr : MA X W es mr) (hs : starEach (a :: es) X.env = (false, eval a X.env) :: starEach es X.env := by rfl) : MA X W (a :: es) (mCons ma mr) := ma_cons ha hr hs
theorem mbin {op : Operator} {f : D → D → Option D} {pos : Pos} {a b : Expr} {ma mb : M} (ho : OpR X (binaryOp op) (rD2 X.K f)) (ha : ME X W a ma) (hb : ME X W b mb) : ME X W (.BinOp a op b pos) (mBin f ma mb) := me_op ho ha hb
theorem mcmp {op : CmpOp} {f : D → D → Option D} {pos : Pos} {a b : Expr} {ma mb : M} (ho : OpR X (compareOp op) (rD2 X.K f)) (ha : ME X W a ma) (hb : ME X W b mb) (hm : behindInMarks op b = false := by rfl) : ME X W (.Compare a [op] [b] pos) (mBin f ma mb) := me_cmp ho ha hb hm
theorem tcmp {op : CmpOp} {f : D → D → Option D} {pos : Pos} {a b : Expr} {ma mb : M} (ho : OpR X (compareOp op) (rD2 X.K f)) (hf : ∀ x y d, f x y = some d → ∃ z : Bool, d = .bool z) (ha : ME X W a ma) (hb : ME X W b mb) (hm : behindInMarks op b = false := by rfl) : MT X W (.Compare a [op] [b] pos) (mTru (mBin f ma mb)) := mt_cmp ho hf ha hb hm
theorem ttru {a : Expr} {ma : M} (ha : ME X W a ma) (he : ∀ whole, isTrue a X.env whole = (do let v ← whole; standAt a.pos; holding [v] (truthy v)) := by intro _; rfl) : MT X W a (mTru ma) := mt_tru ha he
theorem mix {pos : Pos} {a b : Expr} {ma mb : M} (ha : ME X W a ma) (hb : ME X W b mb) (hs : PlainIx b := by exact fun _ _ => rfl) : ME X W (.Subscript a b pos) (mBin fIx ma mb) := me_ix ix_seq i_ix ha hb hs
theorem mcB {x : Str} {p pos : Pos} {e : Expr} {es : List Expr} {m : Vw → R (List D)} {id : String} {f : List D → Option D} (hc : CallR X (.builtin id) (rDs X.K f)) (hm : X.mg x = none) (ha : MA X W (e :: es) m) (hg : Gl X x := by rfl) (hv : bootBuiltins x = some (.builtin id) := by decide +kernel) (hn : x ≠ "__name__" := by decide) (hdb : (x == ("__debug__" : Str)) = false := by decide)
    (he : starEach (e :: es) X.env = (false, eval e X.env) :: starEach es X.env := by rfl) (hpl : (backTo pos (starEach es X.env)).any (·.1) = false := by rfl) : ME X W (.Call (.Name x p) (e :: es) [] pos) (mDs f m) := me_cB hc hg hm hv ha hn hdb he hpl
theorem mcT {x : Str} {p pos : Pos} {e : Expr} {es : List Expr} {m : Vw → R (List D)} {T : String} {f : List D → Option D} (hc : CallR X (.type T) (rDs X.K f)) (hm : X.mg x = none) (ha : MA X W (e :: es) m) (hg : Gl X x := by rfl) (hv : bootBuiltins x = some (.type T) := by decide +kernel) (hn : x ≠ "__name__" := by decide) (hdb : (x == ("__debug__" : Str)) = false := by decide)
    (he : starEach (e :: es) X.env = (false, eval e X.env) :: starEach es X.env := by rfl) (hpl : (backTo pos (starEach es X.env)).any (·.1) = false := by rfl) : ME X W (.Call (.Name x p) (e :: es) [] pos) (mDs f m) := me_cT hc hg hm hv ha hn hdb he hpl
theorem misi {a : Expr} {ma : M} {x : Str} {p p2 pos : Pos} (T : String) (hmi : X.mg "isinstance" = none) (hm : X.mg x = none) (ha : ME X W a ma) (hgi : Gl X "isinstance" := by rfl) (hg : Gl X x := by rfl) (hv : bootBuiltins x = some (.type T) := by decide +kernel) (hn : x ≠ "__name__" := by decide) (hdb : (x == ("__debug__" : Str)) = false := by decide)
    (he : starEach [a, .Name x p2] X.env = (false, eval a X.env) :: starEach [.Name x p2] X.env := by rfl) (he2 : starEach [.Name x p2] X.env = (false, eval (.Name x p2) X.env) :: starEach [] X.env := by rfl) (hpl : (backTo pos (starEach [.Name x p2] X.env)).any (·.1) = false := by rfl) :
    ME X W (.Call (.Name "isinstance" p) [a, .Name x p2] [] pos) (mIsi T ma) := me_isi hgi hmi ha hg hm hv hn hdb he he2 hpl
theorem sset (i : Nat) {pos : Pos} {x : Str} {e : Expr} {m : M} {pos' : Pos} (hN : X.N.Nodup) (he : ME X W e m) (hi : X.N[i]? = some x := by rfl) (hx : Loc X.env.scope x := by first | exact Or.inl rfl | exact Or.inr rfl) (hs : swapsWith e (some (.Name x pos')) pos.line X.env = pure false := by rfl) (hf : X.fn x = true ∨ X.env.scope.names.lookup x = some .local := by first | exact .inl rfl | exact .inr rfl) :
    MS X W (.Assign [.Name x pos'] e pos) (sSet i m) := ms_set hN hi hx he hs hf
theorem ssetF (i : Nat) {pos : Pos} {x : Str} {e : Expr} {m : M} {pos' : Pos} (hN : X.N.Nodup) (he : ME X W e m) (hi : X.N[i]? = some x := by rfl) (hx : Loc X.env.scope x := by first | exact Or.inl rfl | exact Or.inr rfl) (hs : swapsWith e (some (.Name x pos')) pos.line X.env = pure false := by rfl) (hf : X.fn x = true ∨ X.env.scope.names.lookup x = some .local := by first | exact .inl rfl | exact .inr rfl) :
    MS X W (.Assign [.Name x pos'] e pos) (sSetF i m) := ms_setF hN hi hx he hs hf
theorem snewL (i : Nat) {pos : Pos} {x : Str} {es : List Expr} {m : Vw → R (List D)} {pos' pos2 : Pos} (hN : X.N.Nodup) (he : MA X W es m) (hi : X.N[i]? = some x := by rfl) (hx : Loc X.env.scope x := by first | exact Or.inl rfl | exact Or.inr rfl) (hs : swapsWith (.List es pos2) (some (.Name x pos')) pos.line X.env = pure false := by rfl) (hf : X.fn x = true ∨ X.env.scope.names.lookup x = some .local := by first | exact .inl rfl | exact .inr rfl) :
    MS X W (.Assign [.Name x pos'] (.List es pos2) pos) (sNewL i m) := ms_newL hN hi hx he hs hf
theorem spar (i j : Nat) {pos : Pos} {x y : Str} {e f : Expr} {m : Vw → R (List D)} {px py pt : Pos} {kt k2 pt2} (hN : X.N.Nodup) (ha : MA X W [e, f] m) (hc : X.calm = true := by rfl) (hi : X.N[i]? = some x := by rfl) (hj : X.N[j]? = some y := by rfl) (hij : i ≠ j := by decide)
    (hx : X.env.scope.names.lookup x = some .local := by rfl) (hy : X.env.scope.names.lookup y = some .local := by rfl)
    (hw : swappedStores [.Tuple [.Name x px, .Name y py] kt pt] (.Tuple [e, f] k2 pt2) X.env = pure (some [x, y]) := by rfl)
    (hs : swapsWithSole [.Tuple [.Name x px, .Name y py] kt pt] (.Tuple [e, f] k2 pt2) pos.line X.env = pure false := by rfl) :
    MS X W (.Assign [.Tuple [.Name x px, .Name y py] kt pt] (.Tuple [e, f] k2 pt2) pos) (sPar i j m) := ms_par hc hN hi hj hij hx hy ha hw hs
theorem sexpr {pos : Pos} {e : Expr} {m : M} (he : ME X W e m) (hs : swapsWith e none pos.line X.env = pure false := by rfl) : MS X W (.Expr e pos) (sExpr m) := ms_expr he hs
theorem sraise {c : Str} {m : Str} {j : Nat} {p p2 pos pos2 : Pos} (hc : X.mg c = some (.ref (He.ga X.K c))) (xf : (He.Fa.exc c).ok X.K = true) (tk : Takes X W) (hcalm : X.calm = true := by rfl) (hg : Gl X c := by rfl) (hdb : (c == ("__debug__" : Str)) = false := by decide) :
    MS X W (.Raise (some (.Call (.Name c p) [.Constant (.str m) j p2] [] pos)) none pos2) (sRaise c) := by
  obtain ⟨x1, x2, x3, x4⟩ := He.exc_ok xf
  exact ms_raise hcalm tk hc (pmk_own PySem.F.excBase_ValueError x1 hc x2 (raises_own x3 x4) hg hdb)
theorem sforL {pos : Pos} {tg iter : Expr} {body : List Stmt} {m : M} {r : TG} {t : Tg} {b : S} (hp : PassesOwn (model X.prog X.w) X.A X.env X.xe) (he : ME X W iter m) (hg : PG X tg r) (ht : TgOk X.K r t) (hb : MSs X W body b) (hc : X.calm = true := by rfl)
    (hs : ∀ x, foldedSetIterable iter X.env x = pure x := by intro _; rfl) : MS X W (.For tg iter body [] pos) (sForL m t b) := ms_forL hp hc he hg ht hb hs
theorem sfor1 {pos p q : Pos} {tg a : Expr} {body : List Stmt} {m : Vw → R (List D)} {r : TG} {t : Tg} {s : S} (hm : X.mg "range" = none) (hp : PassesOwn (model X.prog X.w) X.A X.env X.xe) (ha : MA X W [a] m) (hg : PG X tg r) (ht : TgOk X.K r t) (hb : MSs X W body s) (hc : X.calm = true := by rfl) (hG : Gl X "range" := by rfl)
    (hst : starEach [a] X.env = [(false, eval a X.env)] := by rfl) (hs : ∀ x, foldedSetIterable (.Call (.Name "range" p) [a] [] q) X.env x = pure x := by intro _; rfl) : MS X W (.For tg (.Call (.Name "range" p) [a] [] q) body [] pos) (sForR rng1 m t s) := ms_for1 hp hc hG hm ha hst hg ht hb hs
theorem sfor2 {pos p q : Pos} {tg a b : Expr} {body : List Stmt} {m : Vw → R (List D)} {r : TG} {t : Tg} {s : S} (hm : X.mg "range" = none) (hp : PassesOwn (model X.prog X.w) X.A X.env X.xe) (ha : MA X W [a, b] m) (hg : PG X tg r) (ht : TgOk X.K r t) (hb : MSs X W body s) (hc : X.calm = true := by rfl) (hG : Gl X "range" := by rfl)
    (hst : starEach [a, b] X.env = [(false, eval a X.env), (false, eval b X.env)] := by rfl) (hst2 : starEach [b] X.env = [(false, eval b X.env)] := by rfl) (hs : ∀ x, foldedSetIterable (.Call (.Name "range" p) [a, b] [] q) X.env x = pure x := by intro _; rfl) : MS X W (.For tg (.Call (.Name "range" p) [a, b] [] q) body [] pos) (sForR rng2 m t s) := ms_for2 hp hc hG hm ha hst hst2 hg ht hb hs
theorem sfor3 {pos p q : Pos} {tg a b c : Expr} {body : List Stmt} {m : Vw → R (List D)} {r : TG} {t : Tg} {s : S} (hm : X.mg "range" = none) (hp : PassesOwn (model X.prog X.w) X.A X.env X.xe) (ha : MA X W [a, b, c] m) (hg : PG X tg r) (ht : TgOk X.K r t) (hb : MSs X W body s) (hc : X.calm = true := by rfl) (hG : Gl X "range" := by rfl)
    (hst : starEach [a, b, c] X.env = (false, eval a X.env) :: starEach [b, c] X.env := by rfl) (hpl : (backTo q (starEach [b, c] X.env)).any (·.1) = false := by rfl) (hs : ∀ x, foldedSetIterable (.Call (.Name "range" p) [a, b, c] [] q) X.env x = pure x := by intro _; rfl) : MS X W (.For tg (.Call (.Name "range" p) [a, b, c] [] q) body [] pos) (sForR rng3 m t s) := ms_for3 hp hc hG hm ha hst hpl hg ht hb hs
theorem gname (i : Nat) {x : Str} {pos : Pos} (hN : X.N.Nodup) (hi : X.N[i]? = some x := by rfl) (hx : Loc X.env.scope x := by first | exact Or.inl rfl | exact Or.inr rfl) (hf : X.fn x = true ∨ X.env.scope.names.lookup x = some .local := by first | exact .inl rfl | exact .inr rfl) : PG X (.Name x pos) (gName i) := pg_name hN hi hx hf
theorem sasg {pos : Pos} {tg e : Expr} {m : M} {r : TG} {t : Tg} (he : ME X W e m) (hg : PG X tg r) (ht : TgOk X.K r t) (hs : swapsWithSole [tg] e pos.line X.env = pure false := by rfl) (hw : swappedStores [tg] e X.env = pure none := by rfl) (h1 : (assignEach [tg] X.env).map (·.2) = [assign tg X.env] := by rfl) : MS X W (.Assign [tg] e pos) (sAsg t m) := ms_asg he hg ht hs hw h1
theorem stry {x : Str} {body suite : List Stmt} {b0 : Stmt} {np pos pos' : Pos} {sub : Str → Option Bool} {b u : S} (gC : X.mg x = some (.ref (He.ga X.K x))) (tk : Takes X W) (so : SubOk X.K X.mg sub (.ref (He.ga X.K x)))
    (hb : ∀ (W' : WX) (pn : List (Addr × Obj)) (xe : Value → Shared → Prop), Takes (X.tr pn xe) W' → PassesOwn (model X.prog X.w) X.A X.env xe → MSs (X.tr pn xe) W' body b)
    (hsu : ∀ (a : Addr) (oe : Obj) (cls : Value) (d : Option Addr) (pn : List (Addr × Obj)), Zc cls d oe → (∃ vs, oe.data = .fields vs) → ∀ W' : WX, MSs (X.suite a ((a, oe) :: pn)) W' (b0 :: suite) u)
    (hs : X.stack = X.env :: X.outer := by rfl) (hf : X.env.frame = some X.env.locals := by rfl) (hg : Gl X x := by rfl) (hdb : (x == ("__debug__" : Str)) = false := by decide) :
    MS X W (.Try body [.ExceptHandler (some (.Name x np)) none (b0 :: suite) pos'] [] [] pos) (sTry sub b u) := ms_try hs hf ⟨hg, hdb, .inl gC⟩ tk so hb hsu
/-- a module's int, text -/
theorem mgInt {x : Str} {i : Int} {pos : Pos} (hm : ∃ t, X.mg x = some (.int i t)) (hg : Gl X x := by rfl) (hd : (x == ("__debug__" : Str)) = false := by decide) : ME X W (.Name x pos) (mC (.int i)) := by
  obtain ⟨t, h⟩ := hm
  exact me_c (pe_glob (v := .int i) hg h ⟨t, rfl⟩ hd) fun _ => .int i
theorem mgStr {x z : Str} {pos : Pos} (hm : ∃ t, X.mg x = some (.str z t)) (hg : Gl X x := by rfl) (hd : (x == ("__debug__" : Str)) = false := by decide) : ME X W (.Name x pos) (mC (.str z)) := by
  obtain ⟨t, h⟩ := hm
  exact me_c (pe_glob (v := .str z) hg h ⟨t, rfl⟩ hd) fun _ => .str z
end
/-- which exceptions a clause takes, from a table -/
def subT (tb : List (Str × Bool)) : Str → Option Bool := fun c => tb.lookup c
theorem subT_ok {K : PySem.W.Frag} {mg : Str → Option Value} {y : Str} : ∀ (tb : List (Str × Bool)), (∀ p ∈ tb, mg p.1 = some (.ref (He.ga K p.1)) ∧ PySem.W.exmOne K (.ref (He.ga K p.1)) (.ref (He.ga K y)) = some p.2) → SubOk K mg (subT tb) (.ref (He.ga K y))
  | [], _ => fun x k C e _ => by cases e
  | p :: tb, h => fun x k C e g => by
    unfold subT at e
    rw [List.lookup_cons] at e
    cases q : (x == p.1) with
    | true =>
      rw [q] at e
      cases e
      have := beq_iff_eq.mp q
      subst this
      obtain ⟨h1, h2⟩ := h p (List.mem_cons_self ..)
      rw [h1] at g
      cases g
      exact h2
    | false =>
      rw [q] at e
      exact subT_ok tb (fun p' hp => h p' (List.mem_cons_of_mem _ hp)) x k C e g
/-! ### the end -/
theorem walk_mi {l : PySem.W.OpenLaw} {n k : Nat} {q : Program} {loose : List Str} {XP : (Str → Option Value) → Heap → Prop} {YP : World → Heap → Prop} {d : DefRec} {x : Str} {f : List D → R D}
    (hn : l.most = some n) (hn2 : n ≤ sizeLine) (hdf : d.params.defaults = []) (hr : Room k callerA)
    (G : ∀ (w : World) (mg : Str → Option Value) (fa : Addr) (h : Heap), YP w h → h.Ns mainGlobals mg → mg d.name = some (.ref fa) →
      ∃ (K : PySem.W.Frag) (fd : FuncData), K.In h ∧ (∀ (s : Shared) (u : Value), BindsTo s fd ⟨[u], []⟩ [(x, u)]) ∧
        ∀ base : Heap, K.In base → base.Ns mainGlobals mg → FnOk l.prog w K mg base (L2.CX l.prog w) k fa fd [x] (spD K mg 1 f))
    (hf : ∀ ns : List Int, ns.length ≤ n → (∀ z ∈ ns, Builtin.Int.intBits z ≤ 1048576) → f [.list (ns.map .int)] = .ok (.bool true)) :
    PySem.W.WalkO q loose XP YP l.row.toRowW d [] (fun f vs => PySem.call f vs) := by
  refine Att.attach_callB hn hdf fun w s0 s1 mg mb fa o pm cd doc a vs ns Gr Y ho hd hcd hmg hobj hints hlen hbits hg => ?_
  obtain ⟨K, fd, KX, hb, hF⟩ := G w mg fa _ Y Gr.T.g hmg
  refine law_call KX Gr.T.g Gr.T.b Gr.T.builtins Gr.T.nolimit hg hobj hints (Nat.le_trans hlen hn2) hr hF hb (fun H hO hS => spD_law hO hS (hf ns hlen hbits)) fun H e s' z => ?_
  obtain ⟨_, _, _, _, _, _, _, _, _, _, _, _, z⟩ := z
  exact z.elim
end MI
namespace MI
open PySem PySem.Spec PyProof.Rows L2
/-- what the row's top has left, by facts -/
structure Tx (fa : List He.Fa) (fn : List He.DefD) (K : PySem.W.Frag) (mg : Str → Option Value) : Prop where
  says : He.SaysD fa fn K
  at_ : ∃ h : Heap, K.In h ∧ h.Ns mainGlobals mg
section
variable {fa : List He.Fa} {fn : List He.DefD} {K : PySem.W.Frag} {mg : Str → Option Value}
theorem Tx.glo (T : Tx fa fn K mg) (i : Nat) {x : Str} (h : fa[i]? = some (.glo x) := by rfl) : mg x = some (.ref (He.ga K x)) := let ⟨_, a, b⟩ := T.at_; He.glo_ok a b (T.says.fact i h)
theorem Tx.free (T : Tx fa fn K mg) (i : Nat) {x : Str} (h : fa[i]? = some (.free x) := by rfl) : mg x = none := let ⟨_, a, b⟩ := T.at_; He.free_ok a b (T.says.fact i h)
theorem Tx.int (T : Tx fa fn K mg) (i : Nat) {x : Str} {z : Int} (h : fa[i]? = some (.int x z) := by rfl) : ∃ t, mg x = some (.int z t) := let ⟨_, a, b⟩ := T.at_; He.int_ok a b (T.says.fact i h)
theorem Tx.str (T : Tx fa fn K mg) (i : Nat) {x z : Str} (h : fa[i]? = some (.str x z) := by rfl) : ∃ t, mg x = some (.str z t) := let ⟨_, a, b⟩ := T.at_; He.str_ok a b (T.says.fact i h)
theorem Tx.exc (T : Tx fa fn K mg) (i : Nat) {x : Str} (h : fa[i]? = some (.exc x) := by rfl) : (He.Fa.exc x).ok K = true := T.says.fact i h
theorem Tx.exm (T : Tx fa fn K mg) (i : Nat) {x y : Str} {b : Bool} (h : fa[i]? = some (.exm x y b) := by rfl) : PySem.W.exmOne K (.ref (He.ga K x)) (.ref (He.ga K y)) = some b := He.exm_ok (T.says.fact i h)
end
theorem all0 {α : Type} {P : α → Prop} : ∀ x ∈ ([] : List α), P x := fun _ h => nomatch h
theorem allC {α : Type} {P : α → Prop} {a : α} {r : List α} (h : P a) (hr : ∀ x ∈ r, P x) : ∀ x ∈ a :: r, P x := fun x hx => by
  rcases List.mem_cons.mp hx with e | e
  · rw [e]; exact h
  · exact hr x e
theorem hu65 {A : Around} {k : Nat} (hr : Room k A) : A.units + 65 < cLine := by
  have := hr.un
  omega
theorem hn_nd {CX : CXT} {P : Program} {w : World} {K : PySem.W.Frag} {mg : Str → Option Value} {base : Heap} {N ps : List Str} {sc : Scope} (S : FnScope N ps sc) : N.Nodup := S.nd
end MI
set_option Elab.async false
set_option linter.all false
set_option maxRecDepth 100000
set_option maxHeartbeats 4000000
namespace Pg
open PySem MI
/- p_is_whole: 0 thing -/
def s_p_is_whole (fu : Nat) : S := sRet (mAndV (mIsi "int" (mVar 0)) (mNotV (mIsi "bool" (mVar 0))))
def f_p_is_whole (fu : Nat) : List MI.D → R MI.D := run 1 1 (s_p_is_whole fu)
/- p_divisor: 0 one, 1 other -/
def b_p_divisor_1 (fu : Nat) : S := sPar 0 1 (mCons (mVar 1) (mCons (mBin fMod (mVar 0) (mVar 1)) (mNil)))
def s_p_divisor (fu : Nat) : S := sSeq (loopW (mTru (mBin fNe (mVar 1) (mC (.int 0)))) (b_p_divisor_1 fu) fu) (sRet (mDs fAbs (mCons (mVar 0) (mNil))))
def f_p_divisor (fu : Nat) : List MI.D → R MI.D := run 2 2 (s_p_divisor fu)
/- p_lowest: 0 top, 1 bottom, 2 by -/
def s_p_lowest (fu : Nat) : S := sSeq (sSet 2 (mCall 2 (Pg.f_p_divisor fu) [] (mCons (mVar 0) (mCons (mVar 1) (mNil))))) (sSeq (sIf (mTru (mBin fLt (mVar 1) (mC (.int 0)))) (sSet 2 (mBin fSub (mC (.int 0)) (mVar 2))) (sNop)) (sRet (mDs dTup (mCons (mBin fFdv (mVar 0) (mVar 2)) (mCons (mBin fFdv (mVar 1) (mVar 2)) (mNil))))))
def f_p_lowest (fu : Nat) : List MI.D → R MI.D := run 2 3 (s_p_lowest fu)
/- p_number: 0 top, 1 bottom -/
def s_p_number (fu : Nat) : S := sSeq (sIf (mOrT (mNot (mTru (mCall 1 (Pg.f_p_is_whole fu) [] (mCons (mVar 0) (mNil))))) (mOrT (mNot (mTru (mCall 1 (Pg.f_p_is_whole fu) [] (mCons (mVar 1) (mNil))))) (mTru (mBin fEq (mVar 1) (mC (.int 0)))))) (sRaise "NoNumber") (sNop)) (sRet (mCall 2 (Pg.f_p_lowest fu) [] (mCons (mVar 0) (mCons (mVar 1) (mNil)))))
def f_p_number (fu : Nat) : List MI.D → R MI.D := run 2 2 (s_p_number fu)
/- law_cell_at: 0 _law_script, 1 _law_k -/
def s_law_cell_at (fu : Nat) : S := sSeq (sIf (mTru (mBin fLt (mVar 1) (mDs fLen (mCons (mVar 0) (mNil))))) (sRet (mBin fIx (mVar 0) (mVar 1))) (sNop)) (sRet (mC (.int 0)))
def f_law_cell_at (fu : Nat) : List MI.D → R MI.D := run 2 2 (s_law_cell_at fu)
/- law_signed: 0 _law_cell, 1 _law_most, 2 _law_size -/
def s_law_signed (fu : Nat) : S := sSeq (sSet 2 (mBin fMod (mBin fFdv (mVar 0) (mC (.int 2))) (mVar 1))) (sSeq (sIf (mTru (mBin fEq (mBin fMod (mVar 0) (mC (.int 2))) (mC (.int 1)))) (sRet (mBin fSub (mC (.int 0)) (mVar 2))) (sNop)) (sRet (mVar 2)))
def f_law_signed (fu : Nat) : List MI.D → R MI.D := run 2 3 (s_law_signed fu)
/- p_plus: 0 one, 1 other -/
def s_p_plus (fu : Nat) : S := sRet (mCall 2 (Pg.f_p_lowest fu) [] (mCons (mBin fAdd (mBin fMul (mBin fIx (mVar 0) (mC (.int 0))) (mBin fIx (mVar 1) (mC (.int 1)))) (mBin fMul (mBin fIx (mVar 1) (mC (.int 0))) (mBin fIx (mVar 0) (mC (.int 1))))) (mCons (mBin fMul (mBin fIx (mVar 0) (mC (.int 1))) (mBin fIx (mVar 1) (mC (.int 1)))) (mNil))))
def f_p_plus (fu : Nat) : List MI.D → R MI.D := run 2 2 (s_p_plus fu)
/- p_minus: 0 one, 1 other -/
def s_p_minus (fu : Nat) : S := sRet (mCall 2 (Pg.f_p_lowest fu) [] (mCons (mBin fSub (mBin fMul (mBin fIx (mVar 0) (mC (.int 0))) (mBin fIx (mVar 1) (mC (.int 1)))) (mBin fMul (mBin fIx (mVar 1) (mC (.int 0))) (mBin fIx (mVar 0) (mC (.int 1))))) (mCons (mBin fMul (mBin fIx (mVar 0) (mC (.int 1))) (mBin fIx (mVar 1) (mC (.int 1)))) (mNil))))
def f_p_minus (fu : Nat) : List MI.D → R MI.D := run 2 2 (s_p_minus fu)
/- p_times: 0 one, 1 other -/
def s_p_times (fu : Nat) : S := sRet (mCall 2 (Pg.f_p_lowest fu) [] (mCons (mBin fMul (mBin fIx (mVar 0) (mC (.int 0))) (mBin fIx (mVar 1) (mC (.int 0)))) (mCons (mBin fMul (mBin fIx (mVar 0) (mC (.int 1))) (mBin fIx (mVar 1) (mC (.int 1)))) (mNil))))
def f_p_times (fu : Nat) : List MI.D → R MI.D := run 2 2 (s_p_times fu)
/- p_over: 0 one, 1 other -/
def s_p_over (fu : Nat) : S := sSeq (sIf (mTru (mBin fEq (mBin fIx (mVar 1) (mC (.int 0))) (mC (.int 0)))) (sRaise "NoNumber") (sNop)) (sRet (mCall 2 (Pg.f_p_lowest fu) [] (mCons (mBin fMul (mBin fIx (mVar 0) (mC (.int 0))) (mBin fIx (mVar 1) (mC (.int 1)))) (mCons (mBin fMul (mBin fIx (mVar 0) (mC (.int 1))) (mBin fIx (mVar 1) (mC (.int 0)))) (mNil)))))
def f_p_over (fu : Nat) : List MI.D → R MI.D := run 2 2 (s_p_over fu)
/- p_under: 0 one, 1 other -/
def s_p_under (fu : Nat) : S := sRet (mBin fLt (mBin fMul (mBin fIx (mVar 0) (mC (.int 0))) (mBin fIx (mVar 1) (mC (.int 1)))) (mBin fMul (mBin fIx (mVar 1) (mC (.int 0))) (mBin fIx (mVar 0) (mC (.int 1)))))
def f_p_under (fu : Nat) : List MI.D → R MI.D := run 2 2 (s_p_under fu)
/- law_number: 0 _law_above, 1 _law_below, 2 _law_top, 3 _law_bottom, 4 _law_share -/
def s_law_number (fu : Nat) : S := sSeq (sSet 2 (mBin fMod (mBin fFdv (mVar 0) (mC (.int 2))) (mBin fPow (mC (.int 10)) (mC (.int 60))))) (sSeq (sIf (mTru (mBin fEq (mBin fMod (mVar 0) (mC (.int 2))) (mC (.int 1)))) (sSet 2 (mBin fSub (mC (.int 0)) (mVar 2))) (sNop)) (sSeq (sSet 3 (mBin fAdd (mC (.int 1)) (mBin fMod (mVar 1) (mBin fSub (mBin fPow (mC (.int 10)) (mC (.int 60))) (mC (.int 1)))))) (sSeq (sSet 4 (mCall 2 (Pg.f_p_divisor fu) [] (mCons (mVar 2) (mCons (mVar 3) (mNil))))) (sRet (mDs dTup (mCons (mBin fFdv (mVar 2) (mVar 4)) (mCons (mBin fFdv (mVar 3) (mVar 4)) (mNil))))))))
def f_law_number (fu : Nat) : List MI.D → R MI.D := run 2 5 (s_law_number fu)
/- law_made: 0 _law_found, 1 _law_top, 2 _law_bottom -/
def s_law_made (fu : Nat) : S := sSeq (sIf (mOrT (mNot (mTru (mIsi "tuple" (mVar 0)))) (mTru (mBin fNe (mDs fLen (mCons (mVar 0) (mNil))) (mC (.int 2))))) (sRet (mC (.bool false))) (sNop)) (sSeq (sIf (mOrT (mNot (mTru (mCall 1 (Pg.f_p_is_whole fu) [] (mCons (mBin fIx (mVar 0) (mC (.int 0))) (mNil))))) (mOrT (mNot (mTru (mCall 1 (Pg.f_p_is_whole fu) [] (mCons (mBin fIx (mVar 0) (mC (.int 1))) (mNil))))) (mTru (mBin fLt (mBin fIx (mVar 0) (mC (.int 1))) (mC (.int 1)))))) (sRet (mC (.bool false))) (sNop)) (sRet (mAndV (mBin fEq (mCall 2 (Pg.f_p_divisor fu) [] (mCons (mBin fIx (mVar 0) (mC (.int 0))) (mCons (mBin fIx (mVar 0) (mC (.int 1))) (mNil)))) (mC (.int 1))) (mBin fEq (mBin fMul (mBin fIx (mVar 0) (mC (.int 0))) (mVar 2)) (mBin fMul (mVar 1) (mBin fIx (mVar 0) (mC (.int 1))))))))
def f_law_made (fu : Nat) : List MI.D → R MI.D := run 3 3 (s_law_made fu)
/- law_under: 0 _law_one, 1 _law_other, 2 _law_found -/
def s_law_under (fu : Nat) : S := sSeq (sSet 2 (mCall 2 (Pg.f_p_under fu) [] (mCons (mVar 0) (mCons (mVar 1) (mNil))))) (sRet (mAndV (mIsi "bool" (mVar 2)) (mBin fEq (mVar 2) (mBin fLt (mBin fMul (mBin fIx (mVar 0) (mC (.int 0))) (mBin fIx (mVar 1) (mC (.int 1)))) (mBin fMul (mBin fIx (mVar 1) (mC (.int 0))) (mBin fIx (mVar 0) (mC (.int 1))))))))
def f_law_under (fu : Nat) : List MI.D → R MI.D := run 2 3 (s_law_under fu)
/- law_over: 0 _law_one, 1 _law_other, 2 _law_found, 3 _law_refused -/
def s_law_over (fu : Nat) : S := sSeq (sSet 2 (mC .none)) (sSeq (sSet 3 (mC (.bool false))) (sSeq (sTry (subT [("NoNumber", true)]) (sSet 2 (mCall 2 (Pg.f_p_over fu) [] (mCons (mVar 0) (mCons (mVar 1) (mNil))))) (sSet 3 (mC (.bool true)))) (sSeq (sIf (mTru (mBin fEq (mBin fIx (mVar 1) (mC (.int 0))) (mC (.int 0)))) (sRet (mVar 3)) (sNop)) (sRet (mAndV (mNotV (mVar 3)) (mCall 3 (Pg.f_law_made fu) [] (mCons (mVar 2) (mCons (mBin fMul (mBin fIx (mVar 0) (mC (.int 0))) (mBin fIx (mVar 1) (mC (.int 1)))) (mCons (mBin fMul (mBin fIx (mVar 0) (mC (.int 1))) (mBin fIx (mVar 1) (mC (.int 0)))) (mNil))))))))))
def f_law_over (fu : Nat) : List MI.D → R MI.D := run 2 4 (s_law_over fu)
/- p_floor_of: 0 one -/
def s_p_floor_of (fu : Nat) : S := sRet (mBin fFdv (mBin fIx (mVar 0) (mC (.int 0))) (mBin fIx (mVar 0) (mC (.int 1))))
def f_p_floor_of (fu : Nat) : List MI.D → R MI.D := run 1 1 (s_p_floor_of fu)
/- p_rounded: 0 one -/
def s_p_rounded (fu : Nat) : S := sRet (mBin fFdv (mBin fAdd (mBin fMul (mC (.int 2)) (mBin fIx (mVar 0) (mC (.int 0)))) (mBin fIx (mVar 0) (mC (.int 1)))) (mBin fMul (mC (.int 2)) (mBin fIx (mVar 0) (mC (.int 1)))))
def f_p_rounded (fu : Nat) : List MI.D → R MI.D := run 1 1 (s_p_rounded fu)
end Pg
set_option Elab.async false
set_option linter.all false
set_option maxRecDepth 100000
set_option maxHeartbeats 4000000
namespace K02
open PySem MI
/- law_right: 0 _law_way, 1 _law_one, 2 _law_other, 3 _law_bottom -/
def s_law_right (fu : Nat) : S := sSeq (sSet 3 (mBin fMul (mBin fIx (mVar 1) (mC (.int 1))) (mBin fIx (mVar 2) (mC (.int 1))))) (sSeq (sIf (mTru (mBin fEq (mVar 0) (mC (.int 0)))) (sRet (mCall 3 (Pg.f_law_made fu) [] (mCons (mCall 2 (Pg.f_p_plus fu) [] (mCons (mVar 1) (mCons (mVar 2) (mNil)))) (mCons (mBin fAdd (mBin fMul (mBin fIx (mVar 1) (mC (.int 0))) (mBin fIx (mVar 2) (mC (.int 1)))) (mBin fMul (mBin fIx (mVar 2) (mC (.int 0))) (mBin fIx (mVar 1) (mC (.int 1))))) (mCons (mVar 3) (mNil)))))) (sNop)) (sSeq (sIf (mTru (mBin fEq (mVar 0) (mC (.int 1)))) (sRet (mCall 3 (Pg.f_law_made fu) [] (mCons (mCall 2 (Pg.f_p_minus fu) [] (mCons (mVar 1) (mCons (mVar 2) (mNil)))) (mCons (mBin fSub (mBin fMul (mBin fIx (mVar 1) (mC (.int 0))) (mBin fIx (mVar 2) (mC (.int 1)))) (mBin fMul (mBin fIx (mVar 2) (mC (.int 0))) (mBin fIx (mVar 1) (mC (.int 1))))) (mCons (mVar 3) (mNil)))))) (sNop)) (sSeq (sIf (mTru (mBin fEq (mVar 0) (mC (.int 2)))) (sRet (mCall 3 (Pg.f_law_made fu) [] (mCons (mCall 2 (Pg.f_p_times fu) [] (mCons (mVar 1) (mCons (mVar 2) (mNil)))) (mCons (mBin fMul (mBin fIx (mVar 1) (mC (.int 0))) (mBin fIx (mVar 2) (mC (.int 0)))) (mCons (mVar 3) (mNil)))))) (sNop)) (sRet (mCall 2 (Pg.f_law_over fu) [] (mCons (mVar 1) (mCons (mVar 2) (mNil))))))))
def f_law_right (fu : Nat) : List MI.D → R MI.D := run 3 4 (s_law_right fu)
/- p_law: 0 _law_script, 1 _law_cells, 2 _law_k, 3 _law_one, 4 _law_other, 5 _law_kind -/
def b_p_law_1 (fu : Nat) : S := sSeq (sSet 3 (mCall 2 (Pg.f_law_number fu) [] (mCons (mCall 2 (Pg.f_law_cell_at fu) [] (mCons (mVar 1) (mCons (mBin fAdd (mVar 2) (mC (.int 1))) (mNil)))) (mCons (mCall 2 (Pg.f_law_cell_at fu) [] (mCons (mVar 1) (mCons (mBin fAdd (mVar 2) (mC (.int 2))) (mNil)))) (mNil))))) (sSeq (sSet 4 (mCall 2 (Pg.f_law_number fu) [] (mCons (mCall 2 (Pg.f_law_cell_at fu) [] (mCons (mVar 1) (mCons (mBin fAdd (mVar 2) (mC (.int 3))) (mNil)))) (mCons (mCall 2 (Pg.f_law_cell_at fu) [] (mCons (mVar 1) (mCons (mBin fAdd (mVar 2) (mC (.int 4))) (mNil)))) (mNil))))) (sSeq (sSet 5 (mBin fMod (mBin fFdv (mCall 2 (Pg.f_law_cell_at fu) [] (mCons (mVar 1) (mCons (mVar 2) (mNil)))) (mC (.int 4))) (mC (.int 5)))) (sSeq (sIf (mTru (mBin fEq (mVar 5) (mC (.int 1)))) (sSet 4 (mVar 3)) (sNop)) (sSeq (sIf (mTru (mBin fEq (mVar 5) (mC (.int 2)))) (sSet 4 (mDs dTup (mCons (mBin fSub (mC (.int 0)) (mBin fIx (mVar 3) (mC (.int 0)))) (mCons (mBin fIx (mVar 3) (mC (.int 1))) (mNil))))) (sNop)) (sSeq (sIf (mTru (mBin fEq (mVar 5) (mC (.int 3)))) (sSet 4 (mDs dTup (mCons (mC (.int 0)) (mCons (mC (.int 1)) (mNil))))) (sNop)) (sSeq (sIf (mNot (mTru (mCall 3 (f_law_right fu) [] (mCons (mBin fMod (mCall 2 (Pg.f_law_cell_at fu) [] (mCons (mVar 1) (mCons (mVar 2) (mNil)))) (mC (.int 4))) (mCons (mVar 3) (mCons (mVar 4) (mNil))))))) (sRet (mC (.bool false))) (sNop)) (sIf (mOrT (mNot (mTru (mCall 2 (Pg.f_law_under fu) [] (mCons (mVar 3) (mCons (mVar 4) (mNil)))))) (mNot (mTru (mCall 2 (Pg.f_law_under fu) [] (mCons (mVar 4) (mCons (mVar 3) (mNil))))))) (sRet (mC (.bool false))) (sNop))))))))
def s_p_law (fu : Nat) : S := sSeq (sSet 1 (mSl (mVar 0) (mNoPart) (mPart (mC (.int 60))))) (sSeq (sForR rng3 (mCons (mC (.int 0)) (mCons (mBin fAdd (mDs fLen (mCons (mVar 1) (mNil))) (mC (.int 1))) (mCons (mC (.int 5)) (mNil)))) (gN 2) (b_p_law_1 fu)) (sRet (mC (.bool true))))
def f_p_law (fu : Nat) : List MI.D → R MI.D := run 1 6 (s_p_law fu)
end K02
set_option Elab.async false
set_option linter.all false
set_option maxRecDepth 100000
set_option maxHeartbeats 4000000
/-! MI6: reckoning with what is told (plain Lean). -/
namespace MI
open PySem
/-! applied forms -/
@[simp] theorem to_ok {α : Type} (a : α) (g : Ce) (k : α → Out) : (R.ok a).to g k = k a := Eq.trans rfl rfl
@[simp] theorem to_exc {α : Type} (c : Str) (g : Ce) (k : α → Out) : (R.exc c none : R α).to g k = .ex c none g := Eq.trans rfl rfl
@[simp] theorem to_bad {α : Type} (g : Ce) (k : α → Out) : (R.bad : R α).to g k = .bad := Eq.trans rfl rfl
@[simp] theorem vd_cons (c : Cell) (g : Ce) : vd (c :: g) = c.vd :: vd g := Eq.trans rfl rfl
@[simp] theorem vd_nil : vd [] = [] := Eq.trans rfl rfl
@[simp] theorem va_cons (c : Cell) (g : Ce) : va (c :: g) = c.va :: va g := Eq.trans rfl rfl
@[simp] theorem va_nil : va [] = [] := Eq.trans rfl rfl
@[simp] theorem vd_dat (d : D) : (Cell.dat d).vd = some d := Eq.trans rfl rfl
@[simp] theorem vd_un : Cell.un.vd = none := Eq.trans rfl rfl
@[simp] theorem vd_own (ds : List D) : (Cell.own ds).vd = none := Eq.trans rfl rfl
@[simp] theorem va_dat (d : D) : (Cell.dat d).va = some d := Eq.trans rfl rfl
@[simp] theorem va_un : Cell.un.va = none := Eq.trans rfl rfl
@[simp] theorem va_own (ds : List D) : (Cell.own ds).va = some (.list ds) := Eq.trans rfl rfl
@[simp] theorem sNop_ap (g : Ce) : sNop g = .nx g := Eq.trans rfl rfl
@[simp] theorem sSeq_ap (a b : S) (g : Ce) : sSeq a b g = match a g with
  | .nx g' => b g'
  | o => o := Eq.trans rfl rfl
@[simp] theorem sIf_ap (t : Vw → R Bool) (a b : S) (g : Ce) : sIf t a b g = (t (va g)).to g fun k => if k = true then a g else b g := Eq.trans rfl rfl
@[simp] theorem sRet_ap (m : M) (g : Ce) : sRet m g = match m (va g) with
  | .ok d => .rt d
  | .exc c p => if flatO p = true then .ex c p g else .bad
  | .bad => .bad := Eq.trans rfl rfl
@[simp] theorem sRetN_ap (g : Ce) : sRetN g = .rt .none := Eq.trans rfl rfl
@[simp] theorem sBreak_ap (g : Ce) : sBreak g = .bk g := Eq.trans rfl rfl
@[simp] theorem sCont_ap (g : Ce) : sCont g = .ct g := Eq.trans rfl rfl
@[simp] theorem sExpr_ap (m : M) (g : Ce) : sExpr m g = (m (va g)).to g fun _ => .nx g := Eq.trans rfl rfl
@[simp] theorem sSet_ap (i : Nat) (m : M) (g : Ce) : sSet i m g = (m (vd g)).to g fun d => .nx (g.set i (.dat d)) := Eq.trans rfl rfl
@[simp] theorem sSetF_ap (i : Nat) (m : M) (g : Ce) : sSetF i m g = (m (va g)).to g fun d => if flat d = true then .nx (g.set i (.dat d)) else .bad := Eq.trans rfl rfl
@[simp] theorem sPar_ap (i j : Nat) (m : Vw → R (List D)) (g : Ce) : sPar i j m g = (m (vd g)).to g fun ds => match ds with
  | [x, y] => .nx ((g.set i (.dat x)).set j (.dat y))
  | _ => .bad := Eq.trans rfl rfl
@[simp] theorem sRaise_ap (c : Str) (g : Ce) : sRaise c g = .ex c none g := Eq.trans rfl rfl
@[simp] theorem sAsg_ap (t : Tg) (m : M) (g : Ce) : sAsg t m g = (m (vd g)).to g fun d => match t d g with
  | some g' => .nx g'
  | none => .bad := Eq.trans rfl rfl
@[simp] theorem sTry_ap (sub : Str → Option Bool) (b u : S) (g : Ce) : sTry sub b u g = match b g with
  | .ex c p g' => (match sub c with
    | some true => (match u g' with
      | .ex _ _ _ => .bad
      | o => o)
    | some false => .ex c p g'
    | none => .bad)
  | o => o := Eq.trans rfl rfl
theorem sForL_ap (m : M) (t : Tg) (b : S) (g : Ce) : sForL m t b g = (m (vd g)).to g fun d => match d with
  | .list ds => loopF t b ds g
  | .tuple ds => loopF t b ds g
  | _ => .bad := rfl
theorem sForR_ap (f : List D → Option (List D)) (m : Vw → R (List D)) (t : Tg) (b : S) (g : Ce) : sForR f m t b g = (m (vd g)).to g fun ds => match f ds with
  | some xs => loopF t b xs g
  | none => .bad := rfl
@[simp] theorem gN_ap (i : Nat) (d : D) (g : Ce) : gN i d g = some (g.set i (.dat d)) := Eq.trans rfl rfl
@[simp] theorem gT_ap (u : Tgs) (ds : List D) (g : Ce) : gT u (.tuple ds) g = u ds g := Eq.trans rfl rfl
@[simp] theorem gsNil_ap (g : Ce) : gsNil [] g = some g := Eq.trans rfl rfl
@[simp] theorem gsCons_ap (t : Tg) (u : Tgs) (d : D) (r : List D) (g : Ce) : gsCons t u (d :: r) g = (t d g).bind (u r) := Eq.trans rfl rfl
@[simp] theorem mVar_ap (i : Nat) (δ : Vw) : mVar i δ = match δ[i]? with
  | some (some d) => .ok d
  | _ => .bad := Eq.trans rfl rfl
@[simp] theorem mC_ap (d : D) (δ : Vw) : mC d δ = .ok d := Eq.trans rfl rfl
@[simp] theorem mBin_ap (f : D → D → Option D) (a b : M) (δ : Vw) : mBin f a b δ = (a δ).bind fun x => (b δ).bind fun y => R.of (f x y) := Eq.trans rfl rfl
@[simp] theorem mUn_ap (f : D → Option D) (a : M) (δ : Vw) : mUn f a δ = (a δ).bind fun x => R.of (f x) := Eq.trans rfl rfl
@[simp] theorem mDs_ap (f : List D → Option D) (a : Vw → R (List D)) (δ : Vw) : mDs f a δ = (a δ).bind fun x => R.of (f x) := Eq.trans rfl rfl
@[simp] theorem mNil_ap (δ : Vw) : mNil δ = .ok [] := Eq.trans rfl rfl
@[simp] theorem mCons_ap (a : M) (r : Vw → R (List D)) (δ : Vw) : mCons a r δ = (a δ).bind fun x => (r δ).bind fun y => .ok (x :: y) := Eq.trans rfl rfl
@[simp] theorem mTru_ap (m : M) (δ : Vw) : mTru m δ = (m δ).bind fun d => R.of (truthD d) := Eq.trans rfl rfl
@[simp] theorem mNot_ap (t : Vw → R Bool) (δ : Vw) : mNot t δ = (t δ).bind fun b => .ok (!b) := Eq.trans rfl rfl
@[simp] theorem mAndT_ap (t u : Vw → R Bool) (δ : Vw) : mAndT t u δ = (t δ).bind fun b => if b = true then u δ else .ok false := Eq.trans rfl rfl
@[simp] theorem mOrT_ap (t u : Vw → R Bool) (δ : Vw) : mOrT t u δ = (t δ).bind fun b => if b = true then .ok true else u δ := Eq.trans rfl rfl
@[simp] theorem mAndV_ap (a b : M) (δ : Vw) : mAndV a b δ = (a δ).bind fun x => (R.of (truthD x)).bind fun k => if k = true then b δ else .ok x := Eq.trans rfl rfl
@[simp] theorem mOrV_ap (a b : M) (δ : Vw) : mOrV a b δ = (a δ).bind fun x => (R.of (truthD x)).bind fun k => if k = true then .ok x else b δ := Eq.trans rfl rfl
@[simp] theorem mIf_ap (t : Vw → R Bool) (a b : M) (δ : Vw) : mIf t a b δ = (t δ).bind fun k => if k = true then a δ else b δ := Eq.trans rfl rfl
@[simp] theorem mNotV_ap (a : M) (δ : Vw) : mNotV a δ = (a δ).bind fun x => (R.of (truthD x)).bind fun k => .ok (.bool (!k)) := Eq.trans rfl rfl
@[simp] theorem mCall_ap (n : Nat) (f : List D → R D) (dds : List D) (m : Vw → R (List D)) (δ : Vw) : mCall n f dds m δ = (m δ).bind fun ds => if (ds ++ dds).length = n then f (ds ++ dds) else .bad := Eq.trans rfl rfl
@[simp] theorem mIsi_ap (T : String) (a : M) (δ : Vw) : mIsi T a δ = (a δ).bind fun d => R.of ((isT T d).map .bool) := Eq.trans rfl rfl
@[simp] theorem mNoPart_ap (δ : Vw) : mNoPart δ = .ok none := Eq.trans rfl rfl
@[simp] theorem mPart_ap (m : M) (δ : Vw) : mPart m δ = (m δ).bind fun d => match d with
  | .int i => .ok (some i)
  | _ => .bad := Eq.trans rfl rfl
@[simp] theorem mSl_ap (m : M) (lo hi : Vw → R (Option Int)) (δ : Vw) : mSl m lo hi δ = (m δ).bind fun d => (lo δ).bind fun l => (hi δ).bind fun h => R.of (fSl d l h) := Eq.trans rfl rfl
theorem forR {f : List D → Option (List D)} {m : Vw → R (List D)} {t : Tg} {b : S} {g : Ce} {ds xs : List D} (h1 : m (vd g) = .ok ds) (h2 : f ds = some xs) : sForR f m t b g = loopF t b xs g := by
  rw [sForR_ap, h1, to_ok, h2]
theorem forL {m : M} {t : Tg} {b : S} {g : Ce} {ds : List D} (h1 : m (vd g) = .ok (.list ds)) : sForL m t b g = loopF t b ds g := by
  rw [sForL_ap, h1, to_ok]
theorem forT {m : M} {t : Tg} {b : S} {g : Ce} {ds : List D} (h1 : m (vd g) = .ok (.tuple ds)) : sForL m t b g = loopF t b ds g := by
  rw [sForL_ap, h1, to_ok]
theorem run_eq (n N : Nat) (m : S) (ds : List D) (h : ds.length = n) : run n N m ds = match m (ds.map Cell.dat ++ List.replicate (N - n) Cell.un) with
  | .nx _ => .ok .none
  | .rt d => .ok d
  | .ex c p _ => .exc c p
  | _ => .bad := by
  unfold run
  refine (if_pos h).trans ?_
  cases m (ds.map Cell.dat ++ List.replicate (N - n) Cell.un) <;> rfl
/-! operations -/
@[simp] theorem fAdd_ii (i j : Int) : fAdd (.int i) (.int j) = some (.int (i + j)) := Eq.trans rfl rfl
@[simp] theorem fSub_ii (i j : Int) : fSub (.int i) (.int j) = some (.int (i - j)) := Eq.trans rfl rfl
theorem fMul_ii {i j : Int} (h : okMul i j = true) : fMul (.int i) (.int j) = some (.int (i * j)) := by
  show (if okMul i j = true then some (PyData.int (i * j)) else none) = _
  rw [if_pos h]
theorem fFdv_ii {i j : Int} (h : okDiv j = true) : fFdv (.int i) (.int j) = some (.int (i.fdiv j)) := by
  show (if okDiv j = true then some (PyData.int (i.fdiv j)) else none) = _
  rw [if_pos h]
theorem fFdv_pos {i j : Int} (h : 0 < j) (l : j.natAbs.log2 < 9000) : fFdv (.int i) (.int j) = some (.int (i / j)) := by
  rw [fFdv_ii, Int.fdiv_eq_ediv_of_nonneg i (by omega)]
  unfold okDiv
  rw [Bool.and_eq_true, decide_eq_true_eq, decide_eq_true_eq]
  exact ⟨by omega, l⟩
theorem fMod_ii {i j : Int} (h : j ≠ 0) : fMod (.int i) (.int j) = some (.int (i.fmod j)) := by
  show (if j ≠ 0 then some (PyData.int (i.fmod j)) else none) = _
  rw [if_pos h]
theorem fMod_pos {i j : Int} (h : 0 < j) : fMod (.int i) (.int j) = some (.int (i % j)) := by
  rw [fMod_ii (by omega), Int.fmod_eq_emod_of_nonneg i (by omega)]
theorem fPow_ii {i j : Int} (h : 0 ≤ j ∧ j ≤ 1000000 ∧ i.natAbs < 2 ^ 64) : fPow (.int i) (.int j) = some (.int (i ^ j.toNat)) := by
  show (if 0 ≤ j ∧ j ≤ 1000000 ∧ i.natAbs < 2 ^ 64 then some (PyData.int (i ^ j.toNat)) else none) = _
  rw [if_pos h]
@[simp] theorem fNeg_i (i : Int) : fNeg (.int i) = some (.int (-i)) := Eq.trans rfl rfl
@[simp] theorem fLt_ii (i j : Int) : fLt (.int i) (.int j) = some (.bool (decide (i < j))) := Eq.trans rfl rfl
@[simp] theorem fLe_ii (i j : Int) : fLe (.int i) (.int j) = some (.bool (decide (i ≤ j))) := Eq.trans rfl rfl
@[simp] theorem fGt_ii (i j : Int) : fGt (.int i) (.int j) = some (.bool (decide (j < i))) := Eq.trans rfl rfl
@[simp] theorem fGe_ii (i j : Int) : fGe (.int i) (.int j) = some (.bool (decide (j ≤ i))) := Eq.trans rfl rfl
@[simp] theorem fEq_ii (i j : Int) : fEq (.int i) (.int j) = some (.bool (decide (i = j))) := Eq.trans rfl rfl
@[simp] theorem fEq_ss (i j : Str) : fEq (.str i) (.str j) = some (.bool (decide (i = j))) := Eq.trans rfl rfl
@[simp] theorem fEq_bb (i j : Bool) : fEq (.bool i) (.bool j) = some (.bool (decide (i = j))) := Eq.trans rfl rfl
@[simp] theorem fNe_ii (i j : Int) : fNe (.int i) (.int j) = some (.bool (!decide (i = j))) := Eq.trans rfl rfl
@[simp] theorem fNe_ss (i j : Str) : fNe (.str i) (.str j) = some (.bool (!decide (i = j))) := Eq.trans rfl rfl
@[simp] theorem fNe_bb (i j : Bool) : fNe (.bool i) (.bool j) = some (.bool (!decide (i = j))) := Eq.trans rfl rfl
@[simp] theorem truth_b (b : Bool) : truthD (.bool b) = some b := Eq.trans rfl rfl
@[simp] theorem fAbs_i (i : Int) : fAbs [.int i] = some (.int (if i < 0 then -i else i)) := Eq.trans rfl rfl
@[simp] theorem fLen_l (ds : List D) : fLen [.list ds] = some (.int ds.length) := Eq.trans rfl rfl
@[simp] theorem fLen_t (ds : List D) : fLen [.tuple ds] = some (.int ds.length) := Eq.trans rfl rfl
@[simp] theorem fMax_ii (i j : Int) : fMax [.int i, .int j] = some (.int (if j > i then j else i)) := Eq.trans rfl rfl
@[simp] theorem fMin_ii (i j : Int) : fMin [.int i, .int j] = some (.int (if j < i then j else i)) := Eq.trans rfl rfl
@[simp] theorem fInt_i (i : Int) : fInt [.int i] = some (.int i) := Eq.trans rfl rfl
@[simp] theorem fInt_b (b : Bool) : fInt [.bool b] = some (.int (if b then 1 else 0)) := Eq.trans rfl rfl
theorem fIx_t {ds : List D} {j : Nat} {d : D} (h : ds[j]? = some d) : fIx (.tuple ds) (.int (j : Int)) = some d := L2.atI_nat h
theorem fIx_l {ds : List D} {j : Nat} {d : D} (h : ds[j]? = some d) : fIx (.list ds) (.int (j : Int)) = some d := L2.atI_nat h
@[simp] theorem fIx_t0 (a : D) (r : List D) : fIx (.tuple (a :: r)) (.int 0) = some a := fIx_t (j := 0) rfl
@[simp] theorem fIx_t1 (a b : D) (r : List D) : fIx (.tuple (a :: b :: r)) (.int 1) = some b := fIx_t (j := 1) rfl
@[simp] theorem fIx_t2 (a b c : D) (r : List D) : fIx (.tuple (a :: b :: c :: r)) (.int 2) = some c := fIx_t (j := 2) rfl
@[simp] theorem dTup_1 (a : D) : dTup [a] = some (.tuple [a]) := Eq.trans rfl rfl
@[simp] theorem dTup_2 (a b : D) : dTup [a, b] = some (.tuple [a, b]) := Eq.trans rfl rfl
@[simp] theorem dTup_3 (a b c : D) : dTup [a, b, c] = some (.tuple [a, b, c]) := Eq.trans rfl rfl
@[simp] theorem isT_int_none  : isT "int" (.none) = some false := show L2.kitB "NoneType" "int" = some false by decide +kernel
@[simp] theorem isT_int_bool (b : Bool) : isT "int" (.bool b) = some true := show L2.kitB "bool" "int" = some true by decide +kernel
@[simp] theorem isT_int_int (i : Int) : isT "int" (.int i) = some true := show L2.kitB "int" "int" = some true by decide +kernel
@[simp] theorem isT_int_str (z : Str) : isT "int" (.str z) = some false := show L2.kitB "str" "int" = some false by decide +kernel
@[simp] theorem isT_int_list (ds : List D) : isT "int" (.list ds) = some false := show L2.kitB "list" "int" = some false by decide +kernel
@[simp] theorem isT_int_tuple (ds : List D) : isT "int" (.tuple ds) = some false := show L2.kitB "tuple" "int" = some false by decide +kernel
@[simp] theorem isT_bool_none  : isT "bool" (.none) = some false := show L2.kitB "NoneType" "bool" = some false by decide +kernel
@[simp] theorem isT_bool_bool (b : Bool) : isT "bool" (.bool b) = some true := show L2.kitB "bool" "bool" = some true by decide +kernel
@[simp] theorem isT_bool_int (i : Int) : isT "bool" (.int i) = some false := show L2.kitB "int" "bool" = some false by decide +kernel
@[simp] theorem isT_bool_str (z : Str) : isT "bool" (.str z) = some false := show L2.kitB "str" "bool" = some false by decide +kernel
@[simp] theorem isT_bool_list (ds : List D) : isT "bool" (.list ds) = some false := show L2.kitB "list" "bool" = some false by decide +kernel
@[simp] theorem isT_bool_tuple (ds : List D) : isT "bool" (.tuple ds) = some false := show L2.kitB "tuple" "bool" = some false by decide +kernel
@[simp] theorem isT_tuple_none  : isT "tuple" (.none) = some false := show L2.kitB "NoneType" "tuple" = some false by decide +kernel
@[simp] theorem isT_tuple_bool (b : Bool) : isT "tuple" (.bool b) = some false := show L2.kitB "bool" "tuple" = some false by decide +kernel
@[simp] theorem isT_tuple_int (i : Int) : isT "tuple" (.int i) = some false := show L2.kitB "int" "tuple" = some false by decide +kernel
@[simp] theorem isT_tuple_str (z : Str) : isT "tuple" (.str z) = some false := show L2.kitB "str" "tuple" = some false by decide +kernel
@[simp] theorem isT_tuple_list (ds : List D) : isT "tuple" (.list ds) = some false := show L2.kitB "list" "tuple" = some false by decide +kernel
@[simp] theorem isT_tuple_tuple (ds : List D) : isT "tuple" (.tuple ds) = some true := show L2.kitB "tuple" "tuple" = some true by decide +kernel
@[simp] theorem isT_str_none  : isT "str" (.none) = some false := show L2.kitB "NoneType" "str" = some false by decide +kernel
@[simp] theorem isT_str_bool (b : Bool) : isT "str" (.bool b) = some false := show L2.kitB "bool" "str" = some false by decide +kernel
@[simp] theorem isT_str_int (i : Int) : isT "str" (.int i) = some false := show L2.kitB "int" "str" = some false by decide +kernel
@[simp] theorem isT_str_str (z : Str) : isT "str" (.str z) = some true := show L2.kitB "str" "str" = some true by decide +kernel
@[simp] theorem isT_str_list (ds : List D) : isT "str" (.list ds) = some false := show L2.kitB "list" "str" = some false by decide +kernel
@[simp] theorem isT_str_tuple (ds : List D) : isT "str" (.tuple ds) = some false := show L2.kitB "tuple" "str" = some false by decide +kernel
@[simp] theorem isT_list_none  : isT "list" (.none) = some false := show L2.kitB "NoneType" "list" = some false by decide +kernel
@[simp] theorem isT_list_bool (b : Bool) : isT "list" (.bool b) = some false := show L2.kitB "bool" "list" = some false by decide +kernel
@[simp] theorem isT_list_int (i : Int) : isT "list" (.int i) = some false := show L2.kitB "int" "list" = some false by decide +kernel
@[simp] theorem isT_list_str (z : Str) : isT "list" (.str z) = some false := show L2.kitB "str" "list" = some false by decide +kernel
@[simp] theorem isT_list_list (ds : List D) : isT "list" (.list ds) = some true := show L2.kitB "list" "list" = some true by decide +kernel
@[simp] theorem isT_list_tuple (ds : List D) : isT "list" (.tuple ds) = some false := show L2.kitB "tuple" "list" = some false by decide +kernel
/-! loops -/
theorem loopF_inv {t : Tg} {b : S} (P : Ce → Prop) : ∀ (ds : List D) (g : Ce), P g → (∀ d ∈ ds, ∀ g, P g → ∃ g1 g2, t d g = some g1 ∧ (b g1 = .nx g2 ∨ b g1 = .ct g2) ∧ P g2) → ∃ g', loopF t b ds g = .nx g' ∧ P g'
  | [], g, p, _ => ⟨g, rfl, p⟩
  | d :: ds, g, p, h => by
    obtain ⟨g1, g2, e1, e2, p2⟩ := h d (List.mem_cons_self ..) g p
    obtain ⟨g', e3, p3⟩ := loopF_inv P ds g2 p2 fun d' hd => h d' (List.mem_cons_of_mem _ hd)
    refine ⟨g', ?_, p3⟩
    unfold loopF
    rw [e1]
    dsimp only
    rcases e2 with e2 | e2 <;> rw [e2] <;> exact e3
/-- the same with what is gone through -/
theorem loopF_ix {t : Tg} {b : S} (P : Nat → Ce → Prop) : ∀ (ds : List D) (k : Nat) (g : Ce), P k g → (∀ i d, ds[i]? = some d → ∀ g, P (k + i) g → ∃ g1 g2, t d g = some g1 ∧ (b g1 = .nx g2 ∨ b g1 = .ct g2) ∧ P (k + i + 1) g2) → ∃ g', loopF t b ds g = .nx g' ∧ P (k + ds.length) g'
  | [], k, g, p, _ => ⟨g, rfl, p⟩
  | d :: ds, k, g, p, h => by
    obtain ⟨g1, g2, e1, e2, p2⟩ := h 0 d (by simp) g p
    obtain ⟨g', e3, p3⟩ := loopF_ix P ds (k + 1) g2 p2 fun i d' hd g q => by
      have := h (i + 1) d' (by simpa using hd) g (by rw [show k + (i + 1) = k + 1 + i by omega]; exact q)
      rw [show k + (i + 1) + 1 = k + 1 + i + 1 by omega] at this
      exact this
    refine ⟨g', ?_, by rw [List.length_cons, show k + (ds.length + 1) = k + 1 + ds.length by omega]; exact p3⟩
    unfold loopF
    rw [e1]
    dsimp only
    rcases e2 with e2 | e2 <;> rw [e2] <;> exact e3
theorem loopW_ap (t : Vw → R Bool) (b : S) (n : Nat) (g : Ce) : loopW t b (n + 1) g = (t (va g)).to g fun k => if k = true then (match b g with
      | .nx g2 => loopW t b n g2
      | .ct g2 => loopW t b n g2
      | .bk g2 => .nx g2
      | o => o) else .nx g := rfl
theorem mem_rngL {lo c : Int} {n : Nat} {d : D} (h : d ∈ rngL lo c n) : ∃ i : Nat, i < n ∧ d = .int (lo + (i : Int) * c) := by
  unfold rngL at h
  obtain ⟨i, hi, e⟩ := List.mem_map.mp h
  exact ⟨i, List.mem_range.mp hi, e.symm⟩
/-! a script's cut, a range by steps -/
theorem cut_all (ds : List D) (n : Nat) (h : ds.length ≤ n) : fSl (.list ds) none (some (n : Int)) = some (.list ds) := by
  have : cutD ds none (some (n : Int)) = ds := by
    unfold cutD
    rw [HT.sIx_nat, HT.sIx_none, Nat.min_eq_right h]
    simp
  show some (PyData.list (cutD ds none (some (n : Int)))) = _
  rw [this]
theorem cut_take (ds : List D) (n : Nat) : fSl (.list ds) none (some (n : Int)) = some (.list (ds.take n)) := by
  have : cutD ds none (some (n : Int)) = ds.take n := by
    unfold cutD
    rw [HT.sIx_nat, HT.sIx_none]
    simp
  show some (PyData.list (cutD ds none (some (n : Int)))) = _
  rw [this]
theorem rng3_0 (c : Int) (m : Nat) (hc : c ≠ 0 ∧ c.natAbs < 1073741824) (h : Builtin.Range.small 0 ((m : Int) + 1) c = true ∧ 0 ≤ Builtin.Range.rangeSize 0 ((m : Int) + 1) c) (h0 : 0 ≤ c) :
    ∃ xs, rng3 [.int 0, .int ((m : Int) + 1), .int c] = some xs ∧ ∀ d ∈ xs, ∃ k : Nat, d = .int (k : Int) := by
  refine ⟨rngL 0 c (Builtin.Range.rangeSize 0 ((m : Int) + 1) c).toNat, ?_, fun d hd => ?_⟩
  · show (if c ≠ 0 ∧ c.natAbs < 1073741824 ∧ Builtin.Range.small 0 ((m : Int) + 1) c = true ∧ 0 ≤ Builtin.Range.rangeSize 0 ((m : Int) + 1) c then some (rngL 0 c (Builtin.Range.rangeSize 0 ((m : Int) + 1) c).toNat) else none) = _
    rw [if_pos ⟨hc.1, hc.2, h.1, h.2⟩]
  · obtain ⟨i, _, e⟩ := mem_rngL hd
    exact ⟨i * c.toNat, by rw [e]; simp [Int.toNat_of_nonneg h0]⟩
theorem rng3_3 (m : Nat) (h : m ≤ 64) : ∃ xs, rng3 [.int 0, .int ((m : Int) + 1), .int 3] = some xs ∧ ∀ d ∈ xs, ∃ k : Nat, d = .int (k : Int) :=
  rng3_0 3 m (by decide) ((by decide +kernel : ∀ m : Nat, m ≤ 64 → Builtin.Range.small 0 ((m : Int) + 1) 3 = true ∧ 0 ≤ Builtin.Range.rangeSize 0 ((m : Int) + 1) 3) m h) (by decide)
theorem rng3_5 (m : Nat) (h : m ≤ 64) : ∃ xs, rng3 [.int 0, .int ((m : Int) + 1), .int 5] = some xs ∧ ∀ d ∈ xs, ∃ k : Nat, d = .int (k : Int) :=
  rng3_0 5 m (by decide) ((by decide +kernel : ∀ m : Nat, m ≤ 64 → Builtin.Range.small 0 ((m : Int) + 1) 5 = true ∧ 0 ≤ Builtin.Range.rangeSize 0 ((m : Int) + 1) 5) m h) (by decide)
theorem rng3_2 (m : Nat) (h : m ≤ 64) : ∃ xs, rng3 [.int 0, .int ((m : Int) + 1), .int 2] = some xs ∧ ∀ d ∈ xs, ∃ k : Nat, d = .int (k : Int) :=
  rng3_0 2 m (by decide) ((by decide +kernel : ∀ m : Nat, m ≤ 64 → Builtin.Range.small 0 ((m : Int) + 1) 2 = true ∧ 0 ≤ Builtin.Range.rangeSize 0 ((m : Int) + 1) 2) m h) (by decide)
theorem rng3_4 (m : Nat) (h : m ≤ 64) : ∃ xs, rng3 [.int 0, .int ((m : Int) + 1), .int 4] = some xs ∧ ∀ d ∈ xs, ∃ k : Nat, d = .int (k : Int) :=
  rng3_0 4 m (by decide) ((by decide +kernel : ∀ m : Nat, m ≤ 64 → Builtin.Range.small 0 ((m : Int) + 1) 4 = true ∧ 0 ≤ Builtin.Range.rangeSize 0 ((m : Int) + 1) 4) m h) (by decide)
/-! sizes -/
theorem log2_lt {i : Int} {a : Nat} (h : i.natAbs < 2 ^ a) (h0 : 0 < a) : i.natAbs.log2 < a := PySem.Flt.log2_lt_of h0 h
theorem okMul_bd {i j : Int} (a b : Nat) (ha : i.natAbs < 2 ^ a) (hb : j.natAbs < 2 ^ b) (h0 : 0 < a) (h1 : 0 < b) (h : a + b ≤ 1000000) : okMul i j = true := by
  have x := log2_lt ha h0
  have y := log2_lt hb h1
  unfold okMul
  rw [decide_eq_true_eq]
  omega
theorem okDiv_bd {j : Int} (a : Nat) (hj : j ≠ 0) (ha : j.natAbs < 2 ^ a) (h0 : 0 < a) (h : a ≤ 9000) : okDiv j = true := by
  have x := log2_lt ha h0
  unfold okDiv
  rw [Bool.and_eq_true, decide_eq_true_eq, decide_eq_true_eq]
  exact ⟨hj, by omega⟩
theorem natAbs_mul_lt {i j : Int} {a b : Nat} (ha : i.natAbs < a) (hb : j.natAbs < b) : (i * j).natAbs < a * b := by
  rw [Int.natAbs_mul]
  exact Nat.mul_lt_mul'' ha hb
end MI
set_option Elab.async false
set_option linter.all false
set_option maxRecDepth 100000
set_option maxHeartbeats 4000000
/-! Num: what the defs about numbers tell. -/
namespace Num
open PySem MI
@[simp] theorem whole_int (fu : Nat) (i : Int) : Pg.f_p_is_whole fu [.int i] = .ok (.bool true) := by
  simp [Pg.f_p_is_whole, Pg.s_p_is_whole, run_eq]
@[simp] theorem whole_bool (fu : Nat) (i : Bool) : Pg.f_p_is_whole fu [.bool i] = .ok (.bool false) := by
  simp [Pg.f_p_is_whole, Pg.s_p_is_whole, run_eq]
@[simp] theorem whole_none (fu : Nat) : Pg.f_p_is_whole fu [.none] = .ok (.bool false) := by
  simp [Pg.f_p_is_whole, Pg.s_p_is_whole, run_eq]
@[simp] theorem whole_str (fu : Nat) (z : Str) : Pg.f_p_is_whole fu [.str z] = .ok (.bool false) := by
  simp [Pg.f_p_is_whole, Pg.s_p_is_whole, run_eq]
@[simp] theorem whole_list (fu : Nat) (z : List MI.D) : Pg.f_p_is_whole fu [.list z] = .ok (.bool false) := by
  simp [Pg.f_p_is_whole, Pg.s_p_is_whole, run_eq]
@[simp] theorem whole_tuple (fu : Nat) (z : List MI.D) : Pg.f_p_is_whole fu [.tuple z] = .ok (.bool false) := by
  simp [Pg.f_p_is_whole, Pg.s_p_is_whole, run_eq]
theorem natAbs_fmod_lt (a b : Int) (h : b ≠ 0) : (a.fmod b).natAbs < b.natAbs := by
  rw [Int.fmod_eq_emod]
  have h1 := Int.emod_nonneg a h
  have h2 := Int.emod_lt a h
  split
  · omega
  · rename_i hn
    have h3 : a % b ≠ 0 := fun e => hn (.inr (Int.dvd_of_emod_eq_zero e))
    omega
theorem gcd_fmod (a b : Int) : Int.gcd b (a.fmod b) = Int.gcd a b := by
  have e : a.fmod b = a - b * (a.fdiv b) := by
    have := Int.mul_fdiv_add_fmod a b
    omega
  rw [e, Int.gcd_comm a b]
  apply Nat.dvd_antisymm
  · apply Int.dvd_gcd
    · exact Int.gcd_dvd_left _ _
    · have h1 : (Int.gcd b (a - b * a.fdiv b) : Int) ∣ a - b * a.fdiv b := Int.gcd_dvd_right _ _
      have h2 : (Int.gcd b (a - b * a.fdiv b) : Int) ∣ b * a.fdiv b := Int.dvd_trans (Int.gcd_dvd_left _ _) (Int.dvd_mul_right ..)
      have := Int.dvd_add h1 h2
      rwa [Int.sub_add_cancel] at this
  · apply Int.dvd_gcd
    · exact Int.gcd_dvd_left _ _
    · exact Int.dvd_sub (Int.gcd_dvd_right _ _) (Int.dvd_trans (Int.gcd_dvd_left _ _) (Int.dvd_mul_right ..))
theorem div_loop (fu : Nat) : ∀ (n : Nat) (a b : Int), b.natAbs < n → ∃ a' : Int, loopW (mTru (mBin fNe (mVar 1) (mC (.int 0)))) (Pg.b_p_divisor_1 fu) n [.dat (.int a), .dat (.int b)] = .nx [.dat (.int a'), .dat (.int 0)] ∧ a'.natAbs = Int.gcd a b
  | 0, a, b, h => by omega
  | n + 1, a, b, h => by
    rw [loopW_ap]
    by_cases e : b = 0
    · subst e
      refine ⟨a, by simp, by simp⟩
    · obtain ⟨a', h1, h2⟩ := div_loop fu n b (a.fmod b) (by have := natAbs_fmod_lt a b e; omega)
      refine ⟨a', ?_, by rw [h2, gcd_fmod]⟩
      simp [Pg.b_p_divisor_1, e, fMod_ii e]
      exact h1
theorem divisor (fu : Nat) (a b : Int) (h : b.natAbs < fu) : Pg.f_p_divisor fu [.int a, .int b] = .ok (.int (Int.gcd a b)) := by
  obtain ⟨a', h1, h2⟩ := div_loop fu fu a b h
  simp [Pg.f_p_divisor, Pg.s_p_divisor, run_eq, h1]
  omega
/-- both within so many bits -/
def FU : Nat := 2 ^ 4000
theorem fu_lt {a b : Nat} (h : a < 2 ^ b) (hb : b ≤ 4000) : a < FU := Nat.lt_of_lt_of_le h (Nat.pow_le_pow_right (by decide) hb)
def Sm (i : Int) : Prop := i.natAbs < FU
theorem sm_gcd {a b : Int} (h : Sm b) (hb : b ≠ 0) : Int.gcd a b ≠ 0 ∧ ((Int.gcd a b : Nat) : Int).natAbs < FU := by
  refine ⟨fun e => hb (Int.gcd_eq_zero_iff.mp e).2, ?_⟩
  have : Int.gcd a b ≤ b.natAbs := Nat.le_of_dvd (by omega) (Int.natAbs_dvd_natAbs.mpr (Int.gcd_dvd_right a b) |> fun x => by simpa using x)
  unfold Sm at h
  simp
  omega
theorem lowest (fu : Nat) (top bottom : Int) (hb : bottom ≠ 0) (h2 : Sm bottom) (hfu : FU ≤ fu) :
    ∃ t b : Int, Pg.f_p_lowest fu [.int top, .int bottom] = .ok (.tuple [.int t, .int b]) ∧ 0 < b ∧ Int.gcd t b = 1 ∧ t * bottom = top * b ∧ b.natAbs ≤ bottom.natAbs ∧ t.natAbs ≤ top.natAbs := by
  obtain ⟨g0, gs⟩ := sm_gcd (a := top) h2 hb
  have hd := divisor fu top bottom (Nat.lt_of_lt_of_le h2 hfu)
  obtain ⟨q, hq⟩ : ((Int.gcd top bottom : Nat) : Int) ∣ top := Int.gcd_dvd_left _ _
  obtain ⟨r, hr⟩ : ((Int.gcd top bottom : Nat) : Int) ∣ bottom := Int.gcd_dvd_right _ _
  have g1 : 0 < ((Int.gcd top bottom : Nat) : Int) := by omega
  have hco : Int.gcd q r = 1 := by
    have e : Int.gcd (((Int.gcd top bottom : Nat) : Int) * q) (((Int.gcd top bottom : Nat) : Int) * r) = Int.gcd top bottom := by rw [← hq, ← hr]
    rw [Int.gcd_mul_left, Int.natAbs_natCast] at e
    exact Nat.eq_of_mul_eq_mul_left (Nat.pos_of_ne_zero g0) (e.trans (Nat.mul_one _).symm)
  generalize hg : ((Int.gcd top bottom : Nat) : Int) = g at *
  have rle : r.natAbs ≤ bottom.natAbs := by
    rw [hr, Int.natAbs_mul]
    exact Nat.le_mul_of_pos_left _ (by omega)
  have qle : q.natAbs ≤ top.natAbs := by
    rw [hq, Int.natAbs_mul]
    exact Nat.le_mul_of_pos_left _ (by omega)
  by_cases c : bottom < 0
  · have r0 : r < 0 := by
      rcases (by omega : r < 0 ∨ 0 ≤ r) with h | h
      · exact h
      · have := Int.mul_nonneg (Int.le_of_lt g1) h
        omega
    have ok : okDiv (0 - g) = true := okDiv_bd 4000 (by omega) (by show _ < FU; omega) (by decide) (by decide)
    have e1 : top.fdiv (0 - g) = -q := by
      rw [show top = (0 - g) * (-q) by rw [hq, Int.zero_sub, Int.neg_mul_neg], Int.mul_fdiv_cancel_left _ (by omega)]
    have e2 : bottom.fdiv (0 - g) = -r := by
      rw [show bottom = (0 - g) * (-r) by rw [hr, Int.zero_sub, Int.neg_mul_neg], Int.mul_fdiv_cancel_left _ (by omega)]
    refine ⟨-q, -r, ?_, by omega, by simpa using hco, ?_, by simpa using rle, by simpa using qle⟩
    · have m1 := fFdv_ii (i := top) ok
      have m2 := fFdv_ii (i := bottom) ok
      rw [e1] at m1
      rw [e2] at m2
      rw [Int.zero_sub] at m1 m2
      simp [Pg.f_p_lowest, Pg.s_p_lowest, run_eq, hd, hg, c, m1, m2]
    · rw [hq, hr, Int.neg_mul, Int.mul_neg]
      congr 1
      ac_rfl
  · have r0 : 0 < r := by
      rcases (by omega : 0 < r ∨ r ≤ 0) with h | h
      · exact h
      · have := Int.mul_nonpos_of_nonneg_of_nonpos (Int.le_of_lt g1) h
        omega
    have ok : okDiv g = true := okDiv_bd 4000 (by omega) (by show _ < FU; omega) (by decide) (by decide)
    have e1 : top.fdiv g = q := by
      rw [show top = g * q from hq, Int.mul_fdiv_cancel_left _ (by omega)]
    have e2 : bottom.fdiv g = r := by
      rw [show bottom = g * r from hr, Int.mul_fdiv_cancel_left _ (by omega)]
    refine ⟨q, r, ?_, r0, hco, ?_, rle, qle⟩
    · have m1 := fFdv_ii (i := top) ok
      have m2 := fFdv_ii (i := bottom) ok
      rw [e1] at m1
      rw [e2] at m2
      simp [Pg.f_p_lowest, Pg.s_p_lowest, run_eq, hd, hg, c, m1, m2]
    · rw [hq, hr]
      ac_rfl
theorem number (fu : Nat) (top bottom : Int) (hb : bottom ≠ 0) (h2 : Sm bottom) (hfu : FU ≤ fu) :
    ∃ t b : Int, Pg.f_p_number fu [.int top, .int bottom] = .ok (.tuple [.int t, .int b]) ∧ 0 < b ∧ Int.gcd t b = 1 ∧ t * bottom = top * b ∧ b.natAbs ≤ bottom.natAbs ∧ t.natAbs ≤ top.natAbs := by
  obtain ⟨t, b, e, h⟩ := lowest fu top bottom hb h2 hfu
  exact ⟨t, b, by simp [Pg.f_p_number, Pg.s_p_number, run_eq, hb, e], h⟩
theorem number_0 (fu : Nat) (top : Int) : Pg.f_p_number fu [.int top, .int 0] = .exc "NoNumber" none := by
  simp [Pg.f_p_number, Pg.s_p_number, run_eq, flatO]
theorem made (fu : Nat) (t b top bottom : Int) (hb : 0 < b) (h2 : b.natAbs < fu) (hg : Int.gcd t b = 1) (e : t * bottom = top * b) (m1 : okMul t bottom = true) (m2 : okMul top b = true) :
    Pg.f_law_made fu [.tuple [.int t, .int b], .int top, .int bottom] = .ok (.bool true) := by
  have hd := divisor fu t b h2
  have hb' : ¬ b < 1 := by omega
  simp [Pg.f_law_made, Pg.s_law_made, run_eq, hd, hg, hb', fMul_ii m1, fMul_ii m2, e]
theorem lowest_made (fu : Nat) (hfu : FU ≤ fu) {top bottom : Int} (hb : bottom ≠ 0) (h1 : top.natAbs < 2 ^ 1000) (h2 : bottom.natAbs < 2 ^ 1000) :
    ∃ d, Pg.f_p_lowest fu [.int top, .int bottom] = .ok d ∧ Pg.f_law_made fu [d, .int top, .int bottom] = .ok (.bool true) := by
  obtain ⟨t, d, q1, q2, q3, q4, q5, q6⟩ := lowest fu top bottom hb (fu_lt h2 (by decide)) hfu
  have td : d.natAbs < 2 ^ 1000 := Nat.lt_of_le_of_lt q5 h2
  have tt : t.natAbs < 2 ^ 1000 := Nat.lt_of_le_of_lt q6 h1
  exact ⟨_, q1, made fu t d _ _ q2 (Nat.lt_of_lt_of_le (fu_lt td (by decide)) hfu) q3 q4 (okMul_bd 1000 1000 tt h2 (by decide) (by decide) (by decide)) (okMul_bd 1000 1000 h1 td (by decide) (by decide) (by decide))⟩
theorem number_made (fu : Nat) (hfu : FU ≤ fu) {top bottom : Int} (hb : bottom ≠ 0) (h1 : top.natAbs < 2 ^ 1000) (h2 : bottom.natAbs < 2 ^ 1000) :
    ∃ d, Pg.f_p_number fu [.int top, .int bottom] = .ok d ∧ Pg.f_law_made fu [d, .int top, .int bottom] = .ok (.bool true) := by
  obtain ⟨t, d, q1, q2, q3, q4, q5, q6⟩ := number fu top bottom hb (fu_lt h2 (by decide)) hfu
  have td : d.natAbs < 2 ^ 1000 := Nat.lt_of_le_of_lt q5 h2
  have tt : t.natAbs < 2 ^ 1000 := Nat.lt_of_le_of_lt q6 h1
  exact ⟨_, q1, made fu t d _ _ q2 (Nat.lt_of_lt_of_le (fu_lt td (by decide)) hfu) q3 q4 (okMul_bd 1000 1000 tt h2 (by decide) (by decide) (by decide)) (okMul_bd 1000 1000 h1 td (by decide) (by decide) (by decide))⟩
theorem cell_at (fu : Nat) (ns : List Int) (k : Nat) : Pg.f_law_cell_at fu [.list (ns.map .int), .int (k : Int)] = .ok (.int (ns.getD k 0)) := by
  by_cases h : k < ns.length
  · have e : (ns.map PyData.int)[k]? = some (.int (ns.getD k 0)) := by
      rw [List.getElem?_map, List.getElem?_eq_getElem h]
      simp [List.getD, List.getElem?_eq_getElem h]
    simp [Pg.f_law_cell_at, Pg.s_law_cell_at, run_eq, h, fIx_l e]
  · simp [Pg.f_law_cell_at, Pg.s_law_cell_at, run_eq, h, List.getD, List.getElem?_eq_none (show ns.length ≤ k by omega)]
theorem cell_at' (fu : Nat) (ns : List Int) {z : Int} (h : 0 ≤ z) : Pg.f_law_cell_at fu [.list (ns.map .int), .int z] = .ok (.int (ns.getD z.toNat 0)) := by
  have := cell_at fu ns z.toNat
  rwa [Int.toNat_of_nonneg h] at this
theorem mod2 (i : Int) : i % 2 = 0 ∨ i % 2 = 1 := by omega
/-- a number of either sign, below a bound -/
theorem signed (fu : Nat) (cell most : Int) (hm : 0 < most) : ∃ r : Int, Pg.f_law_signed fu [.int cell, .int most] = .ok (.int r) ∧ r.natAbs < most.natAbs := by
  have h1 := fFdv_pos (i := cell) (j := 2) (by decide) (by decide +kernel)
  have h2 := fMod_pos (i := cell / 2) hm
  have h3 := fMod_pos (i := cell) (j := 2) (by decide)
  have b1 := Int.emod_nonneg (cell / 2) (show most ≠ 0 by omega)
  have b2 := Int.emod_lt_of_pos (cell / 2) hm
  rcases mod2 cell with c | c
  · exact ⟨cell / 2 % most, by simp [Pg.f_law_signed, Pg.s_law_signed, run_eq, h1, h2, h3, c], by omega⟩
  · exact ⟨-(cell / 2 % most), by simp [Pg.f_law_signed, Pg.s_law_signed, run_eq, h1, h2, h3, c], by omega⟩
/-- a drawn number in lowest terms -/
theorem law_number (fu : Nat) (hfu : FU ≤ fu) (above below : Int) : ∃ t b : Int, Pg.f_law_number fu [.int above, .int below] = .ok (.tuple [.int t, .int b]) ∧ 0 < b ∧ Int.gcd t b = 1 ∧ t.natAbs < 2 ^ 200 ∧ b.natAbs < 2 ^ 200 := by
  have p60 : fPow (.int 10) (.int 60) = some (.int 1000000000000000000000000000000000000000000000000000000000000) := fPow_ii (by decide)
  have d2 := fFdv_pos (i := above) (j := 2) (by decide) (by decide +kernel)
  have m2 := fMod_pos (i := above) (j := 2) (by decide)
  have m60 := fMod_pos (i := above / 2) (j := 1000000000000000000000000000000000000000000000000000000000000) (by decide)
  have m61 := fMod_pos (i := below) (j := 999999999999999999999999999999999999999999999999999999999999) (by decide)
  have u1 := Int.emod_nonneg (above / 2) (b := 1000000000000000000000000000000000000000000000000000000000000) (by decide)
  have u2 := Int.emod_lt_of_pos (above / 2) (b := 1000000000000000000000000000000000000000000000000000000000000) (by decide)
  have v1 := Int.emod_nonneg below (b := 999999999999999999999999999999999999999999999999999999999999) (by decide)
  have v2 := Int.emod_lt_of_pos below (b := 999999999999999999999999999999999999999999999999999999999999) (by decide)
  have key : ∀ top bottom : Int, 0 < bottom → top.natAbs < 2 ^ 200 → bottom.natAbs < 2 ^ 200 → ∃ g t b : Int, Pg.f_p_divisor fu [.int top, .int bottom] = .ok (.int g) ∧ fFdv (.int top) (.int g) = some (.int t) ∧ fFdv (.int bottom) (.int g) = some (.int b) ∧ 0 < b ∧ Int.gcd t b = 1 ∧ t.natAbs < 2 ^ 200 ∧ b.natAbs < 2 ^ 200 := by
    intro top bottom hb h1 h2
    obtain ⟨g0, gs⟩ := sm_gcd (a := top) (fu_lt h2 (by decide)) (show bottom ≠ 0 by omega)
    have hd := divisor fu top bottom (Nat.lt_of_lt_of_le (fu_lt h2 (by decide)) hfu)
    obtain ⟨q, hq⟩ : ((Int.gcd top bottom : Nat) : Int) ∣ top := Int.gcd_dvd_left _ _
    obtain ⟨r, hr⟩ : ((Int.gcd top bottom : Nat) : Int) ∣ bottom := Int.gcd_dvd_right _ _
    have g1 : 0 < ((Int.gcd top bottom : Nat) : Int) := by omega
    have hco : Int.gcd q r = 1 := by
      have e : Int.gcd (((Int.gcd top bottom : Nat) : Int) * q) (((Int.gcd top bottom : Nat) : Int) * r) = Int.gcd top bottom := by rw [← hq, ← hr]
      rw [Int.gcd_mul_left, Int.natAbs_natCast] at e
      exact Nat.eq_of_mul_eq_mul_left (Nat.pos_of_ne_zero g0) (e.trans (Nat.mul_one _).symm)
    generalize hg : ((Int.gcd top bottom : Nat) : Int) = g at *
    have r0 : 0 < r := by
      rcases (by omega : 0 < r ∨ r ≤ 0) with h | h
      · exact h
      · have := Int.mul_nonpos_of_nonneg_of_nonpos (Int.le_of_lt g1) h
        omega
    have ok : okDiv g = true := okDiv_bd 4000 (by omega) (by show _ < FU; omega) (by decide) (by decide)
    have e1 : top.fdiv g = q := by
      rw [show top = g * q from hq, Int.mul_fdiv_cancel_left _ (by omega)]
    have e2 : bottom.fdiv g = r := by
      rw [show bottom = g * r from hr, Int.mul_fdiv_cancel_left _ (by omega)]
    have rle : r.natAbs ≤ bottom.natAbs := by
      rw [hr, Int.natAbs_mul]
      exact Nat.le_mul_of_pos_left _ (by omega)
    have qle : q.natAbs ≤ top.natAbs := by
      rw [hq, Int.natAbs_mul]
      exact Nat.le_mul_of_pos_left _ (by omega)
    exact ⟨g, q, r, hd, by rw [fFdv_ii ok, e1], by rw [fFdv_ii ok, e2], r0, hco, Nat.lt_of_le_of_lt qle h1, Nat.lt_of_le_of_lt rle h2⟩
  rcases mod2 above with c | c
  · obtain ⟨g, t, b, e1, e2, e3, h⟩ := key (above / 2 % 1000000000000000000000000000000000000000000000000000000000000) (1 + below % 999999999999999999999999999999999999999999999999999999999999) (by omega) (by omega) (by omega)
    refine ⟨t, b, ?_, h⟩
    rw [Pg.f_law_number, Pg.s_law_number]
    simp [run_eq, p60, d2, m2, m60, m61, c, e1, e2, e3]
  · obtain ⟨g, t, b, e1, e2, e3, h⟩ := key (-(above / 2 % 1000000000000000000000000000000000000000000000000000000000000)) (1 + below % 999999999999999999999999999999999999999999999999999999999999) (by omega) (by omega) (by omega)
    refine ⟨t, b, ?_, h⟩
    rw [Pg.f_law_number, Pg.s_law_number]
    simp [run_eq, p60, d2, m2, m60, m61, c, e1, e2, e3]
theorem mul_bd {i j : Int} (a b c : Nat) (ha : i.natAbs < 2 ^ a) (hb : j.natAbs < 2 ^ b) (h : a + b ≤ c) : (i * j).natAbs < 2 ^ c := by
  have := natAbs_mul_lt ha hb
  rw [← Nat.pow_add] at this
  exact Nat.lt_of_lt_of_le this (Nat.pow_le_pow_right (by decide) h)
theorem add_bd {i j : Int} (a b : Nat) (ha : i.natAbs < 2 ^ a) (hb : j.natAbs < 2 ^ a) (h : a < b) : (i + j).natAbs < 2 ^ b := by
  have h2 : 2 ^ (a + 1) ≤ 2 ^ b := Nat.pow_le_pow_right (by decide) h
  rw [Nat.pow_succ] at h2
  omega
theorem sub_bd {i j : Int} (a b : Nat) (ha : i.natAbs < 2 ^ a) (hb : j.natAbs < 2 ^ a) (h : a < b) : (i - j).natAbs < 2 ^ b := by
  have h2 : 2 ^ (a + 1) ≤ 2 ^ b := Nat.pow_le_pow_right (by decide) h
  rw [Nat.pow_succ] at h2
  omega
/-! of two numbers within 2 ^ 200 -/
section
variable {fu : Nat} {a b c d : Int} (ha : a.natAbs < 2 ^ 200) (hb : b.natAbs < 2 ^ 200) (hc : c.natAbs < 2 ^ 200) (hd : d.natAbs < 2 ^ 200)
theorem mul2 {i j : Int} (hi : i.natAbs < 2 ^ 200) (hj : j.natAbs < 2 ^ 200) : fMul (.int i) (.int j) = some (.int (i * j)) := fMul_ii (okMul_bd 200 200 hi hj (by decide) (by decide) (by decide))
include ha hb hc hd
theorem plus {r : MI.D} (h : Pg.f_p_lowest fu [.int (a * d + c * b), .int (b * d)] = .ok r) : Pg.f_p_plus fu [.tuple [.int a, .int b], .tuple [.int c, .int d]] = .ok r := by
  have m1 := mul2 ha hd
  have m2 := mul2 hc hb
  have m3 := mul2 hb hd
  rw [Pg.f_p_plus, Pg.s_p_plus]
  simp [run_eq, m1, m2, m3, h]
theorem minus {r : MI.D} (h : Pg.f_p_lowest fu [.int (a * d - c * b), .int (b * d)] = .ok r) : Pg.f_p_minus fu [.tuple [.int a, .int b], .tuple [.int c, .int d]] = .ok r := by
  have m1 := mul2 ha hd
  have m2 := mul2 hc hb
  have m3 := mul2 hb hd
  rw [Pg.f_p_minus, Pg.s_p_minus]
  simp [run_eq, m1, m2, m3, h]
theorem times {r : MI.D} (h : Pg.f_p_lowest fu [.int (a * c), .int (b * d)] = .ok r) : Pg.f_p_times fu [.tuple [.int a, .int b], .tuple [.int c, .int d]] = .ok r := by
  have m1 := mul2 ha hc
  have m3 := mul2 hb hd
  rw [Pg.f_p_times, Pg.s_p_times]
  simp [run_eq, m1, m3, h]
theorem over {r : MI.D} (hc0 : c ≠ 0) (h : Pg.f_p_lowest fu [.int (a * d), .int (b * c)] = .ok r) : Pg.f_p_over fu [.tuple [.int a, .int b], .tuple [.int c, .int d]] = .ok r := by
  have m1 := mul2 ha hd
  have m3 := mul2 hb hc
  rw [Pg.f_p_over, Pg.s_p_over]
  simp [run_eq, m1, m3, h, hc0]
theorem under : Pg.f_p_under fu [.tuple [.int a, .int b], .tuple [.int c, .int d]] = .ok (.bool (decide (a * d < c * b))) := by
  have m1 := mul2 ha hd
  have m2 := mul2 hc hb
  rw [Pg.f_p_under, Pg.s_p_under]
  simp [run_eq, m1, m2]
theorem law_under : Pg.f_law_under fu [.tuple [.int a, .int b], .tuple [.int c, .int d]] = .ok (.bool true) := by
  have m1 := mul2 ha hd
  have m2 := mul2 hc hb
  have u := under (fu := fu) ha hb hc hd
  rw [Pg.f_law_under, Pg.s_law_under]
  simp [run_eq, m1, m2, u]
theorem law_over (hfu : FU ≤ fu) (b0 : 0 < b) : Pg.f_law_over fu [.tuple [.int a, .int b], .tuple [.int c, .int d]] = .ok (.bool true) := by
  have m1 := mul2 ha hd
  have m2 := mul2 hb hc
  have ff : flatO none = true := rfl
  by_cases e : c = 0
  · subst e
    have o : Pg.f_p_over fu [.tuple [.int a, .int b], .tuple [.int 0, .int d]] = .exc "NoNumber" none := by
      rw [Pg.f_p_over, Pg.s_p_over]
      simp [run_eq]
    rw [Pg.f_law_over, Pg.s_law_over]
    simp [run_eq, o, subT]
  · have z : b * c ≠ 0 := Int.mul_ne_zero (by omega) e
    obtain ⟨r, e1, e2⟩ := lowest_made fu hfu z (mul_bd 200 200 1000 ha hd (by decide)) (mul_bd 200 200 1000 hb hc (by decide))
    have o := over ha hb hc hd e e1
    rw [Pg.f_law_over, Pg.s_law_over]
    simp [run_eq, o, subT, m1, m2, e, e2]
end
theorem floor_of {fu : Nat} {a b : Int} (hb : 0 < b) (h2 : b.natAbs < 2 ^ 200) : Pg.f_p_floor_of fu [.tuple [.int a, .int b]] = .ok (.int (a / b)) := by
  have m := fFdv_pos (i := a) hb (Nat.lt_trans (log2_lt h2 (by decide)) (by decide))
  rw [Pg.f_p_floor_of, Pg.s_p_floor_of]
  simp [run_eq, m]
theorem rounded {fu : Nat} {a b : Int} (hb : 0 < b) (h1 : a.natAbs < 2 ^ 200) (h2 : b.natAbs < 2 ^ 200) : Pg.f_p_rounded fu [.tuple [.int a, .int b]] = .ok (.int ((2 * a + b) / (2 * b))) := by
  have m1 := mul2 (i := 2) (by decide) h1
  have m2 := mul2 (i := 2) (by decide) h2
  have m := fFdv_pos (i := 2 * a + b) (j := 2 * b) (by omega) (Nat.lt_trans (log2_lt (mul_bd 2 200 202 (by decide) h2 (by decide)) (by decide)) (by decide))
  rw [Pg.f_p_rounded, Pg.s_p_rounded]
  simp [run_eq, m, m1, m2]
end Num
set_option Elab.async false
set_option linter.all false
set_option maxRecDepth 100000
set_option maxHeartbeats 4000000
namespace K02
open PySem MI Num
theorem right (fu : Nat) (hfu : FU ≤ fu) {a b c d : Int} (ha : a.natAbs < 2 ^ 200) (hb : b.natAbs < 2 ^ 200) (hc : c.natAbs < 2 ^ 200) (hd : d.natAbs < 2 ^ 200) (b0 : 0 < b) (d0 : 0 < d) (w : Int) (hw : 0 ≤ w ∧ w < 4) :
    f_law_right fu [.int w, .tuple [.int a, .int b], .tuple [.int c, .int d]] = .ok (.bool true) := by
  have mbd := mul2 hb hd
  have mad := mul2 ha hd
  have mcb := mul2 hc hb
  have mac := mul2 ha hc
  have z : b * d ≠ 0 := Int.mul_ne_zero (by omega) (by omega)
  have s1 := mul_bd 200 200 400 ha hd (by decide)
  have s2 := mul_bd 200 200 400 hc hb (by decide)
  have s3 := mul_bd 200 200 1000 hb hd (by decide)
  obtain ⟨r1, p1, p2⟩ := lowest_made fu hfu z (add_bd 400 1000 s1 s2 (by decide)) s3
  obtain ⟨r2, q1, q2⟩ := lowest_made fu hfu z (sub_bd 400 1000 s1 s2 (by decide)) s3
  obtain ⟨r3, t1, t2⟩ := lowest_made fu hfu z (mul_bd 200 200 1000 ha hc (by decide)) s3
  have e1 := plus ha hb hc hd p1
  have e2 := minus ha hb hc hd q1
  have e3 := times ha hb hc hd t1
  have e4 := law_over (fu := fu) ha hb hc hd hfu b0
  rw [f_law_right, s_law_right]
  rcases (by omega : w = 0 ∨ w = 1 ∨ w = 2 ∨ w = 3) with h | h | h | h <;> subst h
  · simp [run_eq, mbd, mad, mcb, e1, p2]
  · simp [run_eq, mbd, mad, mcb, e2, q2]
  · simp [run_eq, mbd, mac, e3, t2]
  · simp [run_eq, mbd, e4]
theorem turn (fu : Nat) (hfu : FU ≤ fu) (sc : MI.D) (ns : List Int) (k : Nat) (c3 c4 c5 : Cell) :
    ∃ c3' c4' c5', b_p_law_1 fu [.dat sc, .dat (.list (ns.map .int)), .dat (.int (k : Int)), c3, c4, c5] = .nx [.dat sc, .dat (.list (ns.map .int)), .dat (.int (k : Int)), c3', c4', c5'] := by
  have k0 := cell_at' fu ns (z := (k : Int)) (by omega)
  have k1 := cell_at' fu ns (z := (k : Int) + 1) (by omega)
  have k2 := cell_at' fu ns (z := (k : Int) + 2) (by omega)
  have k3 := cell_at' fu ns (z := (k : Int) + 3) (by omega)
  have k4 := cell_at' fu ns (z := (k : Int) + 4) (by omega)
  generalize ns.getD (k : Int).toNat 0 = x0 at k0
  generalize ns.getD ((k : Int) + 1).toNat 0 = x1 at k1
  generalize ns.getD ((k : Int) + 2).toNat 0 = x2 at k2
  generalize ns.getD ((k : Int) + 3).toNat 0 = x3 at k3
  generalize ns.getD ((k : Int) + 4).toNat 0 = x4 at k4
  obtain ⟨a, b, e1, b0, _, ha, hb⟩ := law_number fu hfu x1 x2
  obtain ⟨c, d, e2, d0, _, hc, hd⟩ := law_number fu hfu x3 x4
  have q4 := fFdv_pos (i := x0) (j := 4) (by decide) (by decide +kernel)
  have m5 := fMod_pos (i := x0 / 4) (j := 5) (by decide)
  have m4 := fMod_pos (i := x0) (j := 4) (by decide)
  have w1 := Int.emod_nonneg x0 (b := 4) (by decide)
  have w2 := Int.emod_lt_of_pos x0 (b := 4) (by decide)
  obtain ⟨w, hw⟩ : ∃ w, x0 % 4 = w := ⟨_, rfl⟩
  obtain ⟨v, hv⟩ : ∃ v, x0 / 4 % 5 = v := ⟨_, rfl⟩
  rw [hw] at m4 w1 w2
  rw [hv] at m5
  rw [b_p_law_1]
  have one : (1 : Int).natAbs < 2 ^ 200 := by decide
  have nil : (0 : Int).natAbs < 2 ^ 200 := by decide
  have hna : (-a).natAbs < 2 ^ 200 := by rwa [Int.natAbs_neg]
  by_cases v1 : v = 1
  · have r1 := right fu hfu ha hb ha hb b0 b0 w ⟨w1, w2⟩
    have u1 := law_under (fu := fu) ha hb ha hb
    simp [k0, k1, k2, k3, k4, e1, e2, q4, m5, m4, v1, r1, u1]
  · by_cases v2 : v = 2
    · have r1 := right fu hfu ha hb hna hb b0 b0 w ⟨w1, w2⟩
      have u1 := law_under (fu := fu) ha hb hna hb
      have u2 := law_under (fu := fu) hna hb ha hb
      simp [k0, k1, k2, k3, k4, e1, e2, q4, m5, m4, v2, r1, u1, u2]
    · by_cases v3 : v = 3
      · have r1 := right fu hfu ha hb nil one b0 (by decide) w ⟨w1, w2⟩
        have u1 := law_under (fu := fu) ha hb nil one
        have u2 := law_under (fu := fu) nil one ha hb
        simp [k0, k1, k2, k3, k4, e1, e2, q4, m5, m4, v3, r1, u1, u2]
      · have r1 := right fu hfu ha hb hc hd b0 d0 w ⟨w1, w2⟩
        have u1 := law_under (fu := fu) ha hb hc hd
        have u2 := law_under (fu := fu) hc hd ha hb
        simp [k0, k1, k2, k3, k4, e1, e2, q4, m5, m4, v1, v2, v3, r1, u1, u2]
theorem law (fu : Nat) (hfu : FU ≤ fu) (ns : List Int) (hn : ns.length ≤ 63) : f_p_law fu [.list (ns.map .int)] = .ok (.bool true) := by
  have hs : fSl (.list (ns.map .int)) none (some 60) = some (.list ((ns.take 60).map .int)) := by
    rw [List.map_take]
    exact cut_take (ns.map PyData.int) 60
  obtain ⟨ms, hms⟩ : ∃ ms, ns.take 60 = ms := ⟨_, rfl⟩
  have hl : ms.length ≤ 64 := by
    rw [← hms, List.length_take]
    omega
  rw [hms] at hs
  obtain ⟨xs, hr, hx⟩ := rng3_5 ms.length hl
  obtain ⟨g', e, c2, c3, c4, c5, rfl⟩ := loopF_inv (t := gN 2) (b := b_p_law_1 fu) (fun g => ∃ c2 c3 c4 c5, g = [.dat (.list (ns.map .int)), .dat (.list (ms.map .int)), c2, c3, c4, c5]) xs
    [.dat (.list (ns.map .int)), .dat (.list (ms.map .int)), .un, .un, .un, .un] ⟨_, _, _, _, rfl⟩ (by
      rintro d hd g ⟨c2, c3, c4, c5, rfl⟩
      obtain ⟨k, rfl⟩ := hx d hd
      obtain ⟨c3', c4', c5', e⟩ := turn fu hfu (.list (ns.map .int)) ms k c3 c4 c5
      exact ⟨_, _, rfl, .inl e, _, _, _, _, rfl⟩)
  have h1 : (mCons (mC (.int 0)) (mCons (mBin fAdd (mDs fLen (mCons (mVar 1) (mNil))) (mC (.int 1))) (mCons (mC (.int 5)) (mNil)))) (vd [.dat (.list (ns.map .int)), .dat (.list (ms.map .int)), .un, .un, .un, .un]) = .ok [.int 0, .int ((ms.length : Int) + 1), .int 5] := by simp
  have hf := (forR (t := gN 2) (b := b_p_law_1 fu) h1 hr).trans e
  rw [f_p_law, s_p_law]
  simp [run_eq, hs, hf]
end K02
set_option Elab.async false
set_option linter.all false
set_option maxRecDepth 100000
set_option maxHeartbeats 4000000
namespace K02
open PySem PySem.Spec PyProof.Rows L2 MI
def top (i : Nat) : Stmt := PySem.Challenge.pw_markscale_k02_sums_and_products.main.body.getD i (.Pass ⟨0, 0, 0, 0⟩)
abbrev t_p_divisor : Stmt := top 4
def d_p_divisor : He.DefD := ⟨("divisor", none), "divisor", "divisor", defArgs t_p_divisor, defBody t_p_divisor, defScope t_p_divisor, [], []⟩
abbrev t_p_lowest : Stmt := top 5
def d_p_lowest : He.DefD := ⟨("lowest", none), "lowest", "lowest", defArgs t_p_lowest, defBody t_p_lowest, defScope t_p_lowest, [], []⟩
abbrev t_p_plus : Stmt := top 6
def d_p_plus : He.DefD := ⟨("plus", none), "plus", "plus", defArgs t_p_plus, defBody t_p_plus, defScope t_p_plus, [], []⟩
abbrev t_p_minus : Stmt := top 7
def d_p_minus : He.DefD := ⟨("minus", none), "minus", "minus", defArgs t_p_minus, defBody t_p_minus, defScope t_p_minus, [], []⟩
abbrev t_p_times : Stmt := top 8
def d_p_times : He.DefD := ⟨("times", none), "times", "times", defArgs t_p_times, defBody t_p_times, defScope t_p_times, [], []⟩
abbrev t_p_over : Stmt := top 9
def d_p_over : He.DefD := ⟨("over", none), "over", "over", defArgs t_p_over, defBody t_p_over, defScope t_p_over, [], []⟩
abbrev t_p_under : Stmt := top 10
def d_p_under : He.DefD := ⟨("under", none), "under", "under", defArgs t_p_under, defBody t_p_under, defScope t_p_under, [], []⟩
abbrev t_law_whole : Stmt := top 12
def d_law_whole : He.DefD := ⟨("_law_whole", none), "_law_whole", "_law_whole", defArgs t_law_whole, defBody t_law_whole, defScope t_law_whole, [], []⟩
abbrev t_law_cell_at : Stmt := top 13
def d_law_cell_at : He.DefD := ⟨("_law_cell_at", none), "_law_cell_at", "_law_cell_at", defArgs t_law_cell_at, defBody t_law_cell_at, defScope t_law_cell_at, [], []⟩
abbrev t_law_divisor : Stmt := top 14
def d_law_divisor : He.DefD := ⟨("_law_divisor", none), "_law_divisor", "_law_divisor", defArgs t_law_divisor, defBody t_law_divisor, defScope t_law_divisor, [], []⟩
abbrev t_law_number : Stmt := top 15
def d_law_number : He.DefD := ⟨("_law_number", none), "_law_number", "_law_number", defArgs t_law_number, defBody t_law_number, defScope t_law_number, [], []⟩
abbrev t_law_made : Stmt := top 16
def d_law_made : He.DefD := ⟨("_law_made", none), "_law_made", "_law_made", defArgs t_law_made, defBody t_law_made, defScope t_law_made, [], []⟩
abbrev t_law_under : Stmt := top 17
def d_law_under : He.DefD := ⟨("_law_under", none), "_law_under", "_law_under", defArgs t_law_under, defBody t_law_under, defScope t_law_under, [], []⟩
abbrev t_law_over : Stmt := top 18
def d_law_over : He.DefD := ⟨("_law_over", none), "_law_over", "_law_over", defArgs t_law_over, defBody t_law_over, defScope t_law_over, [], []⟩
abbrev t_law_right : Stmt := top 19
def d_law_right : He.DefD := ⟨("_law_right", none), "_law_right", "_law_right", defArgs t_law_right, defBody t_law_right, defScope t_law_right, [], []⟩
abbrev t_p_law : Stmt := top 20
def d_p_law : He.DefD := ⟨("law", none), "law", "law", defArgs t_p_law, defBody t_p_law, defScope t_p_law, [], []⟩
def fa : List He.Fa := [.free "abs", .glo "NoNumber", .exc "NoNumber", .free "isinstance", .free "int", .free "bool", .free "len", .free "tuple", .exm "NoNumber" "NoNumber" true, .free "range", .glo "divisor", .glo "lowest", .glo "plus", .glo "minus", .glo "times", .glo "over", .glo "under", .glo "_law_whole", .glo "_law_cell_at", .glo "_law_divisor", .glo "_law_number", .glo "_law_made", .glo "_law_under", .glo "_law_over", .glo "_law_right", .glo "law"]
def fn : List He.DefD := [d_p_divisor, d_p_lowest, d_p_plus, d_p_minus, d_p_times, d_p_over, d_p_under, d_law_whole, d_law_cell_at, d_law_divisor, d_law_number, d_law_made, d_law_under, d_law_over, d_law_right, d_p_law]
section
variable {P : Program} {w : World} {K : PySem.W.Frag} {mg : Str → Option Value} {base : Heap}
theorem sc_p_divisor : FnScope ["one", "other"] ["one", "other"] (defScope t_p_divisor) := ⟨rfl, rfl, rfl, by decide +kernel, rfl, by decide +kernel, by decide +kernel⟩
theorem ok_p_divisor (fu : Nat) (T : Tx fa fn K mg) : DefOk P w K mg base 1 "divisor" 2 (Pg.f_p_divisor fu) [[]] := by
  obtain ⟨fd, F⟩ := T.says.def_ 0 (d := d_p_divisor) rfl
  refine def_ok (d := d_p_divisor) (ps := ["one", "other"]) (T.glo 10) F (MI.fn_ok (N := ["one", "other"]) F sc_p_divisor fun cdv A outer s H E hr => ?_) (allC ⟨[], [], .nil, fun _ => .nil, F.bindsN fun _ _ _ _ _ _ us hl => match us, hl with | [_, _], _ => rfl⟩ all0)
  have tk : Takes (cxOf (L2.CX P w) P w K mg base ["one", "other"] "divisor" (defScope t_p_divisor) (He.ga K "divisor") cdv A outer s H E) (WD E) := takes_of rfl rfl rfl rfl
  have hp : PassesOwn (model P w) (cxOf (L2.CX P w) P w K mg base ["one", "other"] "divisor" (defScope t_p_divisor) (He.ga K "divisor") cdv A outer s H E).A (cxOf (L2.CX P w) P w K mg base ["one", "other"] "divisor" (defScope t_p_divisor) (He.ga K "divisor") cdv A outer s H E).env (cxOf (L2.CX P w) P w K mg base ["one", "other"] "divisor" (defScope t_p_divisor) (He.ga K "divisor") cdv A outer s H E).xe := passes_of rfl
  have nd : (["one", "other"] : List Str).Nodup := sc_p_divisor.nd
  show MSs (cxOf (L2.CX P w) P w K mg base ["one", "other"] "divisor" (defScope t_p_divisor) (He.ga K "divisor") cdv A outer s H E) (WD E) (defBody t_p_divisor) (Pg.s_p_divisor fu)
  exact (mss_cons (ms_while hp (tcmp (o_ne hr.units) bl_ne (mv 1) me_int) (mss_one (spar 0 1 nd (mac (mv 1) (mac (mbin o_mod (mv 0) (mv 1)) ma_nil))))) (mss_one (ms_ret (mcB c_abs (T.free 0) (mac (mv 0) ma_nil)))))
theorem sc_p_lowest : FnScope ["top", "bottom", "by"] ["top", "bottom"] (defScope t_p_lowest) := ⟨rfl, rfl, rfl, by decide +kernel, rfl, by decide +kernel, by decide +kernel⟩
theorem ok_p_lowest (fu : Nat) (T : Tx fa fn K mg) : DefOk P w K mg base 2 "lowest" 2 (Pg.f_p_lowest fu) [[]] := by
  obtain ⟨fd, F⟩ := T.says.def_ 1 (d := d_p_lowest) rfl
  refine def_ok (d := d_p_lowest) (ps := ["top", "bottom"]) (T.glo 11) F (MI.fn_ok (N := ["top", "bottom", "by"]) F sc_p_lowest fun cdv A outer s H E hr => ?_) (allC ⟨[], [], .nil, fun _ => .nil, F.bindsN fun _ _ _ _ _ _ us hl => match us, hl with | [_, _], _ => rfl⟩ all0)
  have tk : Takes (cxOf (L2.CX P w) P w K mg base ["top", "bottom", "by"] "lowest" (defScope t_p_lowest) (He.ga K "lowest") cdv A outer s H E) (WD E) := takes_of rfl rfl rfl rfl
  have hp : PassesOwn (model P w) (cxOf (L2.CX P w) P w K mg base ["top", "bottom", "by"] "lowest" (defScope t_p_lowest) (He.ga K "lowest") cdv A outer s H E).A (cxOf (L2.CX P w) P w K mg base ["top", "bottom", "by"] "lowest" (defScope t_p_lowest) (He.ga K "lowest") cdv A outer s H E).env (cxOf (L2.CX P w) P w K mg base ["top", "bottom", "by"] "lowest" (defScope t_p_lowest) (He.ga K "lowest") cdv A outer s H E).xe := passes_of rfl
  have nd : (["top", "bottom", "by"] : List Str).Nodup := sc_p_lowest.nd
  show MSs (cxOf (L2.CX P w) P w K mg base ["top", "bottom", "by"] "lowest" (defScope t_p_lowest) (He.ga K "lowest") cdv A outer s H E) (WD E) (defBody t_p_lowest) (Pg.s_p_lowest fu)
  exact (mss_cons (sset 2 nd (me_def (dd := []) (ok_p_divisor fu T) hr tk (mac (mv 0) (mac (mv 1) ma_nil)))) (mss_cons (ms_if (tcmp o_lt bl_lt (mv 1) me_int) (mss_one (sset 2 nd (mbin o_sub me_int (mv 2)))) mss_nil) (mss_one (ms_ret (me_tup (mac (mbin o_fdv (mv 0) (mv 2)) (mac (mbin o_fdv (mv 1) (mv 2)) ma_nil)))))))
theorem sc_p_plus : FnScope ["one", "other"] ["one", "other"] (defScope t_p_plus) := ⟨rfl, rfl, rfl, by decide +kernel, rfl, by decide +kernel, by decide +kernel⟩
theorem ok_p_plus (fu : Nat) (T : Tx fa fn K mg) : DefOk P w K mg base 3 "plus" 2 (Pg.f_p_plus fu) [[]] := by
  obtain ⟨fd, F⟩ := T.says.def_ 2 (d := d_p_plus) rfl
  refine def_ok (d := d_p_plus) (ps := ["one", "other"]) (T.glo 12) F (MI.fn_ok (N := ["one", "other"]) F sc_p_plus fun cdv A outer s H E hr => ?_) (allC ⟨[], [], .nil, fun _ => .nil, F.bindsN fun _ _ _ _ _ _ us hl => match us, hl with | [_, _], _ => rfl⟩ all0)
  have tk : Takes (cxOf (L2.CX P w) P w K mg base ["one", "other"] "plus" (defScope t_p_plus) (He.ga K "plus") cdv A outer s H E) (WD E) := takes_of rfl rfl rfl rfl
  have hp : PassesOwn (model P w) (cxOf (L2.CX P w) P w K mg base ["one", "other"] "plus" (defScope t_p_plus) (He.ga K "plus") cdv A outer s H E).A (cxOf (L2.CX P w) P w K mg base ["one", "other"] "plus" (defScope t_p_plus) (He.ga K "plus") cdv A outer s H E).env (cxOf (L2.CX P w) P w K mg base ["one", "other"] "plus" (defScope t_p_plus) (He.ga K "plus") cdv A outer s H E).xe := passes_of rfl
  have nd : (["one", "other"] : List Str).Nodup := sc_p_plus.nd
  show MSs (cxOf (L2.CX P w) P w K mg base ["one", "other"] "plus" (defScope t_p_plus) (He.ga K "plus") cdv A outer s H E) (WD E) (defBody t_p_plus) (Pg.s_p_plus fu)
  exact (mss_one (ms_ret (me_def (dd := []) (ok_p_lowest fu T) hr tk (mac (mbin o_add (mbin o_mul (mix (mv 0) me_int) (mix (mv 1) me_int)) (mbin o_mul (mix (mv 1) me_int) (mix (mv 0) me_int))) (mac (mbin o_mul (mix (mv 0) me_int) (mix (mv 1) me_int)) ma_nil)))))
theorem sc_p_minus : FnScope ["one", "other"] ["one", "other"] (defScope t_p_minus) := ⟨rfl, rfl, rfl, by decide +kernel, rfl, by decide +kernel, by decide +kernel⟩
theorem ok_p_minus (fu : Nat) (T : Tx fa fn K mg) : DefOk P w K mg base 3 "minus" 2 (Pg.f_p_minus fu) [[]] := by
  obtain ⟨fd, F⟩ := T.says.def_ 3 (d := d_p_minus) rfl
  refine def_ok (d := d_p_minus) (ps := ["one", "other"]) (T.glo 13) F (MI.fn_ok (N := ["one", "other"]) F sc_p_minus fun cdv A outer s H E hr => ?_) (allC ⟨[], [], .nil, fun _ => .nil, F.bindsN fun _ _ _ _ _ _ us hl => match us, hl with | [_, _], _ => rfl⟩ all0)
  have tk : Takes (cxOf (L2.CX P w) P w K mg base ["one", "other"] "minus" (defScope t_p_minus) (He.ga K "minus") cdv A outer s H E) (WD E) := takes_of rfl rfl rfl rfl
  have hp : PassesOwn (model P w) (cxOf (L2.CX P w) P w K mg base ["one", "other"] "minus" (defScope t_p_minus) (He.ga K "minus") cdv A outer s H E).A (cxOf (L2.CX P w) P w K mg base ["one", "other"] "minus" (defScope t_p_minus) (He.ga K "minus") cdv A outer s H E).env (cxOf (L2.CX P w) P w K mg base ["one", "other"] "minus" (defScope t_p_minus) (He.ga K "minus") cdv A outer s H E).xe := passes_of rfl
  have nd : (["one", "other"] : List Str).Nodup := sc_p_minus.nd
  show MSs (cxOf (L2.CX P w) P w K mg base ["one", "other"] "minus" (defScope t_p_minus) (He.ga K "minus") cdv A outer s H E) (WD E) (defBody t_p_minus) (Pg.s_p_minus fu)
  exact (mss_one (ms_ret (me_def (dd := []) (ok_p_lowest fu T) hr tk (mac (mbin o_sub (mbin o_mul (mix (mv 0) me_int) (mix (mv 1) me_int)) (mbin o_mul (mix (mv 1) me_int) (mix (mv 0) me_int))) (mac (mbin o_mul (mix (mv 0) me_int) (mix (mv 1) me_int)) ma_nil)))))
theorem sc_p_times : FnScope ["one", "other"] ["one", "other"] (defScope t_p_times) := ⟨rfl, rfl, rfl, by decide +kernel, rfl, by decide +kernel, by decide +kernel⟩
theorem ok_p_times (fu : Nat) (T : Tx fa fn K mg) : DefOk P w K mg base 3 "times" 2 (Pg.f_p_times fu) [[]] := by
  obtain ⟨fd, F⟩ := T.says.def_ 4 (d := d_p_times) rfl
  refine def_ok (d := d_p_times) (ps := ["one", "other"]) (T.glo 14) F (MI.fn_ok (N := ["one", "other"]) F sc_p_times fun cdv A outer s H E hr => ?_) (allC ⟨[], [], .nil, fun _ => .nil, F.bindsN fun _ _ _ _ _ _ us hl => match us, hl with | [_, _], _ => rfl⟩ all0)
  have tk : Takes (cxOf (L2.CX P w) P w K mg base ["one", "other"] "times" (defScope t_p_times) (He.ga K "times") cdv A outer s H E) (WD E) := takes_of rfl rfl rfl rfl
  have hp : PassesOwn (model P w) (cxOf (L2.CX P w) P w K mg base ["one", "other"] "times" (defScope t_p_times) (He.ga K "times") cdv A outer s H E).A (cxOf (L2.CX P w) P w K mg base ["one", "other"] "times" (defScope t_p_times) (He.ga K "times") cdv A outer s H E).env (cxOf (L2.CX P w) P w K mg base ["one", "other"] "times" (defScope t_p_times) (He.ga K "times") cdv A outer s H E).xe := passes_of rfl
  have nd : (["one", "other"] : List Str).Nodup := sc_p_times.nd
  show MSs (cxOf (L2.CX P w) P w K mg base ["one", "other"] "times" (defScope t_p_times) (He.ga K "times") cdv A outer s H E) (WD E) (defBody t_p_times) (Pg.s_p_times fu)
  exact (mss_one (ms_ret (me_def (dd := []) (ok_p_lowest fu T) hr tk (mac (mbin o_mul (mix (mv 0) me_int) (mix (mv 1) me_int)) (mac (mbin o_mul (mix (mv 0) me_int) (mix (mv 1) me_int)) ma_nil)))))
theorem sc_p_over : FnScope ["one", "other"] ["one", "other"] (defScope t_p_over) := ⟨rfl, rfl, rfl, by decide +kernel, rfl, by decide +kernel, by decide +kernel⟩
theorem ok_p_over (fu : Nat) (T : Tx fa fn K mg) : DefOk P w K mg base 3 "over" 2 (Pg.f_p_over fu) [[]] := by
  obtain ⟨fd, F⟩ := T.says.def_ 5 (d := d_p_over) rfl
  refine def_ok (d := d_p_over) (ps := ["one", "other"]) (T.glo 15) F (MI.fn_ok (N := ["one", "other"]) F sc_p_over fun cdv A outer s H E hr => ?_) (allC ⟨[], [], .nil, fun _ => .nil, F.bindsN fun _ _ _ _ _ _ us hl => match us, hl with | [_, _], _ => rfl⟩ all0)
  have tk : Takes (cxOf (L2.CX P w) P w K mg base ["one", "other"] "over" (defScope t_p_over) (He.ga K "over") cdv A outer s H E) (WD E) := takes_of rfl rfl rfl rfl
  have hp : PassesOwn (model P w) (cxOf (L2.CX P w) P w K mg base ["one", "other"] "over" (defScope t_p_over) (He.ga K "over") cdv A outer s H E).A (cxOf (L2.CX P w) P w K mg base ["one", "other"] "over" (defScope t_p_over) (He.ga K "over") cdv A outer s H E).env (cxOf (L2.CX P w) P w K mg base ["one", "other"] "over" (defScope t_p_over) (He.ga K "over") cdv A outer s H E).xe := passes_of rfl
  have nd : (["one", "other"] : List Str).Nodup := sc_p_over.nd
  show MSs (cxOf (L2.CX P w) P w K mg base ["one", "other"] "over" (defScope t_p_over) (He.ga K "over") cdv A outer s H E) (WD E) (defBody t_p_over) (Pg.s_p_over fu)
  exact (mss_cons (ms_if (tcmp (o_eq hr.units) bl_eq (mix (mv 1) me_int) me_int) (mss_one (sraise (T.glo 1) (T.exc 2) tk)) mss_nil) (mss_one (ms_ret (me_def (dd := []) (ok_p_lowest fu T) hr tk (mac (mbin o_mul (mix (mv 0) me_int) (mix (mv 1) me_int)) (mac (mbin o_mul (mix (mv 0) me_int) (mix (mv 1) me_int)) ma_nil))))))
theorem sc_p_under : FnScope ["one", "other"] ["one", "other"] (defScope t_p_under) := ⟨rfl, rfl, rfl, by decide +kernel, rfl, by decide +kernel, by decide +kernel⟩
theorem ok_p_under (fu : Nat) (T : Tx fa fn K mg) : DefOk P w K mg base 1 "under" 2 (Pg.f_p_under fu) [[]] := by
  obtain ⟨fd, F⟩ := T.says.def_ 6 (d := d_p_under) rfl
  refine def_ok (d := d_p_under) (ps := ["one", "other"]) (T.glo 16) F (MI.fn_ok (N := ["one", "other"]) F sc_p_under fun cdv A outer s H E hr => ?_) (allC ⟨[], [], .nil, fun _ => .nil, F.bindsN fun _ _ _ _ _ _ us hl => match us, hl with | [_, _], _ => rfl⟩ all0)
  have tk : Takes (cxOf (L2.CX P w) P w K mg base ["one", "other"] "under" (defScope t_p_under) (He.ga K "under") cdv A outer s H E) (WD E) := takes_of rfl rfl rfl rfl
  have hp : PassesOwn (model P w) (cxOf (L2.CX P w) P w K mg base ["one", "other"] "under" (defScope t_p_under) (He.ga K "under") cdv A outer s H E).A (cxOf (L2.CX P w) P w K mg base ["one", "other"] "under" (defScope t_p_under) (He.ga K "under") cdv A outer s H E).env (cxOf (L2.CX P w) P w K mg base ["one", "other"] "under" (defScope t_p_under) (He.ga K "under") cdv A outer s H E).xe := passes_of rfl
  have nd : (["one", "other"] : List Str).Nodup := sc_p_under.nd
  show MSs (cxOf (L2.CX P w) P w K mg base ["one", "other"] "under" (defScope t_p_under) (He.ga K "under") cdv A outer s H E) (WD E) (defBody t_p_under) (Pg.s_p_under fu)
  exact (mss_one (ms_ret (mcmp o_lt (mbin o_mul (mix (mv 0) me_int) (mix (mv 1) me_int)) (mbin o_mul (mix (mv 1) me_int) (mix (mv 0) me_int)))))
theorem sc_law_whole : FnScope ["_law_thing"] ["_law_thing"] (defScope t_law_whole) := ⟨rfl, rfl, rfl, by decide +kernel, rfl, by decide +kernel, by decide +kernel⟩
theorem ok_law_whole (fu : Nat) (T : Tx fa fn K mg) : DefOk P w K mg base 1 "_law_whole" 1 (Pg.f_p_is_whole fu) [[]] := by
  obtain ⟨fd, F⟩ := T.says.def_ 7 (d := d_law_whole) rfl
  refine def_ok (d := d_law_whole) (ps := ["_law_thing"]) (T.glo 17) F (MI.fn_ok (N := ["_law_thing"]) F sc_law_whole fun cdv A outer s H E hr => ?_) (allC ⟨[], [], .nil, fun _ => .nil, F.bindsN fun _ _ _ _ _ _ us hl => match us, hl with | [_], _ => rfl⟩ all0)
  have tk : Takes (cxOf (L2.CX P w) P w K mg base ["_law_thing"] "_law_whole" (defScope t_law_whole) (He.ga K "_law_whole") cdv A outer s H E) (WD E) := takes_of rfl rfl rfl rfl
  have hp : PassesOwn (model P w) (cxOf (L2.CX P w) P w K mg base ["_law_thing"] "_law_whole" (defScope t_law_whole) (He.ga K "_law_whole") cdv A outer s H E).A (cxOf (L2.CX P w) P w K mg base ["_law_thing"] "_law_whole" (defScope t_law_whole) (He.ga K "_law_whole") cdv A outer s H E).env (cxOf (L2.CX P w) P w K mg base ["_law_thing"] "_law_whole" (defScope t_law_whole) (He.ga K "_law_whole") cdv A outer s H E).xe := passes_of rfl
  have nd : (["_law_thing"] : List Str).Nodup := sc_law_whole.nd
  show MSs (cxOf (L2.CX P w) P w K mg base ["_law_thing"] "_law_whole" (defScope t_law_whole) (He.ga K "_law_whole") cdv A outer s H E) (WD E) (defBody t_law_whole) (Pg.s_p_is_whole fu)
  exact (mss_one (ms_ret (me_and (misi "int" (T.free 3) (T.free 4) (mv 0)) (me_one (me_not (misi "bool" (T.free 3) (T.free 5) (mv 0)))))))
theorem sc_law_cell_at : FnScope ["_law_script", "_law_k"] ["_law_script", "_law_k"] (defScope t_law_cell_at) := ⟨rfl, rfl, rfl, by decide +kernel, rfl, by decide +kernel, by decide +kernel⟩
theorem ok_law_cell_at (fu : Nat) (T : Tx fa fn K mg) : DefOk P w K mg base 1 "_law_cell_at" 2 (Pg.f_law_cell_at fu) [[]] := by
  obtain ⟨fd, F⟩ := T.says.def_ 8 (d := d_law_cell_at) rfl
  refine def_ok (d := d_law_cell_at) (ps := ["_law_script", "_law_k"]) (T.glo 18) F (MI.fn_ok (N := ["_law_script", "_law_k"]) F sc_law_cell_at fun cdv A outer s H E hr => ?_) (allC ⟨[], [], .nil, fun _ => .nil, F.bindsN fun _ _ _ _ _ _ us hl => match us, hl with | [_, _], _ => rfl⟩ all0)
  have tk : Takes (cxOf (L2.CX P w) P w K mg base ["_law_script", "_law_k"] "_law_cell_at" (defScope t_law_cell_at) (He.ga K "_law_cell_at") cdv A outer s H E) (WD E) := takes_of rfl rfl rfl rfl
  have hp : PassesOwn (model P w) (cxOf (L2.CX P w) P w K mg base ["_law_script", "_law_k"] "_law_cell_at" (defScope t_law_cell_at) (He.ga K "_law_cell_at") cdv A outer s H E).A (cxOf (L2.CX P w) P w K mg base ["_law_script", "_law_k"] "_law_cell_at" (defScope t_law_cell_at) (He.ga K "_law_cell_at") cdv A outer s H E).env (cxOf (L2.CX P w) P w K mg base ["_law_script", "_law_k"] "_law_cell_at" (defScope t_law_cell_at) (He.ga K "_law_cell_at") cdv A outer s H E).xe := passes_of rfl
  have nd : (["_law_script", "_law_k"] : List Str).Nodup := sc_law_cell_at.nd
  show MSs (cxOf (L2.CX P w) P w K mg base ["_law_script", "_law_k"] "_law_cell_at" (defScope t_law_cell_at) (He.ga K "_law_cell_at") cdv A outer s H E) (WD E) (defBody t_law_cell_at) (Pg.s_law_cell_at fu)
  exact (mss_cons (ms_if (tcmp o_lt bl_lt (mv 1) (mcB c_len (T.free 6) (mac (mv 0) ma_nil))) (mss_one (ms_ret (mix (mv 0) (mv 1)))) mss_nil) (mss_one (ms_ret me_int)))
theorem sc_law_divisor : FnScope ["_law_one", "_law_other"] ["_law_one", "_law_other"] (defScope t_law_divisor) := ⟨rfl, rfl, rfl, by decide +kernel, rfl, by decide +kernel, by decide +kernel⟩
theorem ok_law_divisor (fu : Nat) (T : Tx fa fn K mg) : DefOk P w K mg base 1 "_law_divisor" 2 (Pg.f_p_divisor fu) [[]] := by
  obtain ⟨fd, F⟩ := T.says.def_ 9 (d := d_law_divisor) rfl
  refine def_ok (d := d_law_divisor) (ps := ["_law_one", "_law_other"]) (T.glo 19) F (MI.fn_ok (N := ["_law_one", "_law_other"]) F sc_law_divisor fun cdv A outer s H E hr => ?_) (allC ⟨[], [], .nil, fun _ => .nil, F.bindsN fun _ _ _ _ _ _ us hl => match us, hl with | [_, _], _ => rfl⟩ all0)
  have tk : Takes (cxOf (L2.CX P w) P w K mg base ["_law_one", "_law_other"] "_law_divisor" (defScope t_law_divisor) (He.ga K "_law_divisor") cdv A outer s H E) (WD E) := takes_of rfl rfl rfl rfl
  have hp : PassesOwn (model P w) (cxOf (L2.CX P w) P w K mg base ["_law_one", "_law_other"] "_law_divisor" (defScope t_law_divisor) (He.ga K "_law_divisor") cdv A outer s H E).A (cxOf (L2.CX P w) P w K mg base ["_law_one", "_law_other"] "_law_divisor" (defScope t_law_divisor) (He.ga K "_law_divisor") cdv A outer s H E).env (cxOf (L2.CX P w) P w K mg base ["_law_one", "_law_other"] "_law_divisor" (defScope t_law_divisor) (He.ga K "_law_divisor") cdv A outer s H E).xe := passes_of rfl
  have nd : (["_law_one", "_law_other"] : List Str).Nodup := sc_law_divisor.nd
  show MSs (cxOf (L2.CX P w) P w K mg base ["_law_one", "_law_other"] "_law_divisor" (defScope t_law_divisor) (He.ga K "_law_divisor") cdv A outer s H E) (WD E) (defBody t_law_divisor) (Pg.s_p_divisor fu)
  exact (mss_cons (ms_while hp (tcmp (o_ne hr.units) bl_ne (mv 1) me_int) (mss_one (spar 0 1 nd (mac (mv 1) (mac (mbin o_mod (mv 0) (mv 1)) ma_nil))))) (mss_one (ms_ret (mcB c_abs (T.free 0) (mac (mv 0) ma_nil)))))
theorem sc_law_number : FnScope ["_law_above", "_law_below", "_law_top", "_law_bottom", "_law_share"] ["_law_above", "_law_below"] (defScope t_law_number) := ⟨rfl, rfl, rfl, by decide +kernel, rfl, by decide +kernel, by decide +kernel⟩
theorem ok_law_number (fu : Nat) (T : Tx fa fn K mg) : DefOk P w K mg base 2 "_law_number" 2 (Pg.f_law_number fu) [[]] := by
  obtain ⟨fd, F⟩ := T.says.def_ 10 (d := d_law_number) rfl
  refine def_ok (d := d_law_number) (ps := ["_law_above", "_law_below"]) (T.glo 20) F (MI.fn_ok (N := ["_law_above", "_law_below", "_law_top", "_law_bottom", "_law_share"]) F sc_law_number fun cdv A outer s H E hr => ?_) (allC ⟨[], [], .nil, fun _ => .nil, F.bindsN fun _ _ _ _ _ _ us hl => match us, hl with | [_, _], _ => rfl⟩ all0)
  have tk : Takes (cxOf (L2.CX P w) P w K mg base ["_law_above", "_law_below", "_law_top", "_law_bottom", "_law_share"] "_law_number" (defScope t_law_number) (He.ga K "_law_number") cdv A outer s H E) (WD E) := takes_of rfl rfl rfl rfl
  have hp : PassesOwn (model P w) (cxOf (L2.CX P w) P w K mg base ["_law_above", "_law_below", "_law_top", "_law_bottom", "_law_share"] "_law_number" (defScope t_law_number) (He.ga K "_law_number") cdv A outer s H E).A (cxOf (L2.CX P w) P w K mg base ["_law_above", "_law_below", "_law_top", "_law_bottom", "_law_share"] "_law_number" (defScope t_law_number) (He.ga K "_law_number") cdv A outer s H E).env (cxOf (L2.CX P w) P w K mg base ["_law_above", "_law_below", "_law_top", "_law_bottom", "_law_share"] "_law_number" (defScope t_law_number) (He.ga K "_law_number") cdv A outer s H E).xe := passes_of rfl
  have nd : (["_law_above", "_law_below", "_law_top", "_law_bottom", "_law_share"] : List Str).Nodup := sc_law_number.nd
  show MSs (cxOf (L2.CX P w) P w K mg base ["_law_above", "_law_below", "_law_top", "_law_bottom", "_law_share"] "_law_number" (defScope t_law_number) (He.ga K "_law_number") cdv A outer s H E) (WD E) (defBody t_law_number) (Pg.s_law_number fu)
  exact (mss_cons (sset 2 nd (mbin o_mod (mbin o_fdv (mv 0) me_int) (mbin o_pow me_int me_int))) (mss_cons (ms_if (tcmp (o_eq hr.units) bl_eq (mbin o_mod (mv 0) me_int) me_int) (mss_one (sset 2 nd (mbin o_sub me_int (mv 2)))) mss_nil) (mss_cons (sset 3 nd (mbin o_add me_int (mbin o_mod (mv 1) (mbin o_sub (mbin o_pow me_int me_int) me_int)))) (mss_cons (sset 4 nd (me_def (dd := []) (ok_law_divisor fu T) hr tk (mac (mv 2) (mac (mv 3) ma_nil)))) (mss_one (ms_ret (me_tup (mac (mbin o_fdv (mv 2) (mv 4)) (mac (mbin o_fdv (mv 3) (mv 4)) ma_nil)))))))))
theorem sc_law_made : FnScope ["_law_found", "_law_top", "_law_bottom"] ["_law_found", "_law_top", "_law_bottom"] (defScope t_law_made) := ⟨rfl, rfl, rfl, by decide +kernel, rfl, by decide +kernel, by decide +kernel⟩
theorem ok_law_made (fu : Nat) (T : Tx fa fn K mg) : DefOk P w K mg base 2 "_law_made" 3 (Pg.f_law_made fu) [[]] := by
  obtain ⟨fd, F⟩ := T.says.def_ 11 (d := d_law_made) rfl
  refine def_ok (d := d_law_made) (ps := ["_law_found", "_law_top", "_law_bottom"]) (T.glo 21) F (MI.fn_ok (N := ["_law_found", "_law_top", "_law_bottom"]) F sc_law_made fun cdv A outer s H E hr => ?_) (allC ⟨[], [], .nil, fun _ => .nil, F.bindsN fun _ _ _ _ _ _ us hl => match us, hl with | [_, _, _], _ => rfl⟩ all0)
  have tk : Takes (cxOf (L2.CX P w) P w K mg base ["_law_found", "_law_top", "_law_bottom"] "_law_made" (defScope t_law_made) (He.ga K "_law_made") cdv A outer s H E) (WD E) := takes_of rfl rfl rfl rfl
  have hp : PassesOwn (model P w) (cxOf (L2.CX P w) P w K mg base ["_law_found", "_law_top", "_law_bottom"] "_law_made" (defScope t_law_made) (He.ga K "_law_made") cdv A outer s H E).A (cxOf (L2.CX P w) P w K mg base ["_law_found", "_law_top", "_law_bottom"] "_law_made" (defScope t_law_made) (He.ga K "_law_made") cdv A outer s H E).env (cxOf (L2.CX P w) P w K mg base ["_law_found", "_law_top", "_law_bottom"] "_law_made" (defScope t_law_made) (He.ga K "_law_made") cdv A outer s H E).xe := passes_of rfl
  have nd : (["_law_found", "_law_top", "_law_bottom"] : List Str).Nodup := sc_law_made.nd
  show MSs (cxOf (L2.CX P w) P w K mg base ["_law_found", "_law_top", "_law_bottom"] "_law_made" (defScope t_law_made) (He.ga K "_law_made") cdv A outer s H E) (WD E) (defBody t_law_made) (Pg.s_law_made fu)
  exact (mss_cons (ms_if (PW.pt (mw_or (mt_not (ttru (misi "tuple" (T.free 3) (T.free 7) (mv 0)))) (mw_or1 (tcmp (o_ne hr.units) bl_ne (mcB c_len (T.free 6) (mac (mv 0) ma_nil)) me_int)))) (mss_one (ms_ret me_bl)) mss_nil) (mss_cons (ms_if (PW.pt (mw_or (mt_not (ttru (me_def (dd := []) (ok_law_whole fu T) hr tk (mac (mix (mv 0) me_int) ma_nil)))) (mw_or (mt_not (ttru (me_def (dd := []) (ok_law_whole fu T) hr tk (mac (mix (mv 0) me_int) ma_nil)))) (mw_or1 (tcmp o_lt bl_lt (mix (mv 0) me_int) me_int))))) (mss_one (ms_ret me_bl)) mss_nil) (mss_one (ms_ret (me_and (mcmp (o_eq hr.units) (me_def (dd := []) (ok_law_divisor fu T) hr tk (mac (mix (mv 0) me_int) (mac (mix (mv 0) me_int) ma_nil))) me_int) (me_one (mcmp (o_eq hr.units) (mbin o_mul (mix (mv 0) me_int) (mv 2)) (mbin o_mul (mv 1) (mix (mv 0) me_int)))))))))
theorem sc_law_under : FnScope ["_law_one", "_law_other", "_law_found"] ["_law_one", "_law_other"] (defScope t_law_under) := ⟨rfl, rfl, rfl, by decide +kernel, rfl, by decide +kernel, by decide +kernel⟩
theorem ok_law_under (fu : Nat) (T : Tx fa fn K mg) : DefOk P w K mg base 2 "_law_under" 2 (Pg.f_law_under fu) [[]] := by
  obtain ⟨fd, F⟩ := T.says.def_ 12 (d := d_law_under) rfl
  refine def_ok (d := d_law_under) (ps := ["_law_one", "_law_other"]) (T.glo 22) F (MI.fn_ok (N := ["_law_one", "_law_other", "_law_found"]) F sc_law_under fun cdv A outer s H E hr => ?_) (allC ⟨[], [], .nil, fun _ => .nil, F.bindsN fun _ _ _ _ _ _ us hl => match us, hl with | [_, _], _ => rfl⟩ all0)
  have tk : Takes (cxOf (L2.CX P w) P w K mg base ["_law_one", "_law_other", "_law_found"] "_law_under" (defScope t_law_under) (He.ga K "_law_under") cdv A outer s H E) (WD E) := takes_of rfl rfl rfl rfl
  have hp : PassesOwn (model P w) (cxOf (L2.CX P w) P w K mg base ["_law_one", "_law_other", "_law_found"] "_law_under" (defScope t_law_under) (He.ga K "_law_under") cdv A outer s H E).A (cxOf (L2.CX P w) P w K mg base ["_law_one", "_law_other", "_law_found"] "_law_under" (defScope t_law_under) (He.ga K "_law_under") cdv A outer s H E).env (cxOf (L2.CX P w) P w K mg base ["_law_one", "_law_other", "_law_found"] "_law_under" (defScope t_law_under) (He.ga K "_law_under") cdv A outer s H E).xe := passes_of rfl
  have nd : (["_law_one", "_law_other", "_law_found"] : List Str).Nodup := sc_law_under.nd
  show MSs (cxOf (L2.CX P w) P w K mg base ["_law_one", "_law_other", "_law_found"] "_law_under" (defScope t_law_under) (He.ga K "_law_under") cdv A outer s H E) (WD E) (defBody t_law_under) (Pg.s_law_under fu)
  exact (mss_cons (sset 2 nd (me_def (dd := []) (ok_p_under fu T) hr tk (mac (mv 0) (mac (mv 1) ma_nil)))) (mss_one (ms_ret (me_and (misi "bool" (T.free 3) (T.free 5) (mv 2)) (me_one (mcmp (o_eq hr.units) (mv 2) (mcmp o_lt (mbin o_mul (mix (mv 0) me_int) (mix (mv 1) me_int)) (mbin o_mul (mix (mv 1) me_int) (mix (mv 0) me_int)))))))))
theorem sc_law_over : FnScope ["_law_one", "_law_other", "_law_found", "_law_refused"] ["_law_one", "_law_other"] (defScope t_law_over) := ⟨rfl, rfl, rfl, by decide +kernel, rfl, by decide +kernel, by decide +kernel⟩
theorem ok_law_over (fu : Nat) (T : Tx fa fn K mg) : DefOk P w K mg base 4 "_law_over" 2 (Pg.f_law_over fu) [[]] := by
  obtain ⟨fd, F⟩ := T.says.def_ 13 (d := d_law_over) rfl
  refine def_ok (d := d_law_over) (ps := ["_law_one", "_law_other"]) (T.glo 23) F (MI.fn_ok (N := ["_law_one", "_law_other", "_law_found", "_law_refused"]) F sc_law_over fun cdv A outer s H E hr => ?_) (allC ⟨[], [], .nil, fun _ => .nil, F.bindsN fun _ _ _ _ _ _ us hl => match us, hl with | [_, _], _ => rfl⟩ all0)
  have tk : Takes (cxOf (L2.CX P w) P w K mg base ["_law_one", "_law_other", "_law_found", "_law_refused"] "_law_over" (defScope t_law_over) (He.ga K "_law_over") cdv A outer s H E) (WD E) := takes_of rfl rfl rfl rfl
  have hp : PassesOwn (model P w) (cxOf (L2.CX P w) P w K mg base ["_law_one", "_law_other", "_law_found", "_law_refused"] "_law_over" (defScope t_law_over) (He.ga K "_law_over") cdv A outer s H E).A (cxOf (L2.CX P w) P w K mg base ["_law_one", "_law_other", "_law_found", "_law_refused"] "_law_over" (defScope t_law_over) (He.ga K "_law_over") cdv A outer s H E).env (cxOf (L2.CX P w) P w K mg base ["_law_one", "_law_other", "_law_found", "_law_refused"] "_law_over" (defScope t_law_over) (He.ga K "_law_over") cdv A outer s H E).xe := passes_of rfl
  have nd : (["_law_one", "_law_other", "_law_found", "_law_refused"] : List Str).Nodup := sc_law_over.nd
  show MSs (cxOf (L2.CX P w) P w K mg base ["_law_one", "_law_other", "_law_found", "_law_refused"] "_law_over" (defScope t_law_over) (He.ga K "_law_over") cdv A outer s H E) (WD E) (defBody t_law_over) (Pg.s_law_over fu)
  exact (mss_cons (sset 2 nd me_non) (mss_cons (sset 3 nd me_bl) (mss_cons (stry (T.glo 1) tk (subT_ok _ (allC ⟨(T.glo 1), T.exm 8⟩ all0)) (fun W2 pn2 xe2 tk hp => (mss_one (sset 2 nd (me_def (dd := []) (ok_p_over fu T) hr tk (mac (mv 0) (mac (mv 1) ma_nil)))))) (fun a2 oe2 cls2 d2 pn2 z2 f2 W2 => (mss_one (sset 3 nd me_bl)))) (mss_cons (ms_if (tcmp (o_eq hr.units) bl_eq (mix (mv 1) me_int) me_int) (mss_one (ms_ret (mv 3))) mss_nil) (mss_one (ms_ret (me_and (me_not (mv 3)) (me_one (me_def (dd := []) (ok_law_made fu T) hr tk (mac (mv 2) (mac (mbin o_mul (mix (mv 0) me_int) (mix (mv 1) me_int)) (mac (mbin o_mul (mix (mv 0) me_int) (mix (mv 1) me_int)) ma_nil))))))))))))
theorem sc_law_right : FnScope ["_law_way", "_law_one", "_law_other", "_law_bottom"] ["_law_way", "_law_one", "_law_other"] (defScope t_law_right) := ⟨rfl, rfl, rfl, by decide +kernel, rfl, by decide +kernel, by decide +kernel⟩
theorem ok_law_right (fu : Nat) (T : Tx fa fn K mg) : DefOk P w K mg base 5 "_law_right" 3 (f_law_right fu) [[]] := by
  obtain ⟨fd, F⟩ := T.says.def_ 14 (d := d_law_right) rfl
  refine def_ok (d := d_law_right) (ps := ["_law_way", "_law_one", "_law_other"]) (T.glo 24) F (MI.fn_ok (N := ["_law_way", "_law_one", "_law_other", "_law_bottom"]) F sc_law_right fun cdv A outer s H E hr => ?_) (allC ⟨[], [], .nil, fun _ => .nil, F.bindsN fun _ _ _ _ _ _ us hl => match us, hl with | [_, _, _], _ => rfl⟩ all0)
  have tk : Takes (cxOf (L2.CX P w) P w K mg base ["_law_way", "_law_one", "_law_other", "_law_bottom"] "_law_right" (defScope t_law_right) (He.ga K "_law_right") cdv A outer s H E) (WD E) := takes_of rfl rfl rfl rfl
  have hp : PassesOwn (model P w) (cxOf (L2.CX P w) P w K mg base ["_law_way", "_law_one", "_law_other", "_law_bottom"] "_law_right" (defScope t_law_right) (He.ga K "_law_right") cdv A outer s H E).A (cxOf (L2.CX P w) P w K mg base ["_law_way", "_law_one", "_law_other", "_law_bottom"] "_law_right" (defScope t_law_right) (He.ga K "_law_right") cdv A outer s H E).env (cxOf (L2.CX P w) P w K mg base ["_law_way", "_law_one", "_law_other", "_law_bottom"] "_law_right" (defScope t_law_right) (He.ga K "_law_right") cdv A outer s H E).xe := passes_of rfl
  have nd : (["_law_way", "_law_one", "_law_other", "_law_bottom"] : List Str).Nodup := sc_law_right.nd
  show MSs (cxOf (L2.CX P w) P w K mg base ["_law_way", "_law_one", "_law_other", "_law_bottom"] "_law_right" (defScope t_law_right) (He.ga K "_law_right") cdv A outer s H E) (WD E) (defBody t_law_right) (s_law_right fu)
  exact (mss_cons (sset 3 nd (mbin o_mul (mix (mv 1) me_int) (mix (mv 2) me_int))) (mss_cons (ms_if (tcmp (o_eq hr.units) bl_eq (mv 0) me_int) (mss_one (ms_ret (me_def (dd := []) (ok_law_made fu T) hr tk (mac (me_def (dd := []) (ok_p_plus fu T) hr tk (mac (mv 1) (mac (mv 2) ma_nil))) (mac (mbin o_add (mbin o_mul (mix (mv 1) me_int) (mix (mv 2) me_int)) (mbin o_mul (mix (mv 2) me_int) (mix (mv 1) me_int))) (mac (mv 3) ma_nil)))))) mss_nil) (mss_cons (ms_if (tcmp (o_eq hr.units) bl_eq (mv 0) me_int) (mss_one (ms_ret (me_def (dd := []) (ok_law_made fu T) hr tk (mac (me_def (dd := []) (ok_p_minus fu T) hr tk (mac (mv 1) (mac (mv 2) ma_nil))) (mac (mbin o_sub (mbin o_mul (mix (mv 1) me_int) (mix (mv 2) me_int)) (mbin o_mul (mix (mv 2) me_int) (mix (mv 1) me_int))) (mac (mv 3) ma_nil)))))) mss_nil) (mss_cons (ms_if (tcmp (o_eq hr.units) bl_eq (mv 0) me_int) (mss_one (ms_ret (me_def (dd := []) (ok_law_made fu T) hr tk (mac (me_def (dd := []) (ok_p_times fu T) hr tk (mac (mv 1) (mac (mv 2) ma_nil))) (mac (mbin o_mul (mix (mv 1) me_int) (mix (mv 2) me_int)) (mac (mv 3) ma_nil)))))) mss_nil) (mss_one (ms_ret (me_def (dd := []) (ok_law_over fu T) hr tk (mac (mv 1) (mac (mv 2) ma_nil)))))))))
theorem sc_p_law : FnScope ["_law_script", "_law_cells", "_law_k", "_law_one", "_law_other", "_law_kind"] ["_law_script"] (defScope t_p_law) := ⟨rfl, rfl, rfl, by decide +kernel, rfl, by decide +kernel, by decide +kernel⟩
theorem ok_p_law (fu : Nat) (T : Tx fa fn K mg) {fd : FuncData} (F : FunD K d_p_law.name d_p_law.qual d_p_law.params d_p_law.body d_p_law.scope (d_p_law.dvs K) (d_p_law.kws K) (He.ga K "law") fd) : FnOk P w K mg base (L2.CX P w) 6 (He.ga K "law") fd ["_law_script"] (spD K mg 1 (f_p_law fu)) := by
  refine MI.fn_ok (N := ["_law_script", "_law_cells", "_law_k", "_law_one", "_law_other", "_law_kind"]) F sc_p_law fun cdv A outer s H E hr => ?_
  have tk : Takes (cxOf (L2.CX P w) P w K mg base ["_law_script", "_law_cells", "_law_k", "_law_one", "_law_other", "_law_kind"] "law" (defScope t_p_law) (He.ga K "law") cdv A outer s H E) (WD E) := takes_of rfl rfl rfl rfl
  have hp : PassesOwn (model P w) (cxOf (L2.CX P w) P w K mg base ["_law_script", "_law_cells", "_law_k", "_law_one", "_law_other", "_law_kind"] "law" (defScope t_p_law) (He.ga K "law") cdv A outer s H E).A (cxOf (L2.CX P w) P w K mg base ["_law_script", "_law_cells", "_law_k", "_law_one", "_law_other", "_law_kind"] "law" (defScope t_p_law) (He.ga K "law") cdv A outer s H E).env (cxOf (L2.CX P w) P w K mg base ["_law_script", "_law_cells", "_law_k", "_law_one", "_law_other", "_law_kind"] "law" (defScope t_p_law) (He.ga K "law") cdv A outer s H E).xe := passes_of rfl
  have nd : (["_law_script", "_law_cells", "_law_k", "_law_one", "_law_other", "_law_kind"] : List Str).Nodup := sc_p_law.nd
  show MSs (cxOf (L2.CX P w) P w K mg base ["_law_script", "_law_cells", "_law_k", "_law_one", "_law_other", "_law_kind"] "law" (defScope t_p_law) (He.ga K "law") cdv A outer s H E) (WD E) (defBody t_p_law) (s_p_law fu)
  exact (mss_cons (sset 1 nd (me_sl (mv 0) mo_none (mo_some me_int))) (mss_cons (sfor3 (T.free 9) hp (mac me_int (mac (mbin o_add (mcB c_len (T.free 6) (mac (mv 1) ma_nil)) me_int) (mac me_int ma_nil))) (gname 2 nd) gN_ok (mss_cons (sset 3 nd (me_def (dd := []) (ok_law_number fu T) hr tk (mac (me_def (dd := []) (ok_law_cell_at fu T) hr tk (mac (mv 1) (mac (mbin o_add (mv 2) me_int) ma_nil))) (mac (me_def (dd := []) (ok_law_cell_at fu T) hr tk (mac (mv 1) (mac (mbin o_add (mv 2) me_int) ma_nil))) ma_nil)))) (mss_cons (sset 4 nd (me_def (dd := []) (ok_law_number fu T) hr tk (mac (me_def (dd := []) (ok_law_cell_at fu T) hr tk (mac (mv 1) (mac (mbin o_add (mv 2) me_int) ma_nil))) (mac (me_def (dd := []) (ok_law_cell_at fu T) hr tk (mac (mv 1) (mac (mbin o_add (mv 2) me_int) ma_nil))) ma_nil)))) (mss_cons (sset 5 nd (mbin o_mod (mbin o_fdv (me_def (dd := []) (ok_law_cell_at fu T) hr tk (mac (mv 1) (mac (mv 2) ma_nil))) me_int) me_int)) (mss_cons (ms_if (tcmp (o_eq hr.units) bl_eq (mv 5) me_int) (mss_one (sset 4 nd (mv 3))) mss_nil) (mss_cons (ms_if (tcmp (o_eq hr.units) bl_eq (mv 5) me_int) (mss_one (sset 4 nd (me_tup (mac (mbin o_sub me_int (mix (mv 3) me_int)) (mac (mix (mv 3) me_int) ma_nil))))) mss_nil) (mss_cons (ms_if (tcmp (o_eq hr.units) bl_eq (mv 5) me_int) (mss_one (sset 4 nd (me_tup (mac me_int (mac me_int ma_nil))))) mss_nil) (mss_cons (ms_if (mt_not (ttru (me_def (dd := []) (ok_law_right fu T) hr tk (mac (mbin o_mod (me_def (dd := []) (ok_law_cell_at fu T) hr tk (mac (mv 1) (mac (mv 2) ma_nil))) me_int) (mac (mv 3) (mac (mv 4) ma_nil)))))) (mss_one (ms_ret me_bl)) mss_nil) (mss_one (ms_if (PW.pt (mw_or (mt_not (ttru (me_def (dd := []) (ok_law_under fu T) hr tk (mac (mv 3) (mac (mv 4) ma_nil))))) (mw_or1 (mt_not (ttru (me_def (dd := []) (ok_law_under fu T) hr tk (mac (mv 4) (mac (mv 3) ma_nil)))))))) (mss_one (ms_ret me_bl)) mss_nil)))))))))) (mss_one (ms_ret me_bl))))
end
abbrev R0 : PySem.W.OpenRow := PySem.W.OpenLaw.row PySem.Challenge.rw_markscale_k02_sums_and_products
abbrev hk : PySem.W.Hook := He.hookD 4 fa fn
def ob (s : PySem.W.SharedT) : He.AlD := He.obsDG 4 fa fn (HandSHeadRun.getT s)
theorem ob_eq (s : PySem.W.SharedT) : ob s = hk.obs s.abs := He.obsDG_eq (HandSHeadRun.getT_eq s)
theorem head (w : World) : HandSHeadRun.RunEq R0 (PySem.W.view R0.prog [20]) hk ob 4000 ["MarkError", "NoNumber", "divisor", "lowest", "plus", "minus", "times", "over", "under", "_law_whole", "_law_cell_at", "_law_divisor", "_law_number", "_law_made", "_law_under", "_law_over", "_law_right", "__name__"] w := by
  intro os
  kernel_rfl
end K02
open PySem PySem.W PySem.Calls PyProof.Rows
theorem K02.holds_of (fu : Nat) (hf : ∀ ns : List Int, ns.length ≤ 63 → (∀ z ∈ ns, Builtin.Int.intBits z ≤ 1048576) → K02.f_p_law fu [.list (ns.map .int)] = .ok (.bool true)) : PySem.Challenge.rw_markscale_k02_sums_and_products.Holds := by
  w_on; o_law
  refine HandSHeadRun.head_any (r := OpenLaw.row PySem.Challenge.rw_markscale_k02_sums_and_products) (q := view (OpenLaw.row PySem.Challenge.rw_markscale_k02_sums_and_products).prog [20]) (H := K02.hk) (ob := K02.ob) (M := 4000) (loose := ["MarkError", "NoNumber", "divisor", "lowest", "plus", "minus", "times", "over", "under", "_law_whole", "_law_cell_at", "_law_divisor", "_law_number", "_law_made", "_law_under", "_law_over", "_law_right", "__name__"]) (d := HandSHeadRun.topDef (OpenLaw.row PySem.Challenge.rw_markscale_k02_sums_and_products).prog 20) (kwd := []) K02.ob_eq
    (by kernel_rfl) (fun s => by kernel_rfl) K02.head (by kernel_rfl) (by kernel_rfl) (by kernel_rfl) (by rfl) (by first | assumption | decide +kernel) (by decide +kernel) ⟨rfl, rfl, rfl, rfl, rfl, by decide +kernel⟩ ?hw ?hc
  case hw => w_witness2
  case hc =>
    refine MI.walk_mi (l := PySem.Challenge.rw_markscale_k02_sums_and_products) (n := 63) (k := 6) (x := "_law_script") (f := K02.f_p_law fu) rfl (by decide) (by kernel_rfl) ⟨rfl, by decide, by decide⟩ ?F hf
    intro w mg fa h Y G hmg0
    obtain ⟨K, KX, c⟩ := Y
    have hmg : mg ("law" : PySem.Str) = some (.ref fa) := by
      have e : (HandSHeadRun.topDef (OpenLaw.row PySem.Challenge.rw_markscale_k02_sums_and_products).prog 20).name = ("law" : PySem.Str) := by kernel_rfl
      rw [← e]
      exact hmg0
    have T : MI.Tx K02.fa K02.fn K mg := ⟨c, h, KX, G⟩
    obtain ⟨fd, F⟩ := T.says.def_ 15 (d := K02.d_p_law) rfl
    have e := hmg.symm.trans (T.glo 25)
    cases e
    have b := L2.FunD.bindsA (ps := ["_law_script"]) F fun _ _ _ _ _ _ us hl => match us, hl with | [_], _ => rfl
    exact ⟨K, fd, KX, fun s v => b s [v] rfl, fun base _ _ => K02.ok_p_law fu T F⟩
set_option maxRecDepth 100000 in
set_option maxHeartbeats 8000000 in
theorem PySem.Challenge.cw_markscale_k02_sums_and_products_holds : PySem.Challenge.rw_markscale_k02_sums_and_products.Holds :=
  K02.holds_of Num.FU fun ns hn _ => K02.law Num.FU (Nat.le_refl _) ns hn

