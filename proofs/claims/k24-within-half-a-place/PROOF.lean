import PyProof.Rows.All
import Wide.All
import OpenK.AllK
import Wide.FinOn
import HandS.ForExc
import HandS.ForMost
import HandS.Wide
import HandS.Defaults
import HandS.HeadHook2
import HandS.Flow
import HandS.IsInst
import HandS.Deep
import HandS.CallSlots
import HandS.RaiseMore
import HandS.StrMore
import HandS.Codes
import HandS.WideBits
import HandS.HeadEnd
import HandS.EndBits
import HandS.ExcIs
import HandS.Comp
import HandS.Head2
import HandS.TryOnly
import PySem.Challenge.RW_markscale_k24_whole_within_half_a_place
set_option Elab.async false
set_option linter.all false
set_option maxRecDepth 100000
set_option maxHeartbeats 4000000
/-! MI1: results, views, the frozen heap; expressions' readings over data. -/
namespace MI
open PySem PySem.Spec PyProof.Rows L2
abbrev D := PyData
/-- a result: a value, an exception (its class's name, its one field), or no claim -/
inductive R (α : Type) where
  | ok (a : α)
  | exc (c : Str) (p : Option D)
  | bad
def R.bind {α β : Type} (x : R α) (f : α → R β) : R β := match x with
  | .ok a => f a
  | .exc c p => .exc c p
  | .bad => .bad
def R.of {α : Type} : Option α → R α
  | some a => .ok a
  | none => .bad
@[simp] theorem R.bind_ok {α β : Type} (a : α) (f : α → R β) : (R.ok a).bind f = f a := Eq.trans rfl rfl
@[simp] theorem R.bind_exc {α β : Type} (c : Str) (p : Option D) (f : α → R β) : (R.exc c p : R α).bind f = .exc c p := Eq.trans rfl rfl
@[simp] theorem R.bind_bad {α β : Type} (f : α → R β) : (R.bad : R α).bind f = .bad := Eq.trans rfl rfl
@[simp] theorem R.of_some {α : Type} (a : α) : R.of (some a) = .ok a := Eq.trans rfl rfl
@[simp] theorem R.of_none {α : Type} : R.of (none : Option α) = .bad := Eq.trans rfl rfl
abbrev Vw := List (Option D)
abbrev M := Vw → R D
/-! ### heaps -/
structure Ext (F H F' H' : Hp) : Prop where
  f : Same F F'
  h : Same H H'
  s : Same F' H'
  n : ∀ a o, F' a = some o → F a = none → H a = none
theorem Ext.refl {F H : Hp} (s : Same F H) : Ext F H F H := ⟨Same.refl F, Same.refl H, s, fun a o e n => by rw [n] at e; cases e⟩
theorem Ext.trans {F H F1 H1 F2 H2 : Hp} (a : Ext F H F1 H1) (b : Ext F1 H1 F2 H2) : Ext F H F2 H2 := by
  refine ⟨a.f.trans b.f, a.h.trans b.h, b.s, fun x o e n => ?_⟩
  cases q : F1 x with
  | some o1 => exact a.n x o1 q n
  | none =>
    have z := b.n x o e q
    cases w : H x with
    | none => rfl
    | some u => rw [a.h x u w] at z; cases z
theorem same_upd {H : Hp} {p : Addr} {o : HO} (h : H p = none) : Same H (upd H p o) := fun a u e => by
  rw [upd_ne (ne_of_none e h)]
  exact e
/-- a new object, frozen at once -/
theorem Ext.new {F H : Hp} (s : Same F H) {p : Addr} {o : HO} (h : H p = none) : Ext F H (upd F p o) (upd H p o) := by
  have hf : F p = none := s.free h
  refine ⟨same_upd hf, same_upd h, fun a u e => ?_, fun a u e n => ?_⟩
  · by_cases z : a = p
    · subst z; rw [upd_same] at e ⊢; exact e
    · rw [upd_ne z] at e ⊢; exact s a u e
  · by_cases z : a = p
    · subst z; exact h
    · rw [upd_ne z, n] at e; cases e
/-- a new object, not frozen -/
theorem Ext.loose {F H : Hp} (s : Same F H) {p : Addr} {o : HO} (h : H p = none) : Ext F H F (upd H p o) :=
  ⟨Same.refl F, same_upd h, s.trans (same_upd h), fun a u e n => by rw [n] at e; cases e⟩
theorem same_t {K : PySem.W.Frag} {H H' : Hp} {a : Addr} {xs : List V} (e : Same H H') (h : SqT K H a xs) : SqT K H' a xs := by
  rcases h with (h | ⟨o, h⟩) | h
  · exact .inl (.inl (e _ _ h))
  · exact .inl (.inr ⟨o, e _ _ h⟩)
  · exact .inr h
mutual
theorem dp_mono {K : PySem.W.Frag} {F F' : Hp} (e : Same F F') : ∀ (d : D) {v : V}, Dp K F v d → Dp K F' v d
  | .none, _, h => by cases h; exact .non
  | .bool _, _, h => by cases h; exact .bl _
  | .int _, _, h => by cases h; exact .int _
  | .str _, _, h => by cases h; exact .str _
  | .list ds, _, h => by
    cases h with
    | lst a b => exact .lst (e.seq a) (dpa_mono e ds b)
  | .tuple ds, _, h => by
    cases h with
    | tup a b => exact .tup (same_t e a) (dpa_mono e ds b)
  | .dict _, _, h => by cases h
theorem dpa_mono {K : PySem.W.Frag} {F F' : Hp} (e : Same F F') : ∀ (ds : List D) {vs : List V}, DpAll K F vs ds → DpAll K F' vs ds
  | [], _, h => by cases h; exact .nil
  | d :: ds, _, h => by
    cases h with
    | cons a b => exact .cons (dp_mono e d a) (dpa_mono e ds b)
end
theorem dpa_len {K : PySem.W.Frag} {F : Hp} : ∀ {vs : List V} {ds : List D}, DpAll K F vs ds → vs.length = ds.length
  | [], [], .nil => rfl
  | _ :: _, _ :: _, .cons _ b => congrArg Nat.succ (dpa_len b)
theorem dpa_append {K : PySem.W.Frag} {F : Hp} : ∀ {vs ws : List V} {ds es : List D}, DpAll K F vs ds → DpAll K F ws es → DpAll K F (vs ++ ws) (ds ++ es)
  | [], _, [], _, .nil, h => h
  | _ :: _, _, _ :: _, _, .cons a b, h => .cons a (dpa_append b h)
theorem dpa_get {K : PySem.W.Frag} {F : Hp} : ∀ {vs : List V} {ds : List D} {i : Nat} {d : D}, DpAll K F vs ds → ds[i]? = some d → ∃ v, vs[i]? = some v ∧ Dp K F v d
  | [], [], _, _, .nil, e => by simp at e
  | v :: _, d :: _, 0, _, .cons a b, e => by
    simp at e
    subst e
    exact ⟨v, by simp, a⟩
  | _ :: _, _ :: _, i + 1, _, .cons a b, e => by
    obtain ⟨v, h1, h2⟩ := dpa_get (i := i) b (by simpa using e)
    exact ⟨v, by simpa using h1, h2⟩
theorem dpa_get' {K : PySem.W.Frag} {F : Hp} : ∀ {vs : List V} {ds : List D} {i : Nat} {v : V}, DpAll K F vs ds → vs[i]? = some v → ∃ d, ds[i]? = some d ∧ Dp K F v d
  | [], [], _, _, .nil, e => by simp at e
  | v :: _, d :: _, 0, _, .cons a b, e => by
    simp at e
    subst e
    exact ⟨d, by simp, a⟩
  | _ :: _, _ :: _, i + 1, _, .cons a b, e => by
    obtain ⟨v, h1, h2⟩ := dpa_get' (i := i) b (by simpa using e)
    exact ⟨v, by simpa using h1, h2⟩
theorem dpa_drop {K : PySem.W.Frag} {F : Hp} : ∀ (n : Nat) {vs : List V} {ds : List D}, DpAll K F vs ds → DpAll K F (vs.drop n) (ds.drop n)
  | 0, _, _, h => h
  | _ + 1, _, _, .nil => .nil
  | n + 1, _, _, .cons _ b => dpa_drop n b
theorem dpa_take {K : PySem.W.Frag} {F : Hp} : ∀ (n : Nat) {vs : List V} {ds : List D}, DpAll K F vs ds → DpAll K F (vs.take n) (ds.take n)
  | 0, _, _, _ => .nil
  | _ + 1, _, _, .nil => .nil
  | n + 1, _, _, .cons a b => .cons a (dpa_take n b)
/-- what a view tells of the slots -/
def VwOk (K : PySem.W.Frag) (F : Hp) (σ : L2.St) (δ : Vw) : Prop := δ.length ≤ σ.length ∧ ∀ (i : Nat) (d : D), δ[i]? = some (some d) → ∃ v, σ[i]? = some (some v) ∧ Dp K F v d
theorem VwOk.mono {K : PySem.W.Frag} {F F' : Hp} {σ : L2.St} {δ : Vw} (h : VwOk K F σ δ) (e : Same F F') : VwOk K F' σ δ := ⟨h.1, fun i d q =>
  let ⟨v, a, b⟩ := h.2 i d q
  ⟨v, a, dp_mono e d b⟩⟩
/-- the one field that some of the exceptions have -/
def xfield (c : Str) : Option Str :=
  if c = "NoTable" then some "row" else if c = "NoPlan" then some "step" else if c = "NoTelling" then some "part" else none
/-- an exception, by its class's name and its field -/
def XV (K : PySem.W.Frag) (mg : Str → Option Value) (F : Hp) (c : Str) (p : Option D) (cls : Value) (od : Option Addr) : Prop :=
  ∃ C, mg c = some (.ref C) ∧ cls = .ref C ∧ match p with
    | none => od = none
    | some d => ∃ dx f v, od = some dx ∧ F dx = some (.xd [(f, v)]) ∧ xfield c = some f ∧ Dp K F v d
section
variable (X : Cx) (W : WX)
def EPost (F H : Hp) (σ : L2.St) (Q : VK) : R D → Prop
  | .ok d => ∀ v F' H', Ext F H F' H' → Dp X.K F' v d → Q v H'
  | .exc c p => ∀ cls od F' H', Ext F H F' H' → XV X.K X.mg F' c p cls od → W cls od σ H'
  | .bad => False
def BPost (F H : Hp) (σ : L2.St) (Q : Bool → Hp → Prop) : R Bool → Prop
  | .ok b => ∀ F' H', Ext F H F' H' → Q b H'
  | .exc c p => ∀ cls od F' H', Ext F H F' H' → XV X.K X.mg F' c p cls od → W cls od σ H'
  | .bad => False
def APost (F H : Hp) (σ : L2.St) (Q : List V → Hp → Prop) : R (List D) → Prop
  | .ok ds => ∀ vs F' H', Ext F H F' H' → DpAll X.K F' vs ds → Q vs H'
  | .exc c p => ∀ cls od F' H', Ext F H F' H' → XV X.K X.mg F' c p cls od → W cls od σ H'
  | .bad => False
def tM (m : M) : TE := fun σ H Q => ∃ F δ, Same F H ∧ VwOk X.K F σ δ ∧ EPost X W F H σ Q (m δ)
def tT (m : Vw → R Bool) : TT := fun σ H Q => ∃ F δ, Same F H ∧ VwOk X.K F σ δ ∧ BPost X W F H σ Q (m δ)
def tA (m : Vw → R (List D)) : TA := fun σ H Q => ∃ F δ, Same F H ∧ VwOk X.K F σ δ ∧ APost X W F H σ Q (m δ)
end
abbrev ME (X : Cx) (W : WX) (e : Expr) (m : M) : Prop := PE X e (tM X W m)
abbrev MT (X : Cx) (W : WX) (e : Expr) (m : Vw → R Bool) : Prop := PT X e (tT X W m)
abbrev MA (X : Cx) (W : WX) (es : List Expr) (m : Vw → R (List D)) : Prop := PA X es (tA X W m)
theorem PE.imp {X : Cx} {e : Expr} {t t' : TE} (h : PE X e t) (i : ∀ σ H Q, t' σ H Q → t σ H Q) : PE X e t' := ⟨fun pins s σ H Q I hw => h.run pins s σ H Q I (i _ _ _ hw)⟩
theorem PT.imp {X : Cx} {e : Expr} {t t' : TT} (h : PT X e t) (i : ∀ σ H Q, t' σ H Q → t σ H Q) : PT X e t' := ⟨fun pins s σ H Q I hw => h.run pins s σ H Q I (i _ _ _ hw)⟩
theorem PW.imp {X : Cx} {e : Expr} {t t' : TT} (h : PW X e t) (i : ∀ σ H Q, t' σ H Q → t σ H Q) : PW X e t' := ⟨fun wh pins s σ H Q I hw => h.run wh pins s σ H Q I (i _ _ _ hw)⟩
theorem PA.imp {X : Cx} {e : List Expr} {t t' : TA} (h : PA X e t) (i : ∀ σ H Q, t' σ H Q → t σ H Q) : PA X e t' := ⟨fun pos pins s σ H Q I hw => h.run pos pins s σ H Q I (i _ _ _ hw)⟩
theorem PS.imp {X : Cx} {e : Stmt} {t t' : TS} (h : PS X e t) (i : ∀ D σ H, t' D σ H → t D σ H) : PS X e t' := ⟨fun pins s σ H D I hw => h.run pins s σ H D I (i _ _ _ hw)⟩
theorem PSs.imp {X : Cx} {e : List Stmt} {t t' : TS} (h : PSs X e t) (i : ∀ D σ H, t' D σ H → t D σ H) : PSs X e t' := ⟨fun pins s σ H D I hw => h.run pins s σ H D I (i _ _ _ hw)⟩
/-! ### the bind of readings -/
section
variable {X : Cx} {W : WX} {F H : Hp} {σ : L2.St} {δ : Vw}
/-- a reading at a view, with what follows -/
theorem tM_bind {m : M} {f : D → R D} {Q : VK} {P : VK} (s : Same F H) (v : VwOk X.K F σ δ) (h : EPost X W F H σ Q ((m δ).bind f))
    (k : ∀ d x F' H', m δ = .ok d → Ext F H F' H' → Dp X.K F' x d → EPost X W F' H' σ Q (f d) → P x H') : tM X W m σ H P := by
  refine ⟨F, δ, s, v, ?_⟩
  cases e : m δ with
  | ok d =>
    rw [e] at h
    intro x F' H' E hx
    refine k d x F' H' e E hx ?_
    have h' : EPost X W F H σ Q (f d) := h
    cases e2 : f d with
    | ok d2 => rw [e2] at h'; exact fun v2 F2 H2 E2 hd => h' v2 F2 H2 (E.trans E2) hd
    | exc c p => rw [e2] at h'; exact fun cls od F2 H2 E2 hd => h' cls od F2 H2 (E.trans E2) hd
    | bad => rw [e2] at h'; exact h'
  | exc c p => rw [e] at h; exact h
  | bad => rw [e] at h; exact h
theorem tM_bindB {m : M} {f : D → R Bool} {Q : Bool → Hp → Prop} {P : VK} (s : Same F H) (v : VwOk X.K F σ δ) (h : BPost X W F H σ Q ((m δ).bind f))
    (k : ∀ d x F' H', m δ = .ok d → Ext F H F' H' → Dp X.K F' x d → BPost X W F' H' σ Q (f d) → P x H') : tM X W m σ H P := by
  refine ⟨F, δ, s, v, ?_⟩
  cases e : m δ with
  | ok d =>
    rw [e] at h
    intro x F' H' E hx
    refine k d x F' H' e E hx ?_
    have h' : BPost X W F H σ Q (f d) := h
    cases e2 : f d with
    | ok d2 => rw [e2] at h'; exact fun F2 H2 E2 => h' F2 H2 (E.trans E2)
    | exc c p => rw [e2] at h'; exact fun cls od F2 H2 E2 hd => h' cls od F2 H2 (E.trans E2) hd
    | bad => rw [e2] at h'; exact h'
  | exc c p => rw [e] at h; exact h
  | bad => rw [e] at h; exact h
theorem tT_bind {m : Vw → R Bool} {f : Bool → R D} {Q : VK} {P : Bool → Hp → Prop} (s : Same F H) (v : VwOk X.K F σ δ) (h : EPost X W F H σ Q ((m δ).bind f))
    (k : ∀ b F' H', Ext F H F' H' → EPost X W F' H' σ Q (f b) → P b H') : tT X W m σ H P := by
  refine ⟨F, δ, s, v, ?_⟩
  cases e : m δ with
  | ok d =>
    rw [e] at h
    intro F' H' E
    refine k d F' H' E ?_
    have h' : EPost X W F H σ Q (f d) := h
    cases e2 : f d with
    | ok d2 => rw [e2] at h'; exact fun v2 F2 H2 E2 hd => h' v2 F2 H2 (E.trans E2) hd
    | exc c p => rw [e2] at h'; exact fun cls od F2 H2 E2 hd => h' cls od F2 H2 (E.trans E2) hd
    | bad => rw [e2] at h'; exact h'
  | exc c p => rw [e] at h; exact h
  | bad => rw [e] at h; exact h
theorem tT_bindB {m : Vw → R Bool} {f : Bool → R Bool} {Q : Bool → Hp → Prop} {P : Bool → Hp → Prop} (s : Same F H) (v : VwOk X.K F σ δ) (h : BPost X W F H σ Q ((m δ).bind f))
    (k : ∀ b F' H', Ext F H F' H' → BPost X W F' H' σ Q (f b) → P b H') : tT X W m σ H P := by
  refine ⟨F, δ, s, v, ?_⟩
  cases e : m δ with
  | ok d =>
    rw [e] at h
    intro F' H' E
    refine k d F' H' E ?_
    have h' : BPost X W F H σ Q (f d) := h
    cases e2 : f d with
    | ok d2 => rw [e2] at h'; exact fun F2 H2 E2 => h' F2 H2 (E.trans E2)
    | exc c p => rw [e2] at h'; exact fun cls od F2 H2 E2 hd => h' cls od F2 H2 (E.trans E2) hd
    | bad => rw [e2] at h'; exact h'
  | exc c p => rw [e] at h; exact h
  | bad => rw [e] at h; exact h
theorem tA_bind {m : Vw → R (List D)} {f : List D → R D} {Q : VK} {P : List V → Hp → Prop} (s : Same F H) (v : VwOk X.K F σ δ) (h : EPost X W F H σ Q ((m δ).bind f))
    (k : ∀ ds xs F' H', m δ = .ok ds → Ext F H F' H' → DpAll X.K F' xs ds → EPost X W F' H' σ Q (f ds) → P xs H') : tA X W m σ H P := by
  refine ⟨F, δ, s, v, ?_⟩
  cases e : m δ with
  | ok d =>
    rw [e] at h
    intro x F' H' E hx
    refine k d x F' H' e E hx ?_
    have h' : EPost X W F H σ Q (f d) := h
    cases e2 : f d with
    | ok d2 => rw [e2] at h'; exact fun v2 F2 H2 E2 hd => h' v2 F2 H2 (E.trans E2) hd
    | exc c p => rw [e2] at h'; exact fun cls od F2 H2 E2 hd => h' cls od F2 H2 (E.trans E2) hd
    | bad => rw [e2] at h'; exact h'
  | exc c p => rw [e] at h; exact h
  | bad => rw [e] at h; exact h
end
/-! ### atoms -/
def mVar (i : Nat) : M := fun δ => match δ[i]? with
  | some (some d) => .ok d
  | _ => .bad
def mC (d : D) : M := fun _ => .ok d
section
variable {X : Cx} {W : WX} {pos : Pos}
theorem me_var {i : Nat} {x : Str} (hN : X.N[i]? = some x) (hv : Vis X.env.scope x) (hd : (x == ("__debug__" : Str)) = false) (hcd : (x == ("__classdict__" : Str)) = false) : ME X W (.Name x pos) (mVar i) := by
  refine PE.imp (pe_var hN hv hd hcd) fun σ H Q ⟨F, δ, s, v, h⟩ => ?_
  unfold mVar at h
  cases e : δ[i]? with
  | none => rw [e] at h; exact h.elim
  | some o =>
    cases o with
    | none => rw [e] at h; exact h.elim
    | some d =>
      rw [e] at h
      obtain ⟨u, hu, dp⟩ := v.2 i d e
      exact ⟨u, hu, h u F H (Ext.refl s) dp⟩
theorem me_c {e : Expr} {d : D} {x : V} (h : PE X e (tC x)) (hd : ∀ F, Dp X.K F x d) : ME X W e (mC d) := by
  refine PE.imp h fun σ H Q ⟨F, δ, s, v, h⟩ => ?_
  exact h x F H (Ext.refl s) (hd F)
theorem me_int {i j} : ME X W (.Constant (.int i) j pos) (mC (.int i)) := me_c pe_int fun _ => .int i
theorem me_bl {i j} : ME X W (.Constant (.bool i) j pos) (mC (.bool i)) := me_c pe_bl fun _ => .bl i
theorem me_str {i j} : ME X W (.Constant (.str i) j pos) (mC (.str i)) := me_c pe_str fun _ => .str i
theorem me_non {j} : ME X W (.Constant .none j pos) (mC .none) := me_c pe_non fun _ => .non
end
/-! ### operations on values -/
/-- f on data, read on values -/
def rD2 (K : PySem.W.Frag) (f : D → D → Option D) : R2 := fun x y H Q => ∃ F d1 d2 d, Same F H ∧ Dp K F x d1 ∧ Dp K F y d2 ∧ f d1 d2 = some d ∧ ∀ v F' H', Ext F H F' H' → Dp K F' v d → Q v H'
def rD1 (K : PySem.W.Frag) (f : D → Option D) : V → Hp → VK → Prop := fun x H Q => ∃ F d1 d, Same F H ∧ Dp K F x d1 ∧ f d1 = some d ∧ ∀ v F' H', Ext F H F' H' → Dp K F' v d → Q v H'
def rDs (K : PySem.W.Frag) (f : List D → Option D) : List V → Hp → VK → Prop := fun xs H Q => ∃ F ds d, Same F H ∧ DpAll K F xs ds ∧ f ds = some d ∧ ∀ v F' H', Ext F H F' H' → Dp K F' v d → Q v H'
def mBin (f : D → D → Option D) (a b : M) : M := fun δ => (a δ).bind fun x => (b δ).bind fun y => R.of (f x y)
def mUn (f : D → Option D) (a : M) : M := fun δ => (a δ).bind fun x => R.of (f x)
def mDs (f : List D → Option D) (a : Vw → R (List D)) : M := fun δ => (a δ).bind fun x => R.of (f x)
def mNil : Vw → R (List D) := fun _ => .ok []
def mCons (a : M) (r : Vw → R (List D)) : Vw → R (List D) := fun δ => (a δ).bind fun x => (r δ).bind fun y => .ok (x :: y)
section
variable {X : Cx} {W : WX} {pos : Pos} {a b : Expr} {ma mb : M}
theorem of_post {F H : Hp} {σ : L2.St} {Q : VK} {o : Option D} (h : EPost X W F H σ Q (R.of o)) : ∃ d, o = some d ∧ ∀ v F' H', Ext F H F' H' → Dp X.K F' v d → Q v H' := by
  cases o with
  | none => exact h.elim
  | some d => exact ⟨d, rfl, h⟩
theorem bin_tM {r : R2} {f : D → D → Option D} (hr : ∀ x y H Q, rD2 X.K f x y H Q → r x y H Q) {σ : L2.St} {H : Hp} {Q : VK} (h : tM X W (mBin f ma mb) σ H Q) : tOp r (tM X W ma) (tM X W mb) σ H Q := by
  obtain ⟨F, δ, s, v, h⟩ := h
  refine tM_bind s v h fun d x F1 H1 _ E hx h1 => ?_
  refine tM_bind E.s (v.mono E.f) h1 fun d2 y F2 H2 _ E2 hy h2 => ?_
  obtain ⟨d3, e, q⟩ := of_post h2
  exact hr _ _ _ _ ⟨F2, d, d2, d3, E2.s, dp_mono E2.f d hx, hy, e, q⟩
theorem me_op {op : Operator} {f : D → D → Option D} (ho : OpR X (binaryOp op) (rD2 X.K f)) (ha : ME X W a ma) (hb : ME X W b mb) : ME X W (.BinOp a op b pos) (mBin f ma mb) :=
  PE.imp (pe_op ho ha hb) fun _ _ _ h => bin_tM (fun _ _ _ _ z => z) h
theorem me_un {op : UnaryOp} {f : D → Option D} (ho : UnR X (unaryOp op) (rD1 X.K f)) (ha : ME X W a ma) : ME X W (.UnaryOp op a pos) (mUn f ma) := by
  refine PE.imp (pe_un ho ha) fun σ H Q ⟨F, δ, s, v, h⟩ => ?_
  refine tM_bind s v h fun d x F1 H1 _ E hx h1 => ?_
  obtain ⟨d3, e, q⟩ := of_post h1
  exact ⟨F1, d, d3, E.s, hx, e, q⟩
theorem me_cmp {op : CmpOp} {f : D → D → Option D} (ho : OpR X (compareOp op) (rD2 X.K f)) (ha : ME X W a ma) (hb : ME X W b mb) (hm : behindInMarks op b = false) : ME X W (.Compare a [op] [b] pos) (mBin f ma mb) :=
  PE.imp (pe_cmpR ho ha hb hm) fun _ _ _ h => bin_tM (fun _ _ _ _ z => z) h
theorem me_ix {f : D → D → Option D} {r : R2} (hr : IxR X r) (hf : ∀ x y H Q, rD2 X.K f x y H Q → r x y H Q) (ha : ME X W a ma) (hb : ME X W b mb) (hs : PlainIx b) : ME X W (.Subscript a b pos) (mBin f ma mb) :=
  PE.imp (pe_ix hr ha hb hs) fun _ _ _ h => bin_tM hf h
/-! ### arguments, displays -/
theorem ma_nil : MA X W [] mNil := PA.imp pa_nil fun σ H Q ⟨F, δ, s, v, h⟩ => h [] F H (Ext.refl s) .nil
theorem ma_cons {es : List Expr} {mr : Vw → R (List D)} (ha : ME X W a ma) (hr : MA X W es mr) (hs : starEach (a :: es) X.env = (false, eval a X.env) :: starEach es X.env) : MA X W (a :: es) (mCons ma mr) := by
  refine PA.imp (pa_cons ha hr hs) fun σ H Q ⟨F, δ, s, v, h⟩ => ?_
  refine ⟨F, δ, s, v, ?_⟩
  unfold mCons at h
  cases e : ma δ with
  | ok d =>
    rw [e] at h
    intro x F1 H1 E hx
    refine ⟨F1, δ, E.s, v.mono E.f, ?_⟩
    cases e2 : mr δ with
    | ok ds =>
      rw [R.bind_ok, e2] at h
      intro xs F2 H2 E2 hxs
      exact h (x :: xs) F2 H2 (E.trans E2) (.cons (dp_mono E2.f d hx) hxs)
    | exc c p => rw [R.bind_ok, e2] at h; exact fun cls od F2 H2 E2 hd => h cls od F2 H2 (E.trans E2) hd
    | bad => rw [R.bind_ok, e2] at h; exact h
  | exc c p => rw [e] at h; exact h
  | bad => rw [e] at h; exact h
/-- the longest list, tuple, text -/
def most : Nat := 16777216
theorem most_eq : most = sizeLine := by rw [sizeLine_eq]; rfl
theorem most_le {n : Nat} (h : n ≤ most) : n ≤ sizeLine := by rw [← most_eq]; exact h
def dTup (ds : List D) : Option D := if ds.length ≤ most then some (.tuple ds) else none
def dLst (ds : List D) : Option D := if ds.length ≤ most then some (.list ds) else none
theorem me_tup {es : List Expr} {m : Vw → R (List D)} {k} (h : MA X W es m) : ME X W (.Tuple es k pos) (mDs dTup m) := by
  refine PE.imp (pe_tup h) fun σ H Q ⟨F, δ, s, v, h⟩ => ?_
  refine tA_bind s v h fun ds xs F1 H1 _ E hx h1 => ?_
  obtain ⟨d3, e, q⟩ := of_post h1
  unfold dTup at e
  split at e
  · rename_i hl
    cases e
    refine ⟨by rw [dpa_len hx]; exact most_le hl, fun p hp => ?_⟩
    have E2 := Ext.new (o := .tup xs) E.s hp
    exact q _ _ _ E2 (.tup (SqT.of upd_same) (dpa_mono E2.f _ hx))
  · cases e
theorem me_lst {es : List Expr} {m : Vw → R (List D)} (h : MA X W es m) : ME X W (.List es pos) (mDs dLst m) := by
  refine PE.imp (pe_lst h) fun σ H Q ⟨F, δ, s, v, h⟩ => ?_
  refine tA_bind s v h fun ds xs F1 H1 _ E hx h1 => ?_
  obtain ⟨d3, e, q⟩ := of_post h1
  unfold dLst at e
  split at e
  · rename_i hl
    cases e
    refine ⟨by rw [dpa_len hx]; exact most_le hl, fun p hp => ?_⟩
    have E2 := Ext.new (o := .lst xs) E.s hp
    exact q _ _ _ E2 (.lst (SqL.of upd_same) (dpa_mono E2.f _ hx))
  · cases e
end
/-! ### truth, tests -/
def truthD : D → Option Bool
  | .none => some false
  | .bool b => some b
  | .int i => some (i != 0)
  | .str s => if s.length ≤ most then some ((s.length : Int) != 0) else none
  | .list xs => some (!xs.isEmpty)
  | .tuple xs => some (!xs.isEmpty)
  | .dict _ => none
theorem dpall_empty {K : PySem.W.Frag} {F : Hp} {vs : List V} {ds : List D} (h : DpAll K F vs ds) : vs.isEmpty = ds.isEmpty := by
  cases h <;> rfl
theorem truth_ok {K : PySem.W.Frag} {F H : Hp} {x : V} {d : D} {b : Bool} (s : Same F H) (h : Dp K F x d) (e : truthD d = some b) : TruV K x H b := by
  cases h with
  | non => exact (Option.some.inj e).symm
  | bl c => exact (Option.some.inj e).symm
  | int i => exact (Option.some.inj e).symm
  | str z =>
    unfold truthD at e
    dsimp only at e
    split at e
    · rename_i hl
      exact ⟨most_le hl, (Option.some.inj e).symm⟩
    · cases e
  | lst q r =>
    refine .inl ⟨_, s.seq q, ?_⟩
    rw [dpall_empty r]
    exact (Option.some.inj e).symm
  | tup q r =>
    refine .inr (.inl ⟨_, same_t s q, ?_⟩)
    rw [dpall_empty r]
    exact (Option.some.inj e).symm
def mTru (m : M) : Vw → R Bool := fun δ => (m δ).bind fun d => R.of (truthD d)
def mNot (t : Vw → R Bool) : Vw → R Bool := fun δ => (t δ).bind fun b => .ok (!b)
def mAndT (t u : Vw → R Bool) : Vw → R Bool := fun δ => (t δ).bind fun b => if b = true then u δ else .ok false
def mOrT (t u : Vw → R Bool) : Vw → R Bool := fun δ => (t δ).bind fun b => if b = true then .ok true else u δ
/-- a test as a value -/
def mTV (t : Vw → R Bool) : M := fun δ => (t δ).bind fun b => .ok (.bool b)
def mAndV (a b : M) : M := fun δ => (a δ).bind fun x => (R.of (truthD x)).bind fun k => if k = true then b δ else .ok x
def mOrV (a b : M) : M := fun δ => (a δ).bind fun x => (R.of (truthD x)).bind fun k => if k = true then .ok x else b δ
def mIf (t : Vw → R Bool) (a b : M) : M := fun δ => (t δ).bind fun k => if k = true then a δ else b δ
section
variable {X : Cx} {W : WX} {pos : Pos} {a b c : Expr} {ma mb : M} {t u : Vw → R Bool}
theorem of_postB {F H : Hp} {σ : L2.St} {Q : Bool → Hp → Prop} {o : Option Bool} (h : BPost X W F H σ Q (R.of o)) : ∃ d, o = some d ∧ ∀ F' H', Ext F H F' H' → Q d H' := by
  cases o with
  | none => exact h.elim
  | some d => exact ⟨d, rfl, h⟩
theorem mt_tru (ha : ME X W a ma) (he : ∀ whole, isTrue a X.env whole = (do let v ← whole; standAt a.pos; holding [v] (truthy v))) : MT X W a (mTru ma) := by
  refine PT.imp (pt_truth ha he) fun σ H Q ⟨F, δ, s, v, h⟩ => ?_
  refine tM_bindB s v h fun d x F1 H1 _ E hx h1 => ?_
  obtain ⟨k, e, q⟩ := of_postB h1
  exact ⟨k, truth_ok E.s hx e, q F1 H1 (Ext.refl E.s)⟩
theorem mt_cmp {op : CmpOp} {f : D → D → Option D} (ho : OpR X (compareOp op) (rD2 X.K f)) (hb' : ∀ x y d, f x y = some d → ∃ z : Bool, d = .bool z) (ha : ME X W a ma) (hb : ME X W b mb) (hm : behindInMarks op b = false) : MT X W (.Compare a [op] [b] pos) (mTru (mBin f ma mb)) := by
  refine PT.imp (pt_cmpR ho ha hb hm) fun σ H Q ⟨F, δ, s, v, h⟩ => ?_
  refine bin_tM (X := X) (W := W) (fun _ _ _ _ z => z) ?_
  refine tM_bindB s v h fun d x F1 H1 e E hx h1 => ?_
  obtain ⟨k, e2, q⟩ := of_postB h1
  have : ∃ z : Bool, d = .bool z := by
    unfold mBin at e
    cases e3 : ma δ with
    | ok d1 =>
      rw [e3, R.bind_ok] at e
      cases e4 : mb δ with
      | ok d2 =>
        rw [e4, R.bind_ok] at e
        cases e5 : f d1 d2 with
        | none => rw [e5] at e; cases e
        | some z => rw [e5] at e; cases e; exact hb' _ _ _ e5
      | exc c p => rw [e4] at e; cases e
      | bad => rw [e4] at e; cases e
    | exc c p => rw [e3] at e; cases e
    | bad => rw [e3] at e; cases e
  obtain ⟨b0, rfl⟩ := this
  cases hx
  cases e2
  exact ⟨k, rfl, q F1 H1 (Ext.refl E.s)⟩
theorem mt_not (ha : MT X W a t) : MT X W (.UnaryOp .Not a pos) (mNot t) := by
  refine PT.imp (pt_not ha) fun σ H Q ⟨F, δ, s, v, h⟩ => ?_
  refine tT_bindB s v h fun b F1 H1 E h1 => h1 F1 H1 (Ext.refl E.s)
theorem mw_and1 (ha : MT X W a t) : PW X (.BoolOp .And [a] pos) (tT X W t) := pw_and1 ha
theorem mw_or1 (ha : MT X W a t) : PW X (.BoolOp .Or [a] pos) (tT X W t) := pw_or1 ha
theorem mw_and {rest : List Expr} (ha : MT X W a t) (hb : PW X (.BoolOp .And (b :: rest) pos) (tT X W u)) : PW X (.BoolOp .And (a :: b :: rest) pos) (tT X W (mAndT t u)) := by
  refine PW.imp (pw_and ha hb) fun σ H Q ⟨F, δ, s, v, h⟩ => ?_
  refine tT_bindB s v h fun k F1 H1 E h1 => ?_
  cases k with
  | true => exact ⟨F1, δ, E.s, v.mono E.f, h1⟩
  | false => exact h1 F1 H1 (Ext.refl E.s)
theorem mw_or {rest : List Expr} (ha : MT X W a t) (hb : PW X (.BoolOp .Or (b :: rest) pos) (tT X W u)) : PW X (.BoolOp .Or (a :: b :: rest) pos) (tT X W (mOrT t u)) := by
  refine PW.imp (pw_or ha hb) fun σ H Q ⟨F, δ, s, v, h⟩ => ?_
  refine tT_bindB s v h fun k F1 H1 E h1 => ?_
  cases k with
  | false => exact ⟨F1, δ, E.s, v.mono E.f, h1⟩
  | true => exact h1 F1 H1 (Ext.refl E.s)
/-! values -/
theorem me_one {op} (h : ME X W a ma) : ME X W (.BoolOp op [a] pos) ma := pe_one h
theorem me_and {rest : List Expr} (ha : ME X W a ma) (hb : ME X W (.BoolOp .And (b :: rest) pos) mb) : ME X W (.BoolOp .And (a :: b :: rest) pos) (mAndV ma mb) := by
  refine PE.imp (pe_andT ha hb) fun σ H Q ⟨F, δ, s, v, h⟩ => ?_
  refine tM_bind s v h fun d x F1 H1 _ E hx h1 => ?_
  cases e : truthD d with
  | none => rw [e] at h1; exact h1.elim
  | some k =>
    rw [e] at h1
    refine ⟨k, truth_ok E.s hx e, ?_⟩
    cases k with
    | true => exact ⟨F1, δ, E.s, v.mono E.f, h1⟩
    | false => exact h1 x F1 H1 (Ext.refl E.s) hx
theorem me_or {rest : List Expr} (ha : ME X W a ma) (hb : ME X W (.BoolOp .Or (b :: rest) pos) mb) : ME X W (.BoolOp .Or (a :: b :: rest) pos) (mOrV ma mb) := by
  refine PE.imp (pe_orT ha hb) fun σ H Q ⟨F, δ, s, v, h⟩ => ?_
  refine tM_bind s v h fun d x F1 H1 _ E hx h1 => ?_
  cases e : truthD d with
  | none => rw [e] at h1; exact h1.elim
  | some k =>
    rw [e] at h1
    refine ⟨k, truth_ok E.s hx e, ?_⟩
    cases k with
    | false => exact ⟨F1, δ, E.s, v.mono E.f, h1⟩
    | true => exact h1 x F1 H1 (Ext.refl E.s) hx
def mNotV (a : M) : M := fun δ => (a δ).bind fun x => (R.of (truthD x)).bind fun k => .ok (.bool (!k))
theorem me_not (ha : ME X W a ma) : ME X W (.UnaryOp .Not a pos) (mNotV ma) := by
  refine PE.imp (pe_notT ha) fun σ H Q ⟨F, δ, s, v, h⟩ => ?_
  refine tM_bind s v h fun d x F1 H1 _ E hx h1 => ?_
  cases e : truthD d with
  | none => rw [e] at h1; exact h1.elim
  | some k =>
    rw [e] at h1
    exact ⟨k, truth_ok E.s hx e, h1 (.bl (!k)) F1 H1 (Ext.refl E.s) (.bl _)⟩
theorem me_if (hc : MT X W c t) (ha : ME X W a ma) (hb : ME X W b mb) : ME X W (.IfExp c a b pos) (mIf t ma mb) := by
  refine PE.imp (pe_ifExp hc ha hb) fun σ H Q ⟨F, δ, s, v, h⟩ => ?_
  refine tT_bind s v h fun k F1 H1 E h1 => ?_
  cases k with
  | true => exact ⟨F1, δ, E.s, v.mono E.f, h1⟩
  | false => exact ⟨F1, δ, E.s, v.mono E.f, h1⟩
end
end MI
set_option Elab.async false
set_option linter.all false
set_option maxRecDepth 100000
set_option maxHeartbeats 4000000
/-! MI2: statements over cells; defs. -/
namespace MI
open PySem PySem.Spec PyProof.Rows L2
/-- a slot: nothing, data that stands frozen, a list that this def alone holds -/
inductive Cell where
  | un
  | dat (d : D)
  | own (ds : List D)
abbrev Ce := List Cell
inductive Out where
  | nx (g : Ce)
  | rt (d : D)
  | bk (g : Ce)
  | ct (g : Ce)
  | ex (c : Str) (p : Option D) (g : Ce)
  | bad
abbrev S := Ce → Out
def Cell.vd : Cell → Option D
  | .dat d => some d
  | _ => none
def Cell.va : Cell → Option D
  | .dat d => some d
  | .own ds => some (.list ds)
  | .un => none
def vd (g : Ce) : Vw := g.map Cell.vd
def va (g : Ce) : Vw := g.map Cell.va
mutual
/-- no list within -/
def flat : D → Bool
  | .list _ => false
  | .dict _ => false
  | .tuple ds => flatL ds
  | _ => true
def flatL : List D → Bool
  | [] => true
  | d :: ds => flat d && flatL ds
end
def flatO : Option D → Bool
  | none => true
  | some d => flat d
/-- frozen: F0, F; tracked: H0 (the def's entry), H -/
structure StOk (K : PySem.W.Frag) (F0 H0 F H : Hp) (σ : L2.St) (g : Ce) : Prop where
  e : Ext F0 H0 F H
  len : σ.length = g.length
  dat : ∀ (i : Nat) (d : D), g[i]? = some (.dat d) → ∃ v, σ[i]? = some (some v) ∧ Dp K F v d
  own : ∀ (i : Nat) (ds : List D), g[i]? = some (.own ds) → ∃ a xs, σ[i]? = some (some (.ref a)) ∧ H a = some (.lst xs) ∧ F a = none ∧ H0 a = none ∧ DpAll K F xs ds
  inj : ∀ (i j : Nat) (ds es : List D) (a : Addr), g[i]? = some (.own ds) → g[j]? = some (.own es) → σ[i]? = some (some (.ref a)) → σ[j]? = some (some (.ref a)) → i = j
section
variable {K : PySem.W.Frag} {F0 H0 F H F' H' : Hp} {σ : L2.St} {g : Ce}
theorem Ext.new_none (E : Ext F H F' H') {a : Addr} {o : HO} (hf : F a = none) (hh : H a = some o) : F' a = none := by
  cases q : F' a with
  | none => rfl
  | some o' =>
    have := E.n a o' q hf
    rw [hh] at this
    cases this
theorem StOk.mono (ok : StOk K F0 H0 F H σ g) (E : Ext F H F' H') : StOk K F0 H0 F' H' σ g :=
  ⟨ok.e.trans E, ok.len, fun i d q => let ⟨v, a, b⟩ := ok.dat i d q; ⟨v, a, dp_mono E.f d b⟩,
    fun i ds q => let ⟨a, xs, h1, h2, h3, h4, h5⟩ := ok.own i ds q; ⟨a, xs, h1, E.h _ _ h2, E.new_none h3 h2, h4, dpa_mono E.f ds h5⟩, ok.inj⟩
theorem StOk.vd (ok : StOk K F0 H0 F H σ g) : VwOk K F σ (vd g) := by
  refine ⟨by unfold MI.vd; rw [List.length_map]; exact Nat.le_of_eq ok.len.symm, ?_⟩
  intro i d q
  unfold MI.vd at q
  rw [List.getElem?_map] at q
  cases e : g[i]? with
  | none => rw [e] at q; cases q
  | some c =>
    rw [e] at q
    cases c with
    | un => cases q
    | dat d' => cases q; exact ok.dat i d e
    | own ds => cases q
/-- an address of an own list -/
def Own (σ : L2.St) (g : Ce) (a : Addr) : Prop := ∃ (i : Nat) (ds : List D), g[i]? = some (Cell.own ds) ∧ σ[i]? = some (some (V.ref a))
open Classical in
noncomputable def frz (F H : Hp) (σ : L2.St) (g : Ce) : Hp := fun a => if Own σ g a then H a else F a
open Classical in
noncomputable def thw (F' : Hp) (σ : L2.St) (g : Ce) : Hp := fun a => if Own σ g a then none else F' a
theorem frz_own {a : Addr} (h : Own σ g a) : frz F H σ g a = H a := by unfold frz; rw [if_pos h]
theorem frz_not {a : Addr} (h : ¬ Own σ g a) : frz F H σ g a = F a := by unfold frz; rw [if_neg h]
theorem thw_own {a : Addr} (h : Own σ g a) : thw F σ g a = none := by unfold thw; rw [if_pos h]
theorem thw_not {a : Addr} (h : ¬ Own σ g a) : thw F σ g a = F a := by unfold thw; rw [if_neg h]
theorem StOk.ownAt (ok : StOk K F0 H0 F H σ g) {a : Addr} (h : Own σ g a) : ∃ xs, H a = some (.lst xs) ∧ F a = none ∧ H0 a = none := by
  obtain ⟨i, ds, h1, h2⟩ := h
  obtain ⟨b, xs, q1, q2, q3, q4, _⟩ := ok.own i ds h1
  rw [h2] at q1
  cases q1
  exact ⟨xs, q2, q3, q4⟩
theorem StOk.frzF (ok : StOk K F0 H0 F H σ g) : Same F (frz F H σ g) := fun a o e => by
  by_cases h : Own σ g a
  · obtain ⟨_, _, q, _⟩ := ok.ownAt h
    rw [q] at e; cases e
  · rw [frz_not h]; exact e
theorem StOk.frzH (ok : StOk K F0 H0 F H σ g) : Same (frz F H σ g) H := fun a o e => by
  by_cases h : Own σ g a
  · rw [frz_own h] at e; exact e
  · rw [frz_not h] at e; exact ok.e.s _ _ e
theorem StOk.va (ok : StOk K F0 H0 F H σ g) : VwOk K (frz F H σ g) σ (va g) := by
  refine ⟨by unfold MI.va; rw [List.length_map]; exact Nat.le_of_eq ok.len.symm, ?_⟩
  intro i d q
  unfold MI.va at q
  rw [List.getElem?_map] at q
  cases e : g[i]? with
  | none => rw [e] at q; cases q
  | some c =>
    rw [e] at q
    cases c with
    | un => cases q
    | dat d' => cases q; exact let ⟨v, a, b⟩ := ok.dat i d e; ⟨v, a, dp_mono ok.frzF d b⟩
    | own ds =>
      cases q
      obtain ⟨a, xs, h1, h2, h3, h4, h5⟩ := ok.own i ds e
      refine ⟨_, h1, .lst (.inl (.inl ?_)) (dpa_mono ok.frzF ds h5)⟩
      rw [frz_own ⟨i, ds, e, h1⟩]
      exact h2
mutual
theorem dp_flat {F G : Hp} (h : ∀ a o, F a = some o → (∀ xs, o ≠ .lst xs) → G a = some o) : ∀ (d : D) {v : V}, Dp K F v d → flat d = true → Dp K G v d
  | .none, _, q, _ => by cases q; exact .non
  | .bool _, _, q, _ => by cases q; exact .bl _
  | .int _, _, q, _ => by cases q; exact .int _
  | .str _, _, q, _ => by cases q; exact .str _
  | .list ds, _, q, f => by unfold flat at f; cases f
  | .tuple ds, _, q, f => by
    cases q with
    | tup a b =>
      unfold flat at f
      refine .tup ?_ (dpa_flat h ds b f)
      rcases a with (a | ⟨o, a⟩) | a
      · exact .inl (.inl (h _ _ a (by intro xs e; cases e)))
      · exact .inl (.inr ⟨o, h _ _ a (by intro xs e; cases e)⟩)
      · exact .inr a
  | .dict _, _, q, f => by cases q
theorem dpa_flat {F G : Hp} (h : ∀ a o, F a = some o → (∀ xs, o ≠ .lst xs) → G a = some o) : ∀ (ds : List D) {vs : List V}, DpAll K F vs ds → flatL ds = true → DpAll K G vs ds
  | [], _, q, _ => by cases q; exact .nil
  | d :: ds, _, q, f => by
    unfold flatL at f
    rw [Bool.and_eq_true] at f
    cases q with
    | cons a b => exact .cons (dp_flat h d a f.1) (dpa_flat h ds b f.2)
end
theorem StOk.thwOk (ok : StOk K F0 H0 F H σ g) (E : Ext (frz F H σ g) H F' H') : StOk K F0 H0 (thw F' σ g) H' σ g := by
  have fF : Same F (thw F' σ g) := fun a o e => by
    have hn : ¬ Own σ g a := fun h => by
      obtain ⟨_, _, q, _⟩ := ok.ownAt h
      rw [q] at e; cases e
    rw [thw_not hn]
    exact E.f _ _ (by rw [frz_not hn]; exact e)
  have tF : Same (thw F' σ g) F' := fun a o e => by
    by_cases h : Own σ g a
    · rw [thw_own h] at e; cases e
    · rw [thw_not h] at e; exact e
  refine ⟨⟨ok.e.f.trans fF, ok.e.h.trans E.h, tF.trans E.s, fun a o e n => ?_⟩, ok.len, fun i d q => let ⟨v, a, b⟩ := ok.dat i d q; ⟨v, a, dp_mono fF d b⟩, fun i ds q => ?_, ok.inj⟩
  · have hn : ¬ Own σ g a := fun h => by rw [thw_own h] at e; cases e
    rw [thw_not hn] at e
    cases q : frz F H σ g a with
    | some u =>
      rw [frz_not hn] at q
      exact ok.e.n a u q n
    | none => exact ok.e.h.free (E.n a o e q)
  · obtain ⟨a, xs, h1, h2, h3, h4, h5⟩ := ok.own i ds q
    exact ⟨a, xs, h1, E.h _ _ h2, thw_own ⟨i, ds, q, h1⟩, h4, dpa_mono fF ds h5⟩
theorem StOk.thwKeep (ok : StOk K F0 H0 F H σ g) (E : Ext (frz F H σ g) H F' H') : ∀ a o, F' a = some o → (∀ xs, o ≠ .lst xs) → thw F' σ g a = some o := fun a o e n => by
  have hn : ¬ Own σ g a := fun h => by
    obtain ⟨xs, q, _, _⟩ := ok.ownAt h
    have : F' a = some (.lst xs) := E.f _ _ (by rw [frz_own h]; exact q)
    rw [this] at e
    cases e
    exact n xs rfl
  rw [thw_not hn]
  exact e
theorem xv_flat {mg : Str → Option Value} {G : Hp} {c : Str} {p : Option D} {cls : Value} {od : Option Addr} (x : XV K mg F c p cls od) (f : flatO p = true) (h : ∀ a o, F a = some o → (∀ xs, o ≠ .lst xs) → G a = some o) : XV K mg G c p cls od := by
  obtain ⟨C, h1, h2, h3⟩ := x
  refine ⟨C, h1, h2, ?_⟩
  cases p with
  | none => exact h3
  | some d =>
    obtain ⟨dx, fl, v, q1, q2, q3, q4⟩ := h3
    exact ⟨dx, fl, v, q1, h _ _ q2 (by intro xs e; cases e), q3, dp_flat h d q4 f⟩
theorem StOk.set (ok : StOk K F0 H0 F H σ g) {i : Nat} {v : V} {d : D} (h : Dp K F v d) : StOk K F0 H0 F H (σ.set i (some v)) (g.set i (.dat d)) := by
  refine ⟨ok.e, by simpa using ok.len, fun j d' q => ?_, fun j ds q => ?_, fun j k ds es a q1 q2 q3 q4 => ?_⟩
  · rw [List.getElem?_set] at q ⊢
    by_cases e : i = j
    · subst e
      rw [if_pos rfl] at q ⊢
      by_cases l : i < g.length
      · rw [if_pos l] at q
        rw [if_pos (by rw [ok.len]; exact l)]
        cases q
        exact ⟨v, rfl, h⟩
      · rw [if_neg l] at q; cases q
    · rw [if_neg e] at q ⊢
      exact ok.dat j d' q
  · rw [List.getElem?_set] at q ⊢
    by_cases e : i = j
    · subst e
      rw [if_pos rfl] at q
      split at q <;> cases q
    · rw [if_neg e] at q ⊢
      exact ok.own j ds q
  · rw [List.getElem?_set] at q1 q2 q3 q4
    by_cases e : i = j
    · subst e
      rw [if_pos rfl] at q1
      split at q1 <;> cases q1
    · by_cases e2 : i = k
      · subst e2
        rw [if_pos rfl] at q2
        split at q2 <;> cases q2
      · rw [if_neg e] at q1 q3
        rw [if_neg e2] at q2 q4
        exact ok.inj j k ds es a q1 q2 q3 q4
/-- a list that nobody else holds -/
theorem StOk.setOwn (ok : StOk K F0 H0 F H σ g) {i : Nat} {a : Addr} {xs : List V} {ds : List D} (h : DpAll K F xs ds) (hH : H a = some (.lst xs)) (hF : F a = none) (h0 : H0 a = none) (ho : ∀ j es, j ≠ i → g[j]? = some (.own es) → σ[j]? ≠ some (some (.ref a))) :
    StOk K F0 H0 F H (σ.set i (some (.ref a))) (g.set i (.own ds)) := by
  refine ⟨ok.e, by simpa using ok.len, fun j d' q => ?_, fun j es q => ?_, fun j k ds' es b q1 q2 q3 q4 => ?_⟩
  · rw [List.getElem?_set] at q ⊢
    by_cases e : i = j
    · subst e
      rw [if_pos rfl] at q
      split at q <;> cases q
    · rw [if_neg e] at q ⊢
      exact ok.dat j d' q
  · rw [List.getElem?_set] at q ⊢
    by_cases e : i = j
    · subst e
      rw [if_pos rfl] at q ⊢
      by_cases l : i < g.length
      · rw [if_pos l] at q
        rw [if_pos (by rw [ok.len]; exact l)]
        cases q
        exact ⟨a, xs, rfl, hH, hF, h0, h⟩
      · rw [if_neg l] at q; cases q
    · rw [if_neg e] at q ⊢
      exact ok.own j es q
  · rw [List.getElem?_set] at q1 q2 q3 q4
    by_cases e : i = j
    · subst e
      by_cases e2 : i = k
      · exact e2
      · rw [if_neg e2] at q2 q4
        rw [if_pos rfl] at q3
        split at q3
        · cases q3
          exact absurd q4 (ho k es (Ne.symm e2) q2)
        · cases q3
    · by_cases e2 : i = k
      · subst e2
        rw [if_neg e] at q1 q3
        rw [if_pos rfl] at q4
        split at q4
        · cases q4
          exact absurd q3 (ho j ds' (Ne.symm e) q1)
        · cases q4
      · rw [if_neg e] at q1 q3
        rw [if_neg e2] at q2 q4
        exact ok.inj j k ds' es b q1 q2 q3 q4
/-- new ground for a part: what is frozen now stays -/
theorem StOk.base (ok : StOk K F0 H0 F H σ g) : StOk K F H0 F H σ g :=
  ⟨⟨Same.refl F, ok.e.h, ok.e.s, fun a o e n => by rw [n] at e; cases e⟩, ok.len, ok.dat, ok.own, ok.inj⟩
theorem Ext.back (b : Ext F0 H0 F H) (a : Ext F H0 F' H') : Ext F0 H0 F' H' :=
  ⟨b.f.trans a.f, a.h, a.s, fun x o e n => by
    cases q : F x with
    | some u => exact b.n x u q n
    | none => exact a.n x o e q⟩
theorem StOk.back {σ' : L2.St} {g' : Ce} (b : Ext F0 H0 F H) (ok : StOk K F H0 F' H' σ' g') : StOk K F0 H0 F' H' σ' g' :=
  ⟨b.back ok.e, ok.len, ok.dat, ok.own, ok.inj⟩
end
section
variable (K : PySem.W.Frag) (mg : Str → Option Value) (W : WX)
def SPost (F0 H0 : Hp) (D : Ends) : Out → Prop
  | .nx g => ∀ F H σ, StOk K F0 H0 F H σ g → D.nx σ H
  | .rt d => ∀ v F H, Ext F0 H0 F H → Dp K F v d → D.rt v H
  | .bk g => ∀ F H σ, StOk K F0 H0 F H σ g → D.bk σ H
  | .ct g => ∀ F H σ, StOk K F0 H0 F H σ g → D.ct σ H
  | .ex c p g => ∀ cls od F H σ, StOk K F0 H0 F H σ g → XV K mg F c p cls od → W cls od σ H
  | .bad => False
def tS (m : S) : TS := fun D σ H => ∃ F0 H0 F g, StOk K F0 H0 F H σ g ∧ SPost K mg W F0 H0 D (m g)
end
section
variable {K : PySem.W.Frag} {mg : Str → Option Value} {W : WX} {F0 H0 F H : Hp} {D D' : Ends} {o : Out}
theorem SPost.base (b : Ext F0 H0 F H) (h : SPost K mg W F0 H0 D o) : SPost K mg W F H0 D o := by
  cases o with
  | nx g => exact fun F' H' σ ok => h F' H' σ (ok.back b)
  | rt d => exact fun v F' H' e q => h v F' H' (b.back e) q
  | bk g => exact fun F' H' σ ok => h F' H' σ (ok.back b)
  | ct g => exact fun F' H' σ ok => h F' H' σ (ok.back b)
  | ex c p g => exact fun cls od F' H' σ ok x => h cls od F' H' σ (ok.back b) x
  | bad => exact h
end
abbrev MS (X : Cx) (W : WX) (st : Stmt) (m : S) : Prop := PS X st (tS X.K X.mg W m)
abbrev MSs (X : Cx) (W : WX) (st : List Stmt) (m : S) : Prop := PSs X st (tS X.K X.mg W m)
/-! ### an expression within a statement -/
/-- what an expression told, to what follows; g: the cells, if it raised -/
def R.to {α : Type} (x : R α) (g : Ce) (k : α → Out) : Out := match x with
  | .ok a => k a
  | .exc c p => if flatO p = true then .ex c p g else .bad
  | .bad => .bad
section
variable {X : Cx} {W : WX} {F0 H0 F H : Hp} {σ : L2.St} {g : Ce} {D : Ends}
theorem ev_vd {m : M} {k : MI.D → Out} {Q : VK} (ok : StOk X.K F0 H0 F H σ g) (h : SPost X.K X.mg W F0 H0 D ((m (vd g)).to g k))
    (q : ∀ d v F' H', m (vd g) = .ok d → StOk X.K F0 H0 F' H' σ g → Dp X.K F' v d → SPost X.K X.mg W F0 H0 D (k d) → Q v H') : tM X W m σ H Q := by
  refine ⟨F, vd g, ok.e.s, ok.vd, ?_⟩
  cases e : m (vd g) with
  | ok d => rw [e] at h; exact fun v F' H' E hd => q d v F' H' e (ok.mono E) hd h
  | exc c p =>
    rw [e] at h
    unfold R.to at h
    dsimp only at h
    split at h
    · exact fun cls od F' H' E x => h cls od F' H' σ (ok.mono E) x
    · exact h.elim
  | bad => rw [e] at h; exact h
theorem evA_vd {m : Vw → R (List MI.D)} {k : List MI.D → Out} {Q : List V → Hp → Prop} (ok : StOk X.K F0 H0 F H σ g) (h : SPost X.K X.mg W F0 H0 D ((m (vd g)).to g k))
    (q : ∀ ds vs F' H', m (vd g) = .ok ds → StOk X.K F0 H0 F' H' σ g → DpAll X.K F' vs ds → SPost X.K X.mg W F0 H0 D (k ds) → Q vs H') : tA X W m σ H Q := by
  refine ⟨F, vd g, ok.e.s, ok.vd, ?_⟩
  cases e : m (vd g) with
  | ok d => rw [e] at h; exact fun v F' H' E hd => q d v F' H' e (ok.mono E) hd h
  | exc c p =>
    rw [e] at h
    unfold R.to at h
    dsimp only at h
    split at h
    · exact fun cls od F' H' E x => h cls od F' H' σ (ok.mono E) x
    · exact h.elim
  | bad => rw [e] at h; exact h
theorem ev_va {m : M} {k : MI.D → Out} {Q : VK} (ok : StOk X.K F0 H0 F H σ g) (h : SPost X.K X.mg W F0 H0 D ((m (va g)).to g k))
    (q : ∀ d v F' H', m (va g) = .ok d → StOk X.K F0 H0 F' H' σ g → (flat d = true → Dp X.K F' v d) → SPost X.K X.mg W F0 H0 D (k d) → Q v H') : tM X W m σ H Q := by
  refine ⟨frz F H σ g, va g, ok.frzH, ok.va, ?_⟩
  cases e : m (va g) with
  | ok d => rw [e] at h; exact fun v F' H' E hd => q d v _ H' e (ok.thwOk E) (fun f => dp_flat (ok.thwKeep E) d hd f) h
  | exc c p =>
    rw [e] at h
    unfold R.to at h
    dsimp only at h
    split at h
    · rename_i fl
      exact fun cls od F' H' E x => h cls od _ H' σ (ok.thwOk E) (xv_flat x fl (ok.thwKeep E))
    · exact h.elim
  | bad => rw [e] at h; exact h
theorem evT_va {m : Vw → R Bool} {k : Bool → Out} {Q : Bool → Hp → Prop} (ok : StOk X.K F0 H0 F H σ g) (h : SPost X.K X.mg W F0 H0 D ((m (va g)).to g k))
    (q : ∀ b F' H', m (va g) = .ok b → StOk X.K F0 H0 F' H' σ g → SPost X.K X.mg W F0 H0 D (k b) → Q b H') : tT X W m σ H Q := by
  refine ⟨frz F H σ g, va g, ok.frzH, ok.va, ?_⟩
  cases e : m (va g) with
  | ok b => rw [e] at h; exact fun F' H' E => q b _ H' e (ok.thwOk E) h
  | exc c p =>
    rw [e] at h
    unfold R.to at h
    dsimp only at h
    split at h
    · rename_i fl
      exact fun cls od F' H' E x => h cls od _ H' σ (ok.thwOk E) (xv_flat x fl (ok.thwKeep E))
    · exact h.elim
  | bad => rw [e] at h; exact h
end
/-! ### statements -/
def sNop : S := .nx
def sSeq (a b : S) : S := fun g => match a g with
  | .nx g' => b g'
  | o => o
def sIf (t : Vw → R Bool) (a b : S) : S := fun g => (t (va g)).to g fun k => if k = true then a g else b g
def sRet (m : M) : S := fun g => match m (va g) with
  | .ok d => .rt d
  | .exc c p => if flatO p = true then .ex c p g else .bad
  | .bad => .bad
def sRetN : S := fun _ => .rt .none
def sBreak : S := .bk
def sCont : S := .ct
def sExpr (m : M) : S := fun g => (m (va g)).to g fun _ => .nx g
def sSet (i : Nat) (m : M) : S := fun g => (m (vd g)).to g fun d => .nx (g.set i (.dat d))
def sSetF (i : Nat) (m : M) : S := fun g => (m (va g)).to g fun d => if flat d = true then .nx (g.set i (.dat d)) else .bad
def sPar (i j : Nat) (m : Vw → R (List D)) : S := fun g => (m (vd g)).to g fun ds => match ds with
  | [x, y] => .nx ((g.set i (.dat x)).set j (.dat y))
  | _ => .bad
def sRaise (c : Str) : S := fun g => .ex c none g
/-- what is own becomes data -/
def frzC (zs : List Nat) (g : Ce) : Ce := g.mapIdx fun i c => match c with
  | .own ds => if zs.contains i then .dat (.list ds) else .own ds
  | c => c
def sFrz (zs : List Nat) (m : S) : S := fun g => m (frzC zs g)
def sNewL (i : Nat) (m : Vw → R (List D)) : S := fun g => (m (vd g)).to g fun ds => if ds.length ≤ most then .nx (g.set i (.own ds)) else .bad
def sApp (i : Nat) (m : M) : S := fun g => match g[i]? with
  | some (.own ds) => (m (vd g)).to g fun d => if ds.length < most then .nx (g.set i (.own (ds ++ [d]))) else .bad
  | _ => .bad
section
variable {X : Cx} {W : WX} {pos : Pos} {st : Stmt} {rest : List Stmt} {a b : S}
theorem mss_nil : MSs X W [] sNop := PSs.imp pss_nil fun D σ H ⟨F0, H0, F, g, ok, h⟩ => h F H σ ok
theorem mss_cons (h1 : MS X W st a) (h2 : MSs X W rest b) : MSs X W (st :: rest) (sSeq a b) := by
  refine PSs.imp (pss_cons h1 h2) fun D σ H ⟨F0, H0, F, g, ok, h⟩ => ⟨F0, H0, F, g, ok, ?_⟩
  unfold sSeq at h
  cases e : a g with
  | nx g' =>
    rw [e] at h
    intro F' H' σ' ok'
    exact ⟨F0, H0, F', g', ok', h⟩
  | rt d => rw [e] at h; exact h
  | bk g' => rw [e] at h; exact h
  | ct g' => rw [e] at h; exact h
  | ex c p g' => rw [e] at h; exact h
  | bad => rw [e] at h; exact h
theorem mss_one (h1 : MS X W st a) : MSs X W [st] a := pss_one h1
theorem ms_pass : MS X W (.Pass pos) sNop := PS.imp ps_pass fun D σ H ⟨F0, H0, F, g, ok, h⟩ => h F H σ ok
theorem ms_break : MS X W (.Break pos) sBreak := PS.imp ps_break fun D σ H ⟨F0, H0, F, g, ok, h⟩ => h F H σ ok
theorem ms_cont : MS X W (.Continue pos) sCont := PS.imp ps_continue fun D σ H ⟨F0, H0, F, g, ok, h⟩ => h F H σ ok
theorem ms_if {c : Expr} {p q : List Stmt} {t : Vw → R Bool} (hc : MT X W c t) (ha : MSs X W p a) (hb : MSs X W q b) : MS X W (.If c p q pos) (sIf t a b) := by
  refine PS.imp (ps_if hc ha hb) fun D σ H ⟨F0, H0, F, g, ok, h⟩ => evT_va ok h fun k F' H' e ok' h' => ?_
  cases k with
  | true => exact ⟨F0, H0, F', g, ok', h'⟩
  | false => exact ⟨F0, H0, F', g, ok', h'⟩
theorem ms_ret {e : Expr} {m : M} (he : ME X W e m) : MS X W (.Return (some e) pos) (sRet m) := by
  refine PS.imp (ps_ret he) fun D σ H ⟨F0, H0, F, g, ok, h⟩ => ⟨frz F H σ g, va g, ok.frzH, ok.va, ?_⟩
  unfold sRet at h
  cases e : m (va g) with
  | ok d =>
    rw [e] at h
    intro v F' H' E hd
    refine h v F' H' ⟨ok.e.f.trans (ok.frzF.trans E.f), ok.e.h.trans E.h, E.s, fun a o q n => ?_⟩ hd
    cases z : frz F H σ g a with
    | some u =>
      by_cases w : Own σ g a
      · obtain ⟨_, _, _, y⟩ := ok.ownAt w
        exact y
      · rw [frz_not w] at z
        exact ok.e.n a u z n
    | none => exact ok.e.h.free (E.n a o q z)
  | exc c p =>
    rw [e] at h
    dsimp only at h
    split at h
    · rename_i fl
      exact fun cls od F' H' E x => h cls od _ H' σ (ok.thwOk E) (xv_flat x fl (ok.thwKeep E))
    · exact h.elim
  | bad => rw [e] at h; exact h
theorem ms_retN : MS X W (.Return none pos) sRetN := PS.imp ps_retN fun D σ H ⟨F0, H0, F, g, ok, h⟩ => h .non F H ok.e .non
theorem ms_expr {e : Expr} {m : M} (he : ME X W e m) (hs : swapsWith e none pos.line X.env = pure false) : MS X W (.Expr e pos) (sExpr m) := by
  refine PS.imp (ps_expr he hs) fun D σ H ⟨F0, H0, F, g, ok, h⟩ => ?_
  exact ev_va (Q := fun _ H1 => D.nx σ H1) ok h fun d v F' H' e ok' _ h' => h' F' H' σ ok'
theorem ms_set {i : Nat} {x : Str} {e : Expr} {m : M} {pos' : Pos} (hN : X.N.Nodup) (hi : X.N[i]? = some x) (hx : Loc X.env.scope x) (he : ME X W e m) (hs : swapsWith e (some (.Name x pos')) pos.line X.env = pure false) (hf : X.fn x = true ∨ X.env.scope.names.lookup x = some .local) :
    MS X W (.Assign [.Name x pos'] e pos) (sSet i m) := by
  refine PS.imp (ps_set hN hi hx he hs hf) fun D σ H ⟨F0, H0, F, g, ok, h⟩ => ?_
  exact ev_vd (Q := fun v H1 => D.nx (σ.set i (some v)) H1) ok h fun d v F' H' e ok' hd h' => h' F' H' _ (ok'.set hd)
theorem ms_setF {i : Nat} {x : Str} {e : Expr} {m : M} {pos' : Pos} (hN : X.N.Nodup) (hi : X.N[i]? = some x) (hx : Loc X.env.scope x) (he : ME X W e m) (hs : swapsWith e (some (.Name x pos')) pos.line X.env = pure false) (hf : X.fn x = true ∨ X.env.scope.names.lookup x = some .local) :
    MS X W (.Assign [.Name x pos'] e pos) (sSetF i m) := by
  refine PS.imp (ps_set hN hi hx he hs hf) fun D σ H ⟨F0, H0, F, g, ok, h⟩ => ?_
  refine ev_va (Q := fun v H1 => D.nx (σ.set i (some v)) H1) ok h fun d v F' H' e ok' hd h' => ?_
  split at h'
  · rename_i f
    exact h' F' H' _ (ok'.set (hd f))
  · exact h'.elim
theorem ms_par {i j : Nat} {x y : Str} {e f : Expr} {m : Vw → R (List D)} {px py pt : Pos} {kt k2 pt2} (hc : X.calm = true) (hN : X.N.Nodup) (hi : X.N[i]? = some x) (hj : X.N[j]? = some y) (hij : i ≠ j)
    (hx : X.env.scope.names.lookup x = some .local) (hy : X.env.scope.names.lookup y = some .local) (ha : MA X W [e, f] m)
    (hw : swappedStores [.Tuple [.Name x px, .Name y py] kt pt] (.Tuple [e, f] k2 pt2) X.env = pure (some [x, y]))
    (hs : swapsWithSole [.Tuple [.Name x px, .Name y py] kt pt] (.Tuple [e, f] k2 pt2) pos.line X.env = pure false) :
    MS X W (.Assign [.Tuple [.Name x px, .Name y py] kt pt] (.Tuple [e, f] k2 pt2) pos) (sPar i j m) := by
  refine PS.imp (ps_par hc hN hi hj hij hx hy ha hw hs) fun D σ H ⟨F0, H0, F, g, ok, h⟩ => ?_
  refine evA_vd ok h fun ds vs F' H' e ok' hd h' => ?_
  cases hd with
  | nil => exact h'.elim
  | cons h1 r =>
    cases r with
    | nil => exact h'.elim
    | cons h2 r =>
      cases r with
      | nil => exact ⟨_, _, rfl, h' F' H' _ ((ok'.set h1).set h2)⟩
      | cons h3 r => exact h'.elim
theorem ms_raise {c : Str} {e : Expr} {C : Addr} (hc : X.calm = true) (tk : Takes X W) (gC : X.mg c = some (.ref C)) (he : PMk X e (fun _ H Q => Q (.ref C) none H)) : MS X W (.Raise (some e) none pos) (sRaise c) :=
  PS.imp (ps_raise hc tk he) fun D σ H ⟨F0, H0, F, g, ok, h⟩ => h (.ref C) none F H σ ok ⟨C, gC, rfl, rfl⟩
theorem frz_ok {K : PySem.W.Frag} {F0 H0 F H : Hp} {σ : L2.St} {g : Ce} (zs : List Nat) (ok : StOk K F0 H0 F H σ g) : ∃ F', StOk K F0 H0 F' H σ (frzC zs g) := by
  classical
  let P : Addr → Prop := fun a => ∃ i ds, zs.contains i = true ∧ g[i]? = some (Cell.own ds) ∧ σ[i]? = some (some (V.ref a))
  let F' : Hp := fun a => if P a then H a else F a
  have own_of : ∀ a, P a → ∃ xs, H a = some (.lst xs) ∧ F a = none ∧ H0 a = none := fun a ⟨i, ds, _, h1, h2⟩ => ok.ownAt ⟨i, ds, h1, h2⟩
  have fF : Same F F' := fun a o e => by
    by_cases h : P a
    · obtain ⟨_, _, q, _⟩ := own_of a h
      rw [q] at e; cases e
    · show (if P a then H a else F a) = _
      rw [if_neg h]; exact e
  have fH : Same F' H := fun a o e => by
    have e' : (if P a then H a else F a) = some o := e
    by_cases h : P a
    · rw [if_pos h] at e'; exact e'
    · rw [if_neg h] at e'; exact ok.e.s _ _ e'
  have cell : ∀ i : Nat, (frzC zs g)[i]? = (g[i]?).map fun c => match c with
      | .own ds => if zs.contains i then Cell.dat (.list ds) else .own ds
      | c => c := fun i => by
    unfold frzC
    rw [List.getElem?_mapIdx]
  refine ⟨F', ⟨ok.e.f.trans fF, ok.e.h, fH, fun a o e n => ?_⟩, by unfold frzC; simpa using ok.len, fun i d q => ?_, fun i ds q => ?_, fun i j ds es a q1 q2 q3 q4 => ?_⟩
  · have e' : (if P a then H a else F a) = some o := e
    by_cases h : P a
    · obtain ⟨_, _, _, y⟩ := own_of a h
      exact y
    · rw [if_neg h] at e'; exact ok.e.n a o e' n
  · rw [cell] at q
    cases e : g[i]? with
    | none => rw [e] at q; cases q
    | some c =>
      rw [e] at q
      cases c with
      | un => cases q
      | dat d' =>
        cases q
        obtain ⟨v, h1, h2⟩ := ok.dat i d e
        exact ⟨v, h1, dp_mono fF d h2⟩
      | own ds =>
        by_cases z : zs.contains i = true
        · have q' : (if zs.contains i = true then Cell.dat (.list ds) else .own ds) = Cell.dat d := Option.some.inj q
          rw [if_pos z] at q'
          cases q'
          obtain ⟨a, xs, h1, h2, h3, h4, h5⟩ := ok.own i ds e
          refine ⟨_, h1, .lst (.inl (.inl ?_)) (dpa_mono fF ds h5)⟩
          show (if P a then H a else F a) = _
          rw [if_pos ⟨i, ds, z, e, h1⟩]
          exact h2
        · have q' : (if zs.contains i = true then Cell.dat (.list ds) else .own ds) = Cell.dat d := Option.some.inj q
          rw [if_neg z] at q'
          cases q'
  · rw [cell] at q
    cases e : g[i]? with
    | none => rw [e] at q; cases q
    | some c =>
      rw [e] at q
      cases c with
      | un => cases q
      | dat d' => cases q
      | own es =>
        by_cases z : zs.contains i = true
        · have q' : (if zs.contains i = true then Cell.dat (.list es) else .own es) = Cell.own ds := Option.some.inj q
          rw [if_pos z] at q'
          cases q'
        · have q' : (if zs.contains i = true then Cell.dat (.list es) else .own es) = Cell.own ds := Option.some.inj q
          rw [if_neg z] at q'
          cases q'
          obtain ⟨a, xs, h1, h2, h3, h4, h5⟩ := ok.own i ds e
          refine ⟨a, xs, h1, h2, ?_, h4, dpa_mono fF ds h5⟩
          show (if P a then H a else F a) = _
          rw [if_neg]
          · exact h3
          · rintro ⟨j, ds', zj, gj, sj⟩
            have := ok.inj i j ds ds' a e gj h1 sj
            subst this
            exact z zj
  · have un : ∀ (i : Nat) (ds : List D), (frzC zs g)[i]? = some (.own ds) → g[i]? = some (.own ds) := fun i ds q => by
      rw [cell] at q
      cases e : g[i]? with
      | none => rw [e] at q; cases q
      | some c =>
        rw [e] at q
        cases c with
        | un => cases q
        | dat d' => cases q
        | own es =>
          by_cases z : zs.contains i = true
          · have q' : (if zs.contains i = true then Cell.dat (.list es) else .own es) = Cell.own ds := Option.some.inj q
            rw [if_pos z] at q'
            cases q'
          · have q' : (if zs.contains i = true then Cell.dat (.list es) else .own es) = Cell.own ds := Option.some.inj q
            rw [if_neg z] at q'
            cases q'
            rfl
    exact ok.inj i j ds es a (un i ds q1) (un j es q2) q3 q4
theorem ms_frz (zs : List Nat) (h : MS X W st a) : MS X W st (sFrz zs a) := by
  refine PS.imp h fun D σ H ⟨F0, H0, F, g, ok, q⟩ => ?_
  obtain ⟨F', ok'⟩ := frz_ok zs ok
  exact ⟨F0, H0, F', _, ok', q⟩
theorem ms_newL {i : Nat} {x : Str} {es : List Expr} {m : Vw → R (List D)} {pos' pos2 : Pos} (hN : X.N.Nodup) (hi : X.N[i]? = some x) (hx : Loc X.env.scope x) (he : MA X W es m) (hs : swapsWith (.List es pos2) (some (.Name x pos')) pos.line X.env = pure false) (hf : X.fn x = true ∨ X.env.scope.names.lookup x = some .local) :
    MS X W (.Assign [.Name x pos'] (.List es pos2) pos) (sNewL i m) := by
  refine PS.imp (ps_set hN hi hx (pe_lst he) hs hf) fun D σ H ⟨F0, H0, F, g, ok, h⟩ => ?_
  refine evA_vd (Q := fun xs H1 => xs.length ≤ sizeLine ∧ ∀ p, H1 p = none → D.nx (σ.set i (some (.ref p))) (upd H1 p (.lst xs))) ok h fun ds xs F' H' e ok' hd h' => ?_
  split at h'
  · rename_i l
    refine ⟨by rw [dpa_len hd]; exact most_le l, fun p hp => h' F' _ _ ?_⟩
    have E := Ext.loose (o := .lst xs) ok'.e.s hp
    refine (ok'.mono E).setOwn hd upd_same (ok'.e.s.free hp) (ok'.e.h.free hp) fun j es' _ hj hs' => ?_
    obtain ⟨b, ys, q1, q2, _⟩ := ok'.own j es' hj
    rw [q1] at hs'
    cases hs'
    rw [hp] at q2
    cases q2
  · exact h'.elim
end
end MI
set_option Elab.async false
set_option linter.all false
set_option maxRecDepth 100000
set_option maxHeartbeats 4000000
/-! MI3: loops, targets, try, calls, defs. -/
namespace MI
open PySem PySem.Spec PyProof.Rows L2
/-! ### targets -/
abbrev Tg := D → Ce → Option Ce
def gN (i : Nat) : Tg := fun d g => some (g.set i (.dat d))
abbrev Tgs := List D → Ce → Option Ce
def gsNil : Tgs := fun ds g => match ds with
  | [] => some g
  | _ => none
def gsCons (t : Tg) (u : Tgs) : Tgs := fun ds g => match ds with
  | d :: r => (t d g).bind (u r)
  | [] => none
/-- a, b, .. = a tuple -/
def gT (u : Tgs) : Tg := fun d g => match d with
  | .tuple ds => u ds g
  | _ => none
/-- what a target's rule asks -/
def TgOk (K : PySem.W.Frag) (r : TG) (t : Tg) : Prop := ∀ (F0 H0 F H : Hp) (σ : L2.St) (g g' : Ce) (v : V) (d : D) (Q : L2.St → Hp → Prop),
  StOk K F0 H0 F H σ g → Dp K F v d → t d g = some g' → (∀ σ', StOk K F0 H0 F H σ' g' → Q σ' H) → r v σ H Q
def TgsOk (K : PySem.W.Frag) (n : Nat) (r : TGs) (t : Tgs) : Prop := (∀ ds g g', t ds g = some g' → ds.length = n) ∧ ∀ (F0 H0 F H : Hp) (σ : L2.St) (g g' : Ce) (vs : List V) (ds : List D) (Q : L2.St → Hp → Prop),
  StOk K F0 H0 F H σ g → DpAll K F vs ds → t ds g = some g' → (∀ σ', StOk K F0 H0 F H σ' g' → Q σ' H) → r vs σ H Q
theorem gN_ok {K : PySem.W.Frag} {i : Nat} : TgOk K (gName i) (gN i) := fun F0 H0 F H σ g g' v d Q ok hd e q => by
  cases e
  exact q _ (ok.set hd)
theorem gsNil_ok {K : PySem.W.Frag} : TgsOk K 0 gNil gsNil := by
  refine ⟨fun ds g g' e => ?_, fun F0 H0 F H σ g g' vs ds Q ok hd e q => ?_⟩
  · cases ds with
    | nil => rfl
    | cons a b => cases e
  · cases hd with
    | nil =>
      cases e
      exact ⟨rfl, q _ ok⟩
    | cons a b => cases e
theorem gsCons_ok {K : PySem.W.Frag} {n : Nat} {r : TG} {rs : TGs} {t : Tg} {ts : Tgs} (h1 : TgOk K r t) (h2 : TgsOk K n rs ts) : TgsOk K (n + 1) (gCons r rs) (gsCons t ts) := ⟨fun ds g g' e => by
  cases ds with
  | nil => cases e
  | cons d ds =>
    have e' : (t d g).bind (ts ds) = some g' := e
    cases q : t d g with
    | none => rw [q] at e'; cases e'
    | some g1 =>
      rw [q] at e'
      exact congrArg Nat.succ (h2.1 ds g1 g' e'), fun F0 H0 F H σ g g' vs ds Q ok hd e Q' => by
  cases hd with
  | nil => cases e
  | @cons v vs d ds a b =>
    have e' : (t d g).bind (ts ds) = some g' := e
    cases q : t d g with
    | none => rw [q] at e'; cases e'
    | some g1 =>
      rw [q] at e'
      exact ⟨v, vs, rfl, h1 F0 H0 F H σ g g1 v d _ ok a q fun σ' ok' => h2.2 F0 H0 F H σ' g1 g' vs ds Q ok' b e' Q'⟩⟩
theorem gT_ok {K : PySem.W.Frag} {n : Nat} {r : TGs} {t : Tgs} (h : TgsOk K n r t) : TgOk K (gTup K n r) (gT t) := fun F0 H0 F H σ g g' v d Q ok hd e q => by
  cases hd with
  | tup a b =>
    exact ⟨_, _, rfl, same_t ok.e.s a, (dpa_len b).trans (h.1 _ _ _ e), h.2 F0 H0 F H σ g g' _ _ Q ok b e q⟩
  | _ => cases e
def sAsg (t : Tg) (m : M) : S := fun g => (m (vd g)).to g fun d => match t d g with
  | some g' => .nx g'
  | none => .bad
theorem ms_asg {X : Cx} {W : WX} {pos : Pos} {tg e : Expr} {m : M} {r : TG} {t : Tg} (he : ME X W e m) (hg : PG X tg r) (ht : TgOk X.K r t) (hs : swapsWithSole [tg] e pos.line X.env = pure false) (hw : swappedStores [tg] e X.env = pure none) (h1 : (assignEach [tg] X.env).map (·.2) = [assign tg X.env]) : MS X W (.Assign [tg] e pos) (sAsg t m) := by
  refine PS.imp (ps_asg he hg hs hw h1) fun D σ H ⟨F0, H0, F, g, ok, h⟩ => ?_
  refine ev_vd (Q := fun v H1 => r v σ H1 D.nx) ok h fun d v F' H' e ok' hd h' => ?_
  cases q : t d g with
  | none => rw [q] at h'; exact h'.elim
  | some g' =>
    rw [q] at h'
    exact ht F0 H0 F' H' σ g g' v d D.nx ok' hd q fun σ' ok2 => h' F' H' σ' ok2
/-! ### for -/
def loopF (t : Tg) (b : S) : List D → S
  | [], g => .nx g
  | d :: ds, g => match t d g with
    | none => .bad
    | some g1 => match b g1 with
      | .nx g2 => loopF t b ds g2
      | .ct g2 => loopF t b ds g2
      | .bk g2 => .nx g2
      | o => o
def sForL (m : M) (t : Tg) (b : S) : S := fun g => (m (vd g)).to g fun d => match d with
  | .list ds => loopF t b ds g
  | .tuple ds => loopF t b ds g
  | _ => .bad
def iLT (K : PySem.W.Frag) (tl : TE) : TI := fun σ H R => iList K tl σ H R ∨ iTup K tl σ H R
theorem pi_lt {X : Cx} {tg l : Expr} {tl : TE} (hl : PE X l tl) : PI X tg l (iLT X.K tl) := ⟨fun pins s σ H R I h => by
  rcases h with h | h
  · exact (pi_list hl).run pins s σ H R I h
  · exact (pi_tup hl).run pins s σ H R I h⟩
/-- one turn -/
theorem loopF_turn {K : PySem.W.Frag} {mg : Str → Option Value} {W : WX} {F0 H0 F H : Hp} {σ : L2.St} {g : Ce} {D : Ends} {r : TG} {t : Tg} {b : S} {d : MI.D} {ds : List MI.D} {x : V} {N : L2.St → Hp → Prop} (ht : TgOk K r t)
    (ok : StOk K F0 H0 F H σ g) (hd : Dp K F x d) (h : SPost K mg W F0 H0 D (loopF t b (d :: ds) g))
    (n : ∀ F' H' σ' g', StOk K F H0 F' H' σ' g' → SPost K mg W F0 H0 D (loopF t b ds g') → N σ' H') :
    r x σ H fun σ2 H2 => tS K mg W b { D with nx := N, ct := N, bk := D.nx } σ2 H2 := by
  unfold loopF at h
  cases q : t d g with
  | none => rw [q] at h; exact h.elim
  | some g1 =>
    rw [q] at h
    refine ht F0 H0 F H σ g g1 x d _ ok hd q fun σ' ok' => ⟨F, H0, F, g1, ok'.base, ?_⟩
    dsimp only at h
    cases e : b g1 with
    | nx g2 =>
      rw [e] at h
      exact fun F' H' σ2 ok2 => n F' H' σ2 g2 ok2 h
    | ct g2 =>
      rw [e] at h
      exact fun F' H' σ2 ok2 => n F' H' σ2 g2 ok2 h
    | bk g2 =>
      rw [e] at h
      exact fun F' H' σ2 ok2 => h F' H' σ2 (ok2.back ok'.e)
    | rt v =>
      rw [e] at h
      have h' : SPost K mg W F0 H0 D (.rt v) := h
      exact fun v F' H' E q => h' v F' H' (ok'.e.back E) q
    | ex c p g2 =>
      rw [e] at h
      have h' : SPost K mg W F0 H0 D (.ex c p g2) := h
      exact fun cls od F' H' σ2 ok2 x => h' cls od F' H' σ2 (ok2.back ok'.e) x
    | bad => rw [e] at h; exact h
theorem drop_get {α : Type} {l : List α} {i : Nat} {x : α} (h : l[i]? = some x) : l.drop i = x :: l.drop (i + 1) := by
  obtain ⟨hi, e⟩ := List.getElem?_eq_some_iff.mp h
  rw [List.drop_eq_getElem_cons hi, e]
theorem ms_forL {X : Cx} {W : WX} {pos : Pos} {tg iter : Expr} {body : List Stmt} {m : M} {r : TG} {t : Tg} {b : S} (hp : PassesOwn (model X.prog X.w) X.A X.env X.xe) (hc : X.calm = true) (he : ME X W iter m) (hg : PG X tg r) (ht : TgOk X.K r t) (hb : MSs X W body b)
    (hs : ∀ x, foldedSetIterable iter X.env x = pure x) : MS X W (.For tg iter body [] pos) (sForL m t b) := by
  refine PS.imp (ps_for hp hc (pi_lt he) hg hb hs) fun D σ H ⟨F0, H0, F, g, ok, h⟩ => ?_
  have key : ∀ (ds : List MI.D) (xs : List V), SPost X.K X.mg W F0 H0 D (loopF t b ds g) → ∀ F' H', StOk X.K F0 H0 F' H' σ g → DpAll X.K F' xs ds →
      ∃ Pv : Nat → L2.St → Hp → Prop, Pv 0 σ H' ∧ (∀ i σ H, Pv i σ H → ∃ F2, Same F' F2 ∧ Same F2 H) ∧ (∀ i x σ H, xs[i]? = some x → Pv i σ H → r x σ H fun σ2 H2 => tS X.K X.mg W b { D with nx := Pv (i + 1), ct := Pv (i + 1), bk := D.nx } σ2 H2) ∧ ∀ σ H, Pv xs.length σ H → D.nx σ H := by
    intro ds xs hl F' H' ok' hd
    refine ⟨fun i σ H => ∃ F2 g2, Ext F' H0 F2 H ∧ StOk X.K F0 H0 F2 H σ g2 ∧ SPost X.K X.mg W F0 H0 D (loopF t b (ds.drop i) g2), ⟨F', g, ok'.base.e, ok', by simpa using hl⟩, fun i σ H ⟨F2, g2, E, ok2, _⟩ => ⟨F2, E.f, ok2.e.s⟩, fun i x σ H hi ⟨F2, g2, E, ok2, h2⟩ => ?_, fun σ H ⟨F2, g2, E, ok2, h2⟩ => ?_⟩
    · obtain ⟨d, e, dx⟩ := dpa_get' hd hi
      rw [drop_get e] at h2
      exact loopF_turn ht ok2 (dp_mono E.f d dx) h2 fun F3 H3 σ3 g3 ok3 h3 => ⟨F3, g3, E.back ok3.e, ok3.back ok2.e, h3⟩
    · rw [List.drop_of_length_le (by rw [dpa_len hd]; exact Nat.le_refl _)] at h2
      exact h2 F2 H σ ok2
  have h' : SPost X.K X.mg W F0 H0 D ((m (MI.vd g)).to g fun d => match d with
      | .list ds => loopF t b ds g
      | .tuple ds => loopF t b ds g
      | _ => .bad) := h
  cases em : m (MI.vd g) with
  | ok d =>
    cases d with
    | list ds =>
      refine .inl (ev_vd ok h' fun d v F' H' e ok' hd hl => ?_)
      rw [em] at e
      cases e
      cases hd with
      | lst hs ha =>
        obtain ⟨Pv, p0, ps, pt, pd⟩ := key ds _ hl F' H' ok' ha
        exact ⟨_, rfl, ⟨_, ok'.e.s.seq hs⟩, for_list Pv p0 (fun i σ H _ p => let ⟨F2, a, b⟩ := ps i σ H p; (a.trans b).seq hs) pt pd⟩
    | tuple ds =>
      refine .inr (ev_vd ok h' fun d v F' H' e ok' hd hl => ?_)
      rw [em] at e
      cases e
      cases hd with
      | tup hs ha =>
        obtain ⟨Pv, p0, ps, pt, pd⟩ := key ds _ hl F' H' ok' ha
        exact ⟨_, rfl, ⟨_, same_t ok'.e.s hs⟩, for_tup Pv p0 (fun i σ H _ p => let ⟨F2, a, b⟩ := ps i σ H p; same_t (a.trans b) hs) pt pd⟩
    | _ => rw [em] at h'; exact h'.elim
  | exc c p =>
    refine .inl (ev_vd (k := fun _ => .bad) (D := D) ok ?_ fun d v F' H' e ok' hd hl => hl.elim)
    rw [em] at h' ⊢
    exact h'
  | bad =>
    rw [em] at h'
    exact h'.elim
/-! ### while -/
def loopW (t : Vw → R Bool) (b : S) : Nat → S
  | 0, _ => .bad
  | n + 1, g => (t (va g)).to g fun k => if k = true then (match b g with
      | .nx g2 => loopW t b n g2
      | .ct g2 => loopW t b n g2
      | .bk g2 => .nx g2
      | o => o) else .nx g
theorem ms_while {X : Cx} {W : WX} {pos : Pos} {c : Expr} {body : List Stmt} {t : Vw → R Bool} {b : S} {n : Nat} (hp : PassesOwn (model X.prog X.w) X.A X.env X.xe) (hc : MT X W c t) (hb : MSs X W body b) : MS X W (.While c body [] pos) (loopW t b n) := by
  refine PS.imp (ps_while hp hc hb) fun D σ H ⟨F0, H0, F, g, ok, h⟩ => ?_
  refine ⟨fun m σ H => ∃ F g, StOk X.K F0 H0 F H σ g ∧ SPost X.K X.mg W F0 H0 D (loopW t b m g), ⟨n, F, g, ok, h⟩, ?_⟩
  rintro m σ H ⟨F, g, ok, h⟩
  cases m with
  | zero => exact h.elim
  | succ m =>
    refine evT_va ok h fun k F' H' e ok' h' => ?_
    cases k with
    | false => exact h' F' H' σ ok'
    | true =>
      rw [if_pos rfl] at h' ⊢
      refine ⟨fun σ' H' => ∃ F g, StOk X.K F0 H0 F H' σ' g ∧ SPost X.K X.mg W F0 H0 D (loopW t b m g), fun σ' H' q => ⟨m, Nat.lt_succ_self m, q⟩, F0, H0, F', g, ok', ?_⟩
      cases e : b g with
      | nx g2 =>
        rw [e] at h'
        exact fun F3 H3 σ3 ok3 => ⟨F3, g2, ok3, h'⟩
      | ct g2 =>
        rw [e] at h'
        exact fun F3 H3 σ3 ok3 => ⟨F3, g2, ok3, h'⟩
      | bk g2 =>
        rw [e] at h'
        exact fun F3 H3 σ3 ok3 => h' F3 H3 σ3 ok3
      | rt v => rw [e] at h'; exact h'
      | ex c p g2 => rw [e] at h'; exact h'
      | bad => rw [e] at h'; exact h'
/-! ### range -/
def rngL (lo c : Int) (n : Nat) : List D := (List.range n).map fun (i : Nat) => .int (lo + (i : Int) * c)
theorem rngL_get {lo c : Int} {n i : Nat} (h : i < n) : (rngL lo c n)[i]? = some (.int (lo + (i : Int) * c)) := by
  unfold rngL
  rw [List.getElem?_map, List.getElem?_range h]
  rfl
theorem rngL_len {lo c : Int} {n : Nat} : (rngL lo c n).length = n := by
  unfold rngL
  rw [List.length_map, List.length_range]
def lim62 (i : Int) : Bool := decide (-(2 ^ 62) ≤ i) && decide (i < 2 ^ 62)
def rng1 : List D → Option (List D)
  | [.int j] => if lim62 j = true then some (rngL 0 1 j.toNat) else none
  | _ => none
def rng2 : List D → Option (List D)
  | [.int i, .int j] => if (lim62 i && lim62 j) = true then some (rngL i 1 (j - i).toNat) else none
  | _ => none
def rng3 : List D → Option (List D)
  | [.int i, .int j, .int c] => if c ≠ 0 ∧ c.natAbs < 1073741824 ∧ Builtin.Range.small i j c = true ∧ 0 ≤ Builtin.Range.rangeSize i j c then some (rngL i c (Builtin.Range.rangeSize i j c).toNat) else none
  | _ => none
def sForR (f : List D → Option (List D)) (m : Vw → R (List D)) (t : Tg) (b : S) : S := fun g => (m (vd g)).to g fun ds => match f ds with
  | some xs => loopF t b xs g
  | none => .bad
section
variable {X : Cx} {W : WX} {F0 H0 : Hp} {D : Ends} {r : TG} {t : Tg} {b : S} {g : Ce}
theorem rng_key (ht : TgOk X.K r t) {lo c : Int} {n : Nat} (hl : SPost X.K X.mg W F0 H0 D (loopF t b (rngL lo c n) g)) {F H : Hp} {σ : L2.St} (ok : StOk X.K F0 H0 F H σ g) :
    ∃ Pv : Nat → L2.St → Hp → Prop, Pv 0 σ H ∧ (∀ i σ H, i < n → Pv i σ H → r (.int (lo + (i : Int) * c)) σ H fun σ2 H2 => tS X.K X.mg W b { D with nx := Pv (i + 1), ct := Pv (i + 1), bk := D.nx } σ2 H2) ∧ ∀ σ H, Pv n σ H → D.nx σ H := by
  refine ⟨fun i σ H => ∃ F2 g2, StOk X.K F0 H0 F2 H σ g2 ∧ SPost X.K X.mg W F0 H0 D (loopF t b ((rngL lo c n).drop i) g2), ⟨F, g, ok, by simpa using hl⟩, fun i σ H hi ⟨F2, g2, ok2, h2⟩ => ?_, fun σ H ⟨F2, g2, ok2, h2⟩ => ?_⟩
  · rw [drop_get (rngL_get hi)] at h2
    exact loopF_turn ht ok2 (.int _) h2 fun F3 H3 σ3 g3 ok3 h3 => ⟨F3, g3, ok3.back ok2.e, h3⟩
  · rw [List.drop_of_length_le (by rw [rngL_len]; exact Nat.le_refl _)] at h2
    exact h2 F2 H σ ok2
end
theorem dpa1 {K : PySem.W.Frag} {F : Hp} {vs : List V} {a : D} (h : DpAll K F vs [a]) : ∃ v, vs = [v] ∧ Dp K F v a := by
  cases h with
  | cons a b => cases b; exact ⟨_, rfl, a⟩
theorem dpa2 {K : PySem.W.Frag} {F : Hp} {vs : List V} {a b : D} (h : DpAll K F vs [a, b]) : ∃ v w, vs = [v, w] ∧ Dp K F v a ∧ Dp K F w b := by
  cases h with
  | cons a r =>
    obtain ⟨w, rfl, q⟩ := dpa1 r
    exact ⟨_, _, rfl, a, q⟩
theorem dpa3 {K : PySem.W.Frag} {F : Hp} {vs : List V} {a b c : D} (h : DpAll K F vs [a, b, c]) : ∃ v w x, vs = [v, w, x] ∧ Dp K F v a ∧ Dp K F w b ∧ Dp K F x c := by
  cases h with
  | cons a r =>
    obtain ⟨w, x, rfl, q, q'⟩ := dpa2 r
    exact ⟨_, _, _, rfl, a, q, q'⟩
theorem dp_int {K : PySem.W.Frag} {F : Hp} {v : V} {i : Int} (h : Dp K F v (.int i)) : v = .int i := by cases h; rfl
section
variable {X : Cx} {W : WX} {pos p : Pos} {tg a b c : Expr} {body : List Stmt} {m : Vw → R (List D)} {r : TG} {t : Tg} {s : S}
theorem ms_for1 (hp : PassesOwn (model X.prog X.w) X.A X.env X.xe) (hc : X.calm = true) (hG : Gl X "range") (hm : X.mg "range" = none) (ha : MA X W [a] m) (hst : starEach [a] X.env = [(false, eval a X.env)]) (hg : PG X tg r) (ht : TgOk X.K r t) (hb : MSs X W body s)
    {q : Pos} (hs : ∀ x, foldedSetIterable (.Call (.Name "range" p) [a] [] q) X.env x = pure x) : MS X W (.For tg (.Call (.Name "range" p) [a] [] q) body [] pos) (sForR rng1 m t s) := by
  refine PS.imp (ps_for hp hc (pi_range1 hG hm ha hst) hg hb hs) fun D σ H ⟨F0, H0, F, g, ok, h⟩ => ?_
  refine evA_vd ok h fun ds vs F' H' e ok' hd h' => ?_
  unfold rng1 at h'
  split at h'
  · rename_i xs e1
    split at e1
    · rename_i j
      split at e1
      · rename_i l
        cases e1
        obtain ⟨v, rfl, hv⟩ := dpa1 hd
        cases dp_int hv
        unfold lim62 at l
        rw [Bool.and_eq_true, decide_eq_true_eq, decide_eq_true_eq] at l
        obtain ⟨Pv, p0, pt, pd⟩ := rng_key ht h' ok'
        refine ⟨j, rfl, l.1, l.2, for_range Pv p0 (fun i σ H hi q => ?_) pd⟩
        have := pt i σ H hi q
        rw [Int.mul_one] at this
        exact this
      · cases e1
    · cases e1
  · exact h'.elim
theorem ms_for2 (hp : PassesOwn (model X.prog X.w) X.A X.env X.xe) (hc : X.calm = true) (hG : Gl X "range") (hm : X.mg "range" = none) (ha : MA X W [a, b] m) (hst : starEach [a, b] X.env = [(false, eval a X.env), (false, eval b X.env)]) (hst2 : starEach [b] X.env = [(false, eval b X.env)]) (hg : PG X tg r) (ht : TgOk X.K r t) (hb : MSs X W body s)
    {q : Pos} (hs : ∀ x, foldedSetIterable (.Call (.Name "range" p) [a, b] [] q) X.env x = pure x) : MS X W (.For tg (.Call (.Name "range" p) [a, b] [] q) body [] pos) (sForR rng2 m t s) := by
  refine PS.imp (ps_for hp hc (pi_range2 hG hm ha hst hst2) hg hb hs) fun D σ H ⟨F0, H0, F, g, ok, h⟩ => ?_
  refine evA_vd ok h fun ds vs F' H' e ok' hd h' => ?_
  unfold rng2 at h'
  split at h'
  · rename_i xs e1
    split at e1
    · rename_i i j
      split at e1
      · rename_i l
        cases e1
        obtain ⟨v, w, rfl, hv, hw⟩ := dpa2 hd
        cases dp_int hv
        cases dp_int hw
        unfold lim62 at l
        rw [Bool.and_eq_true, Bool.and_eq_true, Bool.and_eq_true, decide_eq_true_eq, decide_eq_true_eq, decide_eq_true_eq, decide_eq_true_eq] at l
        obtain ⟨Pv, p0, pt, pd⟩ := rng_key ht h' ok'
        refine ⟨i, j, rfl, ⟨l.1.1, l.1.2, l.2.1, l.2.2⟩, for_range Pv p0 (fun i σ H hi q => ?_) pd⟩
        have := pt i σ H hi q
        rw [Int.mul_one] at this
        exact this
      · cases e1
    · cases e1
  · exact h'.elim
theorem ms_for3 (hp : PassesOwn (model X.prog X.w) X.A X.env X.xe) (hc : X.calm = true) (hG : Gl X "range") (hm : X.mg "range" = none) (ha : MA X W [a, b, c] m) {q : Pos} (hst : starEach [a, b, c] X.env = (false, eval a X.env) :: starEach [b, c] X.env) (hpl : (backTo q (starEach [b, c] X.env)).any (·.1) = false) (hg : PG X tg r) (ht : TgOk X.K r t) (hb : MSs X W body s)
    (hs : ∀ x, foldedSetIterable (.Call (.Name "range" p) [a, b, c] [] q) X.env x = pure x) : MS X W (.For tg (.Call (.Name "range" p) [a, b, c] [] q) body [] pos) (sForR rng3 m t s) := by
  refine PS.imp (ps_for hp hc (pi_range3 hG hm ha hst hpl) hg hb hs) fun D σ H ⟨F0, H0, F, g, ok, h⟩ => ?_
  refine evA_vd ok h fun ds vs F' H' e ok' hd h' => ?_
  unfold rng3 at h'
  split at h'
  · rename_i xs e1
    split at e1
    · rename_i i j c
      split at e1
      · rename_i l
        cases e1
        obtain ⟨v, w, x, rfl, hv, hw, hx⟩ := dpa3 hd
        cases dp_int hv
        cases dp_int hw
        cases dp_int hx
        obtain ⟨Pv, p0, pt, pd⟩ := rng_key ht h' ok'
        exact ⟨i, j, c, _, rfl, ⟨l.1, l.2.1, l.2.2.1, (Int.toNat_of_nonneg l.2.2.2).symm⟩, for_rangeC Pv p0 pt pd⟩
      · cases e1
    · cases e1
  · exact h'.elim
end
/-! ### try: .. except X: .. -/
/-- sub: whether an exception of that class is caught; none: no claim -/
def sTry (sub : Str → Option Bool) (b u : S) : S := fun g => match b g with
  | .ex c p g' => (match sub c with
    | some true => (match u g' with
      | .ex _ _ _ => .bad
      | o => o)
    | some false => .ex c p g'
    | none => .bad)
  | o => o
def SubOk (K : PySem.W.Frag) (mg : Str → Option Value) (sub : Str → Option Bool) (c : Value) : Prop := ∀ x k C, sub x = some k → mg x = some (.ref C) → PySem.W.exmOne K (.ref C) c = some k
theorem ms_try {X : Cx} {W : WX} {x : Str} {c : Value} {body suite : List Stmt} {b0 : Stmt} {np pos pos' : Pos} {sub : Str → Option Bool} {b u : S} (hs : X.stack = X.env :: X.outer) (hf : X.env.frame = some X.env.locals) (hc : Names X x c) (tk : Takes X W) (so : SubOk X.K X.mg sub c)
    (hb : ∀ (W' : WX) (pn : List (Addr × Obj)) (xe : Value → Shared → Prop), Takes (X.tr pn xe) W' → PassesOwn (model X.prog X.w) X.A X.env xe → MSs (X.tr pn xe) W' body b)
    (hsu : ∀ (a : Addr) (oe : Obj) (cls : Value) (d : Option Addr) (pn : List (Addr × Obj)), Zc cls d oe → (∃ vs, oe.data = .fields vs) → ∀ W' : WX, MSs (X.suite a ((a, oe) :: pn)) W' (b0 :: suite) u) :
    MS X W (.Try body [.ExceptHandler (some (.Name x np)) none (b0 :: suite) pos'] [] [] pos) (sTry sub b u) := by
  refine PS.imp (ps_try_only (tb := fun W' => tS X.K X.mg W' b) (ts := fun _ _ _ => tS X.K X.mg (fun _ _ _ _ => False) u) hs hf hc tk hb fun a oe cls d pn z f => hsu a oe cls d pn z f _) fun D σ H ⟨F0, H0, F, g, ok, h⟩ => ⟨F0, H0, F, g, ok, ?_⟩
  unfold sTry at h
  cases e : b g with
  | nx g' => rw [e] at h; exact h
  | rt d => rw [e] at h; exact h
  | bk g' => rw [e] at h; exact h
  | ct g' => rw [e] at h; exact h
  | bad => rw [e] at h; exact h
  | ex cx p g' =>
    rw [e] at h
    dsimp only at h
    intro cls od F' H' σ' ok' xv
    obtain ⟨C, gC, rfl, xr⟩ := id xv
    cases q : sub cx with
    | none => rw [q] at h; exact h.elim
    | some k =>
      rw [q] at h
      refine ⟨k, so _ _ _ q gC, fun ek a ha => ?_, fun ek => ?_⟩
      · subst ek
        refine ⟨F0, H0, F', g', ok', ?_⟩
        cases e2 : u g' with
        | ex c2 p2 g2 => rw [e2] at h; exact h.elim
        | nx g2 => rw [e2] at h; exact h
        | rt d => rw [e2] at h; exact h
        | bk g2 => rw [e2] at h; exact h
        | ct g2 => rw [e2] at h; exact h
        | bad => rw [e2] at h; exact h
      · subst ek
        exact h (.ref C) od F' H' σ' ok' xv
end MI
set_option Elab.async false
set_option linter.all false
set_option maxRecDepth 100000
set_option maxHeartbeats 4000000
/-! MI4: defs and calls; operations on data. -/
namespace MI
open PySem PySem.Spec PyProof.Rows L2
/-! ### defs -/
def run (n N : Nat) (m : S) (ds : List D) : R D := if ds.length = n then (match m (ds.map Cell.dat ++ List.replicate (N - n) Cell.un) with
  | .nx _ => .ok .none
  | .rt d => .ok d
  | .ex c p _ => .exc c p
  | _ => .bad) else .bad
def FPost (K : PySem.W.Frag) (mg : Str → Option Value) (F H : Hp) (Q : VK) (E : XK) : R D → Prop
  | .ok d => ∀ v F' H', Ext F H F' H' → Dp K F' v d → Q v H'
  | .exc c p => ∀ cls od F' H', Ext F H F' H' → XV K mg F' c p cls od → E cls od H'
  | .bad => False
def spD (K : PySem.W.Frag) (mg : Str → Option Value) (n : Nat) (f : List D → R D) : Sp := fun vs H Q E => ∃ F ds, Same F H ∧ DpAll K F vs ds ∧ ds.length = n ∧ FPost K mg F H Q E (f ds)
theorem StOk.start {K : PySem.W.Frag} {F H : Hp} {vs : List V} {ds : List D} {N : List Str} (s : Same F H) (h : DpAll K F vs ds) (l : ds.length ≤ N.length) : StOk K F H F H (start N vs) (ds.map Cell.dat ++ List.replicate (N.length - ds.length) Cell.un) := by
  have hl := dpa_len h
  refine ⟨Ext.refl s, ?_, fun i d q => ?_, fun i es q => ?_, fun i j es es' a q => ?_⟩
  · unfold L2.start
    simp
    omega
  · by_cases hi : i < ds.length
    · rw [List.getElem?_append_left (by simpa using hi), List.getElem?_map] at q
      cases e : ds[i]? with
      | none => rw [e] at q; cases q
      | some d' =>
        rw [e] at q
        cases q
        obtain ⟨v, h1, h2⟩ := dpa_get h e
        refine ⟨v, ?_, h2⟩
        unfold L2.start
        rw [List.getElem?_append_left (by simpa [hl] using hi), List.getElem?_map, h1]
        rfl
    · rw [List.getElem?_append_right (by simpa using hi), List.getElem?_replicate] at q
      split at q <;> cases q
  · by_cases hi : i < ds.length
    · rw [List.getElem?_append_left (by simpa using hi), List.getElem?_map] at q
      cases e : ds[i]? with
      | none => rw [e] at q; cases q
      | some d' => rw [e] at q; cases q
    · rw [List.getElem?_append_right (by simpa using hi), List.getElem?_replicate] at q
      split at q <;> cases q
  · exfalso
    by_cases hi : i < ds.length
    · rw [List.getElem?_append_left (by simpa using hi), List.getElem?_map] at q
      cases e : ds[i]? with
      | none => rw [e] at q; cases q
      | some d' => rw [e] at q; cases q
    · rw [List.getElem?_append_right (by simpa using hi), List.getElem?_replicate] at q
      split at q <;> cases q
/-- a def's W -/
abbrev WD (E : XK) : WX := fun cls d _ H => E cls d H
theorem fn_ok {P : Program} {w : World} {K : PySem.W.Frag} {mg : Str → Option Value} {base : Heap} {x qual : Str} {params : Arguments} {body : List Stmt} {scope : Scope} {dvs : List V} {kws : List (Str × V)} {f : Addr} {fd : FuncData} {N ps : List Str} {k : Nat} {m : S}
    (F : FunD K x qual params body scope dvs kws f fd) (Sc : FnScope N ps scope)
    (hbody : ∀ (cdv : Value) (A : Around) (outer : List Env) (s : Shared) (H : Hp) (E : XK), Room k (A.deeper (envOfC qual scope s.heap.objs.size f cdv)) →
      MSs (cxOf (L2.CX P w) P w K mg base N qual scope f cdv A outer s H E) (WD E) body m) :
    FnOk P w K mg base (L2.CX P w) (k + 1) f fd ps (spD K mg ps.length (run ps.length N.length m)) := by
  refine F.ok Sc (fun vs H Q E ⟨F, ds, s, h, l, _⟩ => (dpa_len h).trans l) fun cdv A outer s H vs Q E hr ⟨F, ds, sm, h, l, hp⟩ => ⟨_, hbody cdv A outer s H E hr, F, H, F, _, StOk.start (N := N) sm h ?_, ?_⟩
  · rw [l]
    have := congrArg List.length Sc.pre
    rw [List.length_take] at this
    omega
  · unfold run at hp
    rw [if_pos l] at hp
    rw [l]
    cases e : m (ds.map Cell.dat ++ List.replicate (N.length - ps.length) Cell.un) with
    | nx g =>
      rw [e] at hp
      exact fun F' H' σ ok => hp .non F' H' ok.e .non
    | rt d =>
      rw [e] at hp
      exact hp
    | ex c p g =>
      rw [e] at hp
      exact fun cls od F' H' σ ok xv => hp cls od F' H' ok.e xv
    | bk g => rw [e] at hp; exact (show False from hp).elim
    | ct g => rw [e] at hp; exact (show False from hp).elim
    | bad => rw [e] at hp; exact (show False from hp).elim
theorem FPost.ext {K : PySem.W.Frag} {mg : Str → Option Value} {F H F' H' : Hp} {Q : VK} {E : XK} {r : R D} (e : Ext F H F' H') (h : FPost K mg F H Q E r) : FPost K mg F' H' Q E r := by
  cases r with
  | ok d => exact fun v F2 H2 e2 q => h v F2 H2 (e.trans e2) q
  | exc c p => exact fun cls od F2 H2 e2 q => h cls od F2 H2 (e.trans e2) q
  | bad => exact h
def mCall (n : Nat) (f : List D → R D) (dds : List D) (m : Vw → R (List D)) : M := fun δ => (m δ).bind fun ds => if (ds ++ dds).length = n then f (ds ++ dds) else .bad
theorem me_call {X : Cx} {W : WX} {k n : Nat} {f : Addr} {fd : FuncData} {ps : List Str} {dvs : List V} {ds : List Value} {x : Str} {p pos : Pos} {e : Expr} {es : List Expr} {m : Vw → R (List D)} {fn : List D → R D} {dds : List D}
    (G : FnOk X.prog X.w X.K X.mg X.base (L2.CX X.prog X.w) k f fd ps (spD X.K X.mg n fn)) (hr : Room k X.A) (hg : Gl X x) (hm : X.mg x = some (.ref f)) (hk : PySem.W.keepIn X.K (.ref f) = true) (hb : Binds X.K fd ps ds) (hd : Vals dvs ds)
    (hdd : ∀ F, DpAll X.K F dvs dds) (tk : Takes X W) (ha : MA X W (e :: es) m) (hdb : (x == ("__debug__" : Str)) = false) (he : starEach (e :: es) X.env = (false, eval e X.env) :: starEach es X.env) (hpl : (backTo pos (starEach es X.env)).any (·.1) = false) :
    ME X W (.Call (.Name x p) (e :: es) [] pos) (mCall n fn dds m) := by
  refine PE.imp (pe_callSD (E := WE W) G hr hg hm hk hb hd (fun σ => passAt tk σ) ha hdb he hpl) fun σ H Q ⟨F, δ, s, v, h⟩ => ?_
  refine ⟨F, δ, s, v, ?_⟩
  unfold mCall at h
  cases q : m δ with
  | ok ds' =>
    rw [q, R.bind_ok] at h
    intro vs F' H' E hvs
    split at h
    · rename_i hl
      refine ⟨F', ds' ++ dds, E.s, dpa_append hvs (hdd F'), hl, ?_⟩
      have h2 : FPost X.K X.mg F H Q (WE W σ) (fn (ds' ++ dds)) := by
        cases z : fn (ds' ++ dds) with
        | ok d => rw [z] at h; exact h
        | exc c p => rw [z] at h; exact h
        | bad => rw [z] at h; exact h
      exact h2.ext E
    · exact h.elim
  | exc c p => rw [q] at h; exact h
  | bad => rw [q] at h; exact h
/-! the law's end -/
theorem spD_law {K : PySem.W.Frag} {mg : Str → Option Value} {f : List D → R D} {H : Hp} {a : Addr} {ns : List Int} (hO : Only H) (hS : SqL K H a (ns.map V.int)) (h : f [.list (ns.map .int)] = .ok (.bool true)) :
    spD K mg 1 f [.ref a] H (fun v _ => v = .bl true) fun _ _ _ => False := by
  have intsD : ∀ ns : List Int, DpAll K H (ns.map V.int) (ns.map PyData.int) := fun ns => by
    induction ns with
    | nil => exact .nil
    | cons n ns ih => exact .cons (.int n) ih
  refine ⟨H, [.list (ns.map .int)], Same.refl H, .cons (.lst hS (intsD ns)) .nil, rfl, ?_⟩
  rw [h]
  intro v F' H' E q
  cases q
  rfl
/-! ### operations -/
section
variable {X : Cx}
theorem opr_of {f : Value → Value → Sem Value} {r' : R2} (h : ∀ x y H Q, r' x y H Q → ∃ r, OpR X f r ∧ r x y H Q) : OpR X f r' := fun pins s σ H x y v u Q I rx ry hh => by
  obtain ⟨r, ho, q⟩ := h x y H Q hh
  exact ho pins s σ H x y v u Q I rx ry q
theorem unr_of {f : Value → Sem Value} {r' : V → Hp → VK → Prop} (h : ∀ x H Q, r' x H Q → ∃ r, UnR X f r ∧ r x H Q) : UnR X f r' := fun pins s σ H x v Q I rx hh => by
  obtain ⟨r, ho, q⟩ := h x H Q hh
  exact ho pins s σ H x v Q I rx q
theorem callr_of {f : Value} {r' : List V → Hp → VK → Prop} (h : ∀ xs H Q, r' xs H Q → ∃ r, CallR X f r ∧ r xs H Q) : CallR X f r' := fun pins s σ H xs us Q I rx hh => by
  obtain ⟨r, ho, q⟩ := h xs H Q hh
  exact ho pins s σ H xs us Q I rx q
theorem mtr_of {id : String} {r' : V → List V → Hp → VK → Prop} (h : ∀ x xs H Q, r' x xs H Q → ∃ r, MtR X id r ∧ r x xs H Q) : MtR X id r' := fun pins s σ H x xs v us Q I rx rs hh => by
  obtain ⟨r, ho, q⟩ := h x xs H Q hh
  exact ho pins s σ H x xs v us Q I rx rs q
end
theorem dp_str {K : PySem.W.Frag} {F : Hp} {v : V} {i : Str} (h : Dp K F v (.str i)) : v = .str i := by cases h; rfl
theorem dp_bl {K : PySem.W.Frag} {F : Hp} {v : V} {i : Bool} (h : Dp K F v (.bool i)) : v = .bl i := by cases h; rfl
/-- great factors: together below a hundred million bits -/
def okMul (i j : Int) : Bool := decide (i.natAbs.log2 + j.natAbs.log2 < 100000000)
theorem okMul_ok {i j : Int} (h : okMul i j = true) : CMulX i j := by
  unfold okMul at h
  rw [decide_eq_true_eq] at h
  have b : ∀ x : Int, Builtin.Int.intBits x ≤ x.natAbs.log2 + 1 := fun x => by
    unfold Builtin.Int.intBits
    split <;> omega
  have x := b i
  have y := b j
  unfold CMulX
  omega
def okDiv (j : Int) : Bool := decide (j ≠ 0) && decide (j.natAbs.log2 < 9000)
def fAdd : D → D → Option D
  | .int i, .int j => some (.int (i + j))
  | .str a, .str b => if a.length + b.length ≤ most then some (.str (a ++ b)) else none
  | .list a, .list b => none
  | .tuple a, .tuple b => if a ≠ [] ∧ a.length + b.length ≤ most then some (.tuple (a ++ b)) else none
  | _, _ => none
def fSub : D → D → Option D
  | .int i, .int j => some (.int (i - j))
  | _, _ => none
def fMul : D → D → Option D
  | .int i, .int j => if okMul i j = true then some (.int (i * j)) else none
  | _, _ => none
def fFdv : D → D → Option D
  | .int i, .int j => if okDiv j = true then some (.int (i.fdiv j)) else none
  | _, _ => none
def fMod : D → D → Option D
  | .int i, .int j => if j ≠ 0 then some (.int (i.fmod j)) else none
  | _, _ => none
def fPow : D → D → Option D
  | .int i, .int j => if 0 ≤ j ∧ j ≤ 1000000 ∧ i.natAbs < 2 ^ 64 then some (.int (i ^ j.toNat)) else none
  | _, _ => none
def fNeg : D → Option D
  | .int i => some (.int (-i))
  | _ => none
section
variable {X : Cx}
theorem o_add : OpR X (binaryOp .Add) (rD2 X.K fAdd) := opr_of fun x y H Q ⟨F, d1, d2, d, s, h1, h2, e, q⟩ => by
  unfold fAdd at e
  split at e
  · cases e
    cases dp_int h1
    cases dp_int h2
    exact ⟨_, op_add, _, _, rfl, rfl, q _ F H (Ext.refl s) (.int _)⟩
  · split at e
    · rename_i l
      cases e
      cases dp_str h1
      cases dp_str h2
      exact ⟨_, op_add_str, _, _, rfl, rfl, most_le l, q _ F H (Ext.refl s) (.str _)⟩
    · cases e
  · cases e
  · split at e
    · rename_i l
      cases e
      cases h1 with
      | tup a b =>
        cases h2 with
        | tup a2 b2 =>
          refine ⟨_, op_catT, _, _, _, _, rfl, rfl, same_t s a, same_t s a2, ?_, ?_, fun z => ?_, fun _ p hp => q _ _ _ (Ext.new s hp) (.tup (SqT.of upd_same) (dpa_mono (Ext.new (o := .tup _) s hp).f _ (dpa_append b b2)))⟩
          · intro z
            subst z
            cases b
            exact l.1 rfl
          · rw [dpa_len b, dpa_len b2]
            exact most_le l.2
          · subst z
            cases b2
            rw [List.append_nil] at q
            exact q _ F H (Ext.refl s) (.tup a b)
    · cases e
  · cases e
theorem o_sub : OpR X (binaryOp .Sub) (rD2 X.K fSub) := opr_of fun x y H Q ⟨F, d1, d2, d, s, h1, h2, e, q⟩ => by
  unfold fSub at e
  split at e
  · cases e
    cases dp_int h1
    cases dp_int h2
    exact ⟨_, op_sub, _, _, rfl, rfl, q _ F H (Ext.refl s) (.int _)⟩
  · cases e
theorem o_mul : OpR X (binaryOp .Mult) (rD2 X.K fMul) := opr_of fun x y H Q ⟨F, d1, d2, d, s, h1, h2, e, q⟩ => by
  unfold fMul at e
  split at e
  · split at e
    · rename_i l
      cases e
      cases dp_int h1
      cases dp_int h2
      exact ⟨_, op_mulX, _, _, rfl, rfl, okMul_ok l, q _ F H (Ext.refl s) (.int _)⟩
    · cases e
  · cases e
theorem op_fdivZ : OpR X (binaryOp .FloorDiv) (rI (fun _ j => j ≠ 0 ∧ j.natAbs.log2 < 9000) fun i j => .int (i.fdiv j)) :=
  opI fun _ _ _ _ _ _ _ hc q => floordiv_int hc.1 q (.inl (PyProof.noPylong_of_log2 hc.2))
theorem o_fdv : OpR X (binaryOp .FloorDiv) (rD2 X.K fFdv) := opr_of fun x y H Q ⟨F, d1, d2, d, s, h1, h2, e, q⟩ => by
  unfold fFdv at e
  split at e
  · split at e
    · rename_i l
      cases e
      cases dp_int h1
      cases dp_int h2
      unfold okDiv at l
      rw [Bool.and_eq_true, decide_eq_true_eq, decide_eq_true_eq] at l
      exact ⟨_, op_fdivZ, _, _, rfl, rfl, l, q _ F H (Ext.refl s) (.int _)⟩
    · cases e
  · cases e
theorem o_mod : OpR X (binaryOp .Mod) (rD2 X.K fMod) := opr_of fun x y H Q ⟨F, d1, d2, d, s, h1, h2, e, q⟩ => by
  unfold fMod at e
  split at e
  · split at e
    · rename_i l
      cases e
      cases dp_int h1
      cases dp_int h2
      exact ⟨_, op_modN, _, _, rfl, rfl, l, q _ F H (Ext.refl s) (.int _)⟩
    · cases e
  · cases e
theorem o_pow : OpR X (binaryOp .Pow) (rD2 X.K fPow) := opr_of fun x y H Q ⟨F, d1, d2, d, s, h1, h2, e, q⟩ => by
  unfold fPow at e
  split at e
  · split at e
    · rename_i l
      cases e
      cases dp_int h1
      cases dp_int h2
      exact ⟨_, op_pow, _, _, rfl, rfl, l, q _ F H (Ext.refl s) (.int _)⟩
    · cases e
  · cases e
theorem o_neg : UnR X (unaryOp .USub) (rD1 X.K fNeg) := unr_of fun x H Q ⟨F, d1, d, s, h1, e, q⟩ => by
  unfold fNeg at e
  split at e
  · cases e
    cases dp_int h1
    exact ⟨_, un_neg, _, rfl, q _ F H (Ext.refl s) (.int _)⟩
  · cases e
end
/-! comparisons -/
def fLt : D → D → Option D
  | .int i, .int j => some (.bool (decide (i < j)))
  | .str a, .str b => some (.bool (decide (a.cps.toList < b.cps.toList)))
  | _, _ => none
def fLe : D → D → Option D
  | .int i, .int j => some (.bool (decide (i ≤ j)))
  | _, _ => none
def fGt : D → D → Option D
  | .int i, .int j => some (.bool (decide (j < i)))
  | _, _ => none
def fGe : D → D → Option D
  | .int i, .int j => some (.bool (decide (j ≤ i)))
  | _, _ => none
def dEq : D → D → Option Bool
  | .int i, .int j => some (decide (i = j))
  | .str a, .str b => some (decide (a = b))
  | .bool a, .bool b => some (decide (a = b))
  | .none, .none => some true
  | d, e => if (SeqAt.shaped d && SeqAt.shaped e) = true then some (PyData.eqv d e) else none
def fEq (d e : D) : Option D := (dEq d e).map .bool
def fNe (d e : D) : Option D := (dEq d e).map fun b => .bool (!b)
def fIs (d e : D) : Option D := match e with
  | .none => (match d with
    | .none => some (.bool true)
    | _ => some (.bool false))
  | _ => none
def fIsN (d e : D) : Option D := match e with
  | .none => (match d with
    | .none => some (.bool false)
    | _ => some (.bool true))
  | _ => none
def fIn (neg : Bool) : D → D → Option D
  | d, .list ds => if (SeqAt.shaped d && SeqAt.shaped (.list ds)) = true then some (.bool (if neg = true then !(ds.any fun z => PyData.eqv z d) else ds.any fun z => PyData.eqv z d)) else none
  | .str a, .str b => some (.bool (if neg = true then !(!(Builtin.Str.occurrences b a 0 b.length 1).isEmpty) else !(Builtin.Str.occurrences b a 0 b.length 1).isEmpty))
  | _, _ => none
section
variable {X : Cx}
theorem o_lt : OpR X (compareOp .Lt) (rD2 X.K fLt) := opr_of fun x y H Q ⟨F, d1, d2, d, s, h1, h2, e, q⟩ => by
  unfold fLt at e
  split at e
  · cases e
    cases dp_int h1
    cases dp_int h2
    exact ⟨_, op_lt, _, _, rfl, rfl, q _ F H (Ext.refl s) (.bl _)⟩
  · cases e
    cases dp_str h1
    cases dp_str h2
    exact ⟨_, op_lt_str, _, _, rfl, rfl, q _ F H (Ext.refl s) (.bl _)⟩
  · cases e
theorem o_le : OpR X (compareOp .LtE) (rD2 X.K fLe) := opr_of fun x y H Q ⟨F, d1, d2, d, s, h1, h2, e, q⟩ => by
  unfold fLe at e
  split at e
  · cases e
    cases dp_int h1
    cases dp_int h2
    exact ⟨_, op_le, _, _, rfl, rfl, q _ F H (Ext.refl s) (.bl _)⟩
  · cases e
theorem o_gt : OpR X (compareOp .Gt) (rD2 X.K fGt) := opr_of fun x y H Q ⟨F, d1, d2, d, s, h1, h2, e, q⟩ => by
  unfold fGt at e
  split at e
  · cases e
    cases dp_int h1
    cases dp_int h2
    exact ⟨_, op_gt, _, _, rfl, rfl, q _ F H (Ext.refl s) (.bl _)⟩
  · cases e
theorem o_ge : OpR X (compareOp .GtE) (rD2 X.K fGe) := opr_of fun x y H Q ⟨F, d1, d2, d, s, h1, h2, e, q⟩ => by
  unfold fGe at e
  split at e
  · cases e
    cases dp_int h1
    cases dp_int h2
    exact ⟨_, op_ge, _, _, rfl, rfl, q _ F H (Ext.refl s) (.bl _)⟩
  · cases e
theorem dEq_ok {K : PySem.W.Frag} {F H : Hp} {x y : V} {d e : D} {b : Bool} (s : Same F H) (h1 : Dp K F x d) (h2 : Dp K F y e) (q : dEq d e = some b) :
    (scal x y = true ∧ decide (x = y) = b) ∨ (Dp K H x d ∧ Dp K H y e ∧ SeqAt.shaped d = true ∧ SeqAt.shaped e = true ∧ PyData.eqv d e = b) := by
  unfold dEq at q
  split at q
  · cases q
    cases dp_int h1
    cases dp_int h2
    exact .inl ⟨rfl, by simp⟩
  · cases q
    cases dp_str h1
    cases dp_str h2
    exact .inl ⟨rfl, by simp⟩
  · cases q
    cases dp_bl h1
    cases dp_bl h2
    exact .inl ⟨rfl, by simp⟩
  · cases q
    cases h1
    cases h2
    exact .inl ⟨rfl, by simp⟩
  · split at q
    · rename_i l
      cases q
      rw [Bool.and_eq_true] at l
      exact .inr ⟨dp_mono s _ h1, dp_mono s _ h2, l.1, l.2, rfl⟩
    · cases q
theorem o_eq (hu : X.A.units + 64 < cLine) : OpR X (compareOp .Eq) (rD2 X.K fEq) := opr_of fun x y H Q ⟨F, d1, d2, d, s, h1, h2, e, q⟩ => by
  unfold fEq at e
  cases z : dEq d1 d2 with
  | none => rw [z] at e; cases e
  | some b =>
    rw [z] at e
    cases e
    have q' := q (.bl b) F H (Ext.refl s) (.bl b)
    rcases dEq_ok s h1 h2 z with ⟨a1, a2⟩ | ⟨a1, a2, a3, a4, a5⟩
    · exact ⟨_, op_eq, a1, by rw [a2]; exact q'⟩
    · exact ⟨_, op_eqD hu, _, _, a1, a2, a3, a4, by rw [a5]; exact q'⟩
theorem o_ne (hu : X.A.units + 64 < cLine) : OpR X (compareOp .NotEq) (rD2 X.K fNe) := opr_of fun x y H Q ⟨F, d1, d2, d, s, h1, h2, e, q⟩ => by
  unfold fNe at e
  cases z : dEq d1 d2 with
  | none => rw [z] at e; cases e
  | some b =>
    rw [z] at e
    cases e
    have q' := q (.bl (!b)) F H (Ext.refl s) (.bl _)
    rcases dEq_ok s h1 h2 z with ⟨a1, a2⟩ | ⟨a1, a2, a3, a4, a5⟩
    · exact ⟨_, op_ne, a1, by rw [a2]; exact q'⟩
    · exact ⟨_, op_neD hu, _, _, a1, a2, a3, a4, by rw [a5]; exact q'⟩
theorem o_is : OpR X (compareOp .Is) (rD2 X.K fIs) := opr_of fun x y H Q ⟨F, d1, d2, d, s, h1, h2, e, q⟩ => by
  unfold fIs at e
  split at e
  · cases h2
    refine ⟨_, op_isN, rfl, ?_⟩
    split at e
    · cases e
      cases h1
      exact q _ F H (Ext.refl s) (.bl _)
    · rename_i hn
      cases e
      have : decide (x = .non) = false := by
        cases h1 with
        | non => exact absurd rfl hn
        | _ => rfl
      rw [this]
      exact q _ F H (Ext.refl s) (.bl _)
  · cases e
theorem o_isN : OpR X (compareOp .IsNot) (rD2 X.K fIsN) := opr_of fun x y H Q ⟨F, d1, d2, d, s, h1, h2, e, q⟩ => by
  unfold fIsN at e
  split at e
  · cases h2
    refine ⟨_, op_notN, rfl, ?_⟩
    split at e
    · cases e
      cases h1
      exact q _ F H (Ext.refl s) (.bl _)
    · rename_i hn
      cases e
      have : decide (x = .non) = false := by
        cases h1 with
        | non => exact absurd rfl hn
        | _ => rfl
      rw [this]
      exact q _ F H (Ext.refl s) (.bl _)
  · cases e
theorem o_in (hu : X.A.units + 65 < cLine) : OpR X (compareOp .In) (rD2 X.K (fIn false)) := opr_of fun x y H Q ⟨F, d1, d2, d, s, h1, h2, e, q⟩ => by
  unfold fIn at e
  split at e
  · split at e
    · rename_i l
      cases e
      rw [Bool.and_eq_true] at l
      exact ⟨_, op_inD hu, _, _, dp_mono s _ h1, dp_mono s _ h2, l.1, l.2, q _ F H (Ext.refl s) (.bl _)⟩
    · cases e
  · cases e
    cases dp_str h1
    cases dp_str h2
    exact ⟨_, op_in_str, _, _, rfl, rfl, q _ F H (Ext.refl s) (.bl _)⟩
  · cases e
theorem o_notIn (hu : X.A.units + 65 < cLine) : OpR X (compareOp .NotIn) (rD2 X.K (fIn true)) := opr_of fun x y H Q ⟨F, d1, d2, d, s, h1, h2, e, q⟩ => by
  unfold fIn at e
  split at e
  · split at e
    · rename_i l
      cases e
      rw [Bool.and_eq_true] at l
      exact ⟨_, op_notInD hu, _, _, dp_mono s _ h1, dp_mono s _ h2, l.1, l.2, q _ F H (Ext.refl s) (.bl _)⟩
    · cases e
  · cases e
    cases dp_str h1
    cases dp_str h2
    exact ⟨_, op_notIn_str, _, _, rfl, rfl, q _ F H (Ext.refl s) (.bl _)⟩
  · cases e
end
/-- a comparison tells a truth -/
theorem bl_lt : ∀ x y d, fLt x y = some d → ∃ z : Bool, d = .bool z := fun x y d e => by
  unfold fLt at e
  split at e <;> cases e <;> exact ⟨_, rfl⟩
theorem bl_le : ∀ x y d, fLe x y = some d → ∃ z : Bool, d = .bool z := fun x y d e => by
  unfold fLe at e
  split at e <;> cases e <;> exact ⟨_, rfl⟩
theorem bl_gt : ∀ x y d, fGt x y = some d → ∃ z : Bool, d = .bool z := fun x y d e => by
  unfold fGt at e
  split at e <;> cases e <;> exact ⟨_, rfl⟩
theorem bl_ge : ∀ x y d, fGe x y = some d → ∃ z : Bool, d = .bool z := fun x y d e => by
  unfold fGe at e
  split at e <;> cases e <;> exact ⟨_, rfl⟩
theorem bl_eq : ∀ x y d, fEq x y = some d → ∃ z : Bool, d = .bool z := fun x y d e => by
  unfold fEq at e
  cases z : dEq x y with
  | none => rw [z] at e; cases e
  | some b => rw [z] at e; cases e; exact ⟨_, rfl⟩
theorem bl_ne : ∀ x y d, fNe x y = some d → ∃ z : Bool, d = .bool z := fun x y d e => by
  unfold fNe at e
  cases z : dEq x y with
  | none => rw [z] at e; cases e
  | some b => rw [z] at e; cases e; exact ⟨_, rfl⟩
theorem bl_is : ∀ x y d, fIs x y = some d → ∃ z : Bool, d = .bool z := fun x y d e => by
  unfold fIs at e
  split at e
  · split at e <;> cases e <;> exact ⟨_, rfl⟩
  · cases e
theorem bl_isN : ∀ x y d, fIsN x y = some d → ∃ z : Bool, d = .bool z := fun x y d e => by
  unfold fIsN at e
  split at e
  · split at e <;> cases e <;> exact ⟨_, rfl⟩
  · cases e
theorem bl_in (n : Bool) : ∀ x y d, fIn n x y = some d → ∃ z : Bool, d = .bool z := fun x y d e => by
  unfold fIn at e
  split at e
  · split at e <;> cases e <;> exact ⟨_, rfl⟩
  · cases e; exact ⟨_, rfl⟩
  · cases e
/-! items, slices -/
def fIx : D → D → Option D
  | .list ds, .int i => atI ds i
  | .tuple ds, .int i => atI ds i
  | .str z, .int i => if z.length ≤ most then (atI z.cps.toList i).map fun c => .str ⟨#[c]⟩ else none
  | _, _ => none
theorem dpa_at {K : PySem.W.Frag} {F : Hp} {vs : List V} {ds : List D} {i : Int} {d : D} (h : DpAll K F vs ds) (e : atI ds i = some d) : ∃ v, atI vs i = some v ∧ Dp K F v d := by
  unfold atI at e ⊢
  rw [dpa_len h]
  cases q : ixN ds.length i with
  | none => rw [q] at e; cases e
  | some j => rw [q] at e; exact dpa_get h e
theorem i_ix {K : PySem.W.Frag} : ∀ x y H Q, rD2 K fIx x y H Q → rIx K x y H Q := fun x y H Q ⟨F, d1, d2, d, s, h1, h2, e, q⟩ => by
  unfold fIx at e
  split at e
  · cases dp_int h2
    cases h1 with
    | lst a b =>
      obtain ⟨v, e1, e2⟩ := dpa_at b e
      exact .inl ⟨_, _, _, _, rfl, rfl, s.seq a, e1, q _ F H (Ext.refl s) e2⟩
  · cases dp_int h2
    cases h1 with
    | tup a b =>
      obtain ⟨v, e1, e2⟩ := dpa_at b e
      exact .inr (.inl ⟨_, _, _, _, rfl, rfl, same_t s a, e1, q _ F H (Ext.refl s) e2⟩)
  · split at e
    · rename_i z i l
      cases dp_int h2
      cases dp_str h1
      cases w : atI z.cps.toList i with
      | none => rw [w] at e; cases e
      | some c =>
        rw [w] at e
        cases e
        exact .inr (.inr ⟨_, _, _, rfl, rfl, most_le l, w, q _ F H (Ext.refl s) (.str _)⟩)
    · cases e
  · cases e
/-- a part of a slice -/
def mPart (m : M) : Vw → R (Option Int) := fun δ => (m δ).bind fun d => match d with
  | .int i => .ok (some i)
  | _ => .bad
def mNoPart : Vw → R (Option Int) := fun _ => .ok none
def cutD (xs : List D) (lo hi : Option Int) : List D := (xs.drop (HT.sIx xs.length 0 lo)).take (HT.sIx xs.length xs.length hi - HT.sIx xs.length 0 lo)
def fSl (d : D) (lo hi : Option Int) : Option D := match d with
  | .list ds => some (.list (cutD ds lo hi))
  | .tuple ds => if HT.sIx ds.length 0 lo = 0 ∧ HT.sIx ds.length ds.length hi = ds.length then none else some (.tuple (cutD ds lo hi))
  | .str z => if z.length ≤ most then some (.str (Txt.slice z lo hi)) else none
  | _ => none
def mSl (m : M) (lo hi : Vw → R (Option Int)) : M := fun δ => (m δ).bind fun d => (lo δ).bind fun l => (hi δ).bind fun h => R.of (fSl d l h)
section
variable {X : Cx} {W : WX}
def OPost (F H : Hp) (σ : L2.St) (Q : Option Int → Hp → Prop) : R (Option Int) → Prop
  | .ok b => ∀ F' H', Ext F H F' H' → Q b H'
  | .exc c p => ∀ cls od F' H', Ext F H F' H' → XV X.K X.mg F' c p cls od → W cls od σ H'
  | .bad => False
def tO (X : Cx) (W : WX) (m : Vw → R (Option Int)) : TO := fun σ H Q => ∃ F δ, Same F H ∧ VwOk X.K F σ δ ∧ OPost (X := X) (W := W) F H σ Q (m δ)
abbrev MO (X : Cx) (W : WX) (e : Option Expr) (m : Vw → R (Option Int)) : Prop := PO X e (tO X W m)
theorem PO.imp {e : Option Expr} {t t' : TO} (h : PO X e t) (i : ∀ σ H Q, t' σ H Q → t σ H Q) : PO X e t' := ⟨fun pins s σ H Q I hw => h.run pins s σ H Q I (i _ _ _ hw)⟩
theorem mo_none : MO X W none mNoPart := PO.imp po_none fun σ H Q ⟨F, δ, s, v, h⟩ => h F H (Ext.refl s)
theorem mo_some {e : Expr} {m : M} (he : ME X W e m) : MO X W (some e) (mPart m) := PO.imp (po_some he) fun σ H Q ⟨F, δ, s, v, h⟩ => by
  refine ⟨F, δ, s, v, ?_⟩
  unfold mPart at h
  cases e : m δ with
  | ok d =>
    rw [e, R.bind_ok] at h
    cases d with
    | int i =>
      intro x F' H' E hx
      cases dp_int hx
      exact ⟨i, rfl, h F' H' E⟩
    | _ => exact h.elim
  | exc c p => rw [e] at h; exact h
  | bad => rw [e] at h; exact h
theorem dpa_cut {K : PySem.W.Frag} {F : Hp} {vs : List V} {ds : List D} {lo hi : Option Int} (h : DpAll K F vs ds) : DpAll K F (cutV vs lo hi) (cutD ds lo hi) := by
  unfold cutV cutD
  rw [dpa_len h]
  exact dpa_take _ (dpa_drop _ h)
def rSlD (K : PySem.W.Frag) : V → Option Int → Option Int → Hp → VK → Prop := fun x lo hi H Q => ∃ F d1 d, Same F H ∧ Dp K F x d1 ∧ fSl d1 lo hi = some d ∧ ∀ v F' H', Ext F H F' H' → Dp K F' v d → Q v H'
theorem slr_of {r' : V → Option Int → Option Int → Hp → VK → Prop} (h : ∀ x lo hi H Q, r' x lo hi H Q → ∃ r, SlR X r ∧ r x lo hi H Q) : SlR X r' := by
  intro pins s σ H x v vl vu lo hi sl Q I rx hs pl pu hh
  obtain ⟨r, ho, q⟩ := h x lo hi H Q hh
  exact ho pins s σ H x v vl vu lo hi sl Q I rx hs pl pu q
theorem l_sl : SlR X (rSlD X.K) := slr_of fun x lo hi H Q ⟨F, d1, d, s, h1, e, q⟩ => by
  unfold fSl at e
  split at e
  · cases e
    cases h1 with
    | lst a b => exact ⟨_, sl_list, _, _, rfl, s.seq a, fun p hp => q _ _ _ (Ext.new s hp) (.lst (SqL.of upd_same) (dpa_mono (Ext.new (o := .lst _) s hp).f _ (dpa_cut b)))⟩
  · split at e
    · cases e
    · rename_i l
      cases e
      cases h1 with
      | tup a b => exact ⟨_, sl_tup, _, _, rfl, same_t s a, by rw [dpa_len b]; exact l, fun p hp => q _ _ _ (Ext.new s hp) (.tup (SqT.of upd_same) (dpa_mono (Ext.new (o := .tup _) s hp).f _ (dpa_cut b)))⟩
  · split at e
    · rename_i l
      cases e
      cases dp_str h1
      exact ⟨_, C8.sl_txt, _, rfl, most_le l, q _ F H (Ext.refl s) (.str _)⟩
    · cases e
  · cases e
theorem me_sl {e : Expr} {lo hi : Option Expr} {m : M} {ml mh : Vw → R (Option Int)} {pos p2 : Pos} (he : ME X W e m) (hl : MO X W lo ml) (hh : MO X W hi mh) : ME X W (.Subscript e (.Slice lo hi none p2) pos) (mSl m ml mh) := by
  refine PE.imp (pe_slice l_sl he hl hh) fun σ H Q ⟨F, δ, s, v, h⟩ => ?_
  refine tM_bind s v h fun d x F1 H1 _ E hx h1 => ?_
  refine ⟨F1, δ, E.s, v.mono E.f, ?_⟩
  cases e1 : ml δ with
  | ok l =>
    rw [e1, R.bind_ok] at h1
    intro F2 H2 E2
    refine ⟨F2, δ, E2.s, (v.mono E.f).mono E2.f, ?_⟩
    cases e2 : mh δ with
    | ok u =>
      rw [e2, R.bind_ok] at h1
      obtain ⟨d3, e3, q⟩ := of_post h1
      intro F3 H3 E3
      exact ⟨F3, d, d3, E3.s, dp_mono (E2.f.trans E3.f) d hx, e3, fun w F4 H4 E4 hw => q w F4 H4 (E2.trans (E3.trans E4)) hw⟩
    | exc c p =>
      rw [e2] at h1
      exact fun cls od F3 H3 E3 xv => h1 cls od F3 H3 (E2.trans E3) xv
    | bad => rw [e2] at h1; exact h1.elim
  | exc c p => rw [e1] at h1; exact h1
  | bad => rw [e1] at h1; exact h1.elim
end
/-! built-in functions -/
section
variable {X : Cx} {W : WX} {x : Str} {p pos : Pos} {e : Expr} {es : List Expr} {m : Vw → R (List D)} {id T : String} {f : List D → Option D}
theorem me_cB (hc : CallR X (.builtin id) (rDs X.K f)) (hg : Gl X x) (hm : X.mg x = none) (hv : bootBuiltins x = some (.builtin id)) (ha : MA X W (e :: es) m) (hn : x ≠ "__name__") (hdb : (x == ("__debug__" : Str)) = false)
    (he : starEach (e :: es) X.env = (false, eval e X.env) :: starEach es X.env) (hpl : (backTo pos (starEach es X.env)).any (·.1) = false) : ME X W (.Call (.Name x p) (e :: es) [] pos) (mDs f m) := by
  refine PE.imp (pe_callB hc hg hm hv ha hn hdb he hpl) fun σ H Q ⟨F, δ, s, v, h⟩ => ?_
  refine tA_bind s v h fun ds xs F1 H1 _ E hx h1 => ?_
  obtain ⟨d3, e, q⟩ := of_post h1
  exact ⟨F1, ds, d3, E.s, hx, e, q⟩
theorem me_cT (hc : CallR X (.type T) (rDs X.K f)) (hg : Gl X x) (hm : X.mg x = none) (hv : bootBuiltins x = some (.type T)) (ha : MA X W (e :: es) m) (hn : x ≠ "__name__") (hdb : (x == ("__debug__" : Str)) = false)
    (he : starEach (e :: es) X.env = (false, eval e X.env) :: starEach es X.env) (hpl : (backTo pos (starEach es X.env)).any (·.1) = false) : ME X W (.Call (.Name x p) (e :: es) [] pos) (mDs f m) := by
  refine PE.imp (pe_callTy hc hg hm hv ha hn hdb he hpl) fun σ H Q ⟨F, δ, s, v, h⟩ => ?_
  refine tA_bind s v h fun ds xs F1 H1 _ E hx h1 => ?_
  obtain ⟨d3, e, q⟩ := of_post h1
  exact ⟨F1, ds, d3, E.s, hx, e, q⟩
end
def fAbs : List D → Option D
  | [.int i] => some (.int (if i < 0 then -i else i))
  | _ => none
def fLen : List D → Option D
  | [.list ds] => some (.int ds.length)
  | [.tuple ds] => some (.int ds.length)
  | [.str z] => if z.length ≤ most then some (.int z.length) else none
  | _ => none
def fMax : List D → Option D
  | [.int i, .int j] => some (.int (if j > i then j else i))
  | _ => none
def fMin : List D → Option D
  | [.int i, .int j] => some (.int (if j < i then j else i))
  | _ => none
def fInt : List D → Option D
  | [.int i] => some (.int i)
  | [.bool k] => some (.int (if k then 1 else 0))
  | _ => none
def fStr : List D → Option D
  | [.int i] => if i.natAbs.log2 < 1920 then some (.str (toString i)) else none
  | [.str z] => some (.str z)
  | _ => none
def fListOf : List D → Option D
  | [.list ds] => some (.list ds)
  | [.tuple ds] => some (.list ds)
  | _ => none
def fTupOf : List D → Option D
  | [.list ds] => some (.tuple ds)
  | [.tuple ds] => some (.tuple ds)
  | _ => none
section
variable {X : Cx}
theorem c_abs : CallR X (.builtin "abs") (rDs X.K fAbs) := callr_of fun xs H Q ⟨F, ds, d, s, h, e, q⟩ => by
  unfold fAbs at e
  split at e
  · cases e
    obtain ⟨v, rfl, hv⟩ := dpa1 h
    cases dp_int hv
    exact ⟨_, call_abs, _, rfl, q _ F H (Ext.refl s) (.int _)⟩
  · cases e
theorem c_len : CallR X (.builtin "len") (rDs X.K fLen) := callr_of fun xs H Q ⟨F, ds, d, s, h, e, q⟩ => by
  unfold fLen at e
  split at e
  · cases e
    obtain ⟨v, rfl, hv⟩ := dpa1 h
    cases hv with
    | lst a b => exact ⟨_, call_len_seq, _, _, rfl, .inl (s.seq a), by rw [dpa_len b]; exact q _ F H (Ext.refl s) (.int _)⟩
  · cases e
    obtain ⟨v, rfl, hv⟩ := dpa1 h
    cases hv with
    | tup a b => exact ⟨_, call_len_seq, _, _, rfl, .inr (same_t s a), by rw [dpa_len b]; exact q _ F H (Ext.refl s) (.int _)⟩
  · split at e
    · rename_i l
      cases e
      obtain ⟨v, rfl, hv⟩ := dpa1 h
      cases dp_str hv
      exact ⟨_, call_len_str, _, rfl, most_le l, q _ F H (Ext.refl s) (.int _)⟩
    · cases e
  · cases e
theorem c_max (hc : X.calm = true) : CallR X (.builtin "max") (rDs X.K fMax) := callr_of fun xs H Q ⟨F, ds, d, s, h, e, q⟩ => by
  unfold fMax at e
  split at e
  · cases e
    obtain ⟨v, w, rfl, hv, hw⟩ := dpa2 h
    cases dp_int hv
    cases dp_int hw
    exact ⟨_, call_max2 hc, _, _, rfl, q _ F H (Ext.refl s) (.int _)⟩
  · cases e
theorem c_min (hc : X.calm = true) : CallR X (.builtin "min") (rDs X.K fMin) := callr_of fun xs H Q ⟨F, ds, d, s, h, e, q⟩ => by
  unfold fMin at e
  split at e
  · cases e
    obtain ⟨v, w, rfl, hv, hw⟩ := dpa2 h
    cases dp_int hv
    cases dp_int hw
    exact ⟨_, call_min2 hc, _, _, rfl, q _ F H (Ext.refl s) (.int _)⟩
  · cases e
theorem c_int : CallR X (.type "int") (rDs X.K fInt) := callr_of fun xs H Q ⟨F, ds, d, s, h, e, q⟩ => by
  unfold fInt at e
  split at e
  · cases e
    obtain ⟨v, rfl, hv⟩ := dpa1 h
    cases dp_int hv
    exact ⟨_, call_int1, .inl ⟨_, rfl, q _ F H (Ext.refl s) (.int _)⟩⟩
  · cases e
    obtain ⟨v, rfl, hv⟩ := dpa1 h
    cases dp_bl hv
    exact ⟨_, call_int1, .inr ⟨_, rfl, q _ F H (Ext.refl s) (.int _)⟩⟩
  · cases e
theorem c_str : CallR X (.type "str") (rDs X.K fStr) := callr_of fun xs H Q ⟨F, ds, d, s, h, e, q⟩ => by
  unfold fStr at e
  split at e
  · split at e
    · rename_i l
      cases e
      obtain ⟨v, rfl, hv⟩ := dpa1 h
      cases dp_int hv
      exact ⟨_, call_str_int, _, rfl, l, q _ F H (Ext.refl s) (.str _)⟩
    · cases e
  · cases e
    obtain ⟨v, rfl, hv⟩ := dpa1 h
    cases dp_str hv
    exact ⟨_, SkE.call_str_str, _, rfl, q _ F H (Ext.refl s) (.str _)⟩
  · cases e
theorem c_list : CallR X (.type "list") (rDs X.K fListOf) := callr_of fun xs H Q ⟨F, ds, d, s, h, e, q⟩ => by
  unfold fListOf at e
  split at e
  · cases e
    obtain ⟨v, rfl, hv⟩ := dpa1 h
    cases hv with
    | lst a b => exact ⟨_, call_list_of, _, _, rfl, .inl (s.seq a), fun p hp => q _ _ _ (Ext.new s hp) (.lst (SqL.of upd_same) (dpa_mono (Ext.new (o := .lst _) s hp).f _ b))⟩
  · cases e
    obtain ⟨v, rfl, hv⟩ := dpa1 h
    cases hv with
    | tup a b => exact ⟨_, call_list_of, _, _, rfl, .inr (same_t s a), fun p hp => q _ _ _ (Ext.new s hp) (.lst (SqL.of upd_same) (dpa_mono (Ext.new (o := .lst _) s hp).f _ b))⟩
  · cases e
theorem c_tuple : CallR X (.type "tuple") (rDs X.K fTupOf) := callr_of fun xs H Q ⟨F, ds, d, s, h, e, q⟩ => by
  unfold fTupOf at e
  split at e
  · cases e
    obtain ⟨v, rfl, hv⟩ := dpa1 h
    cases hv with
    | lst a b => exact ⟨_, call_tuple_of, _, _, rfl, .inl ⟨s.seq a, fun p hp => q _ _ _ (Ext.new s hp) (.tup (SqT.of upd_same) (dpa_mono (Ext.new (o := .tup _) s hp).f _ b))⟩⟩
  · cases e
    obtain ⟨v, rfl, hv⟩ := dpa1 h
    cases hv with
    | tup a b => exact ⟨_, call_tuple_of, _, _, rfl, .inr ⟨same_t s a, q _ F H (Ext.refl s) (.tup a b)⟩⟩
  · cases e
end
/-! isinstance -/
def tyD : D → String
  | .none => "NoneType"
  | .bool _ => "bool"
  | .int _ => "int"
  | .str _ => "str"
  | .list _ => "list"
  | .tuple _ => "tuple"
  | .dict _ => "dict"
theorem tyx_of {K : PySem.W.Frag} {F H : Hp} {x : V} {d : D} (s : Same F H) (h : Dp K F x d) : TyX K H x (.type (tyD d)) := by
  cases h with
  | non => exact .base .non
  | bl b => exact .base (.bl b)
  | int i => exact .base (.int i)
  | str z => exact .base (.str z)
  | lst a b =>
    rcases s.seq a with (h | ⟨o, h⟩) | ⟨o, its, n, h1, h2, _⟩
    · exact .base (.lst h)
    · exact .base (.frz h)
    · exact .kList h1 h2
  | tup a b =>
    rcases same_t s a with (h | ⟨o, h⟩) | ⟨o, its, n, h1, h2, _⟩
    · exact .base (.tup h)
    · exact .fTuple h
    · exact .kTuple h1 h2
/-- the built-in classes that are asked for, by data's own classes -/
def isT (T : String) (d : D) : Option Bool := match d with
  | .dict _ => none
  | d => kitB (tyD d) T
def mIsi (T : String) (a : M) : M := fun δ => (a δ).bind fun d => R.of ((isT T d).map .bool)
theorem pe_bty {X : Cx} {x : Str} {T : String} {pos : Pos} (hg : Gl X x) (hm : X.mg x = none) (hv : bootBuiltins x = some (.type T)) (hn : x ≠ "__name__") (hdb : (x == ("__debug__" : Str)) = false) : PE X (.Name x pos) (tC (.ty T)) :=
  ⟨fun pins s σ H Q I h => ld_blt I hg hm hv ⟨.ty T, H, I, rfl, h⟩ hn hdb⟩
theorem me_isi {X : Cx} {W : WX} {a : Expr} {ma : M} {x : Str} {T : String} {p p2 pos : Pos} (hgi : Gl X "isinstance") (hmi : X.mg "isinstance" = none) (ha : ME X W a ma) (hg : Gl X x) (hm : X.mg x = none) (hv : bootBuiltins x = some (.type T)) (hn : x ≠ "__name__") (hdb : (x == ("__debug__" : Str)) = false)
    (he : starEach [a, .Name x p2] X.env = (false, eval a X.env) :: starEach [.Name x p2] X.env) (he2 : starEach [.Name x p2] X.env = (false, eval (.Name x p2) X.env) :: starEach [] X.env) (hpl : (backTo pos (starEach [.Name x p2] X.env)).any (·.1) = false) :
    ME X W (.Call (.Name "isinstance" p) [a, .Name x p2] [] pos) (mIsi T ma) := by
  refine PE.imp (pe_callB call_isi hgi hmi (by decide +kernel) (pa_cons ha (pa_cons (pe_bty hg hm hv hn hdb) pa_nil he2) he) (by decide) (by decide) he hpl) fun σ H Q ⟨F, δ, s, v, h⟩ => ?_
  refine tM_bind s v h fun d y F1 H1 _ E hx h1 => ?_
  cases q : isT T d with
  | none => rw [q] at h1; exact h1.elim
  | some b =>
    rw [q] at h1
    refine ⟨y, .ty T, .type (tyD d), .type T, b, rfl, .ty T, tyx_of E.s hx, ?_, h1 (.bl b) F1 H1 (Ext.refl E.s) (.bl b)⟩
    unfold isT at q
    split at q
    · cases q
    · exact kit_ty q
end MI
set_option Elab.async false
set_option linter.all false
set_option maxRecDepth 100000
set_option maxHeartbeats 4000000
/-! MI5: what the printed walks use. -/
namespace MI
open PySem PySem.Spec PyProof.Rows L2
/-- a def of the row, with what it tells; dds: the defaults that a call may leave out -/
structure DefOk (P : Program) (w : World) (K : PySem.W.Frag) (mg : Str → Option Value) (base : Heap) (k : Nat) (x : Str) (n : Nat) (f : List D → R D) (dds : List (List D)) : Prop where
  gl : mg x = some (.ref (He.ga K x))
  ex : ∃ (fd : FuncData) (ps : List Str), PySem.W.keepIn K (.ref (He.ga K x)) = true ∧ FnOk P w K mg base (L2.CX P w) k (He.ga K x) fd ps (spD K mg n f) ∧ ∀ dd ∈ dds, ∃ (dvs : List V) (ds : List Value), Vals dvs ds ∧ (∀ F, DpAll K F dvs dd) ∧ Binds K fd ps ds
theorem me_def {X : Cx} {W : WX} {j k n : Nat} {x : Str} {p pos : Pos} {e : Expr} {es : List Expr} {m : Vw → R (List D)} {fn : List D → R D} {dds : List (List D)} {dd : List D}
    (G : DefOk X.prog X.w X.K X.mg X.base k x n fn dds) (hr : Room j X.A) (tk : Takes X W) (ha : MA X W (e :: es) m) (hmem : dd ∈ dds := by first | exact List.mem_cons_self | simp) (hk : k ≤ j := by decide) (hg : Gl X x := by rfl)
    (hdb : (x == ("__debug__" : Str)) = false := by decide) (he : starEach (e :: es) X.env = (false, eval e X.env) :: starEach es X.env := by rfl) (hpl : (backTo pos (starEach es X.env)).any (·.1) = false := by rfl) :
    ME X W (.Call (.Name x p) (e :: es) [] pos) (mCall n fn dd m) := by
  obtain ⟨fd, ps, kp, F, b⟩ := G.ex
  obtain ⟨dvs, ds, h1, h2, h3⟩ := b dd hmem
  exact me_call F (hr.mono hk) hg G.gl kp h3 h1 h2 tk ha hdb he hpl
/-- the package of a def -/
theorem def_ok {P : Program} {w : World} {K : PySem.W.Frag} {mg : Str → Option Value} {base : Heap} {d : He.DefD} {k n : Nat} {f : List D → R D} {dds : List (List D)} {fd : FuncData} {ps : List Str} (gl : mg d.name = some (.ref (He.ga K d.name)))
    (F : FunD K d.name d.qual d.params d.body d.scope (d.dvs K) (d.kws K) (He.ga K d.name) fd) (G : FnOk P w K mg base (L2.CX P w) k (He.ga K d.name) fd ps (spD K mg n f))
    (b : ∀ dd ∈ dds, ∃ (dvs : List V) (ds : List Value), Vals dvs ds ∧ (∀ F, DpAll K F dvs dd) ∧ Binds K fd ps ds) : DefOk P w K mg base k d.name n f dds := ⟨gl, fd, ps, F.kp, G, b⟩
/-! short names -/
section
variable {X : Cx} {W : WX}
theorem mv (i : Nat) {x : Str} {pos : Pos} (hN : X.N[i]? = some x := by rfl) (hv : Vis X.env.scope x := by first | exact Or.inl rfl | exact Or.inr (Or.inl rfl) | exact Or.inr (Or.inr rfl)) (hd : (x == ("__debug__" : Str)) = false := by decide)
    (hcd : (x == ("__classdict__" : Str)) = false := by decide) : ME X W (.Name x pos) (mVar i) := me_var hN hv hd hcd
theorem mac {a : Expr} {ma : M} {es : List Expr} {mr : Vw → R (List D)} (ha : ME X W a ma) (hr : MA X W es mr) (hs : starEach (a :: es) X.env = (false, eval a X.env) :: starEach es X.env := by rfl) : MA X W (a :: es) (mCons ma mr) := ma_cons ha hr hs
theorem mbin {op : Operator} {f : D → D → Option D} {pos : Pos} {a b : Expr} {ma mb : M} (ho : OpR X (binaryOp op) (rD2 X.K f)) (ha : ME X W a ma) (hb : ME X W b mb) : ME X W (.BinOp a op b pos) (mBin f ma mb) := me_op ho ha hb
theorem mcmp {op : CmpOp} {f : D → D → Option D} {pos : Pos} {a b : Expr} {ma mb : M} (ho : OpR X (compareOp op) (rD2 X.K f)) (ha : ME X W a ma) (hb : ME X W b mb) (hm : behindInMarks op b = false := by rfl) : ME X W (.Compare a [op] [b] pos) (mBin f ma mb) := me_cmp ho ha hb hm
theorem tcmp {op : CmpOp} {f : D → D → Option D} {pos : Pos} {a b : Expr} {ma mb : M} (ho : OpR X (compareOp op) (rD2 X.K f)) (hf : ∀ x y d, f x y = some d → ∃ z : Bool, d = .bool z) (ha : ME X W a ma) (hb : ME X W b mb) (hm : behindInMarks op b = false := by rfl) : MT X W (.Compare a [op] [b] pos) (mTru (mBin f ma mb)) := mt_cmp ho hf ha hb hm
theorem ttru {a : Expr} {ma : M} (ha : ME X W a ma) (he : ∀ whole, isTrue a X.env whole = (do let v ← whole; standAt a.pos; holding [v] (truthy v)) := by intro _; rfl) : MT X W a (mTru ma) := mt_tru ha he
theorem mix {pos : Pos} {a b : Expr} {ma mb : M} (ha : ME X W a ma) (hb : ME X W b mb) (hs : PlainIx b := by exact fun _ _ => rfl) : ME X W (.Subscript a b pos) (mBin fIx ma mb) := me_ix ix_seq i_ix ha hb hs
theorem mcB {x : Str} {p pos : Pos} {e : Expr} {es : List Expr} {m : Vw → R (List D)} {id : String} {f : List D → Option D} (hc : CallR X (.builtin id) (rDs X.K f)) (hm : X.mg x = none) (ha : MA X W (e :: es) m) (hg : Gl X x := by rfl) (hv : bootBuiltins x = some (.builtin id) := by decide +kernel) (hn : x ≠ "__name__" := by decide) (hdb : (x == ("__debug__" : Str)) = false := by decide)
    (he : starEach (e :: es) X.env = (false, eval e X.env) :: starEach es X.env := by rfl) (hpl : (backTo pos (starEach es X.env)).any (·.1) = false := by rfl) : ME X W (.Call (.Name x p) (e :: es) [] pos) (mDs f m) := me_cB hc hg hm hv ha hn hdb he hpl
theorem mcT {x : Str} {p pos : Pos} {e : Expr} {es : List Expr} {m : Vw → R (List D)} {T : String} {f : List D → Option D} (hc : CallR X (.type T) (rDs X.K f)) (hm : X.mg x = none) (ha : MA X W (e :: es) m) (hg : Gl X x := by rfl) (hv : bootBuiltins x = some (.type T) := by decide +kernel) (hn : x ≠ "__name__" := by decide) (hdb : (x == ("__debug__" : Str)) = false := by decide)
    (he : starEach (e :: es) X.env = (false, eval e X.env) :: starEach es X.env := by rfl) (hpl : (backTo pos (starEach es X.env)).any (·.1) = false := by rfl) : ME X W (.Call (.Name x p) (e :: es) [] pos) (mDs f m) := me_cT hc hg hm hv ha hn hdb he hpl
theorem misi {a : Expr} {ma : M} {x : Str} {p p2 pos : Pos} (T : String) (hmi : X.mg "isinstance" = none) (hm : X.mg x = none) (ha : ME X W a ma) (hgi : Gl X "isinstance" := by rfl) (hg : Gl X x := by rfl) (hv : bootBuiltins x = some (.type T) := by decide +kernel) (hn : x ≠ "__name__" := by decide) (hdb : (x == ("__debug__" : Str)) = false := by decide)
    (he : starEach [a, .Name x p2] X.env = (false, eval a X.env) :: starEach [.Name x p2] X.env := by rfl) (he2 : starEach [.Name x p2] X.env = (false, eval (.Name x p2) X.env) :: starEach [] X.env := by rfl) (hpl : (backTo pos (starEach [.Name x p2] X.env)).any (·.1) = false := by rfl) :
    ME X W (.Call (.Name "isinstance" p) [a, .Name x p2] [] pos) (mIsi T ma) := me_isi hgi hmi ha hg hm hv hn hdb he he2 hpl
theorem sset (i : Nat) {pos : Pos} {x : Str} {e : Expr} {m : M} {pos' : Pos} (hN : X.N.Nodup) (he : ME X W e m) (hi : X.N[i]? = some x := by rfl) (hx : Loc X.env.scope x := by first | exact Or.inl rfl | exact Or.inr rfl) (hs : swapsWith e (some (.Name x pos')) pos.line X.env = pure false := by rfl) (hf : X.fn x = true ∨ X.env.scope.names.lookup x = some .local := by first | exact .inl rfl | exact .inr rfl) :
    MS X W (.Assign [.Name x pos'] e pos) (sSet i m) := ms_set hN hi hx he hs hf
theorem ssetF (i : Nat) {pos : Pos} {x : Str} {e : Expr} {m : M} {pos' : Pos} (hN : X.N.Nodup) (he : ME X W e m) (hi : X.N[i]? = some x := by rfl) (hx : Loc X.env.scope x := by first | exact Or.inl rfl | exact Or.inr rfl) (hs : swapsWith e (some (.Name x pos')) pos.line X.env = pure false := by rfl) (hf : X.fn x = true ∨ X.env.scope.names.lookup x = some .local := by first | exact .inl rfl | exact .inr rfl) :
    MS X W (.Assign [.Name x pos'] e pos) (sSetF i m) := ms_setF hN hi hx he hs hf
theorem snewL (i : Nat) {pos : Pos} {x : Str} {es : List Expr} {m : Vw → R (List D)} {pos' pos2 : Pos} (hN : X.N.Nodup) (he : MA X W es m) (hi : X.N[i]? = some x := by rfl) (hx : Loc X.env.scope x := by first | exact Or.inl rfl | exact Or.inr rfl) (hs : swapsWith (.List es pos2) (some (.Name x pos')) pos.line X.env = pure false := by rfl) (hf : X.fn x = true ∨ X.env.scope.names.lookup x = some .local := by first | exact .inl rfl | exact .inr rfl) :
    MS X W (.Assign [.Name x pos'] (.List es pos2) pos) (sNewL i m) := ms_newL hN hi hx he hs hf
theorem spar (i j : Nat) {pos : Pos} {x y : Str} {e f : Expr} {m : Vw → R (List D)} {px py pt : Pos} {kt k2 pt2} (hN : X.N.Nodup) (ha : MA X W [e, f] m) (hc : X.calm = true := by rfl) (hi : X.N[i]? = some x := by rfl) (hj : X.N[j]? = some y := by rfl) (hij : i ≠ j := by decide)
    (hx : X.env.scope.names.lookup x = some .local := by rfl) (hy : X.env.scope.names.lookup y = some .local := by rfl)
    (hw : swappedStores [.Tuple [.Name x px, .Name y py] kt pt] (.Tuple [e, f] k2 pt2) X.env = pure (some [x, y]) := by rfl)
    (hs : swapsWithSole [.Tuple [.Name x px, .Name y py] kt pt] (.Tuple [e, f] k2 pt2) pos.line X.env = pure false := by rfl) :
    MS X W (.Assign [.Tuple [.Name x px, .Name y py] kt pt] (.Tuple [e, f] k2 pt2) pos) (sPar i j m) := ms_par hc hN hi hj hij hx hy ha hw hs
theorem sexpr {pos : Pos} {e : Expr} {m : M} (he : ME X W e m) (hs : swapsWith e none pos.line X.env = pure false := by rfl) : MS X W (.Expr e pos) (sExpr m) := ms_expr he hs
theorem sraise {c : Str} {m : Str} {j : Nat} {p p2 pos pos2 : Pos} (hc : X.mg c = some (.ref (He.ga X.K c))) (xf : (He.Fa.exc c).ok X.K = true) (tk : Takes X W) (hcalm : X.calm = true := by rfl) (hg : Gl X c := by rfl) (hdb : (c == ("__debug__" : Str)) = false := by decide) :
    MS X W (.Raise (some (.Call (.Name c p) [.Constant (.str m) j p2] [] pos)) none pos2) (sRaise c) := by
  obtain ⟨x1, x2, x3, x4⟩ := He.exc_ok xf
  exact ms_raise hcalm tk hc (pmk_own PySem.F.excBase_ValueError x1 hc x2 (raises_own x3 x4) hg hdb)
theorem sforL {pos : Pos} {tg iter : Expr} {body : List Stmt} {m : M} {r : TG} {t : Tg} {b : S} (hp : PassesOwn (model X.prog X.w) X.A X.env X.xe) (he : ME X W iter m) (hg : PG X tg r) (ht : TgOk X.K r t) (hb : MSs X W body b) (hc : X.calm = true := by rfl)
    (hs : ∀ x, foldedSetIterable iter X.env x = pure x := by intro _; rfl) : MS X W (.For tg iter body [] pos) (sForL m t b) := ms_forL hp hc he hg ht hb hs
theorem sfor1 {pos p q : Pos} {tg a : Expr} {body : List Stmt} {m : Vw → R (List D)} {r : TG} {t : Tg} {s : S} (hm : X.mg "range" = none) (hp : PassesOwn (model X.prog X.w) X.A X.env X.xe) (ha : MA X W [a] m) (hg : PG X tg r) (ht : TgOk X.K r t) (hb : MSs X W body s) (hc : X.calm = true := by rfl) (hG : Gl X "range" := by rfl)
    (hst : starEach [a] X.env = [(false, eval a X.env)] := by rfl) (hs : ∀ x, foldedSetIterable (.Call (.Name "range" p) [a] [] q) X.env x = pure x := by intro _; rfl) : MS X W (.For tg (.Call (.Name "range" p) [a] [] q) body [] pos) (sForR rng1 m t s) := ms_for1 hp hc hG hm ha hst hg ht hb hs
theorem sfor2 {pos p q : Pos} {tg a b : Expr} {body : List Stmt} {m : Vw → R (List D)} {r : TG} {t : Tg} {s : S} (hm : X.mg "range" = none) (hp : PassesOwn (model X.prog X.w) X.A X.env X.xe) (ha : MA X W [a, b] m) (hg : PG X tg r) (ht : TgOk X.K r t) (hb : MSs X W body s) (hc : X.calm = true := by rfl) (hG : Gl X "range" := by rfl)
    (hst : starEach [a, b] X.env = [(false, eval a X.env), (false, eval b X.env)] := by rfl) (hst2 : starEach [b] X.env = [(false, eval b X.env)] := by rfl) (hs : ∀ x, foldedSetIterable (.Call (.Name "range" p) [a, b] [] q) X.env x = pure x := by intro _; rfl) : MS X W (.For tg (.Call (.Name "range" p) [a, b] [] q) body [] pos) (sForR rng2 m t s) := ms_for2 hp hc hG hm ha hst hst2 hg ht hb hs
theorem sfor3 {pos p q : Pos} {tg a b c : Expr} {body : List Stmt} {m : Vw → R (List D)} {r : TG} {t : Tg} {s : S} (hm : X.mg "range" = none) (hp : PassesOwn (model X.prog X.w) X.A X.env X.xe) (ha : MA X W [a, b, c] m) (hg : PG X tg r) (ht : TgOk X.K r t) (hb : MSs X W body s) (hc : X.calm = true := by rfl) (hG : Gl X "range" := by rfl)
    (hst : starEach [a, b, c] X.env = (false, eval a X.env) :: starEach [b, c] X.env := by rfl) (hpl : (backTo q (starEach [b, c] X.env)).any (·.1) = false := by rfl) (hs : ∀ x, foldedSetIterable (.Call (.Name "range" p) [a, b, c] [] q) X.env x = pure x := by intro _; rfl) : MS X W (.For tg (.Call (.Name "range" p) [a, b, c] [] q) body [] pos) (sForR rng3 m t s) := ms_for3 hp hc hG hm ha hst hpl hg ht hb hs
theorem gname (i : Nat) {x : Str} {pos : Pos} (hN : X.N.Nodup) (hi : X.N[i]? = some x := by rfl) (hx : Loc X.env.scope x := by first | exact Or.inl rfl | exact Or.inr rfl) (hf : X.fn x = true ∨ X.env.scope.names.lookup x = some .local := by first | exact .inl rfl | exact .inr rfl) : PG X (.Name x pos) (gName i) := pg_name hN hi hx hf
theorem sasg {pos : Pos} {tg e : Expr} {m : M} {r : TG} {t : Tg} (he : ME X W e m) (hg : PG X tg r) (ht : TgOk X.K r t) (hs : swapsWithSole [tg] e pos.line X.env = pure false := by rfl) (hw : swappedStores [tg] e X.env = pure none := by rfl) (h1 : (assignEach [tg] X.env).map (·.2) = [assign tg X.env] := by rfl) : MS X W (.Assign [tg] e pos) (sAsg t m) := ms_asg he hg ht hs hw h1
theorem stry {x : Str} {body suite : List Stmt} {b0 : Stmt} {np pos pos' : Pos} {sub : Str → Option Bool} {b u : S} (gC : X.mg x = some (.ref (He.ga X.K x))) (tk : Takes X W) (so : SubOk X.K X.mg sub (.ref (He.ga X.K x)))
    (hb : ∀ (W' : WX) (pn : List (Addr × Obj)) (xe : Value → Shared → Prop), Takes (X.tr pn xe) W' → PassesOwn (model X.prog X.w) X.A X.env xe → MSs (X.tr pn xe) W' body b)
    (hsu : ∀ (a : Addr) (oe : Obj) (cls : Value) (d : Option Addr) (pn : List (Addr × Obj)), Zc cls d oe → (∃ vs, oe.data = .fields vs) → ∀ W' : WX, MSs (X.suite a ((a, oe) :: pn)) W' (b0 :: suite) u)
    (hs : X.stack = X.env :: X.outer := by rfl) (hf : X.env.frame = some X.env.locals := by rfl) (hg : Gl X x := by rfl) (hdb : (x == ("__debug__" : Str)) = false := by decide) :
    MS X W (.Try body [.ExceptHandler (some (.Name x np)) none (b0 :: suite) pos'] [] [] pos) (sTry sub b u) := ms_try hs hf ⟨hg, hdb, .inl gC⟩ tk so hb hsu
/-- a module's int, text -/
theorem mgInt {x : Str} {i : Int} {pos : Pos} (hm : ∃ t, X.mg x = some (.int i t)) (hg : Gl X x := by rfl) (hd : (x == ("__debug__" : Str)) = false := by decide) : ME X W (.Name x pos) (mC (.int i)) := by
  obtain ⟨t, h⟩ := hm
  exact me_c (pe_glob (v := .int i) hg h ⟨t, rfl⟩ hd) fun _ => .int i
theorem mgStr {x z : Str} {pos : Pos} (hm : ∃ t, X.mg x = some (.str z t)) (hg : Gl X x := by rfl) (hd : (x == ("__debug__" : Str)) = false := by decide) : ME X W (.Name x pos) (mC (.str z)) := by
  obtain ⟨t, h⟩ := hm
  exact me_c (pe_glob (v := .str z) hg h ⟨t, rfl⟩ hd) fun _ => .str z
end
/-- which exceptions a clause takes, from a table -/
def subT (tb : List (Str × Bool)) : Str → Option Bool := fun c => tb.lookup c
theorem subT_ok {K : PySem.W.Frag} {mg : Str → Option Value} {y : Str} : ∀ (tb : List (Str × Bool)), (∀ p ∈ tb, mg p.1 = some (.ref (He.ga K p.1)) ∧ PySem.W.exmOne K (.ref (He.ga K p.1)) (.ref (He.ga K y)) = some p.2) → SubOk K mg (subT tb) (.ref (He.ga K y))
  | [], _ => fun x k C e _ => by cases e
  | p :: tb, h => fun x k C e g => by
    unfold subT at e
    rw [List.lookup_cons] at e
    cases q : (x == p.1) with
    | true =>
      rw [q] at e
      cases e
      have := beq_iff_eq.mp q
      subst this
      obtain ⟨h1, h2⟩ := h p (List.mem_cons_self ..)
      rw [h1] at g
      cases g
      exact h2
    | false =>
      rw [q] at e
      exact subT_ok tb (fun p' hp => h p' (List.mem_cons_of_mem _ hp)) x k C e g
/-! ### the end -/
theorem walk_mi {l : PySem.W.OpenLaw} {n k : Nat} {q : Program} {loose : List Str} {XP : (Str → Option Value) → Heap → Prop} {YP : World → Heap → Prop} {d : DefRec} {x : Str} {f : List D → R D}
    (hn : l.most = some n) (hn2 : n ≤ sizeLine) (hdf : d.params.defaults = []) (hr : Room k callerA)
    (G : ∀ (w : World) (mg : Str → Option Value) (fa : Addr) (h : Heap), YP w h → h.Ns mainGlobals mg → mg d.name = some (.ref fa) →
      ∃ (K : PySem.W.Frag) (fd : FuncData), K.In h ∧ (∀ (s : Shared) (u : Value), BindsTo s fd ⟨[u], []⟩ [(x, u)]) ∧
        ∀ base : Heap, K.In base → base.Ns mainGlobals mg → FnOk l.prog w K mg base (L2.CX l.prog w) k fa fd [x] (spD K mg 1 f))
    (hf : ∀ ns : List Int, ns.length ≤ n → (∀ z ∈ ns, Builtin.Int.intBits z ≤ 1048576) → f [.list (ns.map .int)] = .ok (.bool true)) :
    PySem.W.WalkO q loose XP YP l.row.toRowW d [] (fun f vs => PySem.call f vs) := by
  refine Att.attach_callB hn hdf fun w s0 s1 mg mb fa o pm cd doc a vs ns Gr Y ho hd hcd hmg hobj hints hlen hbits hg => ?_
  obtain ⟨K, fd, KX, hb, hF⟩ := G w mg fa _ Y Gr.T.g hmg
  refine law_call KX Gr.T.g Gr.T.b Gr.T.builtins Gr.T.nolimit hg hobj hints (Nat.le_trans hlen hn2) hr hF hb (fun H hO hS => spD_law hO hS (hf ns hlen hbits)) fun H e s' z => ?_
  obtain ⟨_, _, _, _, _, _, _, _, _, _, _, _, z⟩ := z
  exact z.elim
end MI
namespace MI
open PySem PySem.Spec PyProof.Rows L2
/-- further facts: an exception's class as isinstance asks it; isinstance's answer for two classes, for a class and a built-in one; a module's tuple -/
inductive Fx where
  | exc (x : Str)
  | kit (x y : Str) (b : Bool)
  | kitB (x : Str) (T : String) (b : Bool)
  | tup (x : Str) (vs : List He.Dv)
def eqB (a b : Option Bool) : Bool := decide (a = b)
def Fx.ok (K : PySem.W.Frag) : Fx → Bool
  | .exc x => He.eqO (PySem.W.findIn K (.ref (He.ga K x)) "__getattribute__") (some (some (.builtin "BaseException.__getattribute__"))) && (He.eqO (PySem.W.findIn K (.ref (He.ga K x)) "__getattr__") (some none) &&
      (eqB (PySem.W.subIn K (.ref (He.ga K x)) (.type "BaseException")) (some true) && (PySem.W.hasDictIn K (He.ga K x) && (He.eqO (PySem.W.findIn K (.ref (He.ga K x)) "__class__") (some (some (.builtin "object.__class__"))) &&
      (He.eqO (PySem.W.specialIn K (.builtin "object.__class__") "__get__") (some (some (.builtin "getset_descriptor.__get__"))) && (eqB (PySem.W.takesIn K (.builtin "object.__class__")) (some true) && eqB (PySem.W.mroIn K (He.ga K x) (.type "object")) (some true)))))))
  | .kit x y b => eqB (PySem.W.kitOne K (.ref (He.ga K x)) (.ref (He.ga K y))) (some b)
  | .kitB x T b => eqB (PySem.W.kitOne K (.ref (He.ga K x)) (.type T)) (some b)
  | .tup x vs => He.tupB K x vs
theorem fx_exc {K : PySem.W.Frag} {x : Str} (h : (Fx.exc x).ok K = true) : ExcC K (He.ga K x) := by
  obtain ⟨h1, h⟩ := He.ba h
  obtain ⟨h2, h⟩ := He.ba h
  obtain ⟨h3, h⟩ := He.ba h
  obtain ⟨h4, h⟩ := He.ba h
  obtain ⟨h5, h⟩ := He.ba h
  obtain ⟨h6, h⟩ := He.ba h
  obtain ⟨h7, h8⟩ := He.ba h
  exact ⟨He.eqO_ok h1, He.eqO_ok h2, of_decide_eq_true h3, h4, He.eqO_ok h5, He.eqO_ok h6, of_decide_eq_true h7, of_decide_eq_true h8⟩
abbrev AlM : Type := He.AlD × Bool
def obsM (n : Nat) (fa : List He.Fa) (fn : List He.DefD) (fx : List Fx) (g : Addr → Option Obj) : AlM := (He.obsDG n fa fn g, fx.all fun f => f.ok (He.frG g (He.asD g n)))
def hookM (n : Nat) (fa : List He.Fa) (fn : List He.DefD) (fx : List Fx) : PySem.W.Hook where
  α := AlM
  obs := fun s => obsM n fa fn fx s.heap.get?
  val := fun _ => (He.valD fn, true)
  says := fun _ h => ∃ K : PySem.W.Frag, K.In h ∧ He.SaysD fa fn K ∧ (fx.all fun f => f.ok K) = true
  of := fun _ _ e => ⟨_, He.frG_in, congrArg (fun z : AlM => z.1) e, congrArg (fun z : AlM => z.2) e⟩
  keeps := fun _ _ _ ⟨K, hK, c⟩ k => ⟨K, PySem.W.Frag.In.keeps hK k, c⟩
theorem obsM_eq {n : Nat} {fa : List He.Fa} {fn : List He.DefD} {fx : List Fx} {g : Addr → Option Obj} {s : Shared} (h : ∀ a, g a = s.heap.get? a) : obsM n fa fn fx g = (hookM n fa fn fx).obs s := by
  have e : g = s.heap.get? := funext h
  rw [e] <;> rfl
/-- what the row's top has left, by facts -/
structure Tx (fa : List He.Fa) (fn : List He.DefD) (fx : List Fx) (K : PySem.W.Frag) (mg : Str → Option Value) : Prop where
  says : He.SaysD fa fn K
  at_ : ∃ h : Heap, K.In h ∧ h.Ns mainGlobals mg
  more : (fx.all fun f => f.ok K) = true
section
variable {fa : List He.Fa} {fn : List He.DefD} {fx : List Fx} {K : PySem.W.Frag} {mg : Str → Option Value}
theorem Tx.glo (T : Tx fa fn fx K mg) (i : Nat) {x : Str} (h : fa[i]? = some (.glo x) := by rfl) : mg x = some (.ref (He.ga K x)) := let ⟨_, a, b⟩ := T.at_; He.glo_ok a b (T.says.fact i h)
theorem Tx.free (T : Tx fa fn fx K mg) (i : Nat) {x : Str} (h : fa[i]? = some (.free x) := by rfl) : mg x = none := let ⟨_, a, b⟩ := T.at_; He.free_ok a b (T.says.fact i h)
theorem Tx.int (T : Tx fa fn fx K mg) (i : Nat) {x : Str} {z : Int} (h : fa[i]? = some (.int x z) := by rfl) : ∃ t, mg x = some (.int z t) := let ⟨_, a, b⟩ := T.at_; He.int_ok a b (T.says.fact i h)
theorem Tx.str (T : Tx fa fn fx K mg) (i : Nat) {x z : Str} (h : fa[i]? = some (.str x z) := by rfl) : ∃ t, mg x = some (.str z t) := let ⟨_, a, b⟩ := T.at_; He.str_ok a b (T.says.fact i h)
theorem Tx.exc (T : Tx fa fn fx K mg) (i : Nat) {x : Str} (h : fa[i]? = some (.exc x) := by rfl) : (He.Fa.exc x).ok K = true := T.says.fact i h
theorem Tx.exm (T : Tx fa fn fx K mg) (i : Nat) {x y : Str} {b : Bool} (h : fa[i]? = some (.exm x y b) := by rfl) : PySem.W.exmOne K (.ref (He.ga K x)) (.ref (He.ga K y)) = some b := He.exm_ok (T.says.fact i h)
theorem Tx.mo (T : Tx fa fn fx K mg) (i : Nat) {f : Fx} (h : fx[i]? = some f := by rfl) : f.ok K = true := List.all_eq_true.mp T.more f (List.mem_of_getElem? h)
theorem Tx.excC (T : Tx fa fn fx K mg) (i : Nat) {x : Str} (h : fx[i]? = some (.exc x) := by rfl) : ExcC K (He.ga K x) := fx_exc (T.mo i h)
theorem Tx.kit (T : Tx fa fn fx K mg) (i : Nat) {x y : Str} {b : Bool} (h : fx[i]? = some (.kit x y b) := by rfl) : PySem.W.kitOne K (.ref (He.ga K x)) (.ref (He.ga K y)) = some b := of_decide_eq_true (T.mo i h)
theorem Tx.kitB (T : Tx fa fn fx K mg) (i : Nat) {x : Str} {n : String} {b : Bool} (h : fx[i]? = some (.kitB x n b) := by rfl) : PySem.W.kitOne K (.ref (He.ga K x)) (.type n) = some b := of_decide_eq_true (T.mo i h)
theorem Tx.tup (T : Tx fa fn fx K mg) (i : Nat) {x : Str} {vs : List He.Dv} (h : fx[i]? = some (.tup x vs) := by rfl) (H : Hp) : SqT K H (He.ga K x) (vs.map (He.Dv.v K)) := He.tupB_ok (T.mo i h) H
end
/-- a module's tuple -/
theorem mgTup {X : Cx} {W : WX} {x : Str} {vs : List V} {ds : List D} {pos : Pos} (hm : X.mg x = some (.ref (He.ga X.K x))) (ht : ∀ H, SqT X.K H (He.ga X.K x) vs) (hd : ∀ H, DpAll X.K H vs ds) (hg : Gl X x := by rfl) (h2 : (x == ("__debug__" : Str)) = false := by decide) : ME X W (.Name x pos) (mC (.tuple ds)) :=
  me_c (pe_glob (v := .ref (He.ga X.K x)) hg hm rfl h2) fun F => .tup (ht F) (hd F)
theorem all0 {α : Type} {P : α → Prop} : ∀ x ∈ ([] : List α), P x := fun _ h => nomatch h
theorem allC {α : Type} {P : α → Prop} {a : α} {r : List α} (h : P a) (hr : ∀ x ∈ r, P x) : ∀ x ∈ a :: r, P x := fun x hx => by
  rcases List.mem_cons.mp hx with e | e
  · rw [e]; exact h
  · exact hr x e
theorem hu65 {A : Around} {k : Nat} (hr : Room k A) : A.units + 65 < cLine := by
  have := hr.un
  omega
theorem hn_nd {CX : CXT} {P : Program} {w : World} {K : PySem.W.Frag} {mg : Str → Option Value} {base : Heap} {N ps : List Str} {sc : Scope} (S : FnScope N ps sc) : N.Nodup := S.nd
end MI
set_option Elab.async false
set_option linter.all false
set_option maxRecDepth 100000
set_option maxHeartbeats 4000000
/-! MI7: what is walked in general; comprehensions; fresh lists. -/
namespace MI
open PySem PySem.Spec PyProof.Rows L2
/-! ### slots forgotten -/
def wipeV (δ : Vw) : List Nat → Vw
  | [] => δ
  | v :: vs => (wipeV δ vs).set v none
theorem wipe_get {σ : L2.St} {j : Nat} : ∀ vs : List Nat, (wipe σ vs)[j]? = if j ∈ vs then (if j < σ.length then some none else none) else σ[j]?
  | [] => by simp [wipe]
  | v :: vs => by
    unfold wipe
    rw [List.getElem?_set, wipe_length, wipe_get vs]
    by_cases e : v = j
    · subst e
      simp
    · have e' : ¬ j = v := fun h => e h.symm
      simp [e, e']
theorem wipe_idem {σ : L2.St} {vs : List Nat} : wipe (wipe σ vs) vs = wipe σ vs := by
  apply List.ext_getElem?
  intro j
  rw [wipe_get, wipe_length, wipe_get]
  by_cases h : j ∈ vs <;> simp [h]
theorem wipe_set {σ : L2.St} {vs : List Nat} {i : Nat} {x : Option V} (h : i ∈ vs) : wipe (σ.set i x) vs = wipe σ vs := by
  apply List.ext_getElem?
  intro j
  rw [wipe_get, wipe_get, List.length_set]
  by_cases hj : j ∈ vs
  · simp [hj]
  · have : i ≠ j := fun e => hj (e ▸ h)
    simp [hj, List.getElem?_set_ne this]
theorem VwOk.wipe {K : PySem.W.Frag} {F : Hp} {σ : L2.St} {δ : Vw} (h : VwOk K F σ δ) : ∀ vs : List Nat, VwOk K F (L2.wipe σ vs) (wipeV δ vs)
  | [] => h
  | v :: vs => by
    have ih := VwOk.wipe h vs
    unfold L2.wipe wipeV
    refine ⟨by simpa using ih.1, fun i d q => ?_⟩
    rw [List.getElem?_set] at q ⊢
    by_cases e : v = i
    · subst e
      rw [if_pos rfl] at q
      split at q <;> cases q
    · rw [if_neg e] at q ⊢
      exact ih.2 i d q
theorem VwOk.set {K : PySem.W.Frag} {F : Hp} {σ : L2.St} {δ : Vw} (h : VwOk K F σ δ) {i : Nat} {v : V} {d : D} (hd : Dp K F v d) : VwOk K F (σ.set i (some v)) (δ.set i (some d)) := by
  refine ⟨by simpa using h.1, fun j e q => ?_⟩
  rw [List.getElem?_set] at q ⊢
  by_cases z : i = j
  · subst z
    rw [if_pos rfl] at q ⊢
    split at q
    · rename_i l
      cases q
      rw [if_pos (Nat.lt_of_lt_of_le l h.1)]
      exact ⟨v, rfl, hd⟩
    · cases q
  · rw [if_neg z] at q ⊢
    exact h.2 j e q
/-! targets over views -/
abbrev VTg := D → Vw → Option Vw
abbrev VTgs := List D → Vw → Option Vw
def vN (i : Nat) : VTg := fun d δ => some (δ.set i (some d))
def vsNil : VTgs := fun ds δ => match ds with
  | [] => some δ
  | _ => none
def vsCons (t : VTg) (u : VTgs) : VTgs := fun ds δ => match ds with
  | d :: r => (t d δ).bind (u r)
  | [] => none
def vT (u : VTgs) : VTg := fun d δ => match d with
  | .tuple ds => u ds δ
  | _ => none
def VTgOk (K : PySem.W.Frag) (vs : List Nat) (r : TG) (t : VTg) : Prop := ∀ (F H : Hp) (σ : L2.St) (δ δ' : Vw) (v : V) (d : D) (Q : L2.St → Hp → Prop),
  Same F H → VwOk K F σ δ → Dp K F v d → t d δ = some δ' → (∀ σ', VwOk K F σ' δ' → wipe σ' vs = wipe σ vs → Q σ' H) → r v σ H Q
def VTgsOk (K : PySem.W.Frag) (vs : List Nat) (n : Nat) (r : TGs) (t : VTgs) : Prop := (∀ ds δ δ', t ds δ = some δ' → ds.length = n) ∧ ∀ (F H : Hp) (σ : L2.St) (δ δ' : Vw) (xs : List V) (ds : List D) (Q : L2.St → Hp → Prop),
  Same F H → VwOk K F σ δ → DpAll K F xs ds → t ds δ = some δ' → (∀ σ', VwOk K F σ' δ' → wipe σ' vs = wipe σ vs → Q σ' H) → r xs σ H Q
theorem vN_ok {K : PySem.W.Frag} {vs : List Nat} {i : Nat} (h : i ∈ vs) : VTgOk K vs (gName i) (vN i) := fun F H σ δ δ' v d Q s ok hd e q => by
  cases e
  exact q _ (ok.set hd) (wipe_set h)
theorem vsNil_ok {K : PySem.W.Frag} {vs : List Nat} : VTgsOk K vs 0 gNil vsNil := by
  refine ⟨fun ds δ δ' e => ?_, fun F H σ δ δ' xs ds Q s ok hd e q => ?_⟩
  · cases ds with
    | nil => rfl
    | cons a b => cases e
  · cases hd with
    | nil =>
      cases e
      exact ⟨rfl, q _ ok rfl⟩
    | cons a b => cases e
theorem vsCons_ok {K : PySem.W.Frag} {vs : List Nat} {n : Nat} {r : TG} {rs : TGs} {t : VTg} {ts : VTgs} (h1 : VTgOk K vs r t) (h2 : VTgsOk K vs n rs ts) : VTgsOk K vs (n + 1) (gCons r rs) (vsCons t ts) := by
  refine ⟨fun ds δ δ' e => ?_, fun F H σ δ δ' xs ds Q s ok hd e Q' => ?_⟩
  · cases ds with
    | nil => cases e
    | cons d ds =>
      have e' : (t d δ).bind (ts ds) = some δ' := e
      cases q : t d δ with
      | none => rw [q] at e'; cases e'
      | some g1 =>
        rw [q] at e'
        exact congrArg Nat.succ (h2.1 ds g1 δ' e')
  · cases hd with
    | nil => cases e
    | @cons v vs' d ds a b =>
      have e' : (t d δ).bind (ts ds) = some δ' := e
      cases q : t d δ with
      | none => rw [q] at e'; cases e'
      | some g1 =>
        rw [q] at e'
        exact ⟨v, vs', rfl, h1 F H σ δ g1 v d _ s ok a q fun σ' ok' w => h2.2 F H σ' g1 δ' vs' ds Q s ok' b e' fun σ2 ok2 w2 => Q' σ2 ok2 (w2.trans w)⟩
theorem vT_ok {K : PySem.W.Frag} {vs : List Nat} {n : Nat} {r : TGs} {t : VTgs} (h : VTgsOk K vs n r t) : VTgOk K vs (gTup K n r) (vT t) := fun F H σ δ δ' v d Q s ok hd e q => by
  cases hd with
  | tup a b => exact ⟨_, _, rfl, same_t s a, (dpa_len b).trans (h.1 _ _ _ e), h.2 F H σ δ δ' _ _ Q s ok b e q⟩
  | _ => cases e
/-! ### what is walked -/
structure ItOk (K : PySem.W.Frag) (F : Hp) (J : L2.It) (ds : List D) : Prop where
  go : ∀ (i : Nat) (H : Hp) (d : D), Same F H → ds[i]? = some d → J.go i H ∧ ∀ x H' F2, Same F F2 → Same F2 H → J.yld i H x H' → ∃ F3, Ext F2 H F3 H' ∧ Dp K F3 x d
  stop : ∀ (i : Nat) (H : Hp), Same F H → ds.length ≤ i → J.stop i H
theorem it_list {K : PySem.W.Frag} {F : Hp} {a : Addr} {xs : List V} {ds : List D} (hs : SqL K F a xs) (ha : DpAll K F xs ds) : ItOk K F (Itl K a) ds := by
  refine ⟨fun i H d s e => ?_, fun i H s l => ⟨xs, s.seq hs, by rw [dpa_len ha]; exact l⟩⟩
  obtain ⟨v, h1, h2⟩ := dpa_get ha e
  refine ⟨⟨xs, v, s.seq hs, h1⟩, fun x H' F2 f2 s2 ⟨e1, y⟩ => ?_⟩
  subst e1
  have := y xs (s.seq hs)
  rw [h1] at this
  cases this
  exact ⟨F2, Ext.refl s2, dp_mono f2 d h2⟩
theorem it_tup {K : PySem.W.Frag} {F : Hp} {a : Addr} {xs : List V} {ds : List D} (hs : SqT K F a xs) (ha : DpAll K F xs ds) : ItOk K F (Itt K a) ds := by
  refine ⟨fun i H d s e => ?_, fun i H s l => ⟨xs, same_t s hs, by rw [dpa_len ha]; exact l⟩⟩
  obtain ⟨v, h1, h2⟩ := dpa_get ha e
  refine ⟨⟨xs, v, same_t s hs, h1⟩, fun x H' F2 f2 s2 ⟨e1, y⟩ => ?_⟩
  subst e1
  have := y xs (same_t s hs)
  rw [h1] at this
  cases this
  exact ⟨F2, Ext.refl s2, dp_mono f2 d h2⟩
theorem it_rng {K : PySem.W.Frag} {F : Hp} {lo : Int} {n : Nat} : ItOk K F (Itr lo n) (rngL lo 1 n) := by
  refine ⟨fun i H d s e => ?_, fun i H s l => by rw [rngL_len] at l; exact l⟩
  have hi : i < n := by
    have := (List.getElem?_eq_some_iff.mp e).1
    rwa [rngL_len] at this
  rw [rngL_get hi] at e
  cases e
  refine ⟨hi, fun x H' F2 f2 s2 ⟨e1, y⟩ => ?_⟩
  subst e1 y
  rw [Int.mul_one]
  exact ⟨F2, Ext.refl s2, .int _⟩
theorem it_rngC {K : PySem.W.Frag} {F : Hp} {lo c : Int} {n : Nat} : ItOk K F (Itc lo c n) (rngL lo c n) := by
  refine ⟨fun i H d s e => ?_, fun i H s l => by rw [rngL_len] at l; exact l⟩
  have hi : i < n := by
    have := (List.getElem?_eq_some_iff.mp e).1
    rwa [rngL_len] at this
  rw [rngL_get hi] at e
  cases e
  refine ⟨hi, fun x H' F2 f2 s2 ⟨e1, y⟩ => ?_⟩
  subst e1 y
  exact ⟨F2, Ext.refl s2, .int _⟩
def IPost (X : Cx) (W : WX) (F H : Hp) (σ : L2.St) (Q : L2.It → Hp → Prop) : R (List D) → Prop
  | .ok ds => ∀ F' H' J, Ext F H F' H' → ItOk X.K F' J ds → Q J H'
  | .exc c p => ∀ cls od F' H', Ext F H F' H' → XV X.K X.mg F' c p cls od → W cls od σ H'
  | .bad => False
def tI (X : Cx) (W : WX) (m : Vw → R (List D)) : TI := fun σ H Q => ∃ F δ, Same F H ∧ VwOk X.K F σ δ ∧ IPost X W F H σ Q (m δ)
abbrev MIt (X : Cx) (W : WX) (tg e : Expr) (m : Vw → R (List D)) : Prop := PI X tg e (tI X W m)
theorem PI.imp {X : Cx} {tg e : Expr} {t t' : TI} (h : PI X tg e t) (i : ∀ σ H Q, t' σ H Q → t σ H Q) : PI X tg e t' := ⟨fun pins s σ H Q I hw => h.run pins s σ H Q I (i _ _ _ hw)⟩
def mItems (m : M) : Vw → R (List D) := fun δ => (m δ).bind fun d => match d with
  | .list ds => .ok ds
  | .tuple ds => .ok ds
  | _ => .bad
def mRng (f : List D → Option (List D)) (m : Vw → R (List D)) : Vw → R (List D) := fun δ => (m δ).bind fun ds => R.of (f ds)
section
variable {X : Cx} {W : WX} {tg : Expr}
theorem mi_items {e : Expr} {m : M} (he : ME X W e m) : MIt X W tg e (mItems m) := by
  refine PI.imp (pi_lt he) fun σ H Q ⟨F, δ, s, v, h⟩ => ?_
  unfold mItems at h
  cases em : m δ with
  | ok d =>
    rw [em, R.bind_ok] at h
    cases d with
    | list ds =>
      refine .inl ⟨F, δ, s, v, ?_⟩
      rw [em]
      intro y F' H' E hy
      cases hy with
      | lst a b => exact ⟨_, rfl, ⟨_, E.s.seq a⟩, h F' H' _ E (it_list a b)⟩
    | tuple ds =>
      refine .inr ⟨F, δ, s, v, ?_⟩
      rw [em]
      intro y F' H' E hy
      cases hy with
      | tup a b => exact ⟨_, rfl, ⟨_, same_t E.s a⟩, h F' H' _ E (it_tup a b)⟩
    | _ => exact h.elim
  | exc c p =>
    rw [em] at h
    refine .inl ⟨F, δ, s, v, ?_⟩
    rw [em]
    exact h
  | bad => rw [em] at h; exact h.elim
theorem mi_post {F H : Hp} {σ : L2.St} {Q : L2.It → Hp → Prop} {o : Option (List D)} (h : IPost X W F H σ Q (R.of o)) : ∃ xs, o = some xs ∧ ∀ F' H' J, Ext F H F' H' → ItOk X.K F' J xs → Q J H' := by
  cases o with
  | none => exact h.elim
  | some d => exact ⟨d, rfl, h⟩
theorem tA_bindI {m : Vw → R (List D)} {f : List D → Option (List D)} {F H : Hp} {σ : L2.St} {δ : Vw} {Q : L2.It → Hp → Prop} {P : List V → Hp → Prop} (s : Same F H) (v : VwOk X.K F σ δ) (h : IPost X W F H σ Q ((m δ).bind fun ds => R.of (f ds)))
    (k : ∀ ds xs F' H' ys, Ext F H F' H' → DpAll X.K F' xs ds → f ds = some ys → (∀ J, ItOk X.K F' J ys → Q J H') → P xs H') : tA X W m σ H P := by
  refine ⟨F, δ, s, v, ?_⟩
  cases e : m δ with
  | ok ds =>
    rw [e, R.bind_ok] at h
    obtain ⟨ys, e1, q⟩ := mi_post h
    exact fun xs F' H' E hx => k ds xs F' H' ys E hx e1 fun J => q F' H' J E
  | exc c p => rw [e] at h; exact h
  | bad => rw [e] at h; exact h
theorem mi_rng1 {a : Expr} {m : Vw → R (List D)} {p pos : Pos} (hm : X.mg "range" = none) (ha : MA X W [a] m) (hG : Gl X "range" := by rfl) (hst : starEach [a] X.env = [(false, eval a X.env)] := by rfl) : MIt X W tg (.Call (.Name "range" p) [a] [] pos) (mRng rng1 m) := by
  refine PI.imp (pi_range1 hG hm ha hst) fun σ H Q ⟨F, δ, s, v, h⟩ => tA_bindI s v h fun ds xs F' H' ys E hx e q => ?_
  unfold rng1 at e
  split at e
  · split at e
    · rename_i l
      cases e
      obtain ⟨x, rfl, hv⟩ := dpa1 hx
      cases dp_int hv
      unfold lim62 at l
      rw [Bool.and_eq_true, decide_eq_true_eq, decide_eq_true_eq] at l
      exact ⟨_, rfl, l.1, l.2, q _ it_rng⟩
    · cases e
  · cases e
theorem mi_rng2 {a b : Expr} {m : Vw → R (List D)} {p pos : Pos} (hm : X.mg "range" = none) (ha : MA X W [a, b] m) (hG : Gl X "range" := by rfl) (hst : starEach [a, b] X.env = [(false, eval a X.env), (false, eval b X.env)] := by rfl) (hst2 : starEach [b] X.env = [(false, eval b X.env)] := by rfl) :
    MIt X W tg (.Call (.Name "range" p) [a, b] [] pos) (mRng rng2 m) := by
  refine PI.imp (pi_range2 hG hm ha hst hst2) fun σ H Q ⟨F, δ, s, v, h⟩ => tA_bindI s v h fun ds xs F' H' ys E hx e q => ?_
  unfold rng2 at e
  split at e
  · split at e
    · rename_i l
      cases e
      obtain ⟨x, y, rfl, hv, hw⟩ := dpa2 hx
      cases dp_int hv
      cases dp_int hw
      unfold lim62 at l
      rw [Bool.and_eq_true, Bool.and_eq_true, Bool.and_eq_true, decide_eq_true_eq, decide_eq_true_eq, decide_eq_true_eq, decide_eq_true_eq] at l
      exact ⟨_, _, rfl, ⟨l.1.1, l.1.2, l.2.1, l.2.2⟩, q _ it_rng⟩
    · cases e
  · cases e
theorem mi_rng3 {a b c : Expr} {m : Vw → R (List D)} {p pos : Pos} (hm : X.mg "range" = none) (ha : MA X W [a, b, c] m) (hG : Gl X "range" := by rfl) (hst : starEach [a, b, c] X.env = (false, eval a X.env) :: starEach [b, c] X.env := by rfl) (hpl : (backTo pos (starEach [b, c] X.env)).any (·.1) = false := by rfl) :
    MIt X W tg (.Call (.Name "range" p) [a, b, c] [] pos) (mRng rng3 m) := by
  refine PI.imp (pi_range3 hG hm ha hst hpl) fun σ H Q ⟨F, δ, s, v, h⟩ => tA_bindI s v h fun ds xs F' H' ys E hx e q => ?_
  unfold rng3 at e
  split at e
  · split at e
    · rename_i l
      cases e
      obtain ⟨x, y, z, rfl, hv, hw, hz⟩ := dpa3 hx
      cases dp_int hv
      cases dp_int hw
      cases dp_int hz
      exact ⟨_, _, _, _, rfl, ⟨l.1, l.2.1, l.2.2.1, (Int.toNat_of_nonneg l.2.2.2).symm⟩, q _ it_rngC⟩
    · cases e
  · cases e
end
/-! ### fresh lists -/
def NPost (X : Cx) (W : WX) (F H : Hp) (σ : L2.St) (Q : VK) : R (List D) → Prop
  | .ok ds => ∀ p xs F' H', Ext F H F' H' → H p = none → F' p = none → H' p = some (.lst xs) → DpAll X.K F' xs ds → Q (.ref p) H'
  | .exc c p => ∀ cls od F' H', Ext F H F' H' → XV X.K X.mg F' c p cls od → W cls od σ H'
  | .bad => False
def tN (X : Cx) (W : WX) (m : Vw → R (List D)) : TE := fun σ H Q => ∃ F δ, Same F H ∧ VwOk X.K F σ δ ∧ NPost X W F H σ Q (m δ)
/-- an expression that makes a list anew -/
abbrev MN (X : Cx) (W : WX) (e : Expr) (m : Vw → R (List D)) : Prop := PE X e (tN X W m)
def mL (m : Vw → R (List D)) : M := fun δ => (m δ).bind fun ds => .ok (.list ds)
theorem Ext.frzOne {F H F' H' : Hp} (E : Ext F H F' H') {p : Addr} {xs : List V} (h0 : H p = none) (hF : F' p = none) (hH : H' p = some (.lst xs)) : Ext F H (upd F' p (.lst xs)) H' := by
  refine ⟨fun a o e => ?_, E.h, fun a o e => ?_, fun a o e n => ?_⟩
  · have := E.f a o e
    rw [upd_ne (ne_of_none this hF)]
    exact this
  · by_cases z : a = p
    · subst z
      rw [upd_same] at e
      cases e
      exact hH
    · rw [upd_ne z] at e
      exact E.s a o e
  · by_cases z : a = p
    · subst z; exact h0
    · rw [upd_ne z] at e
      exact E.n a o e n
theorem new_read {X : Cx} {W : WX} {m : Vw → R (List D)} {σ : L2.St} {H : Hp} {Q : VK} (h : tM X W (mL m) σ H Q) : tN X W m σ H Q := by
  obtain ⟨F, δ, s, v, q⟩ := h
  refine ⟨F, δ, s, v, ?_⟩
  unfold mL at q
  cases em : m δ with
  | ok ds =>
    rw [em, R.bind_ok] at q
    intro p xs F' H' E h0 hF hH hd
    refine q _ _ _ (E.frzOne h0 hF hH) (.lst (SqL.of upd_same) (dpa_mono (fun a o w => ?_) _ hd))
    rw [upd_ne (ne_of_none w hF)]
    exact w
  | exc c p => rw [em] at q; exact q
  | bad => rw [em] at q; exact q
theorem me_new {X : Cx} {W : WX} {e : Expr} {m : Vw → R (List D)} (h : MN X W e m) : ME X W e (mL m) := PE.imp h fun σ H Q q => new_read q
def sOwn (i : Nat) (m : Vw → R (List D)) : S := fun g => (m (vd g)).to g fun ds => .nx (g.set i (.own ds))
theorem own_read {X : Cx} {W : WX} {F0 H0 F H : Hp} {σ : L2.St} {g : Ce} {D : Ends} {i : Nat} {m : Vw → R (List MI.D)} (ok : StOk X.K F0 H0 F H σ g) (h : SPost X.K X.mg W F0 H0 D (sOwn i m g)) : tN X W m σ H (fun v H1 => D.nx (σ.set i (some v)) H1) := by
  refine ⟨F, vd g, ok.e.s, ok.vd, ?_⟩
  unfold sOwn at h
  cases em : m (vd g) with
  | ok ds =>
    rw [em] at h
    intro p xs F' H' E h0 hF hH hd
    have ok' := ok.mono E
    refine h F' H' _ (ok'.setOwn hd hH hF (ok.e.h.free h0) fun j es' _ hj hs' => ?_)
    obtain ⟨b, ys, q1, q2, _⟩ := ok.own j es' hj
    rw [q1] at hs'
    cases hs'
    rw [h0] at q2
    cases q2
  | exc c p =>
    rw [em] at h
    unfold R.to at h
    dsimp only at h
    split at h
    · exact fun cls od F' H' E x => h cls od F' H' σ (ok.mono E) x
    · exact h.elim
  | bad => rw [em] at h; exact h.elim
theorem ms_own {X : Cx} {W : WX} {pos : Pos} (i : Nat) {x : Str} {e : Expr} {m : Vw → R (List D)} {pos' : Pos} (hN : X.N.Nodup) (he : MN X W e m) (hi : X.N[i]? = some x := by rfl) (hx : Loc X.env.scope x := by first | exact Or.inl rfl | exact Or.inr rfl) (hs : swapsWith e (some (.Name x pos')) pos.line X.env = pure false := by rfl) (hf : X.fn x = true ∨ X.env.scope.names.lookup x = some .local := by first | exact .inl rfl | exact .inr rfl) :
    MS X W (.Assign [.Name x pos'] e pos) (sOwn i m) := PS.imp (ps_set hN hi hx he hs hf) fun D σ H ⟨F0, H0, F, g, ok, h⟩ => own_read ok h
def nLst (m : Vw → R (List D)) : Vw → R (List D) := fun δ => (m δ).bind fun ds => if ds.length ≤ most then .ok ds else .bad
def nOf (m : M) : Vw → R (List D) := fun δ => (m δ).bind fun d => match d with
  | .list ds => .ok ds
  | .tuple ds => .ok ds
  | _ => .bad
section
variable {X : Cx} {W : WX}
theorem mn_lst {es : List Expr} {m : Vw → R (List D)} {pos : Pos} (h : MA X W es m) : MN X W (.List es pos) (nLst m) := by
  refine PE.imp (pe_lst h) fun σ H Q ⟨F, δ, s, v, h⟩ => ⟨F, δ, s, v, ?_⟩
  unfold nLst at h
  cases em : m δ with
  | ok ds =>
    rw [em, R.bind_ok] at h
    intro xs F' H' E hd
    split at h
    · rename_i l
      refine ⟨by rw [dpa_len hd]; exact most_le l, fun p hp => h p xs F' _ (E.trans (Ext.loose E.s hp)) (E.h.free hp) (E.s.free hp) upd_same hd⟩
    · exact h.elim
  | exc c p => rw [em] at h; exact h
  | bad => rw [em] at h; exact h
/-- list(e) -/
theorem mn_of {e : Expr} {m : M} {p pos : Pos} (hm : X.mg "list" = none) (he : ME X W e m) (hg : Gl X "list" := by rfl) (hs : starEach [e] X.env = (false, eval e X.env) :: starEach [] X.env := by rfl) (hpl : (backTo pos (starEach [] X.env)).any (·.1) = false := by rfl) : MN X W (.Call (.Name "list" p) [e] [] pos) (nOf m) := by
  refine PE.imp (pe_callTy call_list_of hg hm (by decide +kernel) (pa_cons he pa_nil hs) (by decide) (by decide) hs hpl) fun σ H Q ⟨F, δ, s, v, h⟩ => ⟨F, δ, s, v, ?_⟩
  unfold nOf at h
  cases em : m δ with
  | ok d =>
    rw [em, R.bind_ok] at h
    intro x F' H' E hx
    cases hx with
    | lst a b => exact ⟨_, _, rfl, .inl (E.s.seq a), fun l hl => h l _ F' _ (E.trans (Ext.loose E.s hl)) (E.h.free hl) (E.s.free hl) upd_same b⟩
    | tup a b => exact ⟨_, _, rfl, .inr (same_t E.s a), fun l hl => h l _ F' _ (E.trans (Ext.loose E.s hl)) (E.h.free hl) (E.s.free hl) upd_same b⟩
    | _ => exact h.elim
  | exc c p => rw [em] at h; exact h
  | bad => rw [em] at h; exact h
end
/-! ### list comprehensions -/
def loopC (t : VTg) (tt : Vw → R Bool) (te : M) (δ0 : Vw) : List D → List D → R (List D)
  | [], acc => .ok acc
  | d :: ds, acc => match t d δ0 with
    | none => .bad
    | some δ => match tt δ with
      | .ok true => (match te δ with
        | .ok y => if acc.length < most then loopC t tt te δ0 ds (acc ++ [y]) else .bad
        | _ => .bad)
      | .ok false => loopC t tt te δ0 ds acc
      | _ => .bad
def nLc (it : Vw → R (List D)) (vs : List Nat) (t : VTg) (tt : Vw → R Bool) (te : M) : Vw → R (List D) := fun δ => (it δ).bind fun ds => loopC t tt te (wipeV δ vs) ds []
def mYes : Vw → R Bool := fun _ => .ok true
abbrev W0 : WX := fun _ _ _ _ => False
abbrev MTs (X : Cx) (ifs : List Expr) (m : Vw → R Bool) : Prop := PTs X ifs (tT X W0 m)
theorem mts_nil {X : Cx} : MTs X [] mYes := ⟨fun pins s σ H Q I ⟨F, δ, sm, v, h⟩ => pts_nil.run pins s σ H Q I (h F H (Ext.refl sm))⟩
theorem mts_one {X : Cx} {c : Expr} {t : Vw → R Bool} (h : MT X W0 c t) : MTs X [c] t := ⟨fun pins s σ H Q I hw => (pts_one h).run pins s σ H Q I hw⟩
theorem lc_key {K : PySem.W.Frag} {mg : Str → Option Value} {vs : List Nat} {g : TG} {t : VTg} {tt : Vw → R Bool} {te : M} {ttr : TT} {ter : TE} (ht : VTgOk K vs g t)
    (htt : ∀ F H σ δ b Q, Same F H → VwOk K F σ δ → tt δ = .ok b → (∀ F' H', Ext F H F' H' → Q b H') → ttr σ H Q) (hte : ∀ F H σ δ y Q, Same F H → VwOk K F σ δ → te δ = .ok y → (∀ v F' H', Ext F H F' H' → Dp K F' v y → Q v H') → ter σ H Q)
    {F1 H1 : Hp} {σ : L2.St} {δ : Vw} {J : L2.It} {ds res : List D} {Q : VK} (s : Same F1 H1) (v : VwOk K F1 σ δ) (io : ItOk K F1 J ds) (he : loopC t tt te (wipeV δ vs) ds [] = .ok res)
    (q : ∀ p xs F' H', Ext F1 H1 F' H' → H1 p = none → F' p = none → H' p = some (.lst xs) → DpAll K F' xs res → Q (.ref p) H') :
    ∀ Dl, H1 Dl = none → ∃ W : Nat → Nat → Hp → Prop, (∃ m, W 0 m (upd H1 Dl (.lst []))) ∧ ∀ i m H, W i m H →
      (J.stop i H ∧ Q (.ref Dl) H) ∨ (J.go i H ∧ ∃ Nx : Hp → Prop, (∀ H', Nx H' → ∃ m', m' < m ∧ W (i + 1) m' H') ∧ ∀ x H', J.yld i H x H' → g x (wipe σ vs) H' fun σ2 H2 => wipe σ2 vs = wipe σ vs ∧ ttr σ2 H2 fun b H3 =>
        if b = true then ter σ2 H3 fun y H4 => ∃ acc, H4 Dl = some (.lst acc) ∧ acc.length < sizeLine ∧ Nx (upd H4 Dl (.lst (acc ++ [y]))) else Nx H3) := by
  intro Dl hD
  -- behind i items: the list at Dl holds acc
  let Pv : Nat → Hp → Prop := fun i H => ∃ F2 acc accD, Same F1 F2 ∧ Same F2 H ∧ Same H1 H ∧ (∀ a o, F2 a = some o → F1 a = none → H1 a = none) ∧ F2 Dl = none ∧ H Dl = some (.lst acc) ∧ DpAll K F2 acc accD ∧ i ≤ ds.length ∧ loopC t tt te (wipeV δ vs) (ds.drop i) accD = .ok res
  refine ⟨fun i m H => m = ds.length - i ∧ Pv i H, ⟨ds.length, by simp, F1, [], [], Same.refl _, s.trans (same_upd hD), same_upd hD, (fun a o e n => by rw [n] at e; cases e), s.free hD, upd_same, .nil, Nat.zero_le _, by simpa using he⟩, ?_⟩
  rintro i m H ⟨rfl, F2, acc, accD, f, s2, h2, hn, hF2, hHD, hacc, hi, hl⟩
  by_cases hlt : i < ds.length
  · have ed : ds[i]? = some ds[i] := List.getElem?_eq_getElem hlt
    obtain ⟨go, yl⟩ := io.go i H _ (f.trans s2) ed
    refine .inr ⟨go, Pv (i + 1), fun H' p' => ⟨ds.length - (i + 1), by omega, rfl, p'⟩, fun x H' hy => ?_⟩
    obtain ⟨F3, E3, dx⟩ := yl x H' F2 f s2 hy
    rw [drop_get ed] at hl
    unfold loopC at hl
    cases et : t ds[i] (wipeV δ vs) with
    | none => rw [et] at hl; cases hl
    | some δ1 =>
      rw [et] at hl
      refine ht F3 H' (wipe σ vs) (wipeV δ vs) δ1 x _ _ E3.s (((v.mono f).mono E3.f).wipe vs) dx et fun σ2 ok2 hw => ⟨hw.trans wipe_idem, ?_⟩
      dsimp only at hl
      cases ett : tt δ1 with
      | ok b =>
        rw [ett] at hl
        refine htt F3 H' σ2 δ1 b _ E3.s ok2 ett fun F4 H4 E4 => ?_
        have E := E3.trans E4
        have next : ∀ a o, F4 a = some o → F1 a = none → H1 a = none := fun a o e n => by
          cases w : F2 a with
          | some u => exact hn a u w n
          | none => exact h2.free (E.n a o e w)
        cases b with
        | false =>
          rw [if_neg Bool.false_ne_true]
          exact ⟨F4, acc, accD, f.trans E.f, E.s, h2.trans E.h, next, E.new_none hF2 hHD, E.h _ _ hHD, dpa_mono E.f _ hacc, hlt, hl⟩
        | true =>
          rw [if_pos rfl]
          dsimp only at hl
          cases ete : te δ1 with
          | ok y =>
            rw [ete] at hl
            dsimp only at hl
            split at hl
            · rename_i lm
              refine hte F4 H4 σ2 δ1 y _ E4.s (ok2.mono E4.f) ete fun w F5 H5 E5 dw => ?_
              have E' := E.trans E5
              refine ⟨acc, E'.h _ _ hHD, by rw [dpa_len hacc]; exact Nat.lt_of_lt_of_le lm (Nat.le_of_eq most_eq), F5, acc ++ [w], accD ++ [y], f.trans E'.f, fun a o e => ?_, fun a o e => ?_, fun a o e n => ?_, E'.new_none hF2 hHD, upd_same, dpa_append (dpa_mono E'.f _ hacc) (.cons dw .nil), hlt, hl⟩
              · rw [upd_ne (ne_of_none e (E'.new_none hF2 hHD))]
                exact E'.s a o e
              · rw [upd_ne (ne_of_none e hD)]
                exact E'.h a o (h2 a o e)
              · cases w : F2 a with
                | some u => exact hn a u w n
                | none => exact h2.free (E'.n a o e w)
            · cases hl
          | exc c p => rw [ete] at hl; cases hl
          | bad => rw [ete] at hl; cases hl
      | exc c p => rw [ett] at hl; cases hl
      | bad => rw [ett] at hl; cases hl
  · have e : i = ds.length := by omega
    subst e
    rw [List.drop_length] at hl
    cases hl
    exact .inl ⟨io.stop _ H (f.trans s2) (Nat.le_refl _), q Dl acc F2 H ⟨f, h2, s2, hn⟩ hD hF2 hHD hacc⟩
theorem lc_bad {t : VTg} {tt : Vw → R Bool} {te : M} {δ : Vw} : ∀ (ds acc : List D) (c : Str) (p : Option D), loopC t tt te δ ds acc ≠ .exc c p
  | [], acc, c, p, e => by cases e
  | d :: ds, acc, c, p, e => by
    unfold loopC at e
    split at e
    · cases e
    · split at e
      · split at e
        · split at e
          · exact lc_bad ds _ c p e
          · cases e
        · cases e
      · exact lc_bad ds _ c p e
      · cases e
theorem lc_read {X : Cx} {W : WX} {it : Vw → R (List D)} {vs : List Nat} {g : TG} {t : VTg} {tt : Vw → R Bool} {te : M} (hv : VTgOk X.K vs g t) {σ : L2.St} {H : Hp} {Q : VK} (h : tN X W (nLc it vs t tt te) σ H Q) : tLc (tI X W it) g (tT X W0 tt) (tM X W0 te) vs σ H Q := by
  obtain ⟨F, δ, s, v, h⟩ := h
  refine ⟨F, δ, s, v, ?_⟩
  unfold nLc at h
  cases ei : it δ with
  | ok ds =>
    rw [ei, R.bind_ok] at h
    intro F1 H1 J E io
    cases el : loopC t tt te (wipeV δ vs) ds [] with
    | ok res =>
      rw [el] at h
      refine lc_key (mg := X.mg) hv (fun F H σ δ b Q s v e k => ⟨F, δ, s, v, by rw [e]; exact k⟩) (fun F H σ δ y Q s v e k => ⟨F, δ, s, v, by rw [e]; exact k⟩) E.s (v.mono E.f) io el fun p xs F' H' E2 h0 hF hH hd => h p xs F' H' (E.trans E2) (E.h.free h0) hF hH hd
    | exc c p => exact absurd el (lc_bad _ _ _ _)
    | bad => rw [el] at h; exact h.elim
  | exc c p => rw [ei] at h; exact h
  | bad => rw [ei] at h; exact h
section
variable {X : Cx} {W : WX} {elt tg iter : Expr} {ifs : List Expr} {scope : Scope} {own : List (Str × Nat)} {pos : Pos} {it : Vw → R (List D)} {g : TG} {t : VTg} {tt : Vw → R Bool} {te : M} (hN : X.N.Nodup) (hi : MIt X W tg iter it) (ok : BlkOk X.N X.env.scope scope own) (hv : VTgOk X.K (own.map (·.2)) g t)
    (hg : ∀ (s : Shared) (H : Hp) (C : Addr) (cl : List (Str × Addr)) (fp : List Addr), PG (X.blk s H scope (compEnvC scope cl C X.env) fp) tg g) (ht : ∀ (s : Shared) (H : Hp) (C : Addr) (cl : List (Str × Addr)) (fp : List Addr), MTs (X.blk s H scope (compEnvC scope cl C X.env) fp) ifs tt)
    (he : ∀ (s : Shared) (H : Hp) (C : Addr) (cl : List (Str × Addr)) (fp : List Addr), ME (X.blk s H scope (compEnvC scope cl C X.env) fp) W0 elt te)
include hN hi ok hv hg ht he
theorem mn_lc (hc : X.calm = true := by rfl) (hs : ∀ x, foldedSetIterable iter X.env x = pure x := by intro _; rfl) : MN X W (.ListComp elt [⟨tg, iter, ifs, 0⟩] scope pos) (nLc it (own.map (·.2)) t tt te) :=
  PE.imp (pe_lc hc hN hi ok hg (fun s H C cl fp => ht s H C cl fp) (fun s H C cl fp => he s H C cl fp) hs) fun σ H Q h => lc_read hv h
/-- y = [..], a statement of its own in the model; y's list is this def's own -/
theorem ms_ownLc (j : Nat) {y : Str} {py spos : Pos} (hy : X.N[j]? = some y := by rfl) (hyl : X.env.scope.names.lookup y = some .local := by rfl) (hsw : swapsWith (.ListComp elt [⟨tg, iter, ifs, 0⟩] scope pos) (some (.Name y py)) spos.line X.env = pure true := by exact sw_true rfl rfl rfl (by decide +kernel)) (hc : X.calm = true := by rfl) (hs : ∀ x, foldedSetIterable iter X.env x = pure x := by intro _; rfl) :
    MS X W (.Assign [.Name y py] (.ListComp elt [⟨tg, iter, ifs, 0⟩] scope pos) spos) (sOwn j (nLc it (own.map (·.2)) t tt te)) := by
  refine PS.imp (ps_setLc hc hN hy hyl hsw hi ok hg (fun s H C cl fp => ht s H C cl fp) (fun s H C cl fp => he s H C cl fp) hs) fun D σ H ⟨F0, H0, F, g, ok, h⟩ => lc_read hv (own_read ok h)
/-- the same, its list data at once -/
theorem ms_setLc (j : Nat) {y : Str} {py spos : Pos} (hy : X.N[j]? = some y := by rfl) (hyl : X.env.scope.names.lookup y = some .local := by rfl) (hsw : swapsWith (.ListComp elt [⟨tg, iter, ifs, 0⟩] scope pos) (some (.Name y py)) spos.line X.env = pure true := by exact sw_true rfl rfl rfl (by decide +kernel)) (hc : X.calm = true := by rfl) (hs : ∀ x, foldedSetIterable iter X.env x = pure x := by intro _; rfl) :
    MS X W (.Assign [.Name y py] (.ListComp elt [⟨tg, iter, ifs, 0⟩] scope pos) spos) (sSet j (mL (nLc it (own.map (·.2)) t tt te))) := by
  refine PS.imp (ps_setLc hc hN hy hyl hsw hi ok hg (fun s H C cl fp => ht s H C cl fp) (fun s H C cl fp => he s H C cl fp) hs) fun D σ H ⟨F0, H0, F, g, ok, h⟩ => lc_read hv (new_read (ev_vd (Q := fun v H1 => D.nx (σ.set j (some v)) H1) ok h fun d v F' H' e ok' hd h' => h' F' H' _ (ok'.set hd)))
end
end MI
set_option Elab.async false
set_option linter.all false
set_option maxRecDepth 100000
set_option maxHeartbeats 4000000
/-! MI8: more operations: lists put together, sums, methods, stores, try .. as. -/
namespace MI
open PySem PySem.Spec PyProof.Rows L2
section
variable {X : Cx}
theorem op_catL : OpR X (binaryOp .Add) (fun x y H Q => ∃ l b xs zs, x = .ref l ∧ y = .ref b ∧ SqL X.K H l xs ∧ SqL X.K H b zs ∧ xs.length + zs.length ≤ sizeLine ∧ ∀ p, H p = none → Q (.ref p) (upd H p (.lst (xs ++ zs)))) := by
  intro pins s σ H x y v u Q I rx ry h
  obtain ⟨l, b, xs, zs, rfl, rfl, hl, hb, hz, q⟩ := h
  cases rx
  cases ry
  obtain ⟨i1, r1, ⟨⟨c1, d1, t1, s1⟩, n1, o1, h1, _, g1⟩, z1⟩ := I.list hl
  obtain ⟨i2, r2, ⟨⟨c2, d2, t2, s2⟩, n2, o2, h2, _, g2⟩, z2⟩ := I.list hb
  simp only at h1 g1 h2 g2
  subst h1 g1 h2 g2
  have l1 := r1.length
  have l2 := r2.length
  refine PySem.concat_meets ⟨_, o1, rfl⟩ ⟨_, o2, rfl⟩ noFill_list_add seq_list_add PySem.F.slot_list_add PySem.F.entry_list_add (PySem.F.args_list_add_2 _ _) (list_addW l b i1.toArray i2.toArray n1 n2 d1 d2 s1 s2 (by rw [List.size_toArray, List.size_toArray]; omega)) ⟨o1, o2, ?_⟩
  rw [show i1.toArray ++ i2.toArray = (i1 ++ i2).toArray by simp]
  exact ⟨.ref _, _, I.lnew (t' := s.toks) (r1.append r2) (by rw [List.length_append]; omega), rfl, q _ I.fresh⟩
end
def fAddL : D → D → Option D
  | .list a, .list b => if a.length + b.length ≤ most then some (.list (a ++ b)) else none
  | x, y => fAdd x y
section
variable {X : Cx}
theorem o_addL : OpR X (binaryOp .Add) (rD2 X.K fAddL) := opr_of fun x y H Q ⟨F, d1, d2, d, s, h1, h2, e, q⟩ => by
  unfold fAddL at e
  split at e
  · split at e
    · rename_i l
      cases e
      cases h1 with
      | lst a b =>
        cases h2 with
        | lst a2 b2 =>
          exact ⟨_, op_catL, _, _, _, _, rfl, rfl, s.seq a, s.seq a2, by rw [dpa_len b, dpa_len b2]; exact most_le l, fun p hp => q _ _ _ (Ext.new s hp) (.lst (SqL.of upd_same) (dpa_mono (Ext.new (o := .lst _) s hp).f _ (dpa_append b b2)))⟩
    · cases e
  · exact ⟨_, o_add, F, d1, d2, d, s, h1, h2, e, q⟩
end
def intsD : List D → Option (List Int)
  | [] => some []
  | .int i :: ds => (intsD ds).map fun r => i :: r
  | _ => none
theorem dpa_ints {K : PySem.W.Frag} {F : Hp} : ∀ {ds : List D} {xs : List V} {ns : List Int}, DpAll K F xs ds → intsD ds = some ns → xs = ns.map V.int
  | [], _, ns, h, e => by
    cases e
    cases h
    rfl
  | .int i :: ds, _, ns, h, e => by
    cases h with
    | cons a b =>
      unfold intsD at e
      cases q : intsD ds with
      | none => rw [q] at e; cases e
      | some r =>
        rw [q] at e
        cases e
        cases dp_int a
        rw [dpa_ints b q]
        rfl
  | .none :: _, _, _, _, e => by cases e
  | .bool _ :: _, _, _, _, e => by cases e
  | .str _ :: _, _, _, _, e => by cases e
  | .list _ :: _, _, _, _, e => by cases e
  | .tuple _ :: _, _, _, _, e => by cases e
  | .dict _ :: _, _, _, _, e => by cases e
def fSum : List D → Option D
  | [.list ds] => (intsD ds).map fun ns => .int ns.sum
  | _ => none
section
variable {X : Cx}
theorem c_sum (hc : X.calm = true) : CallR X (.builtin "sum") (rDs X.K fSum) := callr_of fun xs H Q ⟨F, ds, d, s, h, e, q⟩ => by
  unfold fSum at e
  split at e
  · rename_i ds
    cases z : intsD ds with
    | none => rw [z] at e; cases e
    | some ns =>
      rw [z] at e
      cases e
      obtain ⟨v, rfl, hv⟩ := dpa1 h
      cases hv with
      | lst a b =>
        have w := dpa_ints b z
        subst w
        exact ⟨_, cr_sum hc, _, _, rfl, s.seq a, q _ F H (Ext.refl s) (.int _)⟩
  · cases e
end
/-! methods of texts and lists that change nothing -/
def rM (K : PySem.W.Frag) (f : D → List D → Option D) : V → List V → Hp → VK → Prop := fun x xs H Q => ∃ F d ds r, Same F H ∧ Dp K F x d ∧ DpAll K F xs ds ∧ f d ds = some r ∧ ∀ v F' H', Ext F H F' H' → Dp K F' v r → Q v H'
def mMt (T : String) (f : D → List D → Option D) (o : M) (a : Vw → R (List D)) : M := fun δ => (o δ).bind fun d => if tyD d = T ∧ (T = "str" ∨ T = "list") then (a δ).bind fun ds => R.of (f d ds) else .bad
theorem tyV_of {K : PySem.W.Frag} {F H : Hp} {x : V} {d : D} {T : String} (s : Same F H) (h : Dp K F x d) (e : tyD d = T ∧ (T = "str" ∨ T = "list")) : tyV K T x H := by
  obtain ⟨e1, e2⟩ := e
  cases h with
  | str z => exact e1.symm
  | lst a b => exact .inl ⟨e1.symm, _, s.seq a⟩
  | non => subst e1; rcases e2 with e2 | e2 <;> exact absurd (show ("NoneType" : String) = _ from e2) (by decide)
  | bl _ => subst e1; rcases e2 with e2 | e2 <;> exact absurd (show ("bool" : String) = _ from e2) (by decide)
  | int _ => subst e1; rcases e2 with e2 | e2 <;> exact absurd (show ("int" : String) = _ from e2) (by decide)
  | tup _ _ => subst e1; rcases e2 with e2 | e2 <;> exact absurd (show ("tuple" : String) = _ from e2) (by decide)
theorem me_mt {X : Cx} {W : WX} {T name id : String} {f : D → List D → Option D} {o e : Expr} {es : List Expr} {mo : M} {ma : Vw → R (List D)} {apos cpos : Pos} (pa : PlainAttrs T) (slot : Slot T name id) (hty : typeOf (.builtin id) = pure (.type "method_descriptor")) (hm : MtR X id (rM X.K f)) (ho : ME X W o mo) (ha : MA X W (e :: es) ma)
    (hbase : attributeBase o name X.env (eval o X.env) = eval o X.env := by rfl)
    (hfew : ((backTo cpos (starEach (e :: es) X.env)).all (fun x => !x.1) && (backToKw cpos (keywordEach [] X.env)).all (fun x => x.1.isSome)
      && decide ((e :: es).length + ([] : List Keyword).length + (if ([] : List Keyword).isEmpty then 0 else 1) < 30)) = true := by rfl)
    (hline : (apos.endLine == cpos.line) = true := by rfl) (hs : starEach (e :: es) X.env = (false, eval e X.env) :: starEach es X.env := by rfl) (hplain : (backTo cpos (starEach es X.env)).any (·.1) = false := by rfl) :
    ME X W (.Call (.Attribute o name apos) (e :: es) [] cpos) (mMt T f mo ma) := by
  refine PE.imp (pe_bm pa slot hty hm ho ha hbase hfew hline hs hplain) fun σ H Q ⟨F, δ, s, v, h⟩ => ?_
  refine tM_bind s v h fun d x F1 H1 _ E hx h1 => ?_
  split at h1
  · rename_i c
    refine ⟨tyV_of E.s hx c, ?_⟩
    refine tA_bind E.s (v.mono E.f) h1 fun ds xs F2 H2 _ E2 hxs h2 => ?_
    obtain ⟨r, e, q⟩ := of_post h2
    exact ⟨F2, d, ds, r, E2.s, dp_mono E2.f d hx, hxs, e, q⟩
  · exact h1.elim
/-- the first place of an equal item -/
def firstIx (d : D) : List D → Nat → Option Nat
  | [], _ => none
  | z :: zs, n => if PyData.eqv z d = true then some n else firstIx d zs (n + 1)
theorem firstIx_ok {d : D} : ∀ {ds : List D} {n j : Nat}, firstIx d ds n = some j → ∃ (i : Nat) (z : D), j = n + i ∧ ds[i]? = some z ∧ PyData.eqv z d = true ∧ ∀ (m : Nat) (z' : D), m < i → ds[m]? = some z' → PyData.eqv z' d = false
  | [], _, _, e => by cases e
  | z :: zs, n, j, e => by
    unfold firstIx at e
    split at e
    · rename_i h
      cases e
      exact ⟨0, z, rfl, rfl, h, fun m _ hm => absurd hm (Nat.not_lt_zero m)⟩
    · rename_i h
      obtain ⟨i, z', h1, h2, h3, h4⟩ := firstIx_ok e
      refine ⟨i + 1, z', by omega, by simpa using h2, h3, fun m z2 hm hz => ?_⟩
      cases m with
      | zero =>
        simp at hz
        subst hz
        exact Bool.eq_false_iff.mpr h
      | succ m => exact h4 m z2 (Nat.lt_of_succ_lt_succ hm) (by simpa using hz)
def fIndex : D → List D → Option D
  | .list ds, [d] => if (SeqAt.shaped (.list ds) && SeqAt.shaped d) = true then (firstIx d ds 0).map fun j => .int (j : Nat) else none
  | _, _ => none
def fPartition : D → List D → Option D
  | .str a, [.str b] => if (b.length == 0) = false ∧ a.length ≤ most then some (.tuple [.str (Txt.partition a b).1, .str (Txt.partition a b).2.1, .str (Txt.partition a b).2.2]) else none
  | _, _ => none
def fZfill : D → List D → Option D
  | .str a, [.int i] => if PadOk i = true then some (.str (Txt.zfill a i)) else none
  | _, _ => none
section
variable {X : Cx}
theorem m_index (hu : X.A.units + 65 < cLine) : MtR X "list.index" (rM X.K fIndex) := mtr_of fun x xs H Q ⟨F, d, ds, r, s, h1, h2, e, q⟩ => by
  unfold fIndex at e
  split at e
  · rename_i ds d
    split at e
    · rename_i l
      rw [Bool.and_eq_true] at l
      cases z : firstIx d ds 0 with
      | none => rw [z] at e; cases e
      | some j =>
        rw [z] at e
        cases e
        obtain ⟨i, y, e1, e2, e3, e4⟩ := firstIx_ok z
        obtain ⟨v, rfl, hv⟩ := dpa1 h2
        have hji : j = i := by omega
        subst hji
        have h1' := dp_mono s _ h1
        cases h1 with
        | lst a b => exact ⟨_, mt_indexD hu, _, _, d, ds, j, y, rfl, rfl, h1', dp_mono s _ hv, l.1, l.2, e2, e3, e4, q _ F H (Ext.refl s) (.int _)⟩
    · cases e
  · cases e
theorem m_partition : MtR X "str.partition" (rM X.K fPartition) := mtr_of fun x xs H Q ⟨F, d, ds, r, s, h1, h2, e, q⟩ => by
  unfold fPartition at e
  split at e
  · split at e
    · rename_i l
      cases e
      obtain ⟨v, rfl, hv⟩ := dpa1 h2
      cases dp_str h1
      cases dp_str hv
      refine ⟨_, mt_partition, _, _, rfl, rfl, l.1, most_le l.2, fun p hp => q _ _ _ (Ext.new s hp) (.tup (SqT.of upd_same) (.cons (.str _) (.cons (.str _) (.cons (.str _) .nil))))⟩
    · cases e
  · cases e
theorem m_zfill : MtR X "str.zfill" (rM X.K fZfill) := mtr_of fun x xs H Q ⟨F, d, ds, r, s, h1, h2, e, q⟩ => by
  unfold fZfill at e
  split at e
  · split at e
    · rename_i l
      cases e
      obtain ⟨v, rfl, hv⟩ := dpa1 h2
      cases dp_str h1
      cases dp_int hv
      exact ⟨_, mt_zfill, _, _, rfl, rfl, l, q _ F H (Ext.refl s) (.str _)⟩
    · cases e
  · cases e
end
def fIntT : List D → Option D
  | [.str a] => if a.length ≤ 640 then (intText? a).map .int else none
  | ds => fInt ds
theorem c_intT {X : Cx} : CallR X (.type "int") (rDs X.K fIntT) := callr_of fun xs H Q ⟨F, ds, d, s, h, e, q⟩ => by
  unfold fIntT at e
  split at e
  · rename_i a
    split at e
    · rename_i l
      cases z : intText? a with
      | none => rw [z] at e; cases e
      | some n =>
        rw [z] at e
        cases e
        obtain ⟨v, rfl, hv⟩ := dpa1 h
        cases dp_str hv
        exact ⟨_, call_int_str, _, _, rfl, z, l, q _ F H (Ext.refl s) (.int _)⟩
    · cases e
  · exact ⟨_, c_int, F, ds, d, s, h, e, q⟩
/-! a text's signs -/
def mSigns (m : M) : Vw → R (List D) := fun δ => (m δ).bind fun d => match d with
  | .str z => .ok (z.cps.toList.map fun c => .str ⟨#[c]⟩)
  | _ => .bad
/-! ### stores -/
/-- xs[i] = e, xs this def's own -/
def sPut (j : Nat) (mi m : M) : S := fun g => match g[j]? with
  | some (.own ds) => (m (vd g)).to g fun d => (mi (vd g)).to g fun i => match i with
    | .int i => (match ixN ds.length i with
      | some k => .nx (g.set j (.own (ds.set k d)))
      | none => .bad)
    | _ => .bad
  | _ => .bad
theorem dpa_set {K : PySem.W.Frag} {F : Hp} {v : V} {d : D} (h : Dp K F v d) : ∀ {xs : List V} {ds : List D} (k : Nat), DpAll K F xs ds → DpAll K F (xs.set k v) (ds.set k d)
  | _, _, _, .nil => .nil
  | _, _, 0, .cons a b => .cons h b
  | _, _, k + 1, .cons a b => .cons a (dpa_set h k b)
/-- an own list changed in its place -/
theorem StOk.write {K : PySem.W.Frag} {F0 H0 F H : Hp} {σ : L2.St} {g : Ce} (ok : StOk K F0 H0 F H σ g) {j : Nat} {ds ds' : List D} {a : Addr} {xs xs' : List V} (hj : g[j]? = some (.own ds)) (hs : σ[j]? = some (some (.ref a))) (hF : F a = none) (h0 : H0 a = none) (hH : H a = some (.lst xs)) (hd : DpAll K F xs' ds') :
    StOk K F0 H0 F (upd H a (.lst xs')) σ (g.set j (.own ds')) := by
  have jl : j < g.length := (List.getElem?_eq_some_iff.mp hj).1
  refine ⟨⟨ok.e.f, fun b o e => ?_, fun b o e => ?_, ok.e.n⟩, by simpa using ok.len, fun i d q => ?_, fun i es q => ?_, fun i k es es' b q1 q2 q3 q4 => ?_⟩
  · rw [upd_ne (ne_of_none e h0)]
    exact ok.e.h b o e
  · rw [upd_ne (ne_of_none e hF)]
    exact ok.e.s b o e
  · rw [List.getElem?_set] at q
    by_cases z : j = i
    · subst z
      rw [if_pos rfl] at q
      split at q <;> cases q
    · rw [if_neg z] at q
      exact ok.dat i d q
  · rw [List.getElem?_set] at q
    by_cases z : j = i
    · subst z
      rw [if_pos rfl, if_pos jl] at q
      cases q
      exact ⟨a, xs', hs, upd_same, hF, h0, hd⟩
    · rw [if_neg z] at q
      obtain ⟨b, ys, h1, h2, h3, h4, h5⟩ := ok.own i es q
      have : b ≠ a := fun e => by
        subst e
        exact z (ok.inj j i ds es b hj q hs h1)
      exact ⟨b, ys, h1, by rw [upd_ne this]; exact h2, h3, h4, h5⟩
  · have un : ∀ (i : Nat) (es : List D), (g.set j (.own ds'))[i]? = some (.own es) → ∃ fs, g[i]? = some (.own fs) := fun i es q => by
      rw [List.getElem?_set] at q
      by_cases z : j = i
      · subst z; exact ⟨ds, hj⟩
      · rw [if_neg z] at q; exact ⟨es, q⟩
    obtain ⟨f1, w1⟩ := un i es q1
    obtain ⟨f2, w2⟩ := un k es' q2
    exact ok.inj i k f1 f2 b w1 w2 q3 q4
end MI
set_option Elab.async false
set_option linter.all false
set_option maxRecDepth 100000
set_option maxHeartbeats 4000000
/-! MI9: stores, appends, loops over anything, try .. as, the head's look with a test of one's own. -/
namespace MI
open PySem PySem.Spec PyProof.Rows L2
section
variable {X : Cx} {W : WX}
theorem ms_put (j : Nat) {x : Str} {ei e : Expr} {mi m : M} {px pt pos : Pos} (he : ME X W e m) (hi : ME X W ei mi) (hg : PG X (.Subscript (.Name x px) ei pt) (gSub (tVar j) (tM X W mi) rSetL))
    (hs : swapsWithSole [.Subscript (.Name x px) ei pt] e pos.line X.env = pure false := by rfl) (hw : swappedStores [.Subscript (.Name x px) ei pt] e X.env = pure none := by rfl) (h1 : (assignEach [.Subscript (.Name x px) ei pt] X.env).map (·.2) = [assign (.Subscript (.Name x px) ei pt) X.env] := by rfl) :
    MS X W (.Assign [.Subscript (.Name x px) ei pt] e pos) (sPut j mi m) := by
  refine PS.imp (ps_asg he hg hs hw h1) fun D σ H ⟨F0, H0, F, g, ok, h⟩ => ?_
  unfold sPut at h
  split at h
  · rename_i ds ej
    refine ev_vd (Q := fun v H1 => gSub (tVar j) (tM X W mi) rSetL v σ H1 D.nx) ok h fun d v F1 H1 e1 ok1 hd h1 => ?_
    obtain ⟨a, _, hσ, _, _, _, _⟩ := ok1.own j ds ej
    refine ⟨_, hσ, ?_⟩
    refine ev_vd (D := D) ok1.base (h1.base ok1.e) fun i y F2 H2 e2 ok2 hi2 h2 => ?_
    split at h2
    · rename_i i
      split at h2
      · rename_i k hk
        cases dp_int hi2
        obtain ⟨a', xs, q1, q2, q3, q4, q5⟩ := ok2.own j ds ej
        rw [hσ] at q1
        cases q1
        refine ⟨a, xs, i, k, rfl, rfl, q2, by rw [dpa_len q5]; exact hk, ?_⟩
        exact h2 F2 _ σ (ok2.write ej hσ q3 q4 q2 (dpa_set (dp_mono ok2.e.f d hd) k q5))
      · exact h2.elim
    · exact h2.elim
  · exact h.elim
theorem ms_app (j : Nat) {x : Str} {e : Expr} {m : M} {px apos cpos pos : Pos} (he : ME X W e m) (hx : PE X (.Name x px) (tVar j))
    (hbase : attributeBase (.Name x px) "append" X.env (eval (.Name x px) X.env) = eval (.Name x px) X.env := by rfl)
    (hfew : ((backTo cpos (starEach (e :: []) X.env)).all (fun x => !x.1) && (backToKw cpos (keywordEach [] X.env)).all (fun x => x.1.isSome)
      && decide ((e :: []).length + ([] : List Keyword).length + (if ([] : List Keyword).isEmpty then 0 else 1) < 30)) = true := by rfl)
    (hline : (apos.endLine == cpos.line) = true := by rfl) (hs : starEach (e :: []) X.env = (false, eval e X.env) :: starEach [] X.env := by rfl) (hplain : (backTo cpos (starEach [] X.env)).any (·.1) = false := by rfl)
    (hw : swapsWith (.Call (.Attribute (.Name x px) "append" apos) [e] [] cpos) none pos.line X.env = pure false := by rfl) :
    MS X W (.Expr (.Call (.Attribute (.Name x px) "append" apos) [e] [] cpos) pos) (sApp j m) := by
  refine PS.imp (ps_expr (pe_bm PySem.F.plainAttrs_list PySem.F.slot_list_append PySem.F.type_list_append mt_append hx (pa_cons he pa_nil hs) hbase hfew hline hs hplain) hw) fun D σ H ⟨F0, H0, F, g, ok, h⟩ => ?_
  unfold sApp at h
  split at h
  · rename_i ds ej
    obtain ⟨a, xs0, hσ, hH0, _, _, _⟩ := ok.own j ds ej
    refine ⟨_, hσ, .inl ⟨rfl, xs0, SqL.of hH0⟩, ?_⟩
    refine ev_vd (Q := fun y H1 => rAppend (.ref a) [y] H1 fun _ H2 => D.nx σ H2) ok h fun d v F1 H1 e1 ok1 hd h1 => ?_
    split at h1
    · rename_i l
      obtain ⟨a', xs, q1, q2, q3, q4, q5⟩ := ok1.own j ds ej
      rw [hσ] at q1
      cases q1
      exact ⟨a, xs, v, rfl, rfl, q2, by rw [dpa_len q5]; exact Nat.lt_of_lt_of_le l (Nat.le_of_eq most_eq), h1 F1 _ σ (ok1.write ej hσ q3 q4 q2 (dpa_append q5 (.cons hd .nil)))⟩
    · exact h1.elim
  · exact h.elim
end
/-! ### for over anything -/
def sFor (it : Vw → R (List D)) (t : Tg) (b : S) : S := fun g => (it (vd g)).to g fun ds => loopF t b ds g
theorem ms_for {X : Cx} {W : WX} {pos : Pos} {tg iter : Expr} {body : List Stmt} {it : Vw → R (List D)} {r : TG} {t : Tg} {b : S} (hp : PassesOwn (model X.prog X.w) X.A X.env X.xe) (hi : MIt X W tg iter it) (hg : PG X tg r) (ht : TgOk X.K r t) (hb : MSs X W body b) (hc : X.calm = true := by rfl)
    (hs : ∀ x, foldedSetIterable iter X.env x = pure x := by intro _; rfl) : MS X W (.For tg iter body [] pos) (sFor it t b) := by
  refine PS.imp (ps_for hp hc hi hg hb hs) fun D σ H ⟨F0, H0, F, g, ok, h⟩ => ⟨F, vd g, ok.e.s, ok.vd, ?_⟩
  unfold sFor at h
  cases ei : it (vd g) with
  | exc c p =>
    rw [ei] at h
    unfold R.to at h
    dsimp only at h
    split at h
    · exact fun cls od F' H' E x => h cls od F' H' σ (ok.mono E) x
    · exact h.elim
  | bad => rw [ei] at h; exact h.elim
  | ok ds =>
    rw [ei] at h
    have h : SPost X.K X.mg W F0 H0 D (loopF t b ds g) := h
    intro F1 H1 J E io
    have ok1 := ok.mono E
    refine ⟨fun i m σ H => m = ds.length - i ∧ i ≤ ds.length ∧ ∃ F2 g2, Ext F1 H0 F2 H ∧ StOk X.K F0 H0 F2 H σ g2 ∧ SPost X.K X.mg W F0 H0 D (loopF t b (ds.drop i) g2), ⟨ds.length, by simp, Nat.zero_le _, F1, g, ok1.base.e, ok1, by simpa using h⟩, ?_⟩
    rintro i m σ H ⟨rfl, hi, F2, g2, E2, ok2, h2⟩
    by_cases hlt : i < ds.length
    · have ed : ds[i]? = some ds[i] := List.getElem?_eq_getElem hlt
      obtain ⟨go, yl⟩ := io.go i H _ (E2.f.trans E2.s) ed
      refine .inr ⟨go, fun σ' H' => ∃ F2 g2, Ext F1 H0 F2 H' ∧ StOk X.K F0 H0 F2 H' σ' g2 ∧ SPost X.K X.mg W F0 H0 D (loopF t b (ds.drop (i + 1)) g2), fun σ' H' q => ⟨ds.length - (i + 1), by omega, rfl, hlt, q⟩, fun x H' hy => ?_⟩
      obtain ⟨F3, E3, dx⟩ := yl x H' F2 E2.f E2.s hy
      rw [drop_get ed] at h2
      have ok3 := ok2.mono E3
      exact loopF_turn ht ok3 dx h2 fun F4 H4 σ4 g4 ok4 h4 => ⟨F4, g4, ((E2.trans E3).back ok4.e), ok4.back ok3.e, h4⟩
    · have e : i = ds.length := by omega
      subst e
      rw [List.drop_length] at h2
      exact .inl ⟨io.stop _ H (E2.f.trans E2.s) (Nat.le_refl _), h2 F2 H σ ok2⟩
theorem mi_signs {X : Cx} {W : WX} {tg e : Expr} {m : M} (he : ME X W e m) : MIt X W tg e (mSigns m) := by
  refine PI.imp (pi_str he) fun σ H Q ⟨F, δ, s, v, h⟩ => ⟨F, δ, s, v, ?_⟩
  unfold mSigns at h
  cases em : m δ with
  | ok d =>
    rw [em, R.bind_ok] at h
    cases d with
    | str z =>
      intro y F' H' E hy
      cases hy
      refine ⟨z, rfl, h F' H' _ E ⟨fun i H d s e => ?_, fun i H s l => ?_⟩⟩
      · rw [List.getElem?_map] at e
        cases q : z.cps.toList[i]? with
        | none => rw [q] at e; cases e
        | some c =>
          rw [q] at e
          cases e
          have q' : z.cps[i]? = some c := by simpa using q
          refine ⟨(Array.getElem?_eq_some_iff.mp q').1, fun x H' F2 f2 s2 ⟨e1, c', e2, e3⟩ => ?_⟩
          rw [q'] at e2
          cases e2
          subst e1 e3
          exact ⟨F2, Ext.refl s2, .str _⟩
      · rw [List.length_map] at l
        exact (show z.cps.size ≤ i by simpa using l)
    | _ => exact h.elim
  | exc c p => rw [em] at h; exact h
  | bad => rw [em] at h; exact h
/-! ### try: .. except C as n: .. -/
theorem StOk.unset {K : PySem.W.Frag} {F0 H0 F H : Hp} {σ : L2.St} {g : Ce} (ok : StOk K F0 H0 F H σ g) (i : Nat) (x : Option V) : StOk K F0 H0 F H (σ.set i x) (g.set i .un) := by
  refine ⟨ok.e, by simpa using ok.len, fun j d q => ?_, fun j ds q => ?_, fun j k ds es a q1 q2 q3 q4 => ?_⟩
  · rw [List.getElem?_set] at q ⊢
    by_cases e : i = j
    · subst e
      rw [if_pos rfl] at q
      split at q <;> cases q
    · rw [if_neg e] at q ⊢
      exact ok.dat j d q
  · rw [List.getElem?_set] at q ⊢
    by_cases e : i = j
    · subst e
      rw [if_pos rfl] at q
      split at q <;> cases q
    · rw [if_neg e] at q ⊢
      exact ok.own j ds q
  · rw [List.getElem?_set] at q1 q2 q3 q4
    by_cases e : i = j
    · subst e
      rw [if_pos rfl] at q1
      split at q1 <;> cases q1
    · by_cases e2 : i = k
      · subst e2
        rw [if_pos rfl] at q2
        split at q2 <;> cases q2
      · rw [if_neg e] at q1 q3
        rw [if_neg e2] at q2 q4
        exact ok.inj j k ds es a q1 q2 q3 q4
/-- u: the suite, by the class of what was raised; i: the exception's name -/
def sTryAs (sub : Str → Option Bool) (i : Nat) (b : S) (u : Str → S) : S := fun g => match b g with
  | .ex c p g' => (match sub c with
    | some true => if p.isNone = true ∧ i < g'.length then (match u c (g'.set i .un) with
      | .nx g2 => .nx (g2.set i .un)
      | .bk g2 => .bk (g2.set i .un)
      | .ct g2 => .ct (g2.set i .un)
      | .rt d => .rt d
      | _ => .bad) else .bad
    | some false => .ex c p g'
    | none => .bad)
  | o => o
theorem ms_tryAs {X : Cx} {W : WX} {x n : Str} {i : Nat} {body suite : List Stmt} {b0 : Stmt} {np pos pos' : Pos} {sub : Str → Option Bool} {b : S} {u : Str → S} (hN : X.N.Nodup) (gC : X.mg x = some (.ref (He.ga X.K x))) (tk : Takes X W) (so : SubOk X.K X.mg sub (.ref (He.ga X.K x)))
    (hb : ∀ (W' : WX) (pn : List (Addr × Obj)) (xe : Value → Shared → Prop), Takes (X.tr pn xe) W' → PassesOwn (model X.prog X.w) X.A X.env xe → MSs (X.tr pn xe) W' body b)
    (hsu : ∀ (c : Str), sub c = some true → ∀ (C a : Addr) (oe : Obj) (d : Option Addr) (pn : List (Addr × Obj)), X.mg c = some (.ref C) → Zc (.ref C) d oe → (∃ vs, oe.data = .fields vs) → d = none → ∀ W' : WX, PSs (X.suite a ((a, oe) :: pn)) (b0 :: suite) (fun D σ H => σ[i]? = some (some (.ref a)) ∧ tS X.K X.mg W' (u c) D σ H))
    (hi : X.N[i]? = some n := by rfl) (hln : X.env.kindOf n = some .local := by rfl) (hs : X.stack = X.env :: X.outer := by rfl) (hf : X.env.frame = some X.env.locals := by rfl) (hg : Gl X x := by rfl) (hdb : (x == ("__debug__" : Str)) = false := by decide) :
    MS X W (.Try body [.ExceptHandler (some (.Name x np)) (some n) (b0 :: suite) pos'] [] [] pos) (sTryAs sub i b u) := by
  refine PS.imp (ps_try_as (i := i) (tb := fun W' => tS X.K X.mg W' b) (ts := fun a cls d => fun D σ H => ∃ c C, sub c = some true ∧ X.mg c = some (.ref C) ∧ cls = .ref C ∧ d = none ∧ σ[i]? = some (some (.ref a)) ∧ tS X.K X.mg (fun _ _ _ _ => False) (u c) D σ H) hs hf hN hi hln ⟨hg, hdb, .inl gC⟩ tk hb
    fun a oe cls d pn z f => ⟨fun pins s σ H D I ⟨c, C, h1, h2, h3, h5, h4⟩ => by
      subst h3
      exact (hsu c h1 C a oe d pn h2 z f h5 _).run pins s σ H D I h4⟩) fun D σ H ⟨F0, H0, F, g, ok, h⟩ => ⟨F0, H0, F, g, ok, ?_⟩
  unfold sTryAs at h
  cases e : b g with
  | nx g' => rw [e] at h; exact h
  | rt d => rw [e] at h; exact h
  | bk g' => rw [e] at h; exact h
  | ct g' => rw [e] at h; exact h
  | bad => rw [e] at h; exact h
  | ex cx p g' =>
    rw [e] at h
    dsimp only at h
    intro cls od F' H' σ' ok' xv
    obtain ⟨C, gC', rfl, xr⟩ := id xv
    cases q : sub cx with
    | none => rw [q] at h; exact h.elim
    | some k =>
      rw [q] at h
      refine ⟨k, so _ _ _ q gC', fun ek a ha => ?_, fun ek => ?_⟩
      · subst ek
        dsimp only at h
        cases p with
        | some d =>
          rw [if_neg (by intro z; exact absurd z.1 (by simp))] at h
          exact h.elim
        | none =>
        by_cases hl0 : i < g'.length
        rotate_left
        · rw [if_neg (by intro z; exact hl0 z.2)] at h
          exact h.elim
        rw [if_pos ⟨rfl, hl0⟩] at h
        have hl : i < σ'.length := by
          rw [ok'.len]
          exact hl0
        refine ⟨cx, C, q, gC', rfl, xr, by rw [List.getElem?_set_self hl], F0, H0, F', _, ok'.unset i _, ?_⟩
        cases e2 : u cx (g'.set i .un) with
        | ex c2 p2 g2 => rw [e2] at h; exact h.elim
        | nx g2 => rw [e2] at h; exact fun F2 H2 σ2 ok2 => h F2 H2 _ (ok2.unset i none)
        | rt d => rw [e2] at h; exact h
        | bk g2 => rw [e2] at h; exact fun F2 H2 σ2 ok2 => h F2 H2 _ (ok2.unset i none)
        | ct g2 => rw [e2] at h; exact fun F2 H2 σ2 ok2 => h F2 H2 _ (ok2.unset i none)
        | bad => rw [e2] at h; exact h
      · subst ek
        exact h (.ref C) od F' H' σ' ok' xv
/-! what a suite asks of its exception -/
/-- e tells k, where slot i holds the exception at a -/
abbrev XB (X : Cx) (i : Nat) (a : Addr) (e : Expr) (k : Bool) : Prop := PE X e (fun σ H Q => σ[i]? = some (some (.ref a)) ∧ Q (.bl k) H)
section
variable {X : Cx} {i : Nat} {a : Addr} {C : Addr} {oe : Obj} {d : Option Addr} {pn : List (Addr × Obj)} {pos : Pos}
theorem xb_own {n y : Str} {p p1 p2 pos : Pos} {b : Bool} (E : ExcC X.K C) (hz : Zc (.ref C) d oe) (hf : ∃ vs, oe.data = .fields vs) (hd : d = none) (hmi : X.mg "isinstance" = none) (gy : X.mg y = some (.ref (He.ga X.K y))) (hk : PySem.W.kitOne X.K (.ref C) (.ref (He.ga X.K y)) = some b)
    (hx : PE (X.suite a ((a, oe) :: pn)) (.Name n p1) (tVar i)) (hgi : Gl X "isinstance" := by rfl) (hg : Gl X y := by rfl) (hdb : (y == ("__debug__" : Str)) = false := by decide)
    (he : starEach [.Name n p1, .Name y p2] (X.suite a ((a, oe) :: pn)).env = (false, eval (.Name n p1) (X.suite a ((a, oe) :: pn)).env) :: starEach [.Name y p2] (X.suite a ((a, oe) :: pn)).env := by rfl) (he2 : starEach [.Name y p2] (X.suite a ((a, oe) :: pn)).env = (false, eval (.Name y p2) (X.suite a ((a, oe) :: pn)).env) :: starEach [] (X.suite a ((a, oe) :: pn)).env := by rfl)
    (hpl : (backTo pos (starEach [.Name y p2] (X.suite a ((a, oe) :: pn)).env)).any (·.1) = false := by rfl) : XB (X.suite a ((a, oe) :: pn)) i a (.Call (.Name "isinstance" p) [.Name n p1, .Name y p2] [] pos) b := by
  subst hd
  refine PE.imp (pe_callB (call_isE E hz hf) hgi hmi (by decide +kernel) (pa_cons hx (pa_cons (pe_glob (v := .ref (He.ga X.K y)) hg gy rfl hdb) pa_nil he2) he) (by decide) (by decide) he hpl) fun σ H Q ⟨h1, h2⟩ => ?_
  exact ⟨_, h1, _, .ref (He.ga X.K y), b, rfl, fun u r => r, hk, h2⟩
theorem xb_blt {n y : Str} {T : String} {p p1 p2 pos : Pos} {b : Bool} (E : ExcC X.K C) (hz : Zc (.ref C) d oe) (hf : ∃ vs, oe.data = .fields vs) (hd : d = none) (hmi : X.mg "isinstance" = none) (hm : X.mg y = none) (hk : PySem.W.kitOne X.K (.ref C) (.type T) = some b)
    (hx : PE (X.suite a ((a, oe) :: pn)) (.Name n p1) (tVar i)) (hgi : Gl X "isinstance" := by rfl) (hg : Gl X y := by rfl) (hv : bootBuiltins y = some (.type T) := by decide +kernel) (hn : y ≠ "__name__" := by decide) (hdb : (y == ("__debug__" : Str)) = false := by decide)
    (he : starEach [.Name n p1, .Name y p2] (X.suite a ((a, oe) :: pn)).env = (false, eval (.Name n p1) (X.suite a ((a, oe) :: pn)).env) :: starEach [.Name y p2] (X.suite a ((a, oe) :: pn)).env := by rfl) (he2 : starEach [.Name y p2] (X.suite a ((a, oe) :: pn)).env = (false, eval (.Name y p2) (X.suite a ((a, oe) :: pn)).env) :: starEach [] (X.suite a ((a, oe) :: pn)).env := by rfl)
    (hpl : (backTo pos (starEach [.Name y p2] (X.suite a ((a, oe) :: pn)).env)).any (·.1) = false := by rfl) : XB (X.suite a ((a, oe) :: pn)) i a (.Call (.Name "isinstance" p) [.Name n p1, .Name y p2] [] pos) b := by
  subst hd
  refine PE.imp (pe_callB (call_isE E hz hf) hgi hmi (by decide +kernel) (pa_cons hx (pa_cons (pe_bty (X := X.suite a ((a, oe) :: pn)) hg hm hv hn hdb) pa_nil he2) he) (by decide) (by decide) he hpl) fun σ H Q ⟨h1, h2⟩ => ?_
  exact ⟨_, h1, _, .type T, b, rfl, fun u r => r, hk, h2⟩
end
section
variable {X : Cx} {i : Nat} {a : Addr} {pos : Pos}
theorem xb_not {e : Expr} {k : Bool} (h : XB X i a e k) : XB X i a (.UnaryOp .Not e pos) (!k) := PE.imp (pe_notT h) fun σ H Q ⟨h1, h2⟩ => ⟨h1, k, rfl, h2⟩
theorem xb_one {op} {e : Expr} {k : Bool} (h : XB X i a e k) : XB X i a (.BoolOp op [e] pos) k := pe_one h
theorem xb_and {e b : Expr} {rest : List Expr} {k l : Bool} (h : XB X i a e k) (h2 : XB X i a (.BoolOp .And (b :: rest) pos) l) : XB X i a (.BoolOp .And (e :: b :: rest) pos) (k && l) := PE.imp (pe_andT h h2) fun σ H Q ⟨h1, h2⟩ => ⟨h1, k, rfl, by
  cases k with
  | true => exact ⟨h1, h2⟩
  | false => exact h2⟩
theorem xb_set (j : Nat) {x : Str} {e : Expr} {k : Bool} {pos' : Pos} {W : WX} (hN : X.N.Nodup) (h : XB X i a e k) (hi : X.N[j]? = some x := by rfl) (hx : Loc X.env.scope x := by first | exact Or.inl rfl | exact Or.inr rfl) (hs : swapsWith e (some (.Name x pos')) pos.line X.env = pure false := by rfl) (hf : X.fn x = true ∨ X.env.scope.names.lookup x = some .local := by first | exact .inl rfl | exact .inr rfl) :
    PSs X [.Assign [.Name x pos'] e pos] (fun D σ H => σ[i]? = some (some (.ref a)) ∧ tS X.K X.mg W (sSet j (mC (.bool k))) D σ H) := by
  refine pss_one (PS.imp (ps_set hN hi hx h hs hf) fun D σ H ⟨h1, F0, H0, F, g, ok, q⟩ => ⟨h1, ?_⟩)
  exact q F H _ (ok.set (.bl k))
theorem xb_ret {e : Expr} {k : Bool} {W : WX} (h : XB X i a e k) : PSs X [.Return (some e) pos] (fun D σ H => σ[i]? = some (some (.ref a)) ∧ tS X.K X.mg W (sRet (mC (.bool k))) D σ H) := by
  refine pss_one (PS.imp (ps_ret h) fun D σ H ⟨h1, F0, H0, F, g, ok, q⟩ => ⟨h1, ?_⟩)
  exact q (.bl k) F H ok.e (.bl k)
end
end MI
namespace MI
open PySem
theorem sub_one {c x : Str} {tb : List (Str × Bool)} (h : subT ((x, true) :: tb) c = some true) (h0 : subT tb c ≠ some true := by intro z; cases z) : c = x := by
  unfold subT at h
  rw [List.lookup_cons] at h
  cases q : (c == x) with
  | true => exact beq_iff_eq.mp q
  | false =>
    rw [q] at h
    exact absurd h h0
end MI
set_option Elab.async false
set_option linter.all false
set_option maxRecDepth 100000
set_option maxHeartbeats 4000000
/-! MI10: flat values that are reckoned with own lists in sight: taken apart, put. -/
namespace MI
open PySem PySem.Spec PyProof.Rows L2
def sAsgF (t : Tg) (m : M) : S := fun g => (m (va g)).to g fun d => if flat d = true then (match t d g with
  | some g' => .nx g'
  | none => .bad) else .bad
def sPutF (j : Nat) (mi m : M) : S := fun g => match g[j]? with
  | some (.own ds) => (m (va g)).to g fun d => if flat d = true then (mi (vd g)).to g fun i => (match i with
    | .int i => (match L2.ixN ds.length i with
      | some k => .nx (g.set j (.own (ds.set k d)))
      | none => .bad)
    | _ => .bad) else .bad
  | _ => .bad
/-- a, b, .. = a list -/
def gL (u : Tgs) : Tg := fun d g => match d with
  | .list ds => u ds g
  | _ => none
theorem gL_ok {K : PySem.W.Frag} {n : Nat} {r : TGs} {t : Tgs} (h : TgsOk K n r t) : TgOk K (gLst K n r) (gL t) := fun F0 H0 F H σ g g' v d Q ok hd e q => by
  cases hd with
  | lst a b =>
    exact ⟨_, _, rfl, ok.e.s.seq a, (dpa_len b).trans (h.1 _ _ _ e), h.2 F0 H0 F H σ g g' _ _ Q ok b e q⟩
  | _ => cases e
def sAppF (i : Nat) (m : M) : S := fun g => match g[i]? with
  | some (.own ds) => (m (va g)).to g fun d => if flat d = true ∧ ds.length < most then .nx (g.set i (.own (ds ++ [d]))) else .bad
  | _ => .bad
section
variable {X : Cx} {W : WX}
theorem ms_asgF {pos : Pos} {tg e : Expr} {m : M} {r : TG} {t : Tg} (he : ME X W e m) (hg : PG X tg r) (ht : TgOk X.K r t) (hs : swapsWithSole [tg] e pos.line X.env = pure false := by rfl) (hw : swappedStores [tg] e X.env = pure none := by rfl) (h1 : (assignEach [tg] X.env).map (·.2) = [assign tg X.env] := by rfl) : MS X W (.Assign [tg] e pos) (sAsgF t m) := by
  refine PS.imp (ps_asg he hg hs hw h1) fun D σ H ⟨F0, H0, F, g, ok, h⟩ => ?_
  refine ev_va (Q := fun v H1 => r v σ H1 D.nx) ok h fun d v F' H' e ok' hd h' => ?_
  split at h'
  · rename_i f
    cases q : t d g with
    | none => rw [q] at h'; exact h'.elim
    | some g' =>
      rw [q] at h'
      exact ht F0 H0 F' H' σ g g' v d D.nx ok' (hd f) q fun σ' ok2 => h' F' H' σ' ok2
  · exact h'.elim
theorem ms_putF (j : Nat) {x : Str} {ei e : Expr} {mi m : M} {px pt pos : Pos} (he : ME X W e m) (hi : ME X W ei mi) (hg : PG X (.Subscript (.Name x px) ei pt) (gSub (tVar j) (tM X W mi) rSetL))
    (hs : swapsWithSole [.Subscript (.Name x px) ei pt] e pos.line X.env = pure false := by rfl) (hw : swappedStores [.Subscript (.Name x px) ei pt] e X.env = pure none := by rfl) (h1 : (assignEach [.Subscript (.Name x px) ei pt] X.env).map (·.2) = [assign (.Subscript (.Name x px) ei pt) X.env] := by rfl) :
    MS X W (.Assign [.Subscript (.Name x px) ei pt] e pos) (sPutF j mi m) := by
  refine PS.imp (ps_asg he hg hs hw h1) fun D σ H ⟨F0, H0, F, g, ok, h⟩ => ?_
  unfold sPutF at h
  split at h
  · rename_i ds ej
    refine ev_va (Q := fun v H1 => gSub (tVar j) (tM X W mi) rSetL v σ H1 D.nx) ok h fun d v F1 H1 e1 ok1 hd0 h1 => ?_
    split at h1
    · rename_i f
      have hd := hd0 f
      obtain ⟨a, _, hσ, _, _, _, _⟩ := ok1.own j ds ej
      refine ⟨_, hσ, ?_⟩
      refine ev_vd (D := D) ok1.base (h1.base ok1.e) fun i y F2 H2 e2 ok2 hi2 h2 => ?_
      split at h2
      · rename_i i
        split at h2
        · rename_i k hk
          cases dp_int hi2
          obtain ⟨a', xs, q1, q2, q3, q4, q5⟩ := ok2.own j ds ej
          rw [hσ] at q1
          cases q1
          refine ⟨a, xs, i, k, rfl, rfl, q2, by rw [dpa_len q5]; exact hk, ?_⟩
          exact h2 F2 _ σ (ok2.write ej hσ q3 q4 q2 (dpa_set (dp_mono ok2.e.f d hd) k q5))
        · exact h2.elim
      · exact h2.elim
    · exact h1.elim
  · exact h.elim
theorem ms_appF (j : Nat) {x : Str} {e : Expr} {m : M} {px apos cpos pos : Pos} (he : ME X W e m) (hx : PE X (.Name x px) (tVar j))
    (hbase : attributeBase (.Name x px) "append" X.env (eval (.Name x px) X.env) = eval (.Name x px) X.env := by rfl)
    (hfew : ((backTo cpos (starEach (e :: []) X.env)).all (fun x => !x.1) && (backToKw cpos (keywordEach [] X.env)).all (fun x => x.1.isSome)
      && decide ((e :: []).length + ([] : List Keyword).length + (if ([] : List Keyword).isEmpty then 0 else 1) < 30)) = true := by rfl)
    (hline : (apos.endLine == cpos.line) = true := by rfl) (hs : starEach (e :: []) X.env = (false, eval e X.env) :: starEach [] X.env := by rfl) (hplain : (backTo cpos (starEach [] X.env)).any (·.1) = false := by rfl)
    (hw : swapsWith (.Call (.Attribute (.Name x px) "append" apos) [e] [] cpos) none pos.line X.env = pure false := by rfl) :
    MS X W (.Expr (.Call (.Attribute (.Name x px) "append" apos) [e] [] cpos) pos) (sAppF j m) := by
  refine PS.imp (ps_expr (pe_bm PySem.F.plainAttrs_list PySem.F.slot_list_append PySem.F.type_list_append mt_append hx (pa_cons he pa_nil hs) hbase hfew hline hs hplain) hw) fun D σ H ⟨F0, H0, F, g, ok, h⟩ => ?_
  unfold sAppF at h
  split at h
  · rename_i ds ej
    obtain ⟨a, xs0, hσ, hH0, _, _, _⟩ := ok.own j ds ej
    refine ⟨_, hσ, .inl ⟨rfl, xs0, SqL.of hH0⟩, ?_⟩
    refine ev_va (Q := fun y H1 => rAppend (.ref a) [y] H1 fun _ H2 => D.nx σ H2) ok h fun d v F1 H1 e1 ok1 hd0 h1 => ?_
    split at h1
    · rename_i l
      have hd := hd0 l.1
      obtain ⟨a', xs, q1, q2, q3, q4, q5⟩ := ok1.own j ds ej
      rw [hσ] at q1
      cases q1
      exact ⟨a, xs, v, rfl, rfl, q2, by rw [dpa_len q5]; exact Nat.lt_of_lt_of_le l.2 (Nat.le_of_eq most_eq), h1 F1 _ σ (ok1.write ej hσ q3 q4 q2 (dpa_append q5 (.cons hd .nil)))⟩
    · exact h1.elim
  · exact h.elim
end
end MI
set_option Elab.async false
set_option linter.all false
set_option maxRecDepth 100000
set_option maxHeartbeats 4000000
/-! MI11: from here on own lists are data. -/
namespace MI
open PySem PySem.Spec PyProof.Rows L2
def frzA (g : Ce) : Ce := g.map fun c => match c with
  | .own ds => .dat (.list ds)
  | c => c
def sFz (m : S) : S := fun g => m (frzA g)
theorem frzA_va {g : Ce} {i : Nat} {d : D} (h : (frzA g)[i]? = some (.dat d)) : (va g)[i]? = some (some d) := by
  unfold frzA at h
  unfold va
  rw [List.getElem?_map] at h ⊢
  cases e : g[i]? with
  | none => rw [e] at h; cases h
  | some c =>
    rw [e] at h
    cases c with
    | un => cases h
    | dat d' => cases h; rfl
    | own ds => cases h; rfl
theorem frzA_own {g : Ce} {i : Nat} {ds : List D} (h : (frzA g)[i]? = some (.own ds)) : False := by
  unfold frzA at h
  rw [List.getElem?_map] at h
  cases e : g[i]? with
  | none => rw [e] at h; cases h
  | some c =>
    rw [e] at h
    cases c <;> cases h
theorem StOk.frzAll {K : PySem.W.Frag} {F0 H0 F H : Hp} {σ : L2.St} {g : Ce} (ok : StOk K F0 H0 F H σ g) : StOk K F0 H0 (frz F H σ g) H σ (frzA g) := by
  refine ⟨⟨ok.e.f.trans ok.frzF, ok.e.h, ok.frzH, fun a o e n => ?_⟩, by unfold frzA; rw [List.length_map]; exact ok.len, fun i d h => ok.va.2 i d (frzA_va h), fun i ds h => (frzA_own h).elim, fun i j ds es a h => (frzA_own h).elim⟩
  by_cases w : Own σ g a
  · obtain ⟨_, _, _, q⟩ := ok.ownAt w
    exact q
  · rw [frz_not w] at e
    exact ok.e.n a o e n
theorem mss_fz {X : Cx} {W : WX} {ss : List Stmt} {b : S} (h : MSs X W ss b) : MSs X W ss (sFz b) :=
  PSs.imp h fun D σ H ⟨F0, H0, F, g, ok, q⟩ => ⟨F0, H0, frz F H σ g, frzA g, ok.frzAll, q⟩
@[simp] theorem sFz_ap (m : S) (g : Ce) : sFz m g = m (frzA g) := Eq.trans rfl rfl
@[simp] theorem frzA_nil : frzA [] = [] := Eq.trans rfl rfl
@[simp] theorem frzA_un (g : Ce) : frzA (.un :: g) = .un :: frzA g := Eq.trans rfl rfl
@[simp] theorem frzA_dat (d : D) (g : Ce) : frzA (.dat d :: g) = .dat d :: frzA g := Eq.trans rfl rfl
@[simp] theorem frzA_ow (ds : List D) (g : Ce) : frzA (.own ds :: g) = .dat (.list ds) :: frzA g := Eq.trans rfl rfl
end MI
set_option Elab.async false
set_option linter.all false
set_option maxRecDepth 100000
set_option maxHeartbeats 4000000
/-! MI12: further constructs. -/
namespace MI
open PySem PySem.Spec PyProof.Rows L2
/-! ### a, b, .. = a tuple or a list -/
def gX (u : Tgs) : Tg := fun d g => match d with
  | .list ds => u ds g
  | .tuple ds => u ds g
  | _ => none
def gSeq (K : PySem.W.Frag) (n : Nat) (t : TGs) : TG := fun v σ H Q => gTup K n t v σ H Q ∨ gLst K n t v σ H Q
theorem pg_seq {X : Cx} {pos : Pos} {es : List Expr} {k : Nat} {t : TGs} {n : Nat} (hc : X.calm = true) (h : PGs X es t)
    (hn : (assignEach es X.env).length = n := by rfl) (hst : (assignEach es X.env).findIdx? (·.1) = none := by rfl) : PG X (.Tuple es k pos) (gSeq X.K n t) :=
  ⟨fun pins s σ H v u Q I r hw => by
    rcases hw with hw | hw
    · exact (pg_tup (pos := pos) (k := k) hc h hn hst).run pins s σ H v u Q I r hw
    · exact (pg_lst (pos := pos) (k := k) hc h hn hst).run pins s σ H v u Q I r hw⟩
theorem gX_ok {K : PySem.W.Frag} {n : Nat} {r : TGs} {t : Tgs} (h : TgsOk K n r t) : TgOk K (gSeq K n r) (gX t) := fun F0 H0 F H σ g g' v d Q ok hd e q => by
  cases hd with
  | lst a b => exact .inr ⟨_, _, rfl, ok.e.s.seq a, (dpa_len b).trans (h.1 _ _ _ e), h.2 F0 H0 F H σ g g' _ _ Q ok b e q⟩
  | tup a b => exact .inl ⟨_, _, rfl, same_t ok.e.s a, (dpa_len b).trans (h.1 _ _ _ e), h.2 F0 H0 F H σ g g' _ _ Q ok b e q⟩
  | _ => cases e
end MI
set_option Elab.async false
set_option linter.all false
set_option maxRecDepth 100000
set_option maxHeartbeats 4000000
namespace Pg
open PySem MI
/- p_is_whole: 0 thing -/
def s_p_is_whole (fu : Nat) : S := sRet (mAndV (mIsi "int" (mVar 0)) (mNotV (mIsi "bool" (mVar 0))))
def f_p_is_whole (fu : Nat) : List MI.D → R MI.D := run 1 1 (s_p_is_whole fu)
/- p_divisor: 0 one, 1 other -/
def b_p_divisor_1 (fu : Nat) : S := sPar 0 1 (mCons (mVar 1) (mCons (mBin fMod (mVar 0) (mVar 1)) (mNil)))
def s_p_divisor (fu : Nat) : S := sSeq (loopW (mTru (mBin fNe (mVar 1) (mC (.int 0)))) (b_p_divisor_1 fu) fu) (sRet (mDs fAbs (mCons (mVar 0) (mNil))))
def f_p_divisor (fu : Nat) : List MI.D → R MI.D := run 2 2 (s_p_divisor fu)
/- p_lowest: 0 top, 1 bottom, 2 by -/
def s_p_lowest (fu : Nat) : S := sSeq (sSet 2 (mCall 2 (Pg.f_p_divisor fu) [] (mCons (mVar 0) (mCons (mVar 1) (mNil))))) (sSeq (sIf (mTru (mBin fLt (mVar 1) (mC (.int 0)))) (sSet 2 (mBin fSub (mC (.int 0)) (mVar 2))) (sNop)) (sRet (mDs dTup (mCons (mBin fFdv (mVar 0) (mVar 2)) (mCons (mBin fFdv (mVar 1) (mVar 2)) (mNil))))))
def f_p_lowest (fu : Nat) : List MI.D → R MI.D := run 2 3 (s_p_lowest fu)
/- p_number: 0 top, 1 bottom -/
def s_p_number (fu : Nat) : S := sSeq (sIf (mOrT (mNot (mTru (mCall 1 (Pg.f_p_is_whole fu) [] (mCons (mVar 0) (mNil))))) (mOrT (mNot (mTru (mCall 1 (Pg.f_p_is_whole fu) [] (mCons (mVar 1) (mNil))))) (mTru (mBin fEq (mVar 1) (mC (.int 0)))))) (sRaise "NoNumber") (sNop)) (sRet (mCall 2 (Pg.f_p_lowest fu) [] (mCons (mVar 0) (mCons (mVar 1) (mNil)))))
def f_p_number (fu : Nat) : List MI.D → R MI.D := run 2 2 (s_p_number fu)
/- law_cell_at: 0 _law_script, 1 _law_k -/
def s_law_cell_at (fu : Nat) : S := sSeq (sIf (mTru (mBin fLt (mVar 1) (mDs fLen (mCons (mVar 0) (mNil))))) (sRet (mBin fIx (mVar 0) (mVar 1))) (sNop)) (sRet (mC (.int 0)))
def f_law_cell_at (fu : Nat) : List MI.D → R MI.D := run 2 2 (s_law_cell_at fu)
/- law_signed: 0 _law_cell, 1 _law_most, 2 _law_size -/
def s_law_signed (fu : Nat) : S := sSeq (sSet 2 (mBin fMod (mBin fFdv (mVar 0) (mC (.int 2))) (mVar 1))) (sSeq (sIf (mTru (mBin fEq (mBin fMod (mVar 0) (mC (.int 2))) (mC (.int 1)))) (sRet (mBin fSub (mC (.int 0)) (mVar 2))) (sNop)) (sRet (mVar 2)))
def f_law_signed (fu : Nat) : List MI.D → R MI.D := run 2 3 (s_law_signed fu)
/- p_plus: 0 one, 1 other -/
def s_p_plus (fu : Nat) : S := sRet (mCall 2 (Pg.f_p_lowest fu) [] (mCons (mBin fAddL (mBin fMul (mBin fIx (mVar 0) (mC (.int 0))) (mBin fIx (mVar 1) (mC (.int 1)))) (mBin fMul (mBin fIx (mVar 1) (mC (.int 0))) (mBin fIx (mVar 0) (mC (.int 1))))) (mCons (mBin fMul (mBin fIx (mVar 0) (mC (.int 1))) (mBin fIx (mVar 1) (mC (.int 1)))) (mNil))))
def f_p_plus (fu : Nat) : List MI.D → R MI.D := run 2 2 (s_p_plus fu)
/- p_minus: 0 one, 1 other -/
def s_p_minus (fu : Nat) : S := sRet (mCall 2 (Pg.f_p_lowest fu) [] (mCons (mBin fSub (mBin fMul (mBin fIx (mVar 0) (mC (.int 0))) (mBin fIx (mVar 1) (mC (.int 1)))) (mBin fMul (mBin fIx (mVar 1) (mC (.int 0))) (mBin fIx (mVar 0) (mC (.int 1))))) (mCons (mBin fMul (mBin fIx (mVar 0) (mC (.int 1))) (mBin fIx (mVar 1) (mC (.int 1)))) (mNil))))
def f_p_minus (fu : Nat) : List MI.D → R MI.D := run 2 2 (s_p_minus fu)
/- p_times: 0 one, 1 other -/
def s_p_times (fu : Nat) : S := sRet (mCall 2 (Pg.f_p_lowest fu) [] (mCons (mBin fMul (mBin fIx (mVar 0) (mC (.int 0))) (mBin fIx (mVar 1) (mC (.int 0)))) (mCons (mBin fMul (mBin fIx (mVar 0) (mC (.int 1))) (mBin fIx (mVar 1) (mC (.int 1)))) (mNil))))
def f_p_times (fu : Nat) : List MI.D → R MI.D := run 2 2 (s_p_times fu)
/- p_over: 0 one, 1 other -/
def s_p_over (fu : Nat) : S := sSeq (sIf (mTru (mBin fEq (mBin fIx (mVar 1) (mC (.int 0))) (mC (.int 0)))) (sRaise "NoNumber") (sNop)) (sRet (mCall 2 (Pg.f_p_lowest fu) [] (mCons (mBin fMul (mBin fIx (mVar 0) (mC (.int 0))) (mBin fIx (mVar 1) (mC (.int 1)))) (mCons (mBin fMul (mBin fIx (mVar 0) (mC (.int 1))) (mBin fIx (mVar 1) (mC (.int 0)))) (mNil)))))
def f_p_over (fu : Nat) : List MI.D → R MI.D := run 2 2 (s_p_over fu)
/- p_under: 0 one, 1 other -/
def s_p_under (fu : Nat) : S := sRet (mBin fLt (mBin fMul (mBin fIx (mVar 0) (mC (.int 0))) (mBin fIx (mVar 1) (mC (.int 1)))) (mBin fMul (mBin fIx (mVar 1) (mC (.int 0))) (mBin fIx (mVar 0) (mC (.int 1)))))
def f_p_under (fu : Nat) : List MI.D → R MI.D := run 2 2 (s_p_under fu)
/- law_number: 0 _law_above, 1 _law_below, 2 _law_top, 3 _law_bottom, 4 _law_share -/
def s_law_number (fu : Nat) : S := sSeq (sSet 2 (mBin fMod (mBin fFdv (mVar 0) (mC (.int 2))) (mBin fPow (mC (.int 10)) (mC (.int 60))))) (sSeq (sIf (mTru (mBin fEq (mBin fMod (mVar 0) (mC (.int 2))) (mC (.int 1)))) (sSet 2 (mBin fSub (mC (.int 0)) (mVar 2))) (sNop)) (sSeq (sSet 3 (mBin fAddL (mC (.int 1)) (mBin fMod (mVar 1) (mBin fSub (mBin fPow (mC (.int 10)) (mC (.int 60))) (mC (.int 1)))))) (sSeq (sSet 4 (mCall 2 (Pg.f_p_divisor fu) [] (mCons (mVar 2) (mCons (mVar 3) (mNil))))) (sRet (mDs dTup (mCons (mBin fFdv (mVar 2) (mVar 4)) (mCons (mBin fFdv (mVar 3) (mVar 4)) (mNil))))))))
def f_law_number (fu : Nat) : List MI.D → R MI.D := run 2 5 (s_law_number fu)
/- law_made: 0 _law_found, 1 _law_top, 2 _law_bottom -/
def s_law_made (fu : Nat) : S := sSeq (sIf (mOrT (mNot (mTru (mIsi "tuple" (mVar 0)))) (mTru (mBin fNe (mDs fLen (mCons (mVar 0) (mNil))) (mC (.int 2))))) (sRet (mC (.bool false))) (sNop)) (sSeq (sIf (mOrT (mNot (mTru (mCall 1 (Pg.f_p_is_whole fu) [] (mCons (mBin fIx (mVar 0) (mC (.int 0))) (mNil))))) (mOrT (mNot (mTru (mCall 1 (Pg.f_p_is_whole fu) [] (mCons (mBin fIx (mVar 0) (mC (.int 1))) (mNil))))) (mTru (mBin fLt (mBin fIx (mVar 0) (mC (.int 1))) (mC (.int 1)))))) (sRet (mC (.bool false))) (sNop)) (sRet (mAndV (mBin fEq (mCall 2 (Pg.f_p_divisor fu) [] (mCons (mBin fIx (mVar 0) (mC (.int 0))) (mCons (mBin fIx (mVar 0) (mC (.int 1))) (mNil)))) (mC (.int 1))) (mBin fEq (mBin fMul (mBin fIx (mVar 0) (mC (.int 0))) (mVar 2)) (mBin fMul (mVar 1) (mBin fIx (mVar 0) (mC (.int 1))))))))
def f_law_made (fu : Nat) : List MI.D → R MI.D := run 3 3 (s_law_made fu)
/- law_under: 0 _law_one, 1 _law_other, 2 _law_found -/
def s_law_under (fu : Nat) : S := sSeq (sSet 2 (mCall 2 (Pg.f_p_under fu) [] (mCons (mVar 0) (mCons (mVar 1) (mNil))))) (sRet (mAndV (mIsi "bool" (mVar 2)) (mBin fEq (mVar 2) (mBin fLt (mBin fMul (mBin fIx (mVar 0) (mC (.int 0))) (mBin fIx (mVar 1) (mC (.int 1)))) (mBin fMul (mBin fIx (mVar 1) (mC (.int 0))) (mBin fIx (mVar 0) (mC (.int 1))))))))
def f_law_under (fu : Nat) : List MI.D → R MI.D := run 2 3 (s_law_under fu)
/- law_over: 0 _law_one, 1 _law_other, 2 _law_found, 3 _law_refused -/
def s_law_over (fu : Nat) : S := sSeq (sSet 2 (mC .none)) (sSeq (sSet 3 (mC (.bool false))) (sSeq (sTry (subT [("NoNumber", true)]) (sSet 2 (mCall 2 (Pg.f_p_over fu) [] (mCons (mVar 0) (mCons (mVar 1) (mNil))))) (sSet 3 (mC (.bool true)))) (sSeq (sIf (mTru (mBin fEq (mBin fIx (mVar 1) (mC (.int 0))) (mC (.int 0)))) (sRet (mVar 3)) (sNop)) (sRet (mAndV (mNotV (mVar 3)) (mCall 3 (Pg.f_law_made fu) [] (mCons (mVar 2) (mCons (mBin fMul (mBin fIx (mVar 0) (mC (.int 0))) (mBin fIx (mVar 1) (mC (.int 1)))) (mCons (mBin fMul (mBin fIx (mVar 0) (mC (.int 1))) (mBin fIx (mVar 1) (mC (.int 0)))) (mNil))))))))))
def f_law_over (fu : Nat) : List MI.D → R MI.D := run 2 4 (s_law_over fu)
/- p_floor_of: 0 one -/
def s_p_floor_of (fu : Nat) : S := sRet (mBin fFdv (mBin fIx (mVar 0) (mC (.int 0))) (mBin fIx (mVar 0) (mC (.int 1))))
def f_p_floor_of (fu : Nat) : List MI.D → R MI.D := run 1 1 (s_p_floor_of fu)
/- p_rounded: 0 one -/
def s_p_rounded (fu : Nat) : S := sRet (mBin fFdv (mBin fAddL (mBin fMul (mC (.int 2)) (mBin fIx (mVar 0) (mC (.int 0)))) (mBin fIx (mVar 0) (mC (.int 1)))) (mBin fMul (mC (.int 2)) (mBin fIx (mVar 0) (mC (.int 1)))))
def f_p_rounded (fu : Nat) : List MI.D → R MI.D := run 1 1 (s_p_rounded fu)
/- p_is_leap: 0 year -/
def s_p_is_leap (fu : Nat) : S := sSeq (sIf (mTru (mBin fEq (mBin fMod (mVar 0) (mC (.int 400))) (mC (.int 0)))) (sRet (mC (.bool true))) (sNop)) (sRet (mAndV (mBin fEq (mBin fMod (mVar 0) (mC (.int 4))) (mC (.int 0))) (mBin fNe (mBin fMod (mVar 0) (mC (.int 100))) (mC (.int 0)))))
def f_p_is_leap (fu : Nat) : List MI.D → R MI.D := run 1 1 (s_p_is_leap fu)
/- p_length_of: 0 year, 1 month -/
def s_p_length_of (fu : Nat) : S := sSeq (sIf (mTru (mBin fEq (mVar 1) (mC (.int 2)))) (sRet (mBin fAddL (mC (.int 28)) (mDs fIntT (mCons (mCall 1 (Pg.f_p_is_leap fu) [] (mCons (mVar 0) (mNil))) (mNil))))) (sNop)) (sSeq (sIf (mOrT (mTru (mBin fEq (mVar 1) (mC (.int 4)))) (mOrT (mTru (mBin fEq (mVar 1) (mC (.int 6)))) (mOrT (mTru (mBin fEq (mVar 1) (mC (.int 9)))) (mTru (mBin fEq (mVar 1) (mC (.int 11))))))) (sRet (mC (.int 30))) (sNop)) (sRet (mC (.int 31))))
def f_p_length_of (fu : Nat) : List MI.D → R MI.D := run 2 2 (s_p_length_of fu)
/- p_ahead_of: 0 year, 1 gone -/
def s_p_ahead_of (fu : Nat) : S := sSeq (sSet 1 (mBin fSub (mVar 0) (mC (.int 1)))) (sRet (mBin fAddL (mBin fSub (mBin fAddL (mBin fMul (mC (.int 365)) (mVar 1)) (mBin fFdv (mVar 1) (mC (.int 4)))) (mBin fFdv (mVar 1) (mC (.int 100)))) (mBin fFdv (mVar 1) (mC (.int 400)))))
def f_p_ahead_of (fu : Nat) : List MI.D → R MI.D := run 1 2 (s_p_ahead_of fu)
/- p_day_of: 0 year, 1 month, 2 day, 3 found, 4 k -/
def b_p_day_of_1 (fu : Nat) : S := sSet 3 (mBin fAddL (mVar 3) (mCall 2 (Pg.f_p_length_of fu) [] (mCons (mVar 0) (mCons (mVar 4) (mNil)))))
def s_p_day_of (fu : Nat) : S := sSeq (sIf (mOrT (mNot (mTru (mCall 1 (Pg.f_p_is_whole fu) [] (mCons (mVar 0) (mNil))))) (mOrT (mNot (mTru (mCall 1 (Pg.f_p_is_whole fu) [] (mCons (mVar 1) (mNil))))) (mNot (mTru (mCall 1 (Pg.f_p_is_whole fu) [] (mCons (mVar 2) (mNil))))))) (sRaise "NoDay") (sNop)) (sSeq (sIf (mOrT (mTru (mBin fLt (mVar 0) (mC (.int 1)))) (mOrT (mTru (mBin fGt (mVar 0) (mC (.int 9999)))) (mOrT (mTru (mBin fLt (mVar 1) (mC (.int 1)))) (mTru (mBin fGt (mVar 1) (mC (.int 12))))))) (sRaise "NoDay") (sNop)) (sSeq (sIf (mOrT (mTru (mBin fLt (mVar 2) (mC (.int 1)))) (mTru (mBin fGt (mVar 2) (mCall 2 (Pg.f_p_length_of fu) [] (mCons (mVar 0) (mCons (mVar 1) (mNil))))))) (sRaise "NoDay") (sNop)) (sSeq (sSet 3 (mBin fSub (mBin fAddL (mCall 1 (Pg.f_p_ahead_of fu) [] (mCons (mVar 0) (mNil))) (mVar 2)) (mC (.int 1)))) (sSeq (sFor (mRng rng2 (mCons (mC (.int 1)) (mCons (mVar 1) (mNil)))) (gN 4) (b_p_day_of_1 fu)) (sRet (mVar 3))))))
def f_p_day_of (fu : Nat) : List MI.D → R MI.D := run 3 5 (s_p_day_of fu)
/- law_mixed: 0 _law_cell -/
def s_law_mixed (fu : Nat) : S := sSeq (sIf (mTru (mBin fGe (mVar 0) (mBin fPow (mC (.int 10)) (mC (.int 18))))) (sRet (mVar 0)) (sNop)) (sRet (mBin fMod (mBin fAddL (mBin fMul (mBin fMod (mVar 0) (mC (.int 2147483647))) (mC (.int 48271))) (mC (.int 11))) (mC (.int 2147483647))))
def f_law_mixed (fu : Nat) : List MI.D → R MI.D := run 1 1 (s_law_mixed fu)
/- law_leap: 0 _law_year -/
def s_law_leap (fu : Nat) : S := sRet (mAndV (mBin fEq (mBin fMod (mVar 0) (mC (.int 4))) (mC (.int 0))) (mOrV (mBin fNe (mBin fMod (mVar 0) (mC (.int 100))) (mC (.int 0))) (mBin fEq (mBin fMod (mVar 0) (mC (.int 400))) (mC (.int 0)))))
def f_law_leap (fu : Nat) : List MI.D → R MI.D := run 1 1 (s_law_leap fu)
/- law_long: 0 _law_year, 1 _law_month -/
def s_law_long (fu : Nat) : S := sSeq (sIf (mTru (mBin fEq (mVar 1) (mC (.int 2)))) (sRet (mBin fAddL (mC (.int 28)) (mDs fIntT (mCons (mCall 1 (Pg.f_law_leap fu) [] (mCons (mVar 0) (mNil))) (mNil))))) (sNop)) (sRet (mBin fIx (mDs dLst (mCons (mC (.int 31)) (mCons (mC (.int 28)) (mCons (mC (.int 31)) (mCons (mC (.int 30)) (mCons (mC (.int 31)) (mCons (mC (.int 30)) (mCons (mC (.int 31)) (mCons (mC (.int 31)) (mCons (mC (.int 30)) (mCons (mC (.int 31)) (mCons (mC (.int 30)) (mCons (mC (.int 31)) (mNil)))))))))))))) (mBin fSub (mVar 1) (mC (.int 1)))))
def f_law_long (fu : Nat) : List MI.D → R MI.D := run 2 2 (s_law_long fu)
/- law_count: 0 _law_year, 1 _law_month, 2 _law_day, 3 _law_gone, 4 _law_found, 5 _law_k -/
def s_law_count (fu : Nat) : S := sSeq (sSet 3 (mBin fSub (mVar 0) (mC (.int 1)))) (sSeq (sSet 4 (mBin fAddL (mBin fSub (mBin fAddL (mBin fMul (mC (.int 365)) (mVar 3)) (mBin fFdv (mVar 3) (mC (.int 4)))) (mBin fFdv (mVar 3) (mC (.int 100)))) (mBin fFdv (mVar 3) (mC (.int 400))))) (sRet (mBin fSub (mBin fAddL (mBin fAddL (mVar 4) (mDs fSum (mCons (mL (nLc (mRng rng2 (mCons (mC (.int 1)) (mCons (mVar 1) (mNil)))) [5] (vN 5) (mYes) (mCall 2 (Pg.f_law_long fu) [] (mCons (mVar 0) (mCons (mVar 5) (mNil)))))) (mNil)))) (mVar 2)) (mC (.int 1)))))
def f_law_count (fu : Nat) : List MI.D → R MI.D := run 3 6 (s_law_count fu)
/- p_parts_of: 0 day, 1 year, 2 left, 3 month -/
def b_p_parts_of_1 (fu : Nat) : S := sSet 1 (mBin fAddL (mVar 1) (mC (.int 1)))
def b_p_parts_of_2 (fu : Nat) : S := sSeq (sSet 2 (mBin fSub (mVar 2) (mCall 2 (Pg.f_p_length_of fu) [] (mCons (mVar 1) (mCons (mVar 3) (mNil)))))) (sSet 3 (mBin fAddL (mVar 3) (mC (.int 1))))
def s_p_parts_of (fu : Nat) : S := sSeq (sSet 1 (mBin fAddL (mBin fFdv (mVar 0) (mC (.int 366))) (mC (.int 1)))) (sSeq (loopW (mTru (mBin fLe (mCall 1 (Pg.f_p_ahead_of fu) [] (mCons (mBin fAddL (mVar 1) (mC (.int 1))) (mNil))) (mVar 0))) (b_p_parts_of_1 fu) fu) (sSeq (sSet 2 (mBin fSub (mVar 0) (mCall 1 (Pg.f_p_ahead_of fu) [] (mCons (mVar 1) (mNil))))) (sSeq (sSet 3 (mC (.int 1))) (sSeq (loopW (mTru (mBin fGe (mVar 2) (mCall 2 (Pg.f_p_length_of fu) [] (mCons (mVar 1) (mCons (mVar 3) (mNil)))))) (b_p_parts_of_2 fu) fu) (sRet (mDs dTup (mCons (mVar 1) (mCons (mVar 3) (mCons (mBin fAddL (mVar 2) (mC (.int 1))) (mNil))))))))))
def f_p_parts_of (fu : Nat) : List MI.D → R MI.D := run 1 4 (s_p_parts_of fu)
/- p_along_straight: 0 lo, 1 hi, 2 cell, 3 long -/
def s_p_along_straight (fu : Nat) : S := sSeq (sIf (mOrT (mTru (mCall 2 (Pg.f_p_under fu) [] (mCons (mVar 2) (mCons (mVar 0) (mNil))))) (mTru (mCall 2 (Pg.f_p_under fu) [] (mCons (mVar 1) (mCons (mVar 2) (mNil)))))) (sRet (mC .none)) (sNop)) (sRet (mCall 2 (Pg.f_p_over fu) [] (mCons (mCall 2 (Pg.f_p_times fu) [] (mCons (mCall 2 (Pg.f_p_minus fu) [] (mCons (mVar 2) (mCons (mVar 0) (mNil)))) (mCons (mDs dTup (mCons (mVar 3) (mCons (mC (.int 1)) (mNil)))) (mNil)))) (mCons (mCall 2 (Pg.f_p_minus fu) [] (mCons (mVar 1) (mCons (mVar 0) (mNil)))) (mNil)))))
def f_p_along_straight (fu : Nat) : List MI.D → R MI.D := run 4 4 (s_p_along_straight fu)
/- p_back_straight: 0 lo, 1 hi, 2 place, 3 long -/
def s_p_back_straight (fu : Nat) : S := sRet (mCall 2 (Pg.f_p_plus fu) [] (mCons (mVar 0) (mCons (mCall 2 (Pg.f_p_over fu) [] (mCons (mCall 2 (Pg.f_p_times fu) [] (mCons (mVar 2) (mCons (mCall 2 (Pg.f_p_minus fu) [] (mCons (mVar 1) (mCons (mVar 0) (mNil)))) (mNil)))) (mCons (mDs dTup (mCons (mVar 3) (mCons (mC (.int 1)) (mNil)))) (mNil)))) (mNil))))
def f_p_back_straight (fu : Nat) : List MI.D → R MI.D := run 4 4 (s_p_back_straight fu)
/- p_power_of: 0 base, 1 many, 2 found, 3 k -/
def b_p_power_of_1 (fu : Nat) : S := sSet 2 (mBin fMul (mVar 2) (mVar 0))
def s_p_power_of (fu : Nat) : S := sSeq (sSet 2 (mC (.int 1))) (sSeq (sFor (mRng rng1 (mCons (mVar 1) (mNil))) (gN 3) (b_p_power_of_1 fu)) (sRet (mVar 2)))
def f_p_power_of (fu : Nat) : List MI.D → R MI.D := run 2 4 (s_p_power_of fu)
/- p_along_turns: 0 scale, 1 cell, 2 name, 3 base, 4 low, 5 many, 6 length, 7 top, 8 bottom, 9 turn, 10 rest -/
def b_p_along_turns_1 (fu : Nat) : S := sSeq (sSet 8 (mBin fMul (mVar 8) (mVar 3))) (sSet 9 (mBin fAddL (mVar 9) (mC (.int 1))))
def s_p_along_turns (fu : Nat) : S := sSeq (sAsg (gT (gsCons (gN 2) (gsCons (gN 3) (gsCons (gN 4) (gsCons (gN 5) (gsCons (gN 6) (gsNil))))))) (mVar 0)) (sSeq (sIf (mTru (mBin fLe (mBin fIx (mVar 1) (mC (.int 0))) (mC (.int 0)))) (sRet (mC (.str "nought"))) (sNop)) (sSeq (sSet 7 (mBin fMul (mBin fIx (mVar 1) (mC (.int 0))) (mCall 2 (Pg.f_p_power_of fu) [] (mCons (mVar 3) (mCons (mBin fSub (mC (.int 0)) (mVar 4)) (mNil)))))) (sSeq (sSet 8 (mBin fMul (mBin fIx (mVar 1) (mC (.int 1))) (mCall 2 (Pg.f_p_power_of fu) [] (mCons (mVar 3) (mCons (mVar 4) (mNil)))))) (sSeq (sIf (mTru (mBin fLt (mVar 7) (mVar 8))) (sRet (mC (.str "outside"))) (sNop)) (sSeq (sSet 9 (mC (.int 0))) (sSeq (loopW (mAndT (mTru (mBin fLt (mVar 9) (mVar 5))) (mTru (mBin fLe (mBin fMul (mVar 8) (mVar 3)) (mVar 7)))) (b_p_along_turns_1 fu) fu) (sSeq (sIf (mTru (mBin fEq (mVar 9) (mVar 5))) (sSeq (sIf (mTru (mBin fGt (mVar 7) (mVar 8))) (sRet (mC (.str "outside"))) (sNop)) (sRet (mDs dTup (mCons (mVar 6) (mCons (mC (.int 1)) (mNil)))))) (sNop)) (sSeq (sSet 10 (mCall 2 (Pg.f_p_lowest fu) [] (mCons (mBin fSub (mVar 7) (mVar 8)) (mCons (mBin fMul (mVar 8) (mBin fSub (mVar 3) (mC (.int 1)))) (mNil))))) (sRet (mCall 2 (Pg.f_p_times fu) [] (mCons (mCall 2 (Pg.f_p_plus fu) [] (mCons (mDs dTup (mCons (mVar 9) (mCons (mC (.int 1)) (mNil)))) (mCons (mVar 10) (mNil)))) (mCons (mCall 2 (Pg.f_p_lowest fu) [] (mCons (mVar 6) (mCons (mVar 5) (mNil)))) (mNil)))))))))))))
def f_p_along_turns (fu : Nat) : List MI.D → R MI.D := run 2 11 (s_p_along_turns fu)
/- p_back_turns: 0 scale, 1 place, 2 name, 3 base, 4 low, 5 many, 6 length, 7 turns, 8 turn, 9 rest, 10 power -/
def s_p_back_turns (fu : Nat) : S := sSeq (sAsg (gT (gsCons (gN 2) (gsCons (gN 3) (gsCons (gN 4) (gsCons (gN 5) (gsCons (gN 6) (gsNil))))))) (mVar 0)) (sSeq (sSet 7 (mCall 2 (Pg.f_p_times fu) [] (mCons (mVar 1) (mCons (mCall 2 (Pg.f_p_lowest fu) [] (mCons (mVar 5) (mCons (mVar 6) (mNil)))) (mNil))))) (sSeq (sSet 8 (mBin fFdv (mBin fIx (mVar 7) (mC (.int 0))) (mBin fIx (mVar 7) (mC (.int 1))))) (sSeq (sSet 9 (mCall 2 (Pg.f_p_minus fu) [] (mCons (mVar 7) (mCons (mDs dTup (mCons (mVar 8) (mCons (mC (.int 1)) (mNil)))) (mNil))))) (sSeq (sSet 10 (mCall 2 (Pg.f_p_lowest fu) [] (mCons (mCall 2 (Pg.f_p_power_of fu) [] (mCons (mVar 3) (mCons (mBin fAddL (mVar 4) (mVar 8)) (mNil)))) (mCons (mCall 2 (Pg.f_p_power_of fu) [] (mCons (mVar 3) (mCons (mBin fSub (mBin fSub (mC (.int 0)) (mVar 4)) (mVar 8)) (mNil)))) (mNil))))) (sRet (mCall 2 (Pg.f_p_times fu) [] (mCons (mVar 10) (mCons (mCall 2 (Pg.f_p_plus fu) [] (mCons (mDs dTup (mCons (mC (.int 1)) (mCons (mC (.int 1)) (mNil)))) (mCons (mCall 2 (Pg.f_p_times fu) [] (mCons (mVar 9) (mCons (mDs dTup (mCons (mBin fSub (mVar 3) (mC (.int 1))) (mCons (mC (.int 1)) (mNil)))) (mNil)))) (mNil)))) (mNil)))))))))
def f_p_back_turns (fu : Nat) : List MI.D → R MI.D := run 2 11 (s_p_back_turns fu)
/- p_along_pieces: 0 pieces, 1 cell, 2 lo, 3 hi, 4 begin, 5 end, 6 found -/
def b_p_along_pieces_1 (fu : Nat) : S := sSeq (sSet 6 (mCall 4 (Pg.f_p_along_straight fu) [] (mCons (mVar 2) (mCons (mVar 3) (mCons (mVar 1) (mCons (mBin fSub (mVar 5) (mVar 4)) (mNil))))))) (sIf (mTru (mBin fIsN (mVar 6) (mC .none))) (sRet (mCall 2 (Pg.f_p_plus fu) [] (mCons (mDs dTup (mCons (mVar 4) (mCons (mC (.int 1)) (mNil)))) (mCons (mVar 6) (mNil))))) (sNop))
def s_p_along_pieces (fu : Nat) : S := sSeq (sIf (mOrT (mTru (mCall 2 (Pg.f_p_under fu) [] (mCons (mVar 1) (mCons (mBin fIx (mBin fIx (mVar 0) (mC (.int 0))) (mC (.int 0))) (mNil))))) (mTru (mCall 2 (Pg.f_p_under fu) [] (mCons (mBin fIx (mBin fIx (mVar 0) (mUn fNeg (mC (.int 1)))) (mC (.int 1))) (mCons (mVar 1) (mNil)))))) (sRet (mC (.str "outside"))) (sNop)) (sSeq (sFor (mItems (mVar 0)) (gT (gsCons (gN 2) (gsCons (gN 3) (gsCons (gN 4) (gsCons (gN 5) (gsNil)))))) (b_p_along_pieces_1 fu)) (sRet (mC (.str "gap"))))
def f_p_along_pieces (fu : Nat) : List MI.D → R MI.D := run 2 7 (s_p_along_pieces fu)
/- p_back_pieces: 0 pieces, 1 place, 2 lo, 3 hi, 4 begin, 5 end -/
def b_p_back_pieces_1 (fu : Nat) : S := sIf (mAndT (mNot (mTru (mCall 2 (Pg.f_p_under fu) [] (mCons (mVar 1) (mCons (mDs dTup (mCons (mVar 4) (mCons (mC (.int 1)) (mNil)))) (mNil)))))) (mNot (mTru (mCall 2 (Pg.f_p_under fu) [] (mCons (mDs dTup (mCons (mVar 5) (mCons (mC (.int 1)) (mNil)))) (mCons (mVar 1) (mNil))))))) (sRet (mCall 4 (Pg.f_p_back_straight fu) [] (mCons (mVar 2) (mCons (mVar 3) (mCons (mCall 2 (Pg.f_p_minus fu) [] (mCons (mVar 1) (mCons (mDs dTup (mCons (mVar 4) (mCons (mC (.int 1)) (mNil)))) (mNil)))) (mCons (mBin fSub (mVar 5) (mVar 4)) (mNil))))))) (sNop)
def s_p_back_pieces (fu : Nat) : S := sSeq (sFor (mItems (mVar 0)) (gT (gsCons (gN 2) (gsCons (gN 3) (gsCons (gN 4) (gsCons (gN 5) (gsNil)))))) (b_p_back_pieces_1 fu)) (sRet (mC .none))
def f_p_back_pieces (fu : Nat) : List MI.D → R MI.D := run 2 6 (s_p_back_pieces fu)
/- p_stretch_on: 0 scale, 1 word, 2 words, 3 at -/
def s_p_stretch_on (fu : Nat) : S := sSeq (sSet 2 (mBin fIx (mVar 0) (mC (.int 1)))) (sSeq (sSet 3 (mMt "list" fIndex (mVar 2) (mCons (mVar 1) (mNil)))) (sRet (mDs dTup (mCons (mCall 2 (Pg.f_p_lowest fu) [] (mCons (mBin fMul (mVar 3) (mBin fIx (mVar 0) (mC (.int 2)))) (mCons (mDs fLen (mCons (mVar 2) (mNil))) (mNil)))) (mCons (mCall 2 (Pg.f_p_lowest fu) [] (mCons (mBin fMul (mBin fAddL (mVar 3) (mC (.int 1))) (mBin fIx (mVar 0) (mC (.int 2)))) (mCons (mDs fLen (mCons (mVar 2) (mNil))) (mNil)))) (mNil))))))
def f_p_stretch_on (fu : Nat) : List MI.D → R MI.D := run 2 4 (s_p_stretch_on fu)
/- p_amid: 0 stretch -/
def s_p_amid (fu : Nat) : S := sRet (mCall 2 (Pg.f_p_times fu) [] (mCons (mCall 2 (Pg.f_p_plus fu) [] (mCons (mBin fIx (mVar 0) (mC (.int 0))) (mCons (mBin fIx (mVar 0) (mC (.int 1))) (mNil)))) (mCons (mDs dTup (mCons (mC (.int 1)) (mCons (mC (.int 2)) (mNil)))) (mNil))))
def f_p_amid (fu : Nat) : List MI.D → R MI.D := run 1 1 (s_p_amid fu)
/- p_along_order: 0 scale, 1 cell -/
def s_p_along_order (fu : Nat) : S := sSeq (sIf (mTru (mBin (fIn true) (mVar 1) (mBin fIx (mVar 0) (mC (.int 1))))) (sRet (mC (.str "unknown"))) (sNop)) (sRet (mCall 1 (Pg.f_p_amid fu) [] (mCons (mCall 2 (Pg.f_p_stretch_on fu) [] (mCons (mVar 0) (mCons (mVar 1) (mNil)))) (mNil))))
def f_p_along_order (fu : Nat) : List MI.D → R MI.D := run 2 2 (s_p_along_order fu)
/- p_place_on: 0 scale, 1 cell, 2 found -/
def s_p_place_on (fu : Nat) : S := sSeq (sIf (mTru (mBin fIs (mVar 1) (mC .none))) (sRet (mC (.str "nothing"))) (sNop)) (sSeq (sIf (mTru (mBin fEq (mBin fIx (mVar 0) (mC (.int 0))) (mC (.str "turns")))) (sRet (mCall 2 (Pg.f_p_along_turns fu) [] (mCons (mVar 0) (mCons (mVar 1) (mNil))))) (sNop)) (sSeq (sIf (mTru (mBin fEq (mBin fIx (mVar 0) (mC (.int 0))) (mC (.str "broken")))) (sRet (mCall 2 (Pg.f_p_along_pieces fu) [] (mCons (mBin fIx (mVar 0) (mC (.int 1))) (mCons (mVar 1) (mNil))))) (sNop)) (sSeq (sIf (mTru (mBin fEq (mBin fIx (mVar 0) (mC (.int 0))) (mC (.str "order")))) (sRet (mCall 2 (Pg.f_p_along_order fu) [] (mCons (mVar 0) (mCons (mVar 1) (mNil))))) (sNop)) (sSeq (sIf (mTru (mBin fEq (mBin fIx (mVar 0) (mC (.int 0))) (mC (.str "days")))) (sSet 2 (mCall 4 (Pg.f_p_along_straight fu) [] (mCons (mDs dTup (mCons (mBin fIx (mVar 0) (mC (.int 1))) (mCons (mC (.int 1)) (mNil)))) (mCons (mDs dTup (mCons (mBin fIx (mVar 0) (mC (.int 2))) (mCons (mC (.int 1)) (mNil)))) (mCons (mDs dTup (mCons (mVar 1) (mCons (mC (.int 1)) (mNil)))) (mCons (mBin fIx (mVar 0) (mC (.int 3))) (mNil))))))) (sSet 2 (mCall 4 (Pg.f_p_along_straight fu) [] (mCons (mBin fIx (mVar 0) (mC (.int 1))) (mCons (mBin fIx (mVar 0) (mC (.int 2))) (mCons (mVar 1) (mCons (mBin fIx (mVar 0) (mC (.int 3))) (mNil)))))))) (sSeq (sIf (mTru (mBin fIs (mVar 2) (mC .none))) (sRet (mC (.str "outside"))) (sNop)) (sRet (mVar 2)))))))
def f_p_place_on (fu : Nat) : List MI.D → R MI.D := run 2 3 (s_p_place_on fu)
/- p_read_on: 0 scale, 1 place -/
def s_p_read_on (fu : Nat) : S := sSeq (sIf (mTru (mBin fEq (mBin fIx (mVar 0) (mC (.int 0))) (mC (.str "turns")))) (sRet (mCall 2 (Pg.f_p_back_turns fu) [] (mCons (mVar 0) (mCons (mVar 1) (mNil))))) (sNop)) (sSeq (sIf (mTru (mBin fEq (mBin fIx (mVar 0) (mC (.int 0))) (mC (.str "broken")))) (sRet (mCall 2 (Pg.f_p_back_pieces fu) [] (mCons (mBin fIx (mVar 0) (mC (.int 1))) (mCons (mVar 1) (mNil))))) (sNop)) (sSeq (sIf (mTru (mBin fEq (mBin fIx (mVar 0) (mC (.int 0))) (mC (.str "order")))) (sRet (mC .none)) (sNop)) (sSeq (sIf (mTru (mBin fEq (mBin fIx (mVar 0) (mC (.int 0))) (mC (.str "days")))) (sRet (mCall 4 (Pg.f_p_back_straight fu) [] (mCons (mDs dTup (mCons (mBin fIx (mVar 0) (mC (.int 1))) (mCons (mC (.int 1)) (mNil)))) (mCons (mDs dTup (mCons (mBin fIx (mVar 0) (mC (.int 2))) (mCons (mC (.int 1)) (mNil)))) (mCons (mVar 1) (mCons (mBin fIx (mVar 0) (mC (.int 3))) (mNil))))))) (sNop)) (sRet (mCall 4 (Pg.f_p_back_straight fu) [] (mCons (mBin fIx (mVar 0) (mC (.int 1))) (mCons (mBin fIx (mVar 0) (mC (.int 2))) (mCons (mVar 1) (mCons (mBin fIx (mVar 0) (mC (.int 3))) (mNil))))))))))
def f_p_read_on (fu : Nat) : List MI.D → R MI.D := run 2 2 (s_p_read_on fu)
/- law_lowest: 0 _law_top, 1 _law_bottom, 2 _law_share -/
def s_law_lowest (fu : Nat) : S := sSeq (sSet 2 (mCall 2 (Pg.f_p_divisor fu) [] (mCons (mVar 0) (mCons (mVar 1) (mNil))))) (sRet (mDs dTup (mCons (mBin fFdv (mVar 0) (mVar 2)) (mCons (mBin fFdv (mVar 1) (mVar 2)) (mNil)))))
def f_law_lowest (fu : Nat) : List MI.D → R MI.D := run 2 3 (s_law_lowest fu)
/- law_is_number: 0 _law_thing, 1 _law_part -/
def b_law_is_number_1 (fu : Nat) : S := sIf (mOrT (mNot (mTru (mIsi "int" (mVar 1)))) (mTru (mIsi "bool" (mVar 1)))) (sRet (mC (.bool false))) (sNop)
def s_law_is_number (fu : Nat) : S := sSeq (sIf (mOrT (mNot (mTru (mIsi "tuple" (mVar 0)))) (mTru (mBin fNe (mDs fLen (mCons (mVar 0) (mNil))) (mC (.int 2))))) (sRet (mC (.bool false))) (sNop)) (sSeq (sFor (mItems (mVar 0)) (gN 1) (b_law_is_number_1 fu)) (sRet (mAndV (mBin fGt (mBin fIx (mVar 0) (mC (.int 1))) (mC (.int 0))) (mBin fEq (mCall 2 (Pg.f_p_divisor fu) [] (mCons (mBin fIx (mVar 0) (mC (.int 0))) (mCons (mBin fIx (mVar 0) (mC (.int 1))) (mNil)))) (mC (.int 1))))))
def f_law_is_number (fu : Nat) : List MI.D → R MI.D := run 1 2 (s_law_is_number fu)
/- law_ends: 0 _law_script, 1 _law_many, 2 _law_top, 3 _law_ends_here, 4 _law_k, 5 _law_cell_here, 6 _law_step -/
def b_law_ends_1 (fu : Nat) : S := sSeq (sSet 5 (mCall 2 (Pg.f_law_cell_at fu) [] (mCons (mVar 0) (mCons (mBin fAddL (mC (.int 2)) (mVar 4)) (mNil))))) (sSeq (sSet 6 (mBin fAddL (mC (.int 1)) (mBin fMod (mVar 5) (mC (.int 60))))) (sSeq (sIf (mTru (mBin fGe (mVar 5) (mBin fPow (mC (.int 10)) (mC (.int 18))))) (sSet 6 (mBin fAddL (mC (.int 1)) (mBin fMod (mVar 5) (mBin fPow (mC (.int 10)) (mC (.int 29)))))) (sNop)) (sAppF 3 (mBin fAddL (mBin fIx (mVar 3) (mUn fNeg (mC (.int 1)))) (mVar 6)))))
def s_law_ends (fu : Nat) : S := sSeq (sSet 2 (mBin fMod (mBin fFdv (mCall 2 (Pg.f_law_cell_at fu) [] (mCons (mVar 0) (mCons (mC (.int 1)) (mNil)))) (mC (.int 2))) (mBin fPow (mC (.int 10)) (mC (.int 24))))) (sSeq (sIf (mTru (mBin fEq (mBin fMod (mCall 2 (Pg.f_law_cell_at fu) [] (mCons (mVar 0) (mCons (mC (.int 1)) (mNil)))) (mC (.int 2))) (mC (.int 1)))) (sSet 2 (mBin fSub (mC (.int 0)) (mVar 2))) (sNop)) (sSeq (sOwn 3 (nLst (mCons (mVar 2) (mNil)))) (sSeq (sFor (mRng rng1 (mCons (mVar 1) (mNil))) (gN 4) (b_law_ends_1 fu)) (sFz (sRet (mVar 3))))))
def f_law_ends (fu : Nat) : List MI.D → R MI.D := run 2 7 (s_law_ends fu)
/- law_pieces: 0 _law_ends_here, 1 _law_bottom, 2 _law_cell_here, 3 _law_pieces_here, 4 _law_begin, 5 _law_k, 6 _law_end -/
def b_law_pieces_1 (fu : Nat) : S := sSeq (sSet 6 (mBin fAddL (mBin fAddL (mVar 4) (mC (.int 1))) (mBin fMod (mBin fMod (mBin fMul (mBin fAddL (mVar 2) (mVar 5)) (mBin fAddL (mVar 2) (mBin fMul (mC (.int 7919)) (mVar 5)))) (mC (.int 2147483629))) (mC (.int 500))))) (sSeq (sApp 3 (mDs dTup (mCons (mCall 2 (Pg.f_law_lowest fu) [] (mCons (mBin fIx (mVar 0) (mVar 5)) (mCons (mVar 1) (mNil)))) (mCons (mCall 2 (Pg.f_law_lowest fu) [] (mCons (mBin fIx (mVar 0) (mBin fAddL (mVar 5) (mC (.int 1)))) (mCons (mVar 1) (mNil)))) (mCons (mVar 4) (mCons (mVar 6) (mNil))))))) (sSet 4 (mBin fAddL (mBin fAddL (mVar 6) (mC (.int 1))) (mBin fMod (mBin fMod (mBin fMul (mBin fAddL (mVar 2) (mVar 5)) (mBin fAddL (mVar 2) (mBin fMul (mC (.int 104729)) (mVar 5)))) (mC (.int 2147483587))) (mC (.int 500))))))
def s_law_pieces (fu : Nat) : S := sSeq (sOwn 3 (nLst (mNil))) (sSeq (sSet 4 (mC (.int 0))) (sSeq (sFor (mRng rng3 (mCons (mC (.int 0)) (mCons (mDs fLen (mCons (mVar 0) (mNil))) (mCons (mC (.int 2)) (mNil))))) (gN 5) (b_law_pieces_1 fu)) (sFz (sRet (mVar 3)))))
def f_law_pieces (fu : Nat) : List MI.D → R MI.D := run 3 7 (s_law_pieces fu)
/- law_scale: 0 _law_script, 1 _law_ends_here, 2 _law_bottom, 3 _law_kind, 4 _law_cell_here, 5 _law_base, 6 _law_pieces_here, 7 _law_lo, 8 _law_hi -/
def s_law_scale (fu : Nat) : S := sSeq (sSet 3 (mBin fMod (mCall 2 (Pg.f_law_cell_at fu) [] (mCons (mVar 0) (mCons (mC (.int 0)) (mNil)))) (mC (.int 4)))) (sSeq (sSet 4 (mBin fFdv (mCall 1 (Pg.f_law_mixed fu) [] (mCons (mCall 2 (Pg.f_law_cell_at fu) [] (mCons (mVar 0) (mCons (mC (.int 0)) (mNil)))) (mNil))) (mC (.int 4)))) (sSeq (sIf (mTru (mBin fEq (mVar 3) (mC (.int 1)))) (sSeq (sSet 5 (mBin fIx (mDs dLst (mCons (mC (.int 2)) (mCons (mC (.int 10)) (mNil)))) (mBin fMod (mBin fFdv (mVar 4) (mC (.int 4000))) (mC (.int 2))))) (sRet (mDs dTup (mCons (mC (.str "turns")) (mCons (mVar 5) (mCons (mBin fSub (mBin fMod (mBin fFdv (mVar 4) (mC (.int 8000))) (mC (.int 31))) (mC (.int 15))) (mCons (mBin fAddL (mC (.int 1)) (mBin fMod (mBin fFdv (mVar 4) (mC (.int 248000))) (mC (.int 25)))) (mCons (mBin fAddL (mC (.int 1)) (mBin fMod (mVar 4) (mC (.int 4000)))) (mNil))))))))) (sNop)) (sSeq (sIf (mTru (mBin fEq (mVar 3) (mC (.int 2)))) (sSeq (sSet 6 (mCall 3 (Pg.f_law_pieces fu) [] (mCons (mVar 1) (mCons (mVar 2) (mCons (mVar 4) (mNil)))))) (sRet (mDs dTup (mCons (mC (.str "broken")) (mCons (mVar 6) (mCons (mBin fIx (mBin fIx (mVar 6) (mUn fNeg (mC (.int 1)))) (mC (.int 3))) (mNil))))))) (sNop)) (sSeq (sIf (mTru (mBin fEq (mVar 3) (mC (.int 3)))) (sSeq (sSet 7 (mBin fMod (mCall 2 (Pg.f_law_cell_at fu) [] (mCons (mVar 0) (mCons (mC (.int 1)) (mNil)))) (mC (.int 3652058)))) (sSeq (sSet 8 (mBin fAddL (mBin fAddL (mVar 7) (mC (.int 1))) (mBin fMod (mCall 2 (Pg.f_law_cell_at fu) [] (mCons (mVar 0) (mCons (mC (.int 2)) (mNil)))) (mBin fSub (mC (.int 3652058)) (mVar 7))))) (sRet (mDs dTup (mCons (mC (.str "days")) (mCons (mVar 7) (mCons (mVar 8) (mCons (mBin fAddL (mC (.int 1)) (mBin fMod (mVar 4) (mC (.int 4000)))) (mNil))))))))) (sNop)) (sRet (mDs dTup (mCons (mC (.str "straight")) (mCons (mCall 2 (Pg.f_law_lowest fu) [] (mCons (mBin fIx (mVar 1) (mC (.int 0))) (mCons (mVar 2) (mNil)))) (mCons (mCall 2 (Pg.f_law_lowest fu) [] (mCons (mBin fIx (mVar 1) (mC (.int 1))) (mCons (mVar 2) (mNil)))) (mCons (mBin fAddL (mC (.int 1)) (mBin fMod (mVar 4) (mC (.int 4000)))) (mNil)))))))))))
def f_law_scale (fu : Nat) : List MI.D → R MI.D := run 3 9 (s_law_scale fu)
/- law_turned: 0 _law_scale_here, 1 _law_cell_here, 2 _law_far, 3 _law_name, 4 _law_base, 5 _law_low, 6 _law_many, 7 _law_length, 8 _law_at, 9 _law_part -/
def s_law_turned (fu : Nat) : S := sSeq (sAsg (gT (gsCons (gN 3) (gsCons (gN 4) (gsCons (gN 5) (gsCons (gN 6) (gsCons (gN 7) (gsNil))))))) (mVar 0)) (sSeq (sSet 8 (mBin fAddL (mBin fSub (mVar 5) (mC (.int 1))) (mBin fMod (mBin fFdv (mVar 1) (mC (.int 4))) (mBin fAddL (mVar 6) (mC (.int 2)))))) (sSeq (sSet 9 (mBin fAddL (mC (.int 16)) (mBin fMod (mVar 2) (mBin fSub (mBin fMul (mC (.int 16)) (mVar 4)) (mC (.int 15)))))) (sSeq (sIf (mTru (mBin fEq (mBin fMod (mVar 1) (mC (.int 4))) (mC (.int 1)))) (sRet (mDs dTup (mCons (mBin fSub (mBin fMod (mBin fFdv (mVar 1) (mC (.int 4))) (mC (.int 5))) (mC (.int 3))) (mCons (mC (.int 1)) (mNil))))) (sNop)) (sRet (mCall 2 (Pg.f_law_lowest fu) [] (mCons (mBin fMul (mVar 9) (mCall 2 (Pg.f_p_power_of fu) [] (mCons (mVar 4) (mCons (mVar 8) (mNil))))) (mCons (mBin fMul (mC (.int 16)) (mCall 2 (Pg.f_p_power_of fu) [] (mCons (mVar 4) (mCons (mBin fSub (mC (.int 0)) (mVar 8)) (mNil))))) (mNil))))))))
def f_law_turned (fu : Nat) : List MI.D → R MI.D := run 3 10 (s_law_turned fu)
/- law_cell: 0 _law_scale_here, 1 _law_ends_here, 2 _law_bottom, 3 _law_cell_here, 4 _law_far, 5 _law_last, 6 _law_share, 7 _law_wide -/
def s_law_cell (fu : Nat) : S := sSeq (sSet 4 (mBin fMod (mBin fMul (mVar 3) (mC (.int 48271))) (mC (.int 2147483647)))) (sSeq (sIf (mTru (mBin fGe (mVar 3) (mBin fPow (mC (.int 10)) (mC (.int 18))))) (sSet 4 (mBin fFdv (mVar 3) (mC (.int 36)))) (sNop)) (sSeq (sIf (mTru (mBin fEq (mBin fIx (mVar 0) (mC (.int 0))) (mC (.str "turns")))) (sRet (mCall 3 (Pg.f_law_turned fu) [] (mCons (mVar 0) (mCons (mVar 3) (mCons (mVar 4) (mNil)))))) (sNop)) (sSeq (sIf (mTru (mBin fEq (mBin fIx (mVar 0) (mC (.int 0))) (mC (.str "days")))) (sSeq (sIf (mTru (mBin fEq (mBin fMod (mVar 3) (mC (.int 4))) (mC (.int 1)))) (sRet (mDs dTup (mCons (mBin fMod (mBin fFdv (mVar 3) (mC (.int 4))) (mC (.int 3652059))) (mCons (mC (.int 1)) (mNil))))) (sNop)) (sRet (mDs dTup (mCons (mBin fAddL (mBin fIx (mVar 0) (mC (.int 1))) (mBin fMod (mVar 4) (mBin fAddL (mBin fSub (mBin fIx (mVar 0) (mC (.int 2))) (mBin fIx (mVar 0) (mC (.int 1)))) (mC (.int 1))))) (mCons (mC (.int 1)) (mNil)))))) (sNop)) (sSeq (sSet 5 (mBin fIx (mVar 1) (mC (.int 1)))) (sSeq (sIf (mTru (mBin fEq (mBin fIx (mVar 0) (mC (.int 0))) (mC (.str "broken")))) (sSet 5 (mBin fIx (mVar 1) (mUn fNeg (mC (.int 1))))) (sNop)) (sSeq (sSet 6 (mBin fAddL (mC (.int 1)) (mBin fMod (mBin fFdv (mVar 3) (mC (.int 4))) (mC (.int 9))))) (sSeq (sSet 7 (mBin fMul (mBin fSub (mVar 5) (mBin fIx (mVar 1) (mC (.int 0)))) (mVar 6))) (sSeq (sIf (mTru (mBin fEq (mBin fMod (mVar 3) (mC (.int 4))) (mC (.int 1)))) (sRet (mCall 2 (Pg.f_law_lowest fu) [] (mCons (mBin fAddL (mBin fSub (mBin fMul (mBin fIx (mVar 1) (mC (.int 0))) (mVar 6)) (mVar 7)) (mBin fMod (mVar 4) (mBin fAddL (mBin fMul (mC (.int 3)) (mVar 7)) (mC (.int 1))))) (mCons (mBin fMul (mVar 2) (mVar 6)) (mNil))))) (sNop)) (sRet (mCall 2 (Pg.f_law_lowest fu) [] (mCons (mBin fAddL (mBin fMul (mBin fIx (mVar 1) (mC (.int 0))) (mVar 6)) (mBin fMod (mVar 4) (mBin fAddL (mVar 7) (mC (.int 1))))) (mCons (mBin fMul (mVar 2) (mVar 6)) (mNil)))))))))))))
def f_law_cell (fu : Nat) : List MI.D → R MI.D := run 4 8 (s_law_cell fu)
/- law_handed: 0 _law_scale_here, 1 _law_cell_here -/
def s_law_handed (fu : Nat) : S := sSeq (sIf (mTru (mBin fEq (mBin fIx (mVar 0) (mC (.int 0))) (mC (.str "days")))) (sRet (mBin fIx (mVar 1) (mC (.int 0)))) (sNop)) (sRet (mVar 1))
def f_law_handed (fu : Nat) : List MI.D → R MI.D := run 2 2 (s_law_handed fu)
end Pg
set_option Elab.async false
set_option linter.all false
set_option maxRecDepth 100000
set_option maxHeartbeats 4000000
namespace K24
open PySem MI
/- law_above: 0 _law_one, 1 _law_other -/
def s_law_above (fu : Nat) : S := sRet (mBin fGt (mBin fMul (mBin fIx (mVar 0) (mC (.int 0))) (mBin fIx (mVar 1) (mC (.int 1)))) (mBin fMul (mBin fIx (mVar 1) (mC (.int 0))) (mBin fIx (mVar 0) (mC (.int 1)))))
def f_law_above (fu : Nat) : List MI.D → R MI.D := run 2 2 (s_law_above fu)
/- law_edges: 0 _law_scale_here, 1 _law_along, 2 _law_edges_here, 3 _law_lo, 4 _law_hi, 5 _law_begin, 6 _law_end -/
def b_law_edges_1 (fu : Nat) : S := sIf (mAndT (mTru (mBin fLe (mVar 5) (mVar 1))) (mTru (mBin fLe (mVar 1) (mVar 6)))) (sSet 2 (mDs dLst (mCons (mVar 5) (mCons (mVar 6) (mNil))))) (sNop)
def s_law_edges (fu : Nat) : S := sSeq (sSet 2 (mDs dLst (mCons (mC (.int 0)) (mCons (mBin fIx (mVar 0) (mUn fNeg (mC (.int 1)))) (mNil))))) (sSeq (sIf (mTru (mBin fEq (mBin fIx (mVar 0) (mC (.int 0))) (mC (.str "broken")))) (sFor (mItems (mBin fIx (mVar 0) (mC (.int 1)))) (gT (gsCons (gN 3) (gsCons (gN 4) (gsCons (gN 5) (gsCons (gN 6) (gsNil)))))) (b_law_edges_1 fu)) (sNop)) (sRet (mDs dLst (mCons (mDs fMax (mCons (mBin fMul (mC (.int 2)) (mBin fIx (mVar 2) (mC (.int 0)))) (mCons (mBin fSub (mBin fMul (mC (.int 2)) (mVar 1)) (mC (.int 1))) (mNil)))) (mCons (mDs fMin (mCons (mBin fMul (mC (.int 2)) (mBin fIx (mVar 2) (mC (.int 1)))) (mCons (mBin fAddL (mBin fMul (mC (.int 2)) (mVar 1)) (mC (.int 1))) (mNil)))) (mNil))))))
def f_law_edges (fu : Nat) : List MI.D → R MI.D := run 2 7 (s_law_edges fu)
/- law_right: 0 _law_scale_here, 1 _law_one, 2 _law_told, 3 _law_along, 4 _law_edges_here, 5 _law_low, 6 _law_high, 7 _law_near -/
def s_law_right (fu : Nat) : S := sSeq (sIf (mOrT (mNot (mTru (mCall 1 (Pg.f_law_is_number fu) [] (mCons (mVar 2) (mNil))))) (mTru (mBin fNe (mCall 2 (Pg.f_p_read_on fu) [] (mCons (mVar 0) (mCons (mVar 2) (mNil)))) (mVar 1)))) (sRet (mC (.bool false))) (sNop)) (sSeq (sSet 3 (mBin fFdv (mBin fAddL (mBin fMul (mC (.int 2)) (mBin fIx (mVar 2) (mC (.int 0)))) (mBin fIx (mVar 2) (mC (.int 1)))) (mBin fMul (mC (.int 2)) (mBin fIx (mVar 2) (mC (.int 1)))))) (sSeq (sSet 4 (mCall 2 (f_law_edges fu) [] (mCons (mVar 0) (mCons (mVar 3) (mNil))))) (sSeq (sSet 5 (mCall 2 (Pg.f_p_read_on fu) [] (mCons (mVar 0) (mCons (mCall 2 (Pg.f_law_lowest fu) [] (mCons (mBin fIx (mVar 4) (mC (.int 0))) (mCons (mC (.int 2)) (mNil)))) (mNil))))) (sSeq (sSet 6 (mCall 2 (Pg.f_p_read_on fu) [] (mCons (mVar 0) (mCons (mCall 2 (Pg.f_law_lowest fu) [] (mCons (mBin fIx (mVar 4) (mC (.int 1))) (mCons (mC (.int 2)) (mNil)))) (mNil))))) (sSeq (sIf (mOrT (mNot (mTru (mCall 1 (Pg.f_law_is_number fu) [] (mCons (mVar 5) (mNil))))) (mNot (mTru (mCall 1 (Pg.f_law_is_number fu) [] (mCons (mVar 6) (mNil)))))) (sRet (mC (.bool false))) (sNop)) (sSeq (sIf (mOrT (mTru (mCall 2 (f_law_above fu) [] (mCons (mVar 5) (mCons (mVar 1) (mNil))))) (mTru (mCall 2 (f_law_above fu) [] (mCons (mVar 1) (mCons (mVar 6) (mNil)))))) (sRet (mC (.bool false))) (sNop)) (sSeq (sSet 7 (mCall 2 (Pg.f_p_read_on fu) [] (mCons (mVar 0) (mCons (mDs dTup (mCons (mVar 3) (mCons (mC (.int 1)) (mNil)))) (mNil))))) (sRet (mAndV (mCall 1 (Pg.f_law_is_number fu) [] (mCons (mVar 7) (mNil))) (mAndV (mNotV (mCall 2 (f_law_above fu) [] (mCons (mVar 5) (mCons (mVar 7) (mNil))))) (mNotV (mCall 2 (f_law_above fu) [] (mCons (mVar 7) (mCons (mVar 6) (mNil)))))))))))))))
def f_law_right (fu : Nat) : List MI.D → R MI.D := run 3 8 (s_law_right fu)
/- p_law: 0 _law_script, 1 _law_ends_here, 2 _law_bottom, 3 _law_scale_here, 4 _law_cell_here, 5 _law_one, 6 _law_told -/
def b_p_law_1 (fu : Nat) : S := sSeq (sSet 5 (mCall 4 (Pg.f_law_cell fu) [] (mCons (mVar 3) (mCons (mVar 1) (mCons (mVar 2) (mCons (mVar 4) (mNil))))))) (sSeq (sSet 6 (mCall 2 (Pg.f_p_place_on fu) [] (mCons (mVar 3) (mCons (mCall 2 (Pg.f_law_handed fu) [] (mCons (mVar 3) (mCons (mVar 5) (mNil)))) (mNil))))) (sIf (mAndT (mNot (mTru (mIsi "str" (mVar 6)))) (mNot (mTru (mCall 3 (f_law_right fu) [] (mCons (mVar 3) (mCons (mVar 5) (mCons (mVar 6) (mNil)))))))) (sRet (mC (.bool false))) (sNop)))
def s_p_law (fu : Nat) : S := sSeq (sSet 1 (mCall 2 (Pg.f_law_ends fu) [] (mCons (mVar 0) (mCons (mBin fAddL (mC (.int 3)) (mBin fMul (mC (.int 2)) (mBin fMod (mCall 2 (Pg.f_law_cell_at fu) [] (mCons (mVar 0) (mCons (mC (.int 1)) (mNil)))) (mC (.int 3))))) (mNil))))) (sSeq (sSet 2 (mBin fAddL (mC (.int 1)) (mBin fMod (mCall 2 (Pg.f_law_cell_at fu) [] (mCons (mVar 0) (mCons (mC (.int 9)) (mNil)))) (mC (.int 99991))))) (sSeq (sSet 3 (mCall 3 (Pg.f_law_scale fu) [] (mCons (mVar 0) (mCons (mVar 1) (mCons (mVar 2) (mNil)))))) (sSeq (sFor (mItems (mBin fAddL (mSl (mVar 0) (mPart (mC (.int 10))) (mPart (mC (.int 63)))) (mDs dLst (mCons (mC (.int 0)) (mNil))))) (gN 4) (b_p_law_1 fu)) (sRet (mC (.bool true))))))
def f_p_law (fu : Nat) : List MI.D → R MI.D := run 1 7 (s_p_law fu)
end K24
set_option Elab.async false
set_option linter.all false
set_option maxRecDepth 100000
set_option maxHeartbeats 4000000
/-! MI6: reckoning with what is told (plain Lean). -/
namespace MI
open PySem
/-! applied forms -/
@[simp] theorem to_ok {α : Type} (a : α) (g : Ce) (k : α → Out) : (R.ok a).to g k = k a := Eq.trans rfl rfl
@[simp] theorem to_exc {α : Type} (c : Str) (g : Ce) (k : α → Out) : (R.exc c none : R α).to g k = .ex c none g := Eq.trans rfl rfl
@[simp] theorem to_bad {α : Type} (g : Ce) (k : α → Out) : (R.bad : R α).to g k = .bad := Eq.trans rfl rfl
@[simp] theorem vd_cons (c : Cell) (g : Ce) : vd (c :: g) = c.vd :: vd g := Eq.trans rfl rfl
@[simp] theorem vd_nil : vd [] = [] := Eq.trans rfl rfl
@[simp] theorem va_cons (c : Cell) (g : Ce) : va (c :: g) = c.va :: va g := Eq.trans rfl rfl
@[simp] theorem va_nil : va [] = [] := Eq.trans rfl rfl
@[simp] theorem vd_dat (d : D) : (Cell.dat d).vd = some d := Eq.trans rfl rfl
@[simp] theorem vd_un : Cell.un.vd = none := Eq.trans rfl rfl
@[simp] theorem vd_own (ds : List D) : (Cell.own ds).vd = none := Eq.trans rfl rfl
@[simp] theorem va_dat (d : D) : (Cell.dat d).va = some d := Eq.trans rfl rfl
@[simp] theorem va_un : Cell.un.va = none := Eq.trans rfl rfl
@[simp] theorem va_own (ds : List D) : (Cell.own ds).va = some (.list ds) := Eq.trans rfl rfl
@[simp] theorem sNop_ap (g : Ce) : sNop g = .nx g := Eq.trans rfl rfl
@[simp] theorem sSeq_ap (a b : S) (g : Ce) : sSeq a b g = match a g with
  | .nx g' => b g'
  | o => o := Eq.trans rfl rfl
@[simp] theorem sIf_ap (t : Vw → R Bool) (a b : S) (g : Ce) : sIf t a b g = (t (va g)).to g fun k => if k = true then a g else b g := Eq.trans rfl rfl
@[simp] theorem sRet_ap (m : M) (g : Ce) : sRet m g = match m (va g) with
  | .ok d => .rt d
  | .exc c p => if flatO p = true then .ex c p g else .bad
  | .bad => .bad := Eq.trans rfl rfl
@[simp] theorem sRetN_ap (g : Ce) : sRetN g = .rt .none := Eq.trans rfl rfl
@[simp] theorem sBreak_ap (g : Ce) : sBreak g = .bk g := Eq.trans rfl rfl
@[simp] theorem sCont_ap (g : Ce) : sCont g = .ct g := Eq.trans rfl rfl
@[simp] theorem sExpr_ap (m : M) (g : Ce) : sExpr m g = (m (va g)).to g fun _ => .nx g := Eq.trans rfl rfl
@[simp] theorem sSet_ap (i : Nat) (m : M) (g : Ce) : sSet i m g = (m (vd g)).to g fun d => .nx (g.set i (.dat d)) := Eq.trans rfl rfl
@[simp] theorem sSetF_ap (i : Nat) (m : M) (g : Ce) : sSetF i m g = (m (va g)).to g fun d => if flat d = true then .nx (g.set i (.dat d)) else .bad := Eq.trans rfl rfl
@[simp] theorem sPar_ap (i j : Nat) (m : Vw → R (List D)) (g : Ce) : sPar i j m g = (m (vd g)).to g fun ds => match ds with
  | [x, y] => .nx ((g.set i (.dat x)).set j (.dat y))
  | _ => .bad := Eq.trans rfl rfl
@[simp] theorem sRaise_ap (c : Str) (g : Ce) : sRaise c g = .ex c none g := Eq.trans rfl rfl
@[simp] theorem sAsg_ap (t : Tg) (m : M) (g : Ce) : sAsg t m g = (m (vd g)).to g fun d => match t d g with
  | some g' => .nx g'
  | none => .bad := Eq.trans rfl rfl
@[simp] theorem sTry_ap (sub : Str → Option Bool) (b u : S) (g : Ce) : sTry sub b u g = match b g with
  | .ex c p g' => (match sub c with
    | some true => (match u g' with
      | .ex _ _ _ => .bad
      | o => o)
    | some false => .ex c p g'
    | none => .bad)
  | o => o := Eq.trans rfl rfl
theorem sForL_ap (m : M) (t : Tg) (b : S) (g : Ce) : sForL m t b g = (m (vd g)).to g fun d => match d with
  | .list ds => loopF t b ds g
  | .tuple ds => loopF t b ds g
  | _ => .bad := rfl
theorem sForR_ap (f : List D → Option (List D)) (m : Vw → R (List D)) (t : Tg) (b : S) (g : Ce) : sForR f m t b g = (m (vd g)).to g fun ds => match f ds with
  | some xs => loopF t b xs g
  | none => .bad := rfl
@[simp] theorem gN_ap (i : Nat) (d : D) (g : Ce) : gN i d g = some (g.set i (.dat d)) := Eq.trans rfl rfl
@[simp] theorem gT_ap (u : Tgs) (ds : List D) (g : Ce) : gT u (.tuple ds) g = u ds g := Eq.trans rfl rfl
@[simp] theorem gL_ap (u : Tgs) (ds : List D) (g : Ce) : gL u (.list ds) g = u ds g := Eq.trans rfl rfl
@[simp] theorem gX_l (u : Tgs) (ds : List D) (g : Ce) : gX u (.list ds) g = u ds g := Eq.trans rfl rfl
@[simp] theorem gX_t (u : Tgs) (ds : List D) (g : Ce) : gX u (.tuple ds) g = u ds g := Eq.trans rfl rfl
@[simp] theorem gsNil_ap (g : Ce) : gsNil [] g = some g := Eq.trans rfl rfl
@[simp] theorem gsCons_ap (t : Tg) (u : Tgs) (d : D) (r : List D) (g : Ce) : gsCons t u (d :: r) g = (t d g).bind (u r) := Eq.trans rfl rfl
@[simp] theorem mVar_ap (i : Nat) (δ : Vw) : mVar i δ = match δ[i]? with
  | some (some d) => .ok d
  | _ => .bad := Eq.trans rfl rfl
@[simp] theorem mC_ap (d : D) (δ : Vw) : mC d δ = .ok d := Eq.trans rfl rfl
@[simp] theorem mBin_ap (f : D → D → Option D) (a b : M) (δ : Vw) : mBin f a b δ = (a δ).bind fun x => (b δ).bind fun y => R.of (f x y) := Eq.trans rfl rfl
@[simp] theorem mUn_ap (f : D → Option D) (a : M) (δ : Vw) : mUn f a δ = (a δ).bind fun x => R.of (f x) := Eq.trans rfl rfl
@[simp] theorem mDs_ap (f : List D → Option D) (a : Vw → R (List D)) (δ : Vw) : mDs f a δ = (a δ).bind fun x => R.of (f x) := Eq.trans rfl rfl
@[simp] theorem mNil_ap (δ : Vw) : mNil δ = .ok [] := Eq.trans rfl rfl
@[simp] theorem mCons_ap (a : M) (r : Vw → R (List D)) (δ : Vw) : mCons a r δ = (a δ).bind fun x => (r δ).bind fun y => .ok (x :: y) := Eq.trans rfl rfl
@[simp] theorem mTru_ap (m : M) (δ : Vw) : mTru m δ = (m δ).bind fun d => R.of (truthD d) := Eq.trans rfl rfl
@[simp] theorem mNot_ap (t : Vw → R Bool) (δ : Vw) : mNot t δ = (t δ).bind fun b => .ok (!b) := Eq.trans rfl rfl
@[simp] theorem mAndT_ap (t u : Vw → R Bool) (δ : Vw) : mAndT t u δ = (t δ).bind fun b => if b = true then u δ else .ok false := Eq.trans rfl rfl
@[simp] theorem mOrT_ap (t u : Vw → R Bool) (δ : Vw) : mOrT t u δ = (t δ).bind fun b => if b = true then .ok true else u δ := Eq.trans rfl rfl
@[simp] theorem mAndV_ap (a b : M) (δ : Vw) : mAndV a b δ = (a δ).bind fun x => (R.of (truthD x)).bind fun k => if k = true then b δ else .ok x := Eq.trans rfl rfl
@[simp] theorem mOrV_ap (a b : M) (δ : Vw) : mOrV a b δ = (a δ).bind fun x => (R.of (truthD x)).bind fun k => if k = true then .ok x else b δ := Eq.trans rfl rfl
@[simp] theorem mIf_ap (t : Vw → R Bool) (a b : M) (δ : Vw) : mIf t a b δ = (t δ).bind fun k => if k = true then a δ else b δ := Eq.trans rfl rfl
@[simp] theorem mNotV_ap (a : M) (δ : Vw) : mNotV a δ = (a δ).bind fun x => (R.of (truthD x)).bind fun k => .ok (.bool (!k)) := Eq.trans rfl rfl
@[simp] theorem mCall_ap (n : Nat) (f : List D → R D) (dds : List D) (m : Vw → R (List D)) (δ : Vw) : mCall n f dds m δ = (m δ).bind fun ds => if (ds ++ dds).length = n then f (ds ++ dds) else .bad := Eq.trans rfl rfl
@[simp] theorem mIsi_ap (T : String) (a : M) (δ : Vw) : mIsi T a δ = (a δ).bind fun d => R.of ((isT T d).map .bool) := Eq.trans rfl rfl
@[simp] theorem mNoPart_ap (δ : Vw) : mNoPart δ = .ok none := Eq.trans rfl rfl
@[simp] theorem mPart_ap (m : M) (δ : Vw) : mPart m δ = (m δ).bind fun d => match d with
  | .int i => .ok (some i)
  | _ => .bad := Eq.trans rfl rfl
@[simp] theorem mSl_ap (m : M) (lo hi : Vw → R (Option Int)) (δ : Vw) : mSl m lo hi δ = (m δ).bind fun d => (lo δ).bind fun l => (hi δ).bind fun h => R.of (fSl d l h) := Eq.trans rfl rfl
theorem forR {f : List D → Option (List D)} {m : Vw → R (List D)} {t : Tg} {b : S} {g : Ce} {ds xs : List D} (h1 : m (vd g) = .ok ds) (h2 : f ds = some xs) : sForR f m t b g = loopF t b xs g := by
  rw [sForR_ap, h1, to_ok, h2]
theorem forG {it : Vw → R (List D)} {t : Tg} {b : S} {g : Ce} {ds : List D} (h1 : it (vd g) = .ok ds) : sFor it t b g = loopF t b ds g := by
  show (it (vd g)).to g (fun ds => loopF t b ds g) = _
  rw [h1, to_ok]
theorem forL {m : M} {t : Tg} {b : S} {g : Ce} {ds : List D} (h1 : m (vd g) = .ok (.list ds)) : sForL m t b g = loopF t b ds g := by
  rw [sForL_ap, h1, to_ok]
theorem forT {m : M} {t : Tg} {b : S} {g : Ce} {ds : List D} (h1 : m (vd g) = .ok (.tuple ds)) : sForL m t b g = loopF t b ds g := by
  rw [sForL_ap, h1, to_ok]
theorem run_eq (n N : Nat) (m : S) (ds : List D) (h : ds.length = n) : run n N m ds = match m (ds.map Cell.dat ++ List.replicate (N - n) Cell.un) with
  | .nx _ => .ok .none
  | .rt d => .ok d
  | .ex c p _ => .exc c p
  | _ => .bad := by
  unfold run
  refine (if_pos h).trans ?_
  cases m (ds.map Cell.dat ++ List.replicate (N - n) Cell.un) <;> rfl
@[simp] theorem mItems_ap (m : M) (δ : Vw) : mItems m δ = (m δ).bind fun d => match d with
  | .list ds => .ok ds
  | .tuple ds => .ok ds
  | _ => .bad := Eq.trans rfl rfl
@[simp] theorem mRng_ap (f : List D → Option (List D)) (m : Vw → R (List D)) (δ : Vw) : mRng f m δ = (m δ).bind fun ds => R.of (f ds) := Eq.trans rfl rfl
@[simp] theorem mL_ap (m : Vw → R (List D)) (δ : Vw) : mL m δ = (m δ).bind fun ds => .ok (.list ds) := Eq.trans rfl rfl
@[simp] theorem nLst_ap (m : Vw → R (List D)) (δ : Vw) : nLst m δ = (m δ).bind fun ds => if ds.length ≤ most then .ok ds else .bad := Eq.trans rfl rfl
@[simp] theorem nOf_ap (m : M) (δ : Vw) : nOf m δ = (m δ).bind fun d => match d with
  | .list ds => .ok ds
  | .tuple ds => .ok ds
  | _ => .bad := Eq.trans rfl rfl
@[simp] theorem sOwn_ap (i : Nat) (m : Vw → R (List D)) (g : Ce) : sOwn i m g = (m (vd g)).to g fun ds => .nx (g.set i (.own ds)) := Eq.trans rfl rfl
@[simp] theorem sPut_ap (j : Nat) (mi m : M) (g : Ce) : sPut j mi m g = match g[j]? with
  | some (.own ds) => (m (vd g)).to g fun d => (mi (vd g)).to g fun i => match i with
    | .int i => (match L2.ixN ds.length i with
      | some k => .nx (g.set j (.own (ds.set k d)))
      | none => .bad)
    | _ => .bad
  | _ => .bad := Eq.trans rfl rfl
@[simp] theorem sApp_ap (i : Nat) (m : M) (g : Ce) : sApp i m g = match g[i]? with
  | some (.own ds) => (m (vd g)).to g fun d => if ds.length < most then .nx (g.set i (.own (ds ++ [d]))) else .bad
  | _ => .bad := Eq.trans rfl rfl
@[simp] theorem sPutF_ap (j : Nat) (mi m : M) (g : Ce) : sPutF j mi m g = match g[j]? with
  | some (.own ds) => (m (va g)).to g fun d => if flat d = true then (mi (vd g)).to g fun i => (match i with
    | .int i => (match L2.ixN ds.length i with
      | some k => .nx (g.set j (.own (ds.set k d)))
      | none => .bad)
    | _ => .bad) else .bad
  | _ => .bad := Eq.trans rfl rfl
@[simp] theorem sAsgF_ap (t : Tg) (m : M) (g : Ce) : sAsgF t m g = (m (va g)).to g fun d => if flat d = true then (match t d g with
  | some g' => .nx g'
  | none => .bad) else .bad := Eq.trans rfl rfl
@[simp] theorem sAppF_ap (i : Nat) (m : M) (g : Ce) : sAppF i m g = match g[i]? with
  | some (.own ds) => (m (va g)).to g fun d => if flat d = true ∧ ds.length < most then .nx (g.set i (.own (ds ++ [d]))) else .bad
  | _ => .bad := Eq.trans rfl rfl
theorem dLst_ok {ds : List D} (h : ds.length ≤ most) : dLst ds = some (.list ds) := by
  show (if ds.length ≤ most then some (PyData.list ds) else none) = _
  rw [if_pos h]
@[simp] theorem most_val : most = 16777216 := Eq.trans rfl rfl
@[simp] theorem sTryAs_ap (sub : Str → Option Bool) (i : Nat) (b : S) (u : Str → S) (g : Ce) : sTryAs sub i b u g = match b g with
  | .ex c p g' => (match sub c with
    | some true => if p.isNone = true ∧ i < g'.length then (match u c (g'.set i .un) with
      | .nx g2 => .nx (g2.set i .un)
      | .bk g2 => .bk (g2.set i .un)
      | .ct g2 => .ct (g2.set i .un)
      | .rt d => .rt d
      | _ => .bad) else .bad
    | some false => .ex c p g'
    | none => .bad)
  | o => o := Eq.trans rfl rfl
/-! operations -/
@[simp] theorem fAdd_ii (i j : Int) : fAdd (.int i) (.int j) = some (.int (i + j)) := Eq.trans rfl rfl
@[simp] theorem fAddL_ii (i j : Int) : fAddL (.int i) (.int j) = some (.int (i + j)) := Eq.trans rfl rfl
@[simp] theorem fAddL_ss (a b : Str) : fAddL (.str a) (.str b) = fAdd (.str a) (.str b) := Eq.trans rfl rfl
@[simp] theorem fIntT_i (i : Int) : fIntT [.int i] = some (.int i) := Eq.trans rfl rfl
@[simp] theorem fIntT_b (b : Bool) : fIntT [.bool b] = some (.int (if b then 1 else 0)) := Eq.trans rfl rfl
@[simp] theorem fSub_ii (i j : Int) : fSub (.int i) (.int j) = some (.int (i - j)) := Eq.trans rfl rfl
theorem fMul_ii {i j : Int} (h : okMul i j = true) : fMul (.int i) (.int j) = some (.int (i * j)) := by
  show (if okMul i j = true then some (PyData.int (i * j)) else none) = _
  rw [if_pos h]
theorem fFdv_ii {i j : Int} (h : okDiv j = true) : fFdv (.int i) (.int j) = some (.int (i.fdiv j)) := by
  show (if okDiv j = true then some (PyData.int (i.fdiv j)) else none) = _
  rw [if_pos h]
theorem fFdv_pos {i j : Int} (h : 0 < j) (l : j.natAbs.log2 < 9000) : fFdv (.int i) (.int j) = some (.int (i / j)) := by
  rw [fFdv_ii, Int.fdiv_eq_ediv_of_nonneg i (by omega)]
  unfold okDiv
  rw [Bool.and_eq_true, decide_eq_true_eq, decide_eq_true_eq]
  exact ⟨by omega, l⟩
theorem fMod_ii {i j : Int} (h : j ≠ 0) : fMod (.int i) (.int j) = some (.int (i.fmod j)) := by
  show (if j ≠ 0 then some (PyData.int (i.fmod j)) else none) = _
  rw [if_pos h]
theorem fMod_pos {i j : Int} (h : 0 < j) : fMod (.int i) (.int j) = some (.int (i % j)) := by
  rw [fMod_ii (by omega), Int.fmod_eq_emod_of_nonneg i (by omega)]
theorem fPow_ii {i j : Int} (h : 0 ≤ j ∧ j ≤ 1000000 ∧ i.natAbs < 2 ^ 64) : fPow (.int i) (.int j) = some (.int (i ^ j.toNat)) := by
  show (if 0 ≤ j ∧ j ≤ 1000000 ∧ i.natAbs < 2 ^ 64 then some (PyData.int (i ^ j.toNat)) else none) = _
  rw [if_pos h]
@[simp] theorem fNeg_i (i : Int) : fNeg (.int i) = some (.int (-i)) := Eq.trans rfl rfl
@[simp] theorem fLt_ii (i j : Int) : fLt (.int i) (.int j) = some (.bool (decide (i < j))) := Eq.trans rfl rfl
@[simp] theorem fLe_ii (i j : Int) : fLe (.int i) (.int j) = some (.bool (decide (i ≤ j))) := Eq.trans rfl rfl
@[simp] theorem fGt_ii (i j : Int) : fGt (.int i) (.int j) = some (.bool (decide (j < i))) := Eq.trans rfl rfl
@[simp] theorem fGe_ii (i j : Int) : fGe (.int i) (.int j) = some (.bool (decide (j ≤ i))) := Eq.trans rfl rfl
@[simp] theorem fEq_ii (i j : Int) : fEq (.int i) (.int j) = some (.bool (decide (i = j))) := Eq.trans rfl rfl
@[simp] theorem fEq_ss (i j : Str) : fEq (.str i) (.str j) = some (.bool (decide (i = j))) := Eq.trans rfl rfl
@[simp] theorem fEq_bb (i j : Bool) : fEq (.bool i) (.bool j) = some (.bool (decide (i = j))) := Eq.trans rfl rfl
@[simp] theorem fNe_ii (i j : Int) : fNe (.int i) (.int j) = some (.bool (!decide (i = j))) := Eq.trans rfl rfl
@[simp] theorem fNe_ss (i j : Str) : fNe (.str i) (.str j) = some (.bool (!decide (i = j))) := Eq.trans rfl rfl
@[simp] theorem fNe_bb (i j : Bool) : fNe (.bool i) (.bool j) = some (.bool (!decide (i = j))) := Eq.trans rfl rfl
@[simp] theorem truth_b (b : Bool) : truthD (.bool b) = some b := Eq.trans rfl rfl
@[simp] theorem fAbs_i (i : Int) : fAbs [.int i] = some (.int (if i < 0 then -i else i)) := Eq.trans rfl rfl
@[simp] theorem fLen_l (ds : List D) : fLen [.list ds] = some (.int ds.length) := Eq.trans rfl rfl
@[simp] theorem fLen_t (ds : List D) : fLen [.tuple ds] = some (.int ds.length) := Eq.trans rfl rfl
@[simp] theorem fMax_ii (i j : Int) : fMax [.int i, .int j] = some (.int (if j > i then j else i)) := Eq.trans rfl rfl
@[simp] theorem fMin_ii (i j : Int) : fMin [.int i, .int j] = some (.int (if j < i then j else i)) := Eq.trans rfl rfl
@[simp] theorem fInt_i (i : Int) : fInt [.int i] = some (.int i) := Eq.trans rfl rfl
@[simp] theorem fInt_b (b : Bool) : fInt [.bool b] = some (.int (if b then 1 else 0)) := Eq.trans rfl rfl
theorem fIx_t {ds : List D} {j : Nat} {d : D} (h : ds[j]? = some d) : fIx (.tuple ds) (.int (j : Int)) = some d := L2.atI_nat h
theorem fIx_l {ds : List D} {j : Nat} {d : D} (h : ds[j]? = some d) : fIx (.list ds) (.int (j : Int)) = some d := L2.atI_nat h
@[simp] theorem fIx_t0 (a : D) (r : List D) : fIx (.tuple (a :: r)) (.int 0) = some a := fIx_t (j := 0) rfl
@[simp] theorem fIx_t1 (a b : D) (r : List D) : fIx (.tuple (a :: b :: r)) (.int 1) = some b := fIx_t (j := 1) rfl
@[simp] theorem fIx_t2 (a b c : D) (r : List D) : fIx (.tuple (a :: b :: c :: r)) (.int 2) = some c := fIx_t (j := 2) rfl
@[simp] theorem dTup_1 (a : D) : dTup [a] = some (.tuple [a]) := Eq.trans rfl rfl
@[simp] theorem dTup_2 (a b : D) : dTup [a, b] = some (.tuple [a, b]) := Eq.trans rfl rfl
@[simp] theorem dTup_3 (a b c : D) : dTup [a, b, c] = some (.tuple [a, b, c]) := Eq.trans rfl rfl
@[simp] theorem isT_int_none  : isT "int" (.none) = some false := show L2.kitB "NoneType" "int" = some false by decide +kernel
@[simp] theorem isT_int_bool (b : Bool) : isT "int" (.bool b) = some true := show L2.kitB "bool" "int" = some true by decide +kernel
@[simp] theorem isT_int_int (i : Int) : isT "int" (.int i) = some true := show L2.kitB "int" "int" = some true by decide +kernel
@[simp] theorem isT_int_str (z : Str) : isT "int" (.str z) = some false := show L2.kitB "str" "int" = some false by decide +kernel
@[simp] theorem isT_int_list (ds : List D) : isT "int" (.list ds) = some false := show L2.kitB "list" "int" = some false by decide +kernel
@[simp] theorem isT_int_tuple (ds : List D) : isT "int" (.tuple ds) = some false := show L2.kitB "tuple" "int" = some false by decide +kernel
@[simp] theorem isT_bool_none  : isT "bool" (.none) = some false := show L2.kitB "NoneType" "bool" = some false by decide +kernel
@[simp] theorem isT_bool_bool (b : Bool) : isT "bool" (.bool b) = some true := show L2.kitB "bool" "bool" = some true by decide +kernel
@[simp] theorem isT_bool_int (i : Int) : isT "bool" (.int i) = some false := show L2.kitB "int" "bool" = some false by decide +kernel
@[simp] theorem isT_bool_str (z : Str) : isT "bool" (.str z) = some false := show L2.kitB "str" "bool" = some false by decide +kernel
@[simp] theorem isT_bool_list (ds : List D) : isT "bool" (.list ds) = some false := show L2.kitB "list" "bool" = some false by decide +kernel
@[simp] theorem isT_bool_tuple (ds : List D) : isT "bool" (.tuple ds) = some false := show L2.kitB "tuple" "bool" = some false by decide +kernel
@[simp] theorem isT_tuple_none  : isT "tuple" (.none) = some false := show L2.kitB "NoneType" "tuple" = some false by decide +kernel
@[simp] theorem isT_tuple_bool (b : Bool) : isT "tuple" (.bool b) = some false := show L2.kitB "bool" "tuple" = some false by decide +kernel
@[simp] theorem isT_tuple_int (i : Int) : isT "tuple" (.int i) = some false := show L2.kitB "int" "tuple" = some false by decide +kernel
@[simp] theorem isT_tuple_str (z : Str) : isT "tuple" (.str z) = some false := show L2.kitB "str" "tuple" = some false by decide +kernel
@[simp] theorem isT_tuple_list (ds : List D) : isT "tuple" (.list ds) = some false := show L2.kitB "list" "tuple" = some false by decide +kernel
@[simp] theorem isT_tuple_tuple (ds : List D) : isT "tuple" (.tuple ds) = some true := show L2.kitB "tuple" "tuple" = some true by decide +kernel
@[simp] theorem isT_str_none  : isT "str" (.none) = some false := show L2.kitB "NoneType" "str" = some false by decide +kernel
@[simp] theorem isT_str_bool (b : Bool) : isT "str" (.bool b) = some false := show L2.kitB "bool" "str" = some false by decide +kernel
@[simp] theorem isT_str_int (i : Int) : isT "str" (.int i) = some false := show L2.kitB "int" "str" = some false by decide +kernel
@[simp] theorem isT_str_str (z : Str) : isT "str" (.str z) = some true := show L2.kitB "str" "str" = some true by decide +kernel
@[simp] theorem isT_str_list (ds : List D) : isT "str" (.list ds) = some false := show L2.kitB "list" "str" = some false by decide +kernel
@[simp] theorem isT_str_tuple (ds : List D) : isT "str" (.tuple ds) = some false := show L2.kitB "tuple" "str" = some false by decide +kernel
@[simp] theorem isT_list_none  : isT "list" (.none) = some false := show L2.kitB "NoneType" "list" = some false by decide +kernel
@[simp] theorem isT_list_bool (b : Bool) : isT "list" (.bool b) = some false := show L2.kitB "bool" "list" = some false by decide +kernel
@[simp] theorem isT_list_int (i : Int) : isT "list" (.int i) = some false := show L2.kitB "int" "list" = some false by decide +kernel
@[simp] theorem isT_list_str (z : Str) : isT "list" (.str z) = some false := show L2.kitB "str" "list" = some false by decide +kernel
@[simp] theorem isT_list_list (ds : List D) : isT "list" (.list ds) = some true := show L2.kitB "list" "list" = some true by decide +kernel
@[simp] theorem isT_list_tuple (ds : List D) : isT "list" (.tuple ds) = some false := show L2.kitB "tuple" "list" = some false by decide +kernel
/-! loops -/
theorem loopF_inv {t : Tg} {b : S} (P : Ce → Prop) : ∀ (ds : List D) (g : Ce), P g → (∀ d ∈ ds, ∀ g, P g → ∃ g1 g2, t d g = some g1 ∧ (b g1 = .nx g2 ∨ b g1 = .ct g2) ∧ P g2) → ∃ g', loopF t b ds g = .nx g' ∧ P g'
  | [], g, p, _ => ⟨g, rfl, p⟩
  | d :: ds, g, p, h => by
    obtain ⟨g1, g2, e1, e2, p2⟩ := h d (List.mem_cons_self ..) g p
    obtain ⟨g', e3, p3⟩ := loopF_inv P ds g2 p2 fun d' hd => h d' (List.mem_cons_of_mem _ hd)
    refine ⟨g', ?_, p3⟩
    unfold loopF
    rw [e1]
    dsimp only
    rcases e2 with e2 | e2 <;> rw [e2] <;> exact e3
/-- the same with what is gone through -/
theorem loopF_ix {t : Tg} {b : S} (P : Nat → Ce → Prop) : ∀ (ds : List D) (k : Nat) (g : Ce), P k g → (∀ i d, ds[i]? = some d → ∀ g, P (k + i) g → ∃ g1 g2, t d g = some g1 ∧ (b g1 = .nx g2 ∨ b g1 = .ct g2) ∧ P (k + i + 1) g2) → ∃ g', loopF t b ds g = .nx g' ∧ P (k + ds.length) g'
  | [], k, g, p, _ => ⟨g, rfl, p⟩
  | d :: ds, k, g, p, h => by
    obtain ⟨g1, g2, e1, e2, p2⟩ := h 0 d (by simp) g p
    obtain ⟨g', e3, p3⟩ := loopF_ix P ds (k + 1) g2 p2 fun i d' hd g q => by
      have := h (i + 1) d' (by simpa using hd) g (by rw [show k + (i + 1) = k + 1 + i by omega]; exact q)
      rw [show k + (i + 1) + 1 = k + 1 + i + 1 by omega] at this
      exact this
    refine ⟨g', ?_, by rw [List.length_cons, show k + (ds.length + 1) = k + 1 + ds.length by omega]; exact p3⟩
    unfold loopF
    rw [e1]
    dsimp only
    rcases e2 with e2 | e2 <;> rw [e2] <;> exact e3
theorem loopF_cons {t : Tg} {b : S} {d : D} {ds : List D} {g g1 g2 : Ce} (ht : t d g = some g1) (hb : b g1 = .nx g2) : loopF t b (d :: ds) g = loopF t b ds g2 := by
  rw [loopF, ht]
  dsimp only
  rw [hb]
theorem loopF_ret {t : Tg} {b : S} {d : D} {ds : List D} {g g1 : Ce} {v : D} (ht : t d g = some g1) (hb : b g1 = .rt v) : loopF t b (d :: ds) g = .rt v := by
  rw [loopF, ht]
  dsimp only
  rw [hb]
theorem loopF_nil {t : Tg} {b : S} {g : Ce} : loopF t b [] g = .nx g := Eq.trans rfl rfl
theorem loopW_ap (t : Vw → R Bool) (b : S) (n : Nat) (g : Ce) : loopW t b (n + 1) g = (t (va g)).to g fun k => if k = true then (match b g with
      | .nx g2 => loopW t b n g2
      | .ct g2 => loopW t b n g2
      | .bk g2 => .nx g2
      | o => o) else .nx g := rfl
theorem mem_rngL {lo c : Int} {n : Nat} {d : D} (h : d ∈ rngL lo c n) : ∃ i : Nat, i < n ∧ d = .int (lo + (i : Int) * c) := by
  unfold rngL at h
  obtain ⟨i, hi, e⟩ := List.mem_map.mp h
  exact ⟨i, List.mem_range.mp hi, e.symm⟩
/-! a script's cut, a range by steps -/
theorem cut_all (ds : List D) (n : Nat) (h : ds.length ≤ n) : fSl (.list ds) none (some (n : Int)) = some (.list ds) := by
  have : cutD ds none (some (n : Int)) = ds := by
    unfold cutD
    rw [HT.sIx_nat, HT.sIx_none, Nat.min_eq_right h]
    simp
  show some (PyData.list (cutD ds none (some (n : Int)))) = _
  rw [this]
theorem cut_take (ds : List D) (n : Nat) : fSl (.list ds) none (some (n : Int)) = some (.list (ds.take n)) := by
  have : cutD ds none (some (n : Int)) = ds.take n := by
    unfold cutD
    rw [HT.sIx_nat, HT.sIx_none]
    simp
  show some (PyData.list (cutD ds none (some (n : Int)))) = _
  rw [this]
theorem rng3_0 (c : Int) (m : Nat) (hc : c ≠ 0 ∧ c.natAbs < 1073741824) (h : Builtin.Range.small 0 ((m : Int) + 1) c = true ∧ 0 ≤ Builtin.Range.rangeSize 0 ((m : Int) + 1) c) (h0 : 0 ≤ c) :
    ∃ xs, rng3 [.int 0, .int ((m : Int) + 1), .int c] = some xs ∧ ∀ d ∈ xs, ∃ k : Nat, d = .int (k : Int) := by
  refine ⟨rngL 0 c (Builtin.Range.rangeSize 0 ((m : Int) + 1) c).toNat, ?_, fun d hd => ?_⟩
  · show (if c ≠ 0 ∧ c.natAbs < 1073741824 ∧ Builtin.Range.small 0 ((m : Int) + 1) c = true ∧ 0 ≤ Builtin.Range.rangeSize 0 ((m : Int) + 1) c then some (rngL 0 c (Builtin.Range.rangeSize 0 ((m : Int) + 1) c).toNat) else none) = _
    rw [if_pos ⟨hc.1, hc.2, h.1, h.2⟩]
  · obtain ⟨i, _, e⟩ := mem_rngL hd
    exact ⟨i * c.toNat, by rw [e]; simp [Int.toNat_of_nonneg h0]⟩
theorem rng3_3 (m : Nat) (h : m ≤ 64) : ∃ xs, rng3 [.int 0, .int ((m : Int) + 1), .int 3] = some xs ∧ ∀ d ∈ xs, ∃ k : Nat, d = .int (k : Int) :=
  rng3_0 3 m (by decide) ((by decide +kernel : ∀ m : Nat, m ≤ 64 → Builtin.Range.small 0 ((m : Int) + 1) 3 = true ∧ 0 ≤ Builtin.Range.rangeSize 0 ((m : Int) + 1) 3) m h) (by decide)
theorem rng3_5 (m : Nat) (h : m ≤ 64) : ∃ xs, rng3 [.int 0, .int ((m : Int) + 1), .int 5] = some xs ∧ ∀ d ∈ xs, ∃ k : Nat, d = .int (k : Int) :=
  rng3_0 5 m (by decide) ((by decide +kernel : ∀ m : Nat, m ≤ 64 → Builtin.Range.small 0 ((m : Int) + 1) 5 = true ∧ 0 ≤ Builtin.Range.rangeSize 0 ((m : Int) + 1) 5) m h) (by decide)
theorem rng3_2 (m : Nat) (h : m ≤ 64) : ∃ xs, rng3 [.int 0, .int ((m : Int) + 1), .int 2] = some xs ∧ ∀ d ∈ xs, ∃ k : Nat, d = .int (k : Int) :=
  rng3_0 2 m (by decide) ((by decide +kernel : ∀ m : Nat, m ≤ 64 → Builtin.Range.small 0 ((m : Int) + 1) 2 = true ∧ 0 ≤ Builtin.Range.rangeSize 0 ((m : Int) + 1) 2) m h) (by decide)
theorem rng3_4 (m : Nat) (h : m ≤ 64) : ∃ xs, rng3 [.int 0, .int ((m : Int) + 1), .int 4] = some xs ∧ ∀ d ∈ xs, ∃ k : Nat, d = .int (k : Int) :=
  rng3_0 4 m (by decide) ((by decide +kernel : ∀ m : Nat, m ≤ 64 → Builtin.Range.small 0 ((m : Int) + 1) 4 = true ∧ 0 ≤ Builtin.Range.rangeSize 0 ((m : Int) + 1) 4) m h) (by decide)
/-! sizes -/
theorem log2_lt {i : Int} {a : Nat} (h : i.natAbs < 2 ^ a) (h0 : 0 < a) : i.natAbs.log2 < a := PySem.Flt.log2_lt_of h0 h
theorem okMul_bd {i j : Int} (a b : Nat) (ha : i.natAbs < 2 ^ a) (hb : j.natAbs < 2 ^ b) (h0 : 0 < a) (h1 : 0 < b) (h : a + b ≤ 100000000) : okMul i j = true := by
  have x := log2_lt ha h0
  have y := log2_lt hb h1
  unfold okMul
  rw [decide_eq_true_eq]
  omega
theorem okDiv_bd {j : Int} (a : Nat) (hj : j ≠ 0) (ha : j.natAbs < 2 ^ a) (h0 : 0 < a) (h : a ≤ 9000) : okDiv j = true := by
  have x := log2_lt ha h0
  unfold okDiv
  rw [Bool.and_eq_true, decide_eq_true_eq, decide_eq_true_eq]
  exact ⟨hj, by omega⟩
theorem natAbs_mul_lt {i j : Int} {a b : Nat} (ha : i.natAbs < a) (hb : j.natAbs < b) : (i * j).natAbs < a * b := by
  rw [Int.natAbs_mul]
  exact Nat.mul_lt_mul'' ha hb
end MI
set_option Elab.async false
set_option linter.all false
set_option maxRecDepth 100000
set_option maxHeartbeats 4000000
/-! Num: what the defs about numbers tell. -/
namespace Num
open PySem MI
@[simp] theorem whole_int (fu : Nat) (i : Int) : Pg.f_p_is_whole fu [.int i] = .ok (.bool true) := by
  simp [Pg.f_p_is_whole, Pg.s_p_is_whole, run_eq]
@[simp] theorem whole_bool (fu : Nat) (i : Bool) : Pg.f_p_is_whole fu [.bool i] = .ok (.bool false) := by
  simp [Pg.f_p_is_whole, Pg.s_p_is_whole, run_eq]
@[simp] theorem whole_none (fu : Nat) : Pg.f_p_is_whole fu [.none] = .ok (.bool false) := by
  simp [Pg.f_p_is_whole, Pg.s_p_is_whole, run_eq]
@[simp] theorem whole_str (fu : Nat) (z : Str) : Pg.f_p_is_whole fu [.str z] = .ok (.bool false) := by
  simp [Pg.f_p_is_whole, Pg.s_p_is_whole, run_eq]
@[simp] theorem whole_list (fu : Nat) (z : List MI.D) : Pg.f_p_is_whole fu [.list z] = .ok (.bool false) := by
  simp [Pg.f_p_is_whole, Pg.s_p_is_whole, run_eq]
@[simp] theorem whole_tuple (fu : Nat) (z : List MI.D) : Pg.f_p_is_whole fu [.tuple z] = .ok (.bool false) := by
  simp [Pg.f_p_is_whole, Pg.s_p_is_whole, run_eq]
theorem natAbs_fmod_lt (a b : Int) (h : b ≠ 0) : (a.fmod b).natAbs < b.natAbs := by
  rw [Int.fmod_eq_emod]
  have h1 := Int.emod_nonneg a h
  have h2 := Int.emod_lt a h
  split
  · omega
  · rename_i hn
    have h3 : a % b ≠ 0 := fun e => hn (.inr (Int.dvd_of_emod_eq_zero e))
    omega
theorem gcd_fmod (a b : Int) : Int.gcd b (a.fmod b) = Int.gcd a b := by
  have e : a.fmod b = a - b * (a.fdiv b) := by
    have := Int.mul_fdiv_add_fmod a b
    omega
  rw [e, Int.gcd_comm a b]
  apply Nat.dvd_antisymm
  · apply Int.dvd_gcd
    · exact Int.gcd_dvd_left _ _
    · have h1 : (Int.gcd b (a - b * a.fdiv b) : Int) ∣ a - b * a.fdiv b := Int.gcd_dvd_right _ _
      have h2 : (Int.gcd b (a - b * a.fdiv b) : Int) ∣ b * a.fdiv b := Int.dvd_trans (Int.gcd_dvd_left _ _) (Int.dvd_mul_right ..)
      have := Int.dvd_add h1 h2
      rwa [Int.sub_add_cancel] at this
  · apply Int.dvd_gcd
    · exact Int.gcd_dvd_left _ _
    · exact Int.dvd_sub (Int.gcd_dvd_right _ _) (Int.dvd_trans (Int.gcd_dvd_left _ _) (Int.dvd_mul_right ..))
theorem div_loop (fu : Nat) : ∀ (n : Nat) (a b : Int), b.natAbs < n → ∃ a' : Int, loopW (mTru (mBin fNe (mVar 1) (mC (.int 0)))) (Pg.b_p_divisor_1 fu) n [.dat (.int a), .dat (.int b)] = .nx [.dat (.int a'), .dat (.int 0)] ∧ a'.natAbs = Int.gcd a b
  | 0, a, b, h => by omega
  | n + 1, a, b, h => by
    rw [loopW_ap]
    by_cases e : b = 0
    · subst e
      refine ⟨a, by simp, by simp⟩
    · obtain ⟨a', h1, h2⟩ := div_loop fu n b (a.fmod b) (by have := natAbs_fmod_lt a b e; omega)
      refine ⟨a', ?_, by rw [h2, gcd_fmod]⟩
      simp [Pg.b_p_divisor_1, e, fMod_ii e]
      exact h1
theorem divisor (fu : Nat) (a b : Int) (h : b.natAbs < fu) : Pg.f_p_divisor fu [.int a, .int b] = .ok (.int (Int.gcd a b)) := by
  obtain ⟨a', h1, h2⟩ := div_loop fu fu a b h
  simp [Pg.f_p_divisor, Pg.s_p_divisor, run_eq, h1]
  omega
/-- both within so many bits -/
def FU : Nat := 2 ^ 4000
theorem fu_lt {a b : Nat} (h : a < 2 ^ b) (hb : b ≤ 4000) : a < FU := Nat.lt_of_lt_of_le h (Nat.pow_le_pow_right (by decide) hb)
def Sm (i : Int) : Prop := i.natAbs < FU
theorem sm_gcd {a b : Int} (h : Sm b) (hb : b ≠ 0) : Int.gcd a b ≠ 0 ∧ ((Int.gcd a b : Nat) : Int).natAbs < FU := by
  refine ⟨fun e => hb (Int.gcd_eq_zero_iff.mp e).2, ?_⟩
  have : Int.gcd a b ≤ b.natAbs := Nat.le_of_dvd (by omega) (Int.natAbs_dvd_natAbs.mpr (Int.gcd_dvd_right a b) |> fun x => by simpa using x)
  unfold Sm at h
  simp
  omega
theorem lowest (fu : Nat) (top bottom : Int) (hb : bottom ≠ 0) (h2 : Sm bottom) (hfu : FU ≤ fu) :
    ∃ t b : Int, Pg.f_p_lowest fu [.int top, .int bottom] = .ok (.tuple [.int t, .int b]) ∧ 0 < b ∧ Int.gcd t b = 1 ∧ t * bottom = top * b ∧ b.natAbs ≤ bottom.natAbs ∧ t.natAbs ≤ top.natAbs := by
  obtain ⟨g0, gs⟩ := sm_gcd (a := top) h2 hb
  have hd := divisor fu top bottom (Nat.lt_of_lt_of_le h2 hfu)
  obtain ⟨q, hq⟩ : ((Int.gcd top bottom : Nat) : Int) ∣ top := Int.gcd_dvd_left _ _
  obtain ⟨r, hr⟩ : ((Int.gcd top bottom : Nat) : Int) ∣ bottom := Int.gcd_dvd_right _ _
  have g1 : 0 < ((Int.gcd top bottom : Nat) : Int) := by omega
  have hco : Int.gcd q r = 1 := by
    have e : Int.gcd (((Int.gcd top bottom : Nat) : Int) * q) (((Int.gcd top bottom : Nat) : Int) * r) = Int.gcd top bottom := by rw [← hq, ← hr]
    rw [Int.gcd_mul_left, Int.natAbs_natCast] at e
    exact Nat.eq_of_mul_eq_mul_left (Nat.pos_of_ne_zero g0) (e.trans (Nat.mul_one _).symm)
  generalize hg : ((Int.gcd top bottom : Nat) : Int) = g at *
  have rle : r.natAbs ≤ bottom.natAbs := by
    rw [hr, Int.natAbs_mul]
    exact Nat.le_mul_of_pos_left _ (by omega)
  have qle : q.natAbs ≤ top.natAbs := by
    rw [hq, Int.natAbs_mul]
    exact Nat.le_mul_of_pos_left _ (by omega)
  by_cases c : bottom < 0
  · have r0 : r < 0 := by
      rcases (by omega : r < 0 ∨ 0 ≤ r) with h | h
      · exact h
      · have := Int.mul_nonneg (Int.le_of_lt g1) h
        omega
    have ok : okDiv (0 - g) = true := okDiv_bd 4000 (by omega) (by show _ < FU; omega) (by decide) (by decide)
    have e1 : top.fdiv (0 - g) = -q := by
      rw [show top = (0 - g) * (-q) by rw [hq, Int.zero_sub, Int.neg_mul_neg], Int.mul_fdiv_cancel_left _ (by omega)]
    have e2 : bottom.fdiv (0 - g) = -r := by
      rw [show bottom = (0 - g) * (-r) by rw [hr, Int.zero_sub, Int.neg_mul_neg], Int.mul_fdiv_cancel_left _ (by omega)]
    refine ⟨-q, -r, ?_, by omega, by simpa using hco, ?_, by simpa using rle, by simpa using qle⟩
    · have m1 := fFdv_ii (i := top) ok
      have m2 := fFdv_ii (i := bottom) ok
      rw [e1] at m1
      rw [e2] at m2
      rw [Int.zero_sub] at m1 m2
      simp [Pg.f_p_lowest, Pg.s_p_lowest, run_eq, hd, hg, c, m1, m2]
    · rw [hq, hr, Int.neg_mul, Int.mul_neg]
      congr 1
      ac_rfl
  · have r0 : 0 < r := by
      rcases (by omega : 0 < r ∨ r ≤ 0) with h | h
      · exact h
      · have := Int.mul_nonpos_of_nonneg_of_nonpos (Int.le_of_lt g1) h
        omega
    have ok : okDiv g = true := okDiv_bd 4000 (by omega) (by show _ < FU; omega) (by decide) (by decide)
    have e1 : top.fdiv g = q := by
      rw [show top = g * q from hq, Int.mul_fdiv_cancel_left _ (by omega)]
    have e2 : bottom.fdiv g = r := by
      rw [show bottom = g * r from hr, Int.mul_fdiv_cancel_left _ (by omega)]
    refine ⟨q, r, ?_, r0, hco, ?_, rle, qle⟩
    · have m1 := fFdv_ii (i := top) ok
      have m2 := fFdv_ii (i := bottom) ok
      rw [e1] at m1
      rw [e2] at m2
      simp [Pg.f_p_lowest, Pg.s_p_lowest, run_eq, hd, hg, c, m1, m2]
    · rw [hq, hr]
      ac_rfl
theorem number (fu : Nat) (top bottom : Int) (hb : bottom ≠ 0) (h2 : Sm bottom) (hfu : FU ≤ fu) :
    ∃ t b : Int, Pg.f_p_number fu [.int top, .int bottom] = .ok (.tuple [.int t, .int b]) ∧ 0 < b ∧ Int.gcd t b = 1 ∧ t * bottom = top * b ∧ b.natAbs ≤ bottom.natAbs ∧ t.natAbs ≤ top.natAbs := by
  obtain ⟨t, b, e, h⟩ := lowest fu top bottom hb h2 hfu
  exact ⟨t, b, by simp [Pg.f_p_number, Pg.s_p_number, run_eq, hb, e], h⟩
theorem number_0 (fu : Nat) (top : Int) : Pg.f_p_number fu [.int top, .int 0] = .exc "NoNumber" none := by
  simp [Pg.f_p_number, Pg.s_p_number, run_eq, flatO]
theorem made (fu : Nat) (t b top bottom : Int) (hb : 0 < b) (h2 : b.natAbs < fu) (hg : Int.gcd t b = 1) (e : t * bottom = top * b) (m1 : okMul t bottom = true) (m2 : okMul top b = true) :
    Pg.f_law_made fu [.tuple [.int t, .int b], .int top, .int bottom] = .ok (.bool true) := by
  have hd := divisor fu t b h2
  have hb' : ¬ b < 1 := by omega
  simp [Pg.f_law_made, Pg.s_law_made, run_eq, hd, hg, hb', fMul_ii m1, fMul_ii m2, e]
theorem lowest_made (fu : Nat) (hfu : FU ≤ fu) {top bottom : Int} (hb : bottom ≠ 0) (h1 : top.natAbs < 2 ^ 1000) (h2 : bottom.natAbs < 2 ^ 1000) :
    ∃ d, Pg.f_p_lowest fu [.int top, .int bottom] = .ok d ∧ Pg.f_law_made fu [d, .int top, .int bottom] = .ok (.bool true) := by
  obtain ⟨t, d, q1, q2, q3, q4, q5, q6⟩ := lowest fu top bottom hb (fu_lt h2 (by decide)) hfu
  have td : d.natAbs < 2 ^ 1000 := Nat.lt_of_le_of_lt q5 h2
  have tt : t.natAbs < 2 ^ 1000 := Nat.lt_of_le_of_lt q6 h1
  exact ⟨_, q1, made fu t d _ _ q2 (Nat.lt_of_lt_of_le (fu_lt td (by decide)) hfu) q3 q4 (okMul_bd 1000 1000 tt h2 (by decide) (by decide) (by decide)) (okMul_bd 1000 1000 h1 td (by decide) (by decide) (by decide))⟩
theorem number_made (fu : Nat) (hfu : FU ≤ fu) {top bottom : Int} (hb : bottom ≠ 0) (h1 : top.natAbs < 2 ^ 1000) (h2 : bottom.natAbs < 2 ^ 1000) :
    ∃ d, Pg.f_p_number fu [.int top, .int bottom] = .ok d ∧ Pg.f_law_made fu [d, .int top, .int bottom] = .ok (.bool true) := by
  obtain ⟨t, d, q1, q2, q3, q4, q5, q6⟩ := number fu top bottom hb (fu_lt h2 (by decide)) hfu
  have td : d.natAbs < 2 ^ 1000 := Nat.lt_of_le_of_lt q5 h2
  have tt : t.natAbs < 2 ^ 1000 := Nat.lt_of_le_of_lt q6 h1
  exact ⟨_, q1, made fu t d _ _ q2 (Nat.lt_of_lt_of_le (fu_lt td (by decide)) hfu) q3 q4 (okMul_bd 1000 1000 tt h2 (by decide) (by decide) (by decide)) (okMul_bd 1000 1000 h1 td (by decide) (by decide) (by decide))⟩
theorem cell_at (fu : Nat) (ns : List Int) (k : Nat) : Pg.f_law_cell_at fu [.list (ns.map .int), .int (k : Int)] = .ok (.int (ns.getD k 0)) := by
  by_cases h : k < ns.length
  · have e : (ns.map PyData.int)[k]? = some (.int (ns.getD k 0)) := by
      rw [List.getElem?_map, List.getElem?_eq_getElem h]
      simp [List.getD, List.getElem?_eq_getElem h]
    simp [Pg.f_law_cell_at, Pg.s_law_cell_at, run_eq, h, fIx_l e]
  · simp [Pg.f_law_cell_at, Pg.s_law_cell_at, run_eq, h, List.getD, List.getElem?_eq_none (show ns.length ≤ k by omega)]
theorem cell_at' (fu : Nat) (ns : List Int) {z : Int} (h : 0 ≤ z) : Pg.f_law_cell_at fu [.list (ns.map .int), .int z] = .ok (.int (ns.getD z.toNat 0)) := by
  have := cell_at fu ns z.toNat
  rwa [Int.toNat_of_nonneg h] at this
theorem mod2 (i : Int) : i % 2 = 0 ∨ i % 2 = 1 := by omega
/-- a number of either sign, below a bound -/
theorem signed (fu : Nat) (cell most : Int) (hm : 0 < most) : ∃ r : Int, Pg.f_law_signed fu [.int cell, .int most] = .ok (.int r) ∧ r.natAbs < most.natAbs := by
  have h1 := fFdv_pos (i := cell) (j := 2) (by decide) (by decide +kernel)
  have h2 := fMod_pos (i := cell / 2) hm
  have h3 := fMod_pos (i := cell) (j := 2) (by decide)
  have b1 := Int.emod_nonneg (cell / 2) (show most ≠ 0 by omega)
  have b2 := Int.emod_lt_of_pos (cell / 2) hm
  rcases mod2 cell with c | c
  · exact ⟨cell / 2 % most, by simp [Pg.f_law_signed, Pg.s_law_signed, run_eq, h1, h2, h3, c], by omega⟩
  · exact ⟨-(cell / 2 % most), by simp [Pg.f_law_signed, Pg.s_law_signed, run_eq, h1, h2, h3, c], by omega⟩
/-- a drawn number in lowest terms -/
theorem law_number (fu : Nat) (hfu : FU ≤ fu) (above below : Int) : ∃ t b : Int, Pg.f_law_number fu [.int above, .int below] = .ok (.tuple [.int t, .int b]) ∧ 0 < b ∧ Int.gcd t b = 1 ∧ t.natAbs < 2 ^ 200 ∧ b.natAbs < 2 ^ 200 := by
  have p60 : fPow (.int 10) (.int 60) = some (.int 1000000000000000000000000000000000000000000000000000000000000) := fPow_ii (by decide)
  have d2 := fFdv_pos (i := above) (j := 2) (by decide) (by decide +kernel)
  have m2 := fMod_pos (i := above) (j := 2) (by decide)
  have m60 := fMod_pos (i := above / 2) (j := 1000000000000000000000000000000000000000000000000000000000000) (by decide)
  have m61 := fMod_pos (i := below) (j := 999999999999999999999999999999999999999999999999999999999999) (by decide)
  have u1 := Int.emod_nonneg (above / 2) (b := 1000000000000000000000000000000000000000000000000000000000000) (by decide)
  have u2 := Int.emod_lt_of_pos (above / 2) (b := 1000000000000000000000000000000000000000000000000000000000000) (by decide)
  have v1 := Int.emod_nonneg below (b := 999999999999999999999999999999999999999999999999999999999999) (by decide)
  have v2 := Int.emod_lt_of_pos below (b := 999999999999999999999999999999999999999999999999999999999999) (by decide)
  have key : ∀ top bottom : Int, 0 < bottom → top.natAbs < 2 ^ 200 → bottom.natAbs < 2 ^ 200 → ∃ g t b : Int, Pg.f_p_divisor fu [.int top, .int bottom] = .ok (.int g) ∧ fFdv (.int top) (.int g) = some (.int t) ∧ fFdv (.int bottom) (.int g) = some (.int b) ∧ 0 < b ∧ Int.gcd t b = 1 ∧ t.natAbs < 2 ^ 200 ∧ b.natAbs < 2 ^ 200 := by
    intro top bottom hb h1 h2
    obtain ⟨g0, gs⟩ := sm_gcd (a := top) (fu_lt h2 (by decide)) (show bottom ≠ 0 by omega)
    have hd := divisor fu top bottom (Nat.lt_of_lt_of_le (fu_lt h2 (by decide)) hfu)
    obtain ⟨q, hq⟩ : ((Int.gcd top bottom : Nat) : Int) ∣ top := Int.gcd_dvd_left _ _
    obtain ⟨r, hr⟩ : ((Int.gcd top bottom : Nat) : Int) ∣ bottom := Int.gcd_dvd_right _ _
    have g1 : 0 < ((Int.gcd top bottom : Nat) : Int) := by omega
    have hco : Int.gcd q r = 1 := by
      have e : Int.gcd (((Int.gcd top bottom : Nat) : Int) * q) (((Int.gcd top bottom : Nat) : Int) * r) = Int.gcd top bottom := by rw [← hq, ← hr]
      rw [Int.gcd_mul_left, Int.natAbs_natCast] at e
      exact Nat.eq_of_mul_eq_mul_left (Nat.pos_of_ne_zero g0) (e.trans (Nat.mul_one _).symm)
    generalize hg : ((Int.gcd top bottom : Nat) : Int) = g at *
    have r0 : 0 < r := by
      rcases (by omega : 0 < r ∨ r ≤ 0) with h | h
      · exact h
      · have := Int.mul_nonpos_of_nonneg_of_nonpos (Int.le_of_lt g1) h
        omega
    have ok : okDiv g = true := okDiv_bd 4000 (by omega) (by show _ < FU; omega) (by decide) (by decide)
    have e1 : top.fdiv g = q := by
      rw [show top = g * q from hq, Int.mul_fdiv_cancel_left _ (by omega)]
    have e2 : bottom.fdiv g = r := by
      rw [show bottom = g * r from hr, Int.mul_fdiv_cancel_left _ (by omega)]
    have rle : r.natAbs ≤ bottom.natAbs := by
      rw [hr, Int.natAbs_mul]
      exact Nat.le_mul_of_pos_left _ (by omega)
    have qle : q.natAbs ≤ top.natAbs := by
      rw [hq, Int.natAbs_mul]
      exact Nat.le_mul_of_pos_left _ (by omega)
    exact ⟨g, q, r, hd, by rw [fFdv_ii ok, e1], by rw [fFdv_ii ok, e2], r0, hco, Nat.lt_of_le_of_lt qle h1, Nat.lt_of_le_of_lt rle h2⟩
  rcases mod2 above with c | c
  · obtain ⟨g, t, b, e1, e2, e3, h⟩ := key (above / 2 % 1000000000000000000000000000000000000000000000000000000000000) (1 + below % 999999999999999999999999999999999999999999999999999999999999) (by omega) (by omega) (by omega)
    refine ⟨t, b, ?_, h⟩
    rw [Pg.f_law_number, Pg.s_law_number]
    simp [run_eq, p60, d2, m2, m60, m61, c, e1, e2, e3]
  · obtain ⟨g, t, b, e1, e2, e3, h⟩ := key (-(above / 2 % 1000000000000000000000000000000000000000000000000000000000000)) (1 + below % 999999999999999999999999999999999999999999999999999999999999) (by omega) (by omega) (by omega)
    refine ⟨t, b, ?_, h⟩
    rw [Pg.f_law_number, Pg.s_law_number]
    simp [run_eq, p60, d2, m2, m60, m61, c, e1, e2, e3]
theorem mul_bd {i j : Int} (a b c : Nat) (ha : i.natAbs < 2 ^ a) (hb : j.natAbs < 2 ^ b) (h : a + b ≤ c) : (i * j).natAbs < 2 ^ c := by
  have := natAbs_mul_lt ha hb
  rw [← Nat.pow_add] at this
  exact Nat.lt_of_lt_of_le this (Nat.pow_le_pow_right (by decide) h)
theorem add_bd {i j : Int} (a b : Nat) (ha : i.natAbs < 2 ^ a) (hb : j.natAbs < 2 ^ a) (h : a < b) : (i + j).natAbs < 2 ^ b := by
  have h2 : 2 ^ (a + 1) ≤ 2 ^ b := Nat.pow_le_pow_right (by decide) h
  rw [Nat.pow_succ] at h2
  omega
theorem sub_bd {i j : Int} (a b : Nat) (ha : i.natAbs < 2 ^ a) (hb : j.natAbs < 2 ^ a) (h : a < b) : (i - j).natAbs < 2 ^ b := by
  have h2 : 2 ^ (a + 1) ≤ 2 ^ b := Nat.pow_le_pow_right (by decide) h
  rw [Nat.pow_succ] at h2
  omega
/-! of two numbers within 2 ^ 200 -/
section
variable {fu : Nat} {a b c d : Int} (ha : a.natAbs < 2 ^ 200) (hb : b.natAbs < 2 ^ 200) (hc : c.natAbs < 2 ^ 200) (hd : d.natAbs < 2 ^ 200)
theorem mul2 {i j : Int} (hi : i.natAbs < 2 ^ 200) (hj : j.natAbs < 2 ^ 200) : fMul (.int i) (.int j) = some (.int (i * j)) := fMul_ii (okMul_bd 200 200 hi hj (by decide) (by decide) (by decide))
include ha hb hc hd
theorem plus {r : MI.D} (h : Pg.f_p_lowest fu [.int (a * d + c * b), .int (b * d)] = .ok r) : Pg.f_p_plus fu [.tuple [.int a, .int b], .tuple [.int c, .int d]] = .ok r := by
  have m1 := mul2 ha hd
  have m2 := mul2 hc hb
  have m3 := mul2 hb hd
  rw [Pg.f_p_plus, Pg.s_p_plus]
  simp [run_eq, m1, m2, m3, h]
theorem minus {r : MI.D} (h : Pg.f_p_lowest fu [.int (a * d - c * b), .int (b * d)] = .ok r) : Pg.f_p_minus fu [.tuple [.int a, .int b], .tuple [.int c, .int d]] = .ok r := by
  have m1 := mul2 ha hd
  have m2 := mul2 hc hb
  have m3 := mul2 hb hd
  rw [Pg.f_p_minus, Pg.s_p_minus]
  simp [run_eq, m1, m2, m3, h]
theorem times {r : MI.D} (h : Pg.f_p_lowest fu [.int (a * c), .int (b * d)] = .ok r) : Pg.f_p_times fu [.tuple [.int a, .int b], .tuple [.int c, .int d]] = .ok r := by
  have m1 := mul2 ha hc
  have m3 := mul2 hb hd
  rw [Pg.f_p_times, Pg.s_p_times]
  simp [run_eq, m1, m3, h]
theorem over {r : MI.D} (hc0 : c ≠ 0) (h : Pg.f_p_lowest fu [.int (a * d), .int (b * c)] = .ok r) : Pg.f_p_over fu [.tuple [.int a, .int b], .tuple [.int c, .int d]] = .ok r := by
  have m1 := mul2 ha hd
  have m3 := mul2 hb hc
  rw [Pg.f_p_over, Pg.s_p_over]
  simp [run_eq, m1, m3, h, hc0]
theorem under : Pg.f_p_under fu [.tuple [.int a, .int b], .tuple [.int c, .int d]] = .ok (.bool (decide (a * d < c * b))) := by
  have m1 := mul2 ha hd
  have m2 := mul2 hc hb
  rw [Pg.f_p_under, Pg.s_p_under]
  simp [run_eq, m1, m2]
theorem law_under : Pg.f_law_under fu [.tuple [.int a, .int b], .tuple [.int c, .int d]] = .ok (.bool true) := by
  have m1 := mul2 ha hd
  have m2 := mul2 hc hb
  have u := under (fu := fu) ha hb hc hd
  rw [Pg.f_law_under, Pg.s_law_under]
  simp [run_eq, m1, m2, u]
theorem law_over (hfu : FU ≤ fu) (b0 : 0 < b) : Pg.f_law_over fu [.tuple [.int a, .int b], .tuple [.int c, .int d]] = .ok (.bool true) := by
  have m1 := mul2 ha hd
  have m2 := mul2 hb hc
  have ff : flatO none = true := rfl
  by_cases e : c = 0
  · subst e
    have o : Pg.f_p_over fu [.tuple [.int a, .int b], .tuple [.int 0, .int d]] = .exc "NoNumber" none := by
      rw [Pg.f_p_over, Pg.s_p_over]
      simp [run_eq]
    rw [Pg.f_law_over, Pg.s_law_over]
    simp [run_eq, o, subT]
  · have z : b * c ≠ 0 := Int.mul_ne_zero (by omega) e
    obtain ⟨r, e1, e2⟩ := lowest_made fu hfu z (mul_bd 200 200 1000 ha hd (by decide)) (mul_bd 200 200 1000 hb hc (by decide))
    have o := over ha hb hc hd e e1
    rw [Pg.f_law_over, Pg.s_law_over]
    simp [run_eq, o, subT, m1, m2, e, e2]
end
theorem floor_of {fu : Nat} {a b : Int} (hb : 0 < b) (h2 : b.natAbs < 2 ^ 200) : Pg.f_p_floor_of fu [.tuple [.int a, .int b]] = .ok (.int (a / b)) := by
  have m := fFdv_pos (i := a) hb (Nat.lt_trans (log2_lt h2 (by decide)) (by decide))
  rw [Pg.f_p_floor_of, Pg.s_p_floor_of]
  simp [run_eq, m]
theorem rounded {fu : Nat} {a b : Int} (hb : 0 < b) (h1 : a.natAbs < 2 ^ 200) (h2 : b.natAbs < 2 ^ 200) : Pg.f_p_rounded fu [.tuple [.int a, .int b]] = .ok (.int ((2 * a + b) / (2 * b))) := by
  have m1 := mul2 (i := 2) (by decide) h1
  have m2 := mul2 (i := 2) (by decide) h2
  have m := fFdv_pos (i := 2 * a + b) (j := 2 * b) (by omega) (Nat.lt_trans (log2_lt (mul_bd 2 200 202 (by decide) h2 (by decide)) (by decide)) (by decide))
  rw [Pg.f_p_rounded, Pg.s_p_rounded]
  simp [run_eq, m, m1, m2]
end Num
set_option Elab.async false
set_option linter.all false
set_option maxRecDepth 100000
set_option maxHeartbeats 4000000
/-! Rq: the program's numbers as rationals. -/
namespace Num
open PySem MI
def nm (r : Rat) : MI.D := .tuple [.int r.num, .int (r.den : Int)]
def Bd (n : Nat) (r : Rat) : Prop := r.num.natAbs < 2 ^ n ∧ r.den < 2 ^ n
theorem nm_int (i : Int) : nm (i : Rat) = .tuple [.int i, .int 1] := rfl
theorem bd_pos {n : Nat} {r : Rat} (h : Bd n r) : 0 < n := by
  rcases Nat.eq_zero_or_pos n with e | e
  · subst e
    have := h.2
    have := r.den_pos
    simp at *
    omega
  · exact e
theorem bd_mono {n m : Nat} {r : Rat} (h : Bd n r) (l : n ≤ m) : Bd m r :=
  ⟨Nat.lt_of_lt_of_le h.1 (Nat.pow_le_pow_right (by decide) l), Nat.lt_of_lt_of_le h.2 (Nat.pow_le_pow_right (by decide) l)⟩
theorem bd_int {n : Nat} {i : Int} (h : i.natAbs < 2 ^ n) (h0 : 0 < n) : Bd n (i : Rat) := ⟨h, Nat.one_lt_two_pow (by omega)⟩
theorem den_nat (r : Rat) : ((r.den : Int)).natAbs = r.den := rfl
theorem lowest_q (fu : Nat) (hfu : FU ≤ fu) {top bottom : Int} (hb : bottom ≠ 0) (h : Sm bottom) :
    Pg.f_p_lowest fu [.int top, .int bottom] = .ok (nm (Rat.divInt top bottom)) ∧ (Rat.divInt top bottom).num.natAbs ≤ top.natAbs ∧ (Rat.divInt top bottom).den ≤ bottom.natAbs := by
  obtain ⟨t, b, e, b0, g, k, l1, l2⟩ := lowest fu top bottom hb h hfu
  have q : (⟨t, b.natAbs, by omega, g⟩ : Rat) = Rat.divInt top bottom := by
    rw [← Rat.num_divInt_den (⟨t, b.natAbs, by omega, g⟩ : Rat)]
    show Rat.divInt t ((b.natAbs : Nat) : Int) = _
    rw [Int.natAbs_of_nonneg (by omega)]
    exact (Rat.divInt_eq_divInt_iff (by omega) hb).mpr k
  rw [← q]
  refine ⟨?_, l2, l1⟩
  rw [e]
  show _ = R.ok (PyData.tuple [.int t, .int ((b.natAbs : Nat) : Int)])
  rw [Int.natAbs_of_nonneg (by omega)]
section
variable {fu : Nat} (hfu : FU ≤ fu) {n m : Nat} {r s : Rat} (hr : Bd n r) (hs : Bd m s)
theorem mulB {n m : Nat} {i j : Int} (hi : i.natAbs < 2 ^ n) (hj : j.natAbs < 2 ^ m) (h0 : 0 < n) (h1 : 0 < m) (hl : n + m ≤ 900000) : fMul (.int i) (.int j) = some (.int (i * j)) :=
  fMul_ii (okMul_bd n m hi hj h0 h1 (by omega))
theorem addB {a : Nat} {i j : Int} (hi : i.natAbs < 2 ^ a) (hj : j.natAbs < 2 ^ a) : (i + j).natAbs < 2 ^ (a + 1) := add_bd a (a + 1) hi hj (by omega)
theorem subB {a : Nat} {i j : Int} (hi : i.natAbs < 2 ^ a) (hj : j.natAbs < 2 ^ a) : (i - j).natAbs < 2 ^ (a + 1) := sub_bd a (a + 1) hi hj (by omega)
theorem sm_of {a : Nat} {i : Int} (h : i.natAbs < 2 ^ a) (ha : a ≤ 4000) : Sm i := fu_lt h ha
include hr hs
theorem under_q (hl : n + m ≤ 900000) : Pg.f_p_under fu [nm r, nm s] = .ok (.bool (decide (r < s))) := by
  have n0 := bd_pos hr
  have m0 := bd_pos hs
  have m1 := mulB hr.1 (show ((s.den : Int)).natAbs < 2 ^ m from hs.2) n0 m0 hl
  have m2 := mulB hs.1 (show ((r.den : Int)).natAbs < 2 ^ n from hr.2) m0 n0 (by omega)
  unfold nm
  rw [Pg.f_p_under, Pg.s_p_under]
  simp [run_eq, m1, m2, Rat.lt_iff]
include hfu
theorem times_q (hl : n + m ≤ 4000) : Pg.f_p_times fu [nm r, nm s] = .ok (nm (r * s)) ∧ Bd (n + m) (r * s) := by
  have n0 := bd_pos hr
  have m0 := bd_pos hs
  have hs2 : ((s.den : Int)).natAbs < 2 ^ m := hs.2
  have hr2 : ((r.den : Int)).natAbs < 2 ^ n := hr.2
  have m1 := mulB hr.1 hs.1 n0 m0 (by omega)
  have m2 := mulB hr2 hs2 n0 m0 (by omega)
  have b1 := mul_bd n m (n + m) hr.1 hs.1 (by omega)
  have b2 := mul_bd n m (n + m) hr2 hs2 (by omega)
  have z : (r.den : Int) * (s.den : Int) ≠ 0 := Int.mul_ne_zero (by have := r.den_pos; omega) (by have := s.den_pos; omega)
  obtain ⟨e, l1, l2⟩ := lowest_q fu hfu (top := r.num * s.num) z (sm_of b2 (by omega))
  have q : Rat.divInt (r.num * s.num) ((r.den : Int) * (s.den : Int)) = r * s := by
    rw [Rat.mul_def', ← Rat.divInt_ofNat, Int.natCast_mul]
  rw [q] at e l1 l2
  refine ⟨?_, Nat.lt_of_le_of_lt l1 b1, Nat.lt_of_le_of_lt l2 b2⟩
  rw [← e]
  unfold nm
  rw [Pg.f_p_times, Pg.s_p_times]
  rw [nm] at e
  simp [run_eq, m1, m2, e]
theorem plus_q (hl : n + m ≤ 4000) : Pg.f_p_plus fu [nm r, nm s] = .ok (nm (r + s)) ∧ Bd (n + m + 1) (r + s) := by
  have n0 := bd_pos hr
  have m0 := bd_pos hs
  have hs2 : ((s.den : Int)).natAbs < 2 ^ m := hs.2
  have hr2 : ((r.den : Int)).natAbs < 2 ^ n := hr.2
  have m1 := mulB hr.1 hs2 n0 m0 (by omega)
  have m3 := mulB hs.1 hr2 m0 n0 (by omega)
  have m2 := mulB hr2 hs2 n0 m0 (by omega)
  have b1 := addB (mul_bd n m (n + m) hr.1 hs2 (by omega)) (mul_bd m n (n + m) hs.1 hr2 (by omega))
  have b2 := mul_bd n m (n + m) hr2 hs2 (by omega)
  have z : (r.den : Int) * (s.den : Int) ≠ 0 := Int.mul_ne_zero (by have := r.den_pos; omega) (by have := s.den_pos; omega)
  obtain ⟨e, l1, l2⟩ := lowest_q fu hfu (top := r.num * s.den + s.num * r.den) z (sm_of b2 (by omega))
  have q : Rat.divInt (r.num * s.den + s.num * r.den) ((r.den : Int) * (s.den : Int)) = r + s := by
    rw [Rat.add_def', ← Rat.divInt_ofNat, Int.natCast_mul]
  rw [q] at e l1 l2
  refine ⟨?_, Nat.lt_of_le_of_lt l1 b1, Nat.lt_of_le_of_lt l2 (Nat.lt_of_lt_of_le b2 (Nat.pow_le_pow_right (by decide) (by omega)))⟩
  rw [← e]
  unfold nm
  rw [Pg.f_p_plus, Pg.s_p_plus]
  rw [nm] at e
  simp [run_eq, m1, m2, m3, e]
theorem minus_q (hl : n + m ≤ 4000) : Pg.f_p_minus fu [nm r, nm s] = .ok (nm (r - s)) ∧ Bd (n + m + 1) (r - s) := by
  have n0 := bd_pos hr
  have m0 := bd_pos hs
  have hs2 : ((s.den : Int)).natAbs < 2 ^ m := hs.2
  have hr2 : ((r.den : Int)).natAbs < 2 ^ n := hr.2
  have m1 := mulB hr.1 hs2 n0 m0 (by omega)
  have m3 := mulB hs.1 hr2 m0 n0 (by omega)
  have m2 := mulB hr2 hs2 n0 m0 (by omega)
  have b1 := subB (mul_bd n m (n + m) hr.1 hs2 (by omega)) (mul_bd m n (n + m) hs.1 hr2 (by omega))
  have b2 := mul_bd n m (n + m) hr2 hs2 (by omega)
  have z : (r.den : Int) * (s.den : Int) ≠ 0 := Int.mul_ne_zero (by have := r.den_pos; omega) (by have := s.den_pos; omega)
  obtain ⟨e, l1, l2⟩ := lowest_q fu hfu (top := r.num * s.den - s.num * r.den) z (sm_of b2 (by omega))
  have q : Rat.divInt (r.num * s.den - s.num * r.den) ((r.den : Int) * (s.den : Int)) = r - s := by
    rw [Rat.sub_def', ← Rat.divInt_ofNat, Int.natCast_mul]
  rw [q] at e l1 l2
  refine ⟨?_, Nat.lt_of_le_of_lt l1 b1, Nat.lt_of_le_of_lt l2 (Nat.lt_of_lt_of_le b2 (Nat.pow_le_pow_right (by decide) (by omega)))⟩
  rw [← e]
  unfold nm
  rw [Pg.f_p_minus, Pg.s_p_minus]
  rw [nm] at e
  simp [run_eq, m1, m2, m3, e]
theorem over_q (s0 : s ≠ 0) (hl : n + m ≤ 4000) : Pg.f_p_over fu [nm r, nm s] = .ok (nm (r / s)) ∧ Bd (n + m) (r / s) := by
  have n0 := bd_pos hr
  have m0 := bd_pos hs
  have sn : s.num ≠ 0 := fun e => s0 (Rat.num_eq_zero.mp e)
  have hs2 : ((s.den : Int)).natAbs < 2 ^ m := hs.2
  have hr2 : ((r.den : Int)).natAbs < 2 ^ n := hr.2
  have m1 := mulB hr.1 hs2 n0 m0 (by omega)
  have m2 := mulB hr2 hs.1 n0 m0 (by omega)
  have b1 := mul_bd n m (n + m) hr.1 hs2 (by omega)
  have b2 := mul_bd n m (n + m) hr2 hs.1 (by omega)
  have z : (r.den : Int) * s.num ≠ 0 := Int.mul_ne_zero (by have := r.den_pos; omega) sn
  obtain ⟨e, l1, l2⟩ := lowest_q fu hfu (top := r.num * s.den) z (sm_of b2 (by omega))
  have q : Rat.divInt (r.num * s.den) ((r.den : Int) * s.num) = r / s := by
    rw [Rat.div_def, Rat.inv_def, ← Rat.divInt_mul_divInt, Rat.num_divInt_den]
  rw [q] at e l1 l2
  refine ⟨?_, Nat.lt_of_le_of_lt l1 b1, Nat.lt_of_le_of_lt l2 b2⟩
  rw [← e]
  unfold nm
  rw [Pg.f_p_over, Pg.s_p_over]
  rw [nm] at e
  simp [run_eq, m1, m2, e, sn]
end
theorem eq_q (r s : Rat) : fEq (nm r) (nm s) = some (.bool (decide (r = s))) := by
  have h : PyData.eqv (nm r) (nm s) = decide (r = s) := by
    unfold nm
    simp only [PyData.eqv, PyData.eqvAll, Bool.and_true]
    by_cases e : r = s
    · subst e; simp
    · have : ¬ (r.num = s.num ∧ r.den = s.den) := fun ⟨a, b⟩ => e (Rat.ext a b)
      by_cases a : r.num = s.num
      · have b : r.den ≠ s.den := fun b => this ⟨a, b⟩
        have b2 : ((r.den : Int)) ≠ s.den := by omega
        simp [e, a, b2]
      · simp [e, a]
  have e : dEq (nm r) (nm s) = if (SeqAt.shaped (nm r) && SeqAt.shaped (nm s)) = true then some (PyData.eqv (nm r) (nm s)) else none := rfl
  have z : ∀ r, SeqAt.shaped (nm r) = true := fun r => rfl
  unfold fEq
  rw [e, h, z, z]
  rfl
theorem ne_q (r s : Rat) : fNe (nm r) (nm s) = some (.bool (!decide (r = s))) := by
  have h := eq_q r s
  unfold fEq at h
  unfold fNe
  cases q : dEq (nm r) (nm s) with
  | none => rw [q] at h; cases h
  | some b =>
    rw [q] at h
    injection h with h
    injection h with h
    subst h
    rfl
theorem is_number_q (fu : Nat) (r : Rat) (h : r.den < fu) : Pg.f_law_is_number fu [nm r] = .ok (.bool true) := by
  have hd := divisor fu r.num r.den h
  have g : Int.gcd r.num r.den = 1 := r.reduced
  have dp : (0 : Int) < r.den := by have := r.den_pos; omega
  have st : ∀ (c : Cell) (i : Int), Pg.b_law_is_number_1 fu [.dat (nm r), .dat (.int i)] = .nx [.dat (nm r), .dat (.int i)] := fun c i => by
    rw [Pg.b_law_is_number_1]
    simp
  have lp : loopF (gN 1) (Pg.b_law_is_number_1 fu) [.int r.num, .int r.den] [.dat (nm r), .un] = .nx [.dat (nm r), .dat (.int r.den)] := by
    rw [loopF_cons rfl (st .un _), loopF_cons rfl (st .un _), loopF_nil]
  have hi : mItems (mVar 0) (vd [.dat (nm r), .un]) = .ok [.int r.num, .int r.den] := by simp [nm]
  have hf := (forG (t := gN 1) (b := Pg.b_law_is_number_1 fu) hi).trans lp
  rw [Pg.f_law_is_number, Pg.s_law_is_number]
  rw [g] at hd
  have hd2 : Pg.f_p_divisor fu [.int r.num, .int (r.den : Int)] = .ok (.int 1) := hd
  unfold nm at hf ⊢
  simp [run_eq, hf, hd2, r.den_pos]
end Num
set_option Elab.async false
set_option linter.all false
set_option maxRecDepth 100000
set_option maxHeartbeats 4000000
/-! Sc: the scales. -/
namespace Num
open PySem MI
theorem num_eq (r : Rat) : (r.num : Rat) = r * ((r.den : Int) : Rat) := by
  have h := Rat.num_divInt_den r
  rw [Rat.divInt_eq_div] at h
  have d : ((r.den : Int) : Rat) ≠ 0 := fun e => by
    have := Rat.intCast_eq_zero_iff.mp e
    have := r.den_pos
    omega
  have := Rat.div_mul_cancel (a := (r.num : Rat)) d
  rw [h] at this
  exact this.symm
theorem den_ne (r : Rat) : ((r.den : Int) : Rat) ≠ 0 := fun e => by
  have := Rat.intCast_eq_zero_iff.mp e
  have := r.den_pos
  omega
theorem law_lowest_q (fu : Nat) (hfu : FU ≤ fu) {top bottom : Int} (hb : 0 < bottom) (h : Sm bottom) :
    Pg.f_law_lowest fu [.int top, .int bottom] = .ok (nm (Rat.divInt top bottom)) ∧ (Rat.divInt top bottom).num.natAbs ≤ top.natAbs ∧ (Rat.divInt top bottom).den ≤ bottom.natAbs := by
  obtain ⟨e, l⟩ := lowest_q fu hfu (top := top) (show bottom ≠ 0 by omega) h
  refine ⟨?_, l⟩
  rw [← e]
  have hd := divisor fu top bottom (Nat.lt_of_lt_of_le h hfu)
  have c : ¬ bottom < 0 := by omega
  rw [Pg.f_law_lowest, Pg.s_law_lowest, Pg.f_p_lowest, Pg.s_p_lowest]
  simp [run_eq, hd, c]
section
variable {fu : Nat} (hfu : FU ≤ fu)
theorem rat_sub_ne {a b : Rat} (h : a < b) : b - a ≠ 0 := by grind
include hfu
theorem along_q {n k : Nat} {lo hi c : Rat} {L : Int} (hl : Bd n lo) (hh : Bd n hi) (hc : Bd k c) (hL : L.natAbs < 2 ^ 13) (lt : lo < hi) (hn : 3 * n + k + 20 ≤ 4000) :
    Pg.f_p_along_straight fu [nm lo, nm hi, nm c, .int L] = .ok (if c < lo ∨ hi < c then .none else nm ((c - lo) * (L : Rat) / (hi - lo))) ∧ Bd (3 * n + k + 16) ((c - lo) * (L : Rat) / (hi - lo)) := by
  have u1 := under_q (fu := fu) hc hl (by omega)
  have u2 := under_q (fu := fu) hh hc (by omega)
  obtain ⟨a1, b1⟩ := minus_q hfu hc hl (by omega)
  obtain ⟨a2, b2⟩ := times_q hfu b1 (bd_int hL (by decide)) (by omega)
  obtain ⟨a3, b3⟩ := minus_q hfu hh hl (by omega)
  obtain ⟨a4, b4⟩ := over_q hfu b2 b3 (rat_sub_ne lt) (by omega)
  rw [nm_int] at a2
  refine ⟨?_, bd_mono b4 (by omega)⟩
  rw [Pg.f_p_along_straight, Pg.s_p_along_straight]
  by_cases q1 : c < lo
  · simp [run_eq, u1, u2, q1]
  · by_cases q2 : hi < c
    · simp [run_eq, u1, u2, q1, q2]
    · simp [run_eq, u1, u2, q1, q2, a1, a2, a3, a4]
theorem back_q {n k : Nat} {lo hi p : Rat} {L : Int} (hl : Bd n lo) (hh : Bd n hi) (hp : Bd k p) (hL : L.natAbs < 2 ^ 13) (L0 : L ≠ 0) (hn : 3 * n + k + 20 ≤ 4000) :
    Pg.f_p_back_straight fu [nm lo, nm hi, nm p, .int L] = .ok (nm (lo + p * (hi - lo) / (L : Rat))) ∧ Bd (3 * n + k + 16) (lo + p * (hi - lo) / (L : Rat)) := by
  obtain ⟨a1, b1⟩ := minus_q hfu hh hl (by omega)
  obtain ⟨a2, b2⟩ := times_q hfu hp b1 (by omega)
  obtain ⟨a3, b3⟩ := over_q hfu b2 (bd_int hL (by decide)) (fun e => L0 (Rat.intCast_eq_zero_iff.mp e)) (by omega)
  obtain ⟨a4, b4⟩ := plus_q hfu hl b3 (by omega)
  rw [nm_int] at a3
  refine ⟨?_, bd_mono b4 (by omega)⟩
  rw [Pg.f_p_back_straight, Pg.s_p_back_straight]
  simp [run_eq, a1, a2, a3, a4]
end
theorem nm0 (r : Rat) : fIx (nm r) (.int 0) = some (.int r.num) := fIx_t0 _ _
theorem nm1 (r : Rat) : fIx (nm r) (.int 1) = some (.int r.den) := fIx_t1 _ _ _
theorem nm_none (r : Rat) : fIs (nm r) .none = some (.bool false) := Eq.trans rfl rfl
theorem int_none (i : Int) : fIs (.int i) .none = some (.bool false) := Eq.trans rfl rfl
theorem none_none : fIs .none .none = some (.bool true) := Eq.trans rfl rfl
theorem isT_nm (r : Rat) : isT "str" (nm r) = some false := isT_str_tuple _
theorem ix4 (a b c d : MI.D) : fIx (.tuple [a, b, c, d]) (.int 3) = some d := fIx_t (j := 3) rfl
theorem s_so : (("straight" : Str) = ("turns" : Str)) = False := eq_false (by decide)
theorem s_sb : (("straight" : Str) = ("broken" : Str)) = False := eq_false (by decide)
theorem s_sr : (("straight" : Str) = ("order" : Str)) = False := eq_false (by decide)
theorem s_sd : (("straight" : Str) = ("days" : Str)) = False := eq_false (by decide)
theorem s_do : (("days" : Str) = ("turns" : Str)) = False := eq_false (by decide)
theorem s_db : (("days" : Str) = ("broken" : Str)) = False := eq_false (by decide)
theorem s_dr : (("days" : Str) = ("order" : Str)) = False := eq_false (by decide)
theorem dTup_4 (a b c d : MI.D) : dTup [a, b, c, d] = some (.tuple [a, b, c, d]) := Eq.trans rfl rfl
end Num
set_option Elab.async false
set_option linter.all false
set_option maxRecDepth 100000
set_option maxHeartbeats 4000000
/-! Cal: what the defs about days tell. -/
namespace Cal
open PySem MI Num
def leap (y : Int) : Bool := decide (y % 400 = 0) || (decide (y % 4 = 0) && !decide (y % 100 = 0))
def len (y m : Int) : Int := if m = 2 then 28 + (if leap y = true then 1 else 0) else if m = 4 ∨ m = 6 ∨ m = 9 ∨ m = 11 then 30 else 31
def ahead (y : Int) : Int := 365 * (y - 1) + (y - 1) / 4 - (y - 1) / 100 + (y - 1) / 400
def months (y : Int) : Int → Nat → Int
  | _, 0 => 0
  | lo, n + 1 => len y lo + months y (lo + 1) n
theorem fdv_n (i : Int) (n : Nat) (h : 0 < n) (h2 : n < 2 ^ 40) : fFdv (.int i) (.int (n : Int)) = some (.int (i / (n : Int))) :=
  fFdv_pos (by omega) (Nat.lt_trans (log2_lt (a := 40) (by simpa using h2) (by decide)) (by decide))
theorem mod_n (i : Int) (n : Nat) (h : 0 < n) : fMod (.int i) (.int (n : Int)) = some (.int (i % (n : Int))) := fMod_pos (by omega)
theorem mul_s {i j : Int} (hi : i.natAbs < 2 ^ 300) (hj : j.natAbs < 2 ^ 300) : fMul (.int i) (.int j) = some (.int (i * j)) := fMul_ii (okMul_bd 300 300 hi hj (by decide) (by decide) (by decide))
theorem is_leap (fu : Nat) (y : Int) : Pg.f_p_is_leap fu [.int y] = .ok (.bool (leap y)) := by
  have m1 := mod_n y 400 (by decide)
  have m2 := mod_n y 4 (by decide)
  have m3 := mod_n y 100 (by decide)
  simp at m1 m2 m3
  rw [Pg.f_p_is_leap, Pg.s_p_is_leap]
  unfold leap
  by_cases a : y % 400 = 0 <;> by_cases b : y % 4 = 0 <;> by_cases c : y % 100 = 0 <;> simp [run_eq, m1, m2, m3, a, b, c]
theorem law_leap (fu : Nat) (y : Int) : Pg.f_law_leap fu [.int y] = .ok (.bool (leap y)) := by
  have m1 := mod_n y 400 (by decide)
  have m2 := mod_n y 4 (by decide)
  have m3 := mod_n y 100 (by decide)
  simp at m1 m2 m3
  rw [Pg.f_law_leap, Pg.s_law_leap]
  unfold leap
  by_cases a : y % 400 = 0 <;> by_cases b : y % 4 = 0 <;> by_cases c : y % 100 = 0 <;> first | (simp [run_eq, m1, m2, m3, a, b, c]; done) | (exfalso; omega)
theorem length_of (fu : Nat) (y m : Int) : Pg.f_p_length_of fu [.int y, .int m] = .ok (.int (len y m)) := by
  have l := is_leap fu y
  rw [Pg.f_p_length_of, Pg.s_p_length_of]
  unfold len
  by_cases a : m = 2
  · simp [run_eq, l, a]
  · by_cases b : m = 4
    · simp [run_eq, b]
    · by_cases c : m = 6
      · simp [run_eq, c]
      · by_cases d : m = 9
        · simp [run_eq, d]
        · by_cases e : m = 11
          · simp [run_eq, e]
          · simp [run_eq, a, b, c, d, e]
theorem law_long (fu : Nat) (y m : Int) (h1 : 1 ≤ m) (h2 : m ≤ 12) : Pg.f_law_long fu [.int y, .int m] = .ok (.int (len y m)) := by
  have l := law_leap fu y
  have ix : ∀ (ds : List MI.D) (j : Nat) (d : MI.D), ds[j]? = some d → fIx (.list ds) (.int (j : Int)) = some d := fun ds j d h => fIx_l h
  have dl : ∀ ds : List MI.D, ds.length ≤ most → dLst ds = some (.list ds) := fun ds h => by
    show (if ds.length ≤ most then some (PyData.list ds) else none) = _
    rw [if_pos h]
  have tab := dl [.int 31, .int 28, .int 31, .int 30, .int 31, .int 30, .int 31, .int 31, .int 30, .int 31, .int 30, .int 31] (by decide)
  rw [Pg.f_law_long, Pg.s_law_long]
  unfold len
  rcases (by omega : m = 1 ∨ m = 2 ∨ m = 3 ∨ m = 4 ∨ m = 5 ∨ m = 6 ∨ m = 7 ∨ m = 8 ∨ m = 9 ∨ m = 10 ∨ m = 11 ∨ m = 12) with h | h | h | h | h | h | h | h | h | h | h | h <;> subst h
  · have i := ix [.int 31, .int 28, .int 31, .int 30, .int 31, .int 30, .int 31, .int 31, .int 30, .int 31, .int 30, .int 31] 0 _ rfl
    simp at i
    simp [run_eq, tab, i]
  · simp [run_eq, l]
  · have i := ix [.int 31, .int 28, .int 31, .int 30, .int 31, .int 30, .int 31, .int 31, .int 30, .int 31, .int 30, .int 31] 2 _ rfl
    simp at i
    simp [run_eq, tab, i]
  · have i := ix [.int 31, .int 28, .int 31, .int 30, .int 31, .int 30, .int 31, .int 31, .int 30, .int 31, .int 30, .int 31] 3 _ rfl
    simp at i
    simp [run_eq, tab, i]
  · have i := ix [.int 31, .int 28, .int 31, .int 30, .int 31, .int 30, .int 31, .int 31, .int 30, .int 31, .int 30, .int 31] 4 _ rfl
    simp at i
    simp [run_eq, tab, i]
  · have i := ix [.int 31, .int 28, .int 31, .int 30, .int 31, .int 30, .int 31, .int 31, .int 30, .int 31, .int 30, .int 31] 5 _ rfl
    simp at i
    simp [run_eq, tab, i]
  · have i := ix [.int 31, .int 28, .int 31, .int 30, .int 31, .int 30, .int 31, .int 31, .int 30, .int 31, .int 30, .int 31] 6 _ rfl
    simp at i
    simp [run_eq, tab, i]
  · have i := ix [.int 31, .int 28, .int 31, .int 30, .int 31, .int 30, .int 31, .int 31, .int 30, .int 31, .int 30, .int 31] 7 _ rfl
    simp at i
    simp [run_eq, tab, i]
  · have i := ix [.int 31, .int 28, .int 31, .int 30, .int 31, .int 30, .int 31, .int 31, .int 30, .int 31, .int 30, .int 31] 8 _ rfl
    simp at i
    simp [run_eq, tab, i]
  · have i := ix [.int 31, .int 28, .int 31, .int 30, .int 31, .int 30, .int 31, .int 31, .int 30, .int 31, .int 30, .int 31] 9 _ rfl
    simp at i
    simp [run_eq, tab, i]
  · have i := ix [.int 31, .int 28, .int 31, .int 30, .int 31, .int 30, .int 31, .int 31, .int 30, .int 31, .int 30, .int 31] 10 _ rfl
    simp at i
    simp [run_eq, tab, i]
  · have i := ix [.int 31, .int 28, .int 31, .int 30, .int 31, .int 30, .int 31, .int 31, .int 30, .int 31, .int 30, .int 31] 11 _ rfl
    simp at i
    simp [run_eq, tab, i]
theorem ahead_of (fu : Nat) (y : Int) (h : y.natAbs < 2 ^ 100) : Pg.f_p_ahead_of fu [.int y] = .ok (.int (ahead y)) := by
  have m := mul_s (i := 365) (j := y - 1) (by decide) (by omega)
  have d1 := fdv_n (y - 1) 4 (by decide) (by decide)
  have d2 := fdv_n (y - 1) 100 (by decide) (by decide)
  have d3 := fdv_n (y - 1) 400 (by decide) (by decide)
  simp at d1 d2 d3
  rw [Pg.f_p_ahead_of, Pg.s_p_ahead_of]
  unfold ahead
  simp [run_eq, m, d1, d2, d3]
theorem rngL_succ (lo : Int) (n : Nat) : rngL lo 1 (n + 1) = .int lo :: rngL (lo + 1) 1 n := by
  unfold rngL
  rw [List.range_succ_eq_map, List.map_cons, List.map_map]
  congr 1
  · simp
  · apply List.map_congr_left
    intro i _
    simp
    omega
theorem day_loop (fu : Nat) (y m d : MI.D) (yi : Int) (hy : y = .int yi) : ∀ (n : Nat) (lo found : Int) (c : Cell), ∃ c', loopF (gN 4) (Pg.b_p_day_of_1 fu) (rngL lo 1 n) [.dat y, .dat m, .dat d, .dat (.int found), c] = .nx [.dat y, .dat m, .dat d, .dat (.int (found + months yi lo n)), c']
  | 0, lo, found, c => ⟨c, by simp [rngL, loopF, months]⟩
  | n + 1, lo, found, c => by
    subst hy
    obtain ⟨c', h⟩ := day_loop fu (.int yi) m d yi rfl n (lo + 1) (found + len yi lo) (.dat (.int lo))
    refine ⟨c', ?_⟩
    have l := length_of fu yi lo
    rw [rngL_succ, loopF_cons (g2 := [.dat (.int yi), .dat m, .dat d, .dat (.int (found + len yi lo)), .dat (.int lo)]) rfl (by rw [Pg.b_p_day_of_1]; simp [l]), h]
    rw [months, Int.add_assoc]
def lens (y : Int) : Int → Nat → List Int
  | _, 0 => []
  | lo, n + 1 => len y lo :: lens y (lo + 1) n
theorem lens_sum (y : Int) : ∀ (n : Nat) (lo : Int), (lens y lo n).sum = months y lo n
  | 0, _ => rfl
  | n + 1, lo => by
    unfold lens months
    rw [List.sum_cons, lens_sum y n]
theorem lens_len (y : Int) : ∀ (n : Nat) (lo : Int), (lens y lo n).length = n
  | 0, _ => rfl
  | n + 1, lo => congrArg Nat.succ (lens_len y n (lo + 1))
theorem ints_map : ∀ ns : List Int, intsD (ns.map PyData.int) = some ns
  | [] => rfl
  | n :: ns => by
    rw [List.map_cons]
    unfold intsD
    rw [ints_map ns]
    rfl
theorem comp_loop (fu : Nat) (y : Int) (a b c e : Option MI.D) : ∀ (n : Nat) (lo : Int) (acc : List Int), 1 ≤ lo → lo + n ≤ 13 → acc.length + n ≤ 20 →
    loopC (vN 5) mYes (mCall 2 (Pg.f_law_long fu) [] (mCons (mVar 0) (mCons (mVar 5) mNil))) [some (.int y), a, b, c, e, none] (rngL lo 1 n) (acc.map .int) = .ok ((acc ++ lens y lo n).map .int)
  | 0, lo, acc, _, _, _ => by simp [rngL, loopC, lens]
  | n + 1, lo, acc, h1, h2, h3 => by
    have l := law_long fu y lo h1 (by omega)
    have ih := comp_loop fu y a b c e n (lo + 1) (acc ++ [len y lo]) (by omega) (by omega) (by simp; omega)
    have hm : acc.length < 16777216 := by omega
    rw [rngL_succ, loopC]
    simp [vN, mYes, l, hm]
    simp at ih
    rw [ih, lens]
    simp
theorem rng2_1 (m : Int) (h1 : 1 ≤ m) (h2 : m ≤ 13) : rng2 [.int 1, .int m] = some (rngL 1 1 (m - 1).toNat) := by
  show (if (lim62 1 && lim62 m) = true then some (rngL 1 1 (m - 1).toNat) else none) = _
  rw [if_pos]
  unfold lim62
  simp
  omega
theorem law_count (fu : Nat) (y m d : Int) (hy : y.natAbs < 2 ^ 100) (h1 : 1 ≤ m) (h2 : m ≤ 12) : Pg.f_law_count fu [.int y, .int m, .int d] = .ok (.int (ahead y + months y 1 (m - 1).toNat + d - 1)) := by
  have mu := mul_s (i := 365) (j := y - 1) (by decide) (by omega)
  have d1 := fdv_n (y - 1) 4 (by decide) (by decide)
  have d2 := fdv_n (y - 1) 100 (by decide) (by decide)
  have d3 := fdv_n (y - 1) 400 (by decide) (by decide)
  simp at d1 d2 d3
  have r := rng2_1 m h1 (by omega)
  obtain ⟨n, hn⟩ : ∃ n : Nat, (m - 1).toNat = n := ⟨_, rfl⟩
  have hn2 : n ≤ 11 := by omega
  rw [hn] at r ⊢
  have cl := comp_loop fu y (some (.int m)) (some (.int d)) (some (.int (y - 1))) (some (.int (ahead y))) n 1 [] (by decide) (by omega) (by simp; omega)
  rw [List.map_nil, List.nil_append] at cl
  have sm : fSum [.list ((lens y 1 n).map .int)] = some (.int (months y 1 n)) := by
    show (intsD ((lens y 1 n).map .int)).map (fun ns => PyData.int ns.sum) = _
    rw [ints_map, Option.map_some, lens_sum]
  have nl : nLc (mRng rng2 (mCons (mC (.int 1)) (mCons (mVar 1) (mNil)))) [5] (vN 5) (mYes) (mCall 2 (Pg.f_law_long fu) [] (mCons (mVar 0) (mCons (mVar 5) (mNil)))) [some (.int y), some (.int m), some (.int d), some (.int (y - 1)), some (.int (ahead y)), none] = .ok ((lens y 1 n).map .int) := by
    unfold nLc
    simp [r, wipeV, cl]
  rw [Pg.f_law_count, Pg.s_law_count]
  have ea : 365 * (y - 1) + (y - 1) / 4 - (y - 1) / 100 + (y - 1) / 400 = ahead y := rfl
  simp [run_eq, mu, d1, d2, d3, ea, nl, sm]
/-- a day that there is -/
theorem day_of (fu : Nat) (y m d : Int) (hy : 1 ≤ y ∧ y ≤ 9999) (hm : 1 ≤ m ∧ m ≤ 12) (hd : 1 ≤ d ∧ d ≤ len y m) : Pg.f_p_day_of fu [.int y, .int m, .int d] = .ok (.int (ahead y + months y 1 (m - 1).toNat + d - 1)) := by
  have r := rng2_1 m hm.1 (by omega)
  obtain ⟨n, hn⟩ : ∃ n : Nat, (m - 1).toNat = n := ⟨_, rfl⟩
  rw [hn] at r ⊢
  have l := length_of fu y m
  have a := ahead_of fu y (by omega)
  obtain ⟨c', h⟩ := day_loop fu (.int y) (.int m) (.int d) y rfl n 1 (ahead y + d - 1) .un
  have h1 : mRng rng2 (mCons (mC (.int 1)) (mCons (mVar 1) (mNil))) (vd [.dat (.int y), .dat (.int m), .dat (.int d), .dat (.int (ahead y + d - 1)), .un]) = .ok (rngL 1 1 n) := by simp [r]
  have hf := (forG (t := gN 4) (b := Pg.b_p_day_of_1 fu) h1).trans h
  rw [Pg.f_p_day_of, Pg.s_p_day_of]
  simp [run_eq, l, a, hf, Int.not_lt.mpr hy.1, Int.not_lt.mpr hy.2, Int.not_lt.mpr hm.1, Int.not_lt.mpr hm.2, Int.not_lt.mpr hd.1, Int.not_lt.mpr hd.2]
  omega
theorem day_of_bad (fu : Nat) (y m d : Int) (h : ¬ ((1 ≤ y ∧ y ≤ 9999) ∧ (1 ≤ m ∧ m ≤ 12) ∧ 1 ≤ d ∧ d ≤ len y m)) : Pg.f_p_day_of fu [.int y, .int m, .int d] = .exc "NoDay" none := by
  have l := length_of fu y m
  have ff : flatO none = true := rfl
  rw [Pg.f_p_day_of, Pg.s_p_day_of]
  by_cases a : y < 1
  · simp [run_eq, a]
  · by_cases b : 9999 < y
    · simp [run_eq, a, b]
    · by_cases c : m < 1
      · simp [run_eq, a, b, c]
      · by_cases e : 12 < m
        · simp [run_eq, a, b, c, e]
        · by_cases f : d < 1
          · simp [run_eq, a, b, c, e, f]
          · by_cases g : len y m < d
            · simp [run_eq, a, b, c, e, f, l, g]
            · exact absurd ⟨⟨by omega, by omega⟩, ⟨by omega, by omega⟩, by omega, by omega⟩ h
end Cal
set_option Elab.async false
set_option linter.all false
set_option maxRecDepth 100000
set_option maxHeartbeats 4000000
/-! Tn: the scale by turns. -/
namespace Num
open PySem MI Cal
def P (B n : Int) : Int := B ^ n.toNat
theorem pow_bd {B : Int} (h1 : 2 ≤ B) (h2 : B ≤ 10) : ∀ k : Nat, 0 < B ^ k ∧ (B ^ k).natAbs < 2 ^ (4 * k + 1)
  | 0 => ⟨by simp, by simp⟩
  | k + 1 => by
    obtain ⟨p, b⟩ := pow_bd h1 h2 k
    refine ⟨by rw [Int.pow_succ]; exact Int.mul_pos p (by omega), ?_⟩
    rw [Int.pow_succ]
    exact mul_bd (4 * k + 1) 4 _ b (by omega) (by omega)
theorem P_pos {B : Int} (h1 : 2 ≤ B) (h2 : B ≤ 10) (n : Int) : 0 < P B n := (pow_bd h1 h2 _).1
theorem P_bd {B : Int} (h1 : 2 ≤ B) (h2 : B ≤ 10) {n : Int} {k : Nat} (h : n ≤ k) : (P B n).natAbs < 2 ^ (4 * k + 1) :=
  Nat.lt_of_lt_of_le (pow_bd h1 h2 _).2 (Nat.pow_le_pow_right (by decide) (by omega))
theorem B_ne {B : Int} (h1 : 2 ≤ B) : (B : Rat) ≠ 0 := fun e => by
  have := Rat.intCast_eq_zero_iff.mp e
  omega
theorem B_pos {B : Int} (h1 : 2 ≤ B) : (0 : Rat) < (B : Rat) := Rat.intCast_pos.mpr (by omega)
theorem P_q {B : Int} (h1 : 2 ≤ B) (n : Int) : (P B n : Rat) = (B : Rat) ^ n * (P B (-n) : Rat) := by
  unfold P
  rcases Int.le_total 0 n with h | h
  · obtain ⟨k, rfl⟩ : ∃ k : Nat, n = k := ⟨n.toNat, by omega⟩
    rw [show (-(k : Int)).toNat = 0 by omega, show ((k : Int)).toNat = k by omega, Rat.zpow_natCast, Rat.intCast_pow]
    simp
  · obtain ⟨k, rfl⟩ : ∃ k : Nat, n = -(k : Int) := ⟨(-n).toNat, by omega⟩
    rw [show (-(k : Int)).toNat = 0 by omega, show (-(-(k : Int))).toNat = k by omega, Rat.zpow_neg, Rat.zpow_natCast, Rat.intCast_pow, Rat.intCast_pow]
    have : (B : Rat) ^ k ≠ 0 := Rat.ne_of_gt (Rat.pow_pos (B_pos h1))
    rw [Rat.inv_mul_cancel _ this]
    simp
theorem pow_loop (fu : Nat) {B : Int} (h1 : 2 ≤ B) (h2 : B ≤ 10) (c1 : Cell) : ∀ (m k : Nat) (lo : Int) (c : Cell), k + m ≤ 10000 → ∃ c', loopF (gN 3) (Pg.b_p_power_of_1 fu) (rngL lo 1 m) [.dat (.int B), c1, .dat (.int (B ^ k)), c] = .nx [.dat (.int B), c1, .dat (.int (B ^ (k + m))), c']
  | 0, k, lo, c, _ => ⟨c, by simp [rngL, loopF]⟩
  | m + 1, k, lo, c, h => by
    obtain ⟨c', e⟩ := pow_loop fu h1 h2 c1 m (k + 1) (lo + 1) (.dat (.int lo)) (by omega)
    refine ⟨c', ?_⟩
    have mu := mulB (pow_bd h1 h2 k).2 (show B.natAbs < 2 ^ 4 by omega) (by omega) (by decide) (by omega)
    rw [← Int.pow_succ] at mu
    rw [rngL_succ, loopF_cons (g2 := [.dat (.int B), c1, .dat (.int (B ^ (k + 1))), .dat (.int lo)]) rfl (by rw [Pg.b_p_power_of_1]; simp [mu]), e]
    rw [show k + 1 + m = k + (m + 1) by omega]
theorem power_of (fu : Nat) {B : Int} (h1 : 2 ≤ B) (h2 : B ≤ 10) (n : Int) (hn : n.natAbs ≤ 10000) : Pg.f_p_power_of fu [.int B, .int n] = .ok (.int (P B n)) := by
  have r : rng1 [.int n] = some (rngL 0 1 n.toNat) := by
    show (if lim62 n = true then some (rngL 0 1 n.toNat) else none) = _
    rw [if_pos]
    unfold lim62
    simp
    omega
  obtain ⟨c', e⟩ := pow_loop fu h1 h2 (.dat (.int n)) n.toNat 0 0 .un (by omega)
  rw [Nat.zero_add] at e
  have hi : mRng rng1 (mCons (mVar 1) (mNil)) (vd [.dat (.int B), .dat (.int n), .dat (.int (B ^ 0)), .un]) = .ok (rngL 0 1 n.toNat) := by simp [r]
  have hf := (forG (t := gN 3) (b := Pg.b_p_power_of_1 fu) hi).trans e
  have one : B ^ 0 = 1 := by simp
  rw [one] at hf
  rw [Pg.f_p_power_of, Pg.s_p_power_of]
  unfold P
  simp [run_eq, hf]
/-- where a place's number is -/
def val (B low : Int) (t : Rat) : Rat := (B : Rat) ^ (low + t.num / t.den) * (1 + (t - ((t.num / (t.den : Int) : Int) : Rat)) * ((B : Rat) - 1))
theorem fl_le (t : Rat) : ((t.num / (t.den : Int) : Int) : Rat) ≤ t := by
  rw [Rat.le_iff]
  show (t.num / (t.den : Int)) * (t.den : Int) ≤ t.num * ((1 : Nat) : Int)
  have := Int.ediv_mul_le t.num (show (t.den : Int) ≠ 0 by have := t.den_pos; omega)
  simp
  exact this
theorem lt_fl (t : Rat) : t < ((t.num / (t.den : Int) : Int) : Rat) + 1 := by
  have e : ((t.num / (t.den : Int) : Int) : Rat) + 1 = ((t.num / (t.den : Int) + 1 : Int) : Rat) := by rw [Rat.intCast_add]; rfl
  rw [e, Rat.lt_iff]
  show t.num * ((1 : Nat) : Int) < (t.num / (t.den : Int) + 1) * (t.den : Int)
  have := Int.lt_ediv_add_one_mul_self t.num (show 0 < (t.den : Int) by have := t.den_pos; omega)
  simp
  exact this
theorem fl_one (t : Rat) (k : Int) (h1 : (k : Rat) ≤ t) (h2 : t < (k : Rat) + 1) : t.num / (t.den : Int) = k := by
  have a := fl_le t
  have b := lt_fl t
  have c : ((t.num / (t.den : Int) : Int) : Rat) < ((k + 1 : Int) : Rat) := by
    rw [Rat.intCast_add]
    grind
  have d : (k : Rat) < ((t.num / (t.den : Int) + 1 : Int) : Rat) := by
    rw [Rat.intCast_add]
    grind
  have c2 := Rat.intCast_lt_intCast.mp c
  have d2 := Rat.intCast_lt_intCast.mp d
  omega
theorem fl_frac (t : Rat) (n d : Int) (hd : 0 < d) (e : t * (d : Rat) = (n : Rat)) : t.num / (t.den : Int) = n / d ∧ (t - ((t.num / (t.den : Int) : Int) : Rat)) * (d : Rat) = ((n % d : Int) : Rat) := by
  have e2 : t.num * d = n * (t.den : Int) := by
    apply Rat.intCast_inj.mp
    rw [Rat.intCast_mul, Rat.intCast_mul, num_eq t, ← e]
    grind
  have q : t.num / (t.den : Int) = n / d := by
    have a := Int.mul_ediv_mul_of_pos_left t.num (t.den : Int) hd
    have b := Int.mul_ediv_mul_of_pos_left n d (show 0 < (t.den : Int) by have := t.den_pos; omega)
    rw [← a, ← b, e2, Int.mul_comm d]
  refine ⟨q, ?_⟩
  rw [q]
  have m := Int.emod_add_mul_ediv n d
  have m2 : ((n % d : Int) : Rat) = (n : Rat) - (d : Rat) * ((n / d : Int) : Rat) := by
    rw [← Rat.intCast_mul, ← Rat.intCast_sub]
    congr 1
    omega
  rw [m2, ← e]
  grind
theorem val_pos {B : Int} (h1 : 2 ≤ B) (low : Int) (t : Rat) : 0 < val B low t := by
  unfold val
  refine Rat.mul_pos (Rat.zpow_pos (B_pos h1)) ?_
  have a := fl_le t
  have b : (0 : Rat) ≤ (B : Rat) - 1 := by
    have : ((1 : Int) : Rat) ≤ (B : Rat) := Rat.intCast_le_intCast.mpr (by omega)
    have e : ((1 : Int) : Rat) = 1 := rfl
    rw [e] at this
    grind
  have c := Rat.mul_nonneg (a := t - ((t.num / (t.den : Int) : Int) : Rat)) (by grind) b
  grind
/-- what a scale by turns holds -/
structure Tu (B low many L : Int) : Prop where
  b1 : 2 ≤ B
  b2 : B ≤ 10
  l : -200 ≤ low ∧ low ≤ 200
  m : 1 ≤ many ∧ many ≤ 400
  L : 1 ≤ L ∧ L ≤ 4000
def sct (B low many L : Int) : MI.D := .tuple [.str "turns", .int B, .int low, .int many, .int L]
section
variable {fu : Nat} (hfu : FU ≤ fu) {B low many L : Int} (tu : Tu B low many L)
include hfu tu
theorem back_t {p : Rat} {k : Nat} (hp : Bd k p) (hk : k ≤ 213) (p0 : 0 ≤ p) (p1 : p ≤ (L : Rat)) :
    Pg.f_p_back_turns fu [sct B low many L, nm p] = .ok (nm (val B low (p * Rat.divInt many L))) ∧ Bd 3000 (val B low (p * Rat.divInt many L)) := by
  obtain ⟨b1, b2, ⟨l1, l2⟩, ⟨m1, m2⟩, L1, L2⟩ := tu
  have Lb : L.natAbs < 2 ^ 13 := by omega
  have mb : many.natAbs < 2 ^ 13 := by omega
  obtain ⟨e1, y1, y2⟩ := lowest_q fu hfu (top := many) (bottom := L) (by omega) (sm_of Lb (by decide))
  have bq : Bd 13 (Rat.divInt many L) := ⟨Nat.lt_of_le_of_lt y1 mb, Nat.lt_of_le_of_lt y2 Lb⟩
  obtain ⟨e2, bt⟩ := times_q hfu hp bq (by omega)
  have LR : (0 : Rat) < (L : Rat) := Rat.intCast_pos.mpr (by omega)
  have MR : (0 : Rat) < (many : Rat) := Rat.intCast_pos.mpr (by omega)
  have tl : p * Rat.divInt many L * (L : Rat) = p * (many : Rat) := by
    rw [Rat.divInt_eq_div]
    have := Rat.div_mul_cancel (a := (many : Rat)) (Rat.ne_of_gt LR)
    grind
  obtain ⟨t, ht⟩ : ∃ t, p * Rat.divInt many L = t := ⟨_, rfl⟩
  rw [ht] at e2 bt tl ⊢
  have t0 : 0 ≤ t := Rat.le_of_mul_le_mul_right (c := (L : Rat)) (by rw [tl, Rat.zero_mul]; exact Rat.mul_nonneg p0 (Rat.le_of_lt MR)) LR
  have t1 : t ≤ (many : Rat) := Rat.le_of_mul_le_mul_right (c := (L : Rat)) (by rw [tl, Rat.mul_comm (many : Rat)]; exact Rat.mul_le_mul_of_nonneg_right p1 (Rat.le_of_lt MR)) LR
  have f1 := fl_le t
  have f2 := lt_fl t
  have dv : fFdv (.int t.num) (.int (t.den : Int)) = some (.int (t.num / t.den)) := fFdv_pos (by have := t.den_pos; omega) (Nat.lt_of_lt_of_le (log2_lt (show ((t.den : Int)).natAbs < 2 ^ (k + 13) from bt.2) (by omega)) (by omega))
  unfold val
  obtain ⟨w, hw⟩ : ∃ w, t.num / (t.den : Int) = w := ⟨_, rfl⟩
  rw [hw] at f1 f2 dv ⊢
  have w0 : -1 < w := by
    have : ((-1 : Int) : Rat) < (w : Rat) := by
      have e : ((-1 : Int) : Rat) = -1 := rfl
      rw [e]
      grind
    exact Rat.intCast_lt_intCast.mp this
  have w1 : w ≤ many := Rat.intCast_le_intCast.mp (Rat.le_trans f1 t1)
  obtain ⟨e3, b3⟩ := minus_q hfu bt (bd_int (show w.natAbs < 2 ^ 13 by omega) (by decide)) (by omega)
  have P1 := power_of fu b1 b2 (low + w) (by omega)
  have P2 := power_of fu b1 b2 (-low - w) (by omega)
  have d1 := P_bd b1 b2 (n := low + w) (k := 600) (by omega)
  have d2 := P_bd b1 b2 (n := -low - w) (k := 600) (by omega)
  have pp := P_pos b1 b2 (-low - w)
  obtain ⟨e4, z1, z2⟩ := lowest_q fu hfu (top := P B (low + w)) (bottom := P B (-low - w)) (by omega) (sm_of d2 (by decide))
  have bz : Bd 2401 (Rat.divInt (P B (low + w)) (P B (-low - w))) := ⟨Nat.lt_of_le_of_lt z1 d1, Nat.lt_of_le_of_lt z2 d2⟩
  have pw : Rat.divInt (P B (low + w)) (P B (-low - w)) = (B : Rat) ^ (low + w) := by
    rw [Rat.divInt_eq_div, P_q b1 (low + w), show -(low + w) = -low - w by omega]
    exact Rat.mul_div_cancel (Rat.ne_of_gt (Rat.intCast_pos.mpr pp))
  rw [pw] at e4 bz
  obtain ⟨e5, b5⟩ := times_q hfu b3 (bd_int (show (B - 1).natAbs < 2 ^ 4 by omega) (by decide)) (by omega)
  obtain ⟨e6, b6⟩ := plus_q hfu (bd_int (show (1 : Int).natAbs < 2 ^ 1 by decide) (by decide)) b5 (by omega)
  obtain ⟨e7, b7⟩ := times_q hfu bz b6 (by omega)
  rw [nm_int] at e3 e5 e6
  have o1 : ((1 : Int) : Rat) = 1 := rfl
  have o2 : ((B - 1 : Int) : Rat) = (B : Rat) - 1 := by rw [Rat.intCast_sub]; rfl
  rw [o1, o2] at e6 e7 b7
  rw [o2] at e5
  refine ⟨?_, bd_mono b7 (by omega)⟩
  unfold sct
  rw [Pg.f_p_back_turns, Pg.s_p_back_turns]
  simp [run_eq, e1, e2, nm0, nm1, dv, e3, P1, P2, e4, e5, e6, e7]
end
theorem diff_q {B : Int} (h1 : 2 ≤ B) (c : Rat) (n : Int) : ((c.num * P B (-n) - (c.den : Int) * P B n : Int) : Rat) = (c - (B : Rat) ^ n) * (((c.den : Int) : Rat) * (P B (-n) : Rat)) := by
  rw [Rat.intCast_sub, Rat.intCast_mul, Rat.intCast_mul, num_eq c, P_q h1 n]
  grind
theorem diff_pos {B : Int} (h1 : 2 ≤ B) (h2 : B ≤ 10) (c : Rat) (n : Int) : (0 : Rat) < ((c.den : Int) : Rat) * (P B (-n) : Rat) :=
  Rat.mul_pos (Rat.intCast_pos.mpr (by have := c.den_pos; omega)) (Rat.intCast_pos.mpr (P_pos h1 h2 _))
theorem diff_gt {B : Int} (h1 : 2 ≤ B) (h2 : B ≤ 10) (c : Rat) (n : Int) : 0 < c.num * P B (-n) - (c.den : Int) * P B n ↔ (B : Rat) ^ n < c := by
  have e := diff_q h1 c n
  rw [← Rat.intCast_pos, e, Rat.mul_pos_iff_of_pos_right (diff_pos h1 h2 c n), ← Rat.lt_iff_sub_pos]
theorem diff_lt {B : Int} (h1 : 2 ≤ B) (h2 : B ≤ 10) (c : Rat) (n : Int) : c.num * P B (-n) - (c.den : Int) * P B n < 0 ↔ c < (B : Rat) ^ n := by
  have e := diff_q h1 c n
  have z : ((0 : Int) : Rat) = 0 := rfl
  rw [← Rat.intCast_lt_intCast, e, z, Rat.mul_neg_iff_of_pos_right (diff_pos h1 h2 c n)]
  constructor <;> intro h <;> grind
theorem turn_loop (fu : Nat) {B many top : Int} (h1 : 2 ≤ B) (h2 : B ≤ 10) (ht : top.natAbs < 2 ^ 1001) (c0 c1 c2 c4 c6 c10 : Cell) : ∀ (n : Nat) (b u : Int), 0 < b → b ≤ top → 0 ≤ u → u ≤ many → (many - u).toNat < n →
    ∃ (b' : Int) (k : Nat), (0 < b' ∧ b' ≤ top) ∧ u + k ≤ many ∧ b' = b * B ^ k ∧ (u + k = many ∨ top < b' * B) ∧ loopW (mAndT (mTru (mBin fLt (mVar 9) (mVar 5))) (mTru (mBin fLe (mBin fMul (mVar 8) (mVar 3)) (mVar 7)))) (Pg.b_p_along_turns_1 fu) n [c0, c1, c2, .dat (.int B), c4, .dat (.int many), c6, .dat (.int top), .dat (.int b), .dat (.int u), c10] = .nx [c0, c1, c2, .dat (.int B), c4, .dat (.int many), c6, .dat (.int top), .dat (.int b'), .dat (.int (u + k)), c10]
  | 0, b, u, _, _, _, _, h => by omega
  | n + 1, b, u, b0, bt, u0, um, h => by
    have mu := mulB (show b.natAbs < 2 ^ 1001 by omega) (show B.natAbs < 2 ^ 4 by omega) (by decide) (by decide) (by decide)
    by_cases w1 : u < many
    · by_cases w2 : b * B ≤ top
      · obtain ⟨b', k, p1, p2, p3, p4, p5⟩ := turn_loop fu (many := many) h1 h2 ht c0 c1 c2 c4 c6 c10 n (b * B) (u + 1) (Int.mul_pos b0 (by omega)) w2 (by omega) (by omega) (by omega)
        have e : u + 1 + (k : Int) = u + ((k + 1 : Nat) : Int) := by omega
        rw [e] at p2 p4 p5
        refine ⟨b', k + 1, p1, p2, ?_, p4, ?_⟩
        · rw [p3, Int.pow_succ, Int.mul_assoc, Int.mul_comm B]
        · rw [loopW_ap, Pg.b_p_along_turns_1]
          rw [Pg.b_p_along_turns_1] at p5
          simp [w1, mu, w2]
          simpa using p5
      · refine ⟨b, 0, ⟨b0, bt⟩, by omega, by simp, .inr (by omega), ?_⟩
        rw [loopW_ap]
        simp [w1, mu, w2]
    · refine ⟨b, 0, ⟨b0, bt⟩, by omega, by simp, .inl (by omega), ?_⟩
      rw [loopW_ap]
      simp [w1]
section
variable {fu : Nat} (hfu : FU ≤ fu) {B low many L : Int} (tu : Tu B low many L)
include hfu tu
omit hfu tu in
theorem along_n {c : Rat} (hc : c ≤ 0) : Pg.f_p_along_turns fu [sct B low many L, nm c] = .ok (.str "nought") := by
  have n0 : c.num ≤ 0 := by
    have h := (Rat.le_iff c 0).mp hc
    simpa using h
  unfold sct
  rw [Pg.f_p_along_turns, Pg.s_p_along_turns]
  simp [run_eq, nm0, n0]
theorem along_t {c : Rat} (hc : Bd 200 c) (c0 : 0 < c) :
    (c < (B : Rat) ^ low → Pg.f_p_along_turns fu [sct B low many L, nm c] = .ok (.str "outside")) ∧
    ((B : Rat) ^ (low + many) < c → Pg.f_p_along_turns fu [sct B low many L, nm c] = .ok (.str "outside")) ∧
    (¬ c < (B : Rat) ^ low → ¬ (B : Rat) ^ (low + many) < c → ∃ p : Rat, Pg.f_p_along_turns fu [sct B low many L, nm c] = .ok (nm p) ∧ Bd 1040 p ∧ 0 ≤ p ∧ p ≤ (L : Rat) ∧ val B low (p * Rat.divInt many L) = c) := by
  obtain ⟨b1, b2, ⟨l1, l2⟩, ⟨m1, m2⟩, L1, L2⟩ := tu
  have n0 : ¬ c.num ≤ 0 := by
    have h := (Rat.lt_iff 0 c).mp c0
    simp at h
    omega
  have P1 := power_of fu b1 b2 (-low) (by omega)
  have P2 := power_of fu b1 b2 low (by omega)
  have d1 := P_bd b1 b2 (n := -low) (k := 200) (by omega)
  have d2 := P_bd b1 b2 (n := low) (k := 200) (by omega)
  have q1 := P_pos b1 b2 (-low)
  have q2 := P_pos b1 b2 low
  have dp : ((c.den : Int)).natAbs < 2 ^ 200 := hc.2
  have mt := mulB hc.1 d1 (by decide) (by decide) (by decide)
  have mb := mulB dp d2 (by decide) (by decide) (by decide)
  have tb := mul_bd _ _ 1001 hc.1 d1 (by decide)
  have bb := mul_bd _ _ 1001 dp d2 (by decide)
  have dl := diff_lt b1 b2 c low
  have bpos : 0 < (c.den : Int) * P B low := Int.mul_pos (by have := c.den_pos; omega) q2
  have Kp := diff_pos b1 b2 c low
  have topq : ((c.num * P B (-low) : Int) : Rat) = c * (((c.den : Int) : Rat) * (P B (-low) : Rat)) := by
    rw [Rat.intCast_mul, num_eq c]
    grind
  have botq : (((c.den : Int) * P B low : Int) : Rat) = (B : Rat) ^ low * (((c.den : Int) : Rat) * (P B (-low) : Rat)) := by
    rw [Rat.intCast_mul, P_q b1 low]
    grind
  obtain ⟨K, hK⟩ : ∃ K, ((c.den : Int) : Rat) * (P B (-low) : Rat) = K := ⟨_, rfl⟩
  rw [hK] at Kp topq botq
  obtain ⟨top, htop⟩ : ∃ x, c.num * P B (-low) = x := ⟨_, rfl⟩
  obtain ⟨bot, hbot⟩ : ∃ x, (c.den : Int) * P B low = x := ⟨_, rfl⟩
  rw [htop] at mt tb dl topq
  rw [hbot] at mb bb dl bpos botq
  have BL := Rat.zpow_add (B_ne b1) low
  unfold sct
  by_cases o1 : top < bot
  · have lt := dl.mp (by omega)
    refine ⟨fun _ => ?_, fun _ => ?_, fun h => absurd lt h⟩
    · rw [Pg.f_p_along_turns, Pg.s_p_along_turns]
      simp [run_eq, nm0, nm1, n0, P1, P2, mt, mb, o1]
    · rw [Pg.f_p_along_turns, Pg.s_p_along_turns]
      simp [run_eq, nm0, nm1, n0, P1, P2, mt, mb, o1]
  have nlt : ¬ c < (B : Rat) ^ low := fun h => o1 (by have := dl.mpr h; omega)
  obtain ⟨b', k, ⟨bp, bt⟩, km, be, ends, lp⟩ := turn_loop fu (many := many) b1 b2 tb (.dat (.tuple [.str "turns", .int B, .int low, .int many, .int L])) (.dat (nm c)) (.dat (.str "turns")) (.dat (.int low)) (.dat (.int L)) .un fu bot 0 bpos (by omega) (by decide) (by omega) (Nat.lt_of_lt_of_le (fu_lt (b := 10) (show (many - 0).toNat < 2 ^ 10 by omega) (by decide)) hfu)
  have bq : (b' : Rat) = (B : Rat) ^ (low + (k : Int)) * K := by
    rw [be, Rat.intCast_mul, Rat.intCast_pow, botq, BL, Rat.zpow_natCast]
    grind
  have Zp : (0 : Rat) < (B : Rat) ^ (low + (k : Int)) := Rat.zpow_pos (B_pos b1)
  rw [Int.zero_add] at lp km ends
  have MR : (0 : Rat) < (many : Rat) := Rat.intCast_pos.mpr (by omega)
  have LR : (0 : Rat) < (L : Rat) := Rat.intCast_pos.mpr (by omega)
  by_cases w : (k : Int) = many
  · rw [w] at lp bq Zp
    by_cases o2 : b' < top
    · have gt : (B : Rat) ^ (low + many) < c := by
        have h := Rat.intCast_lt_intCast.mpr o2
        rw [topq, bq] at h
        exact Rat.lt_of_mul_lt_mul_right h (Rat.le_of_lt Kp)
      refine ⟨fun h => absurd h nlt, fun _ => ?_, fun _ h => absurd gt h⟩
      rw [Pg.f_p_along_turns, Pg.s_p_along_turns]
      simp [run_eq, nm0, nm1, n0, P1, P2, mt, mb, o1, lp, o2]
    · have e : top = b' := by omega
      have ce : c = (B : Rat) ^ (low + many) := by
        have h : (top : Rat) = (b' : Rat) := by rw [e]
        rw [topq, bq] at h
        have := Rat.ne_of_gt Kp
        grind
      refine ⟨fun h => absurd h nlt, fun h => absurd (ce ▸ h) Rat.lt_irrefl, fun _ _ => ⟨(L : Rat), ?_, bd_mono (bd_int (show L.natAbs < 2 ^ 13 by omega) (by decide)) (by decide), Rat.le_of_lt LR, Rat.le_refl, ?_⟩⟩
      · rw [nm_int, Pg.f_p_along_turns, Pg.s_p_along_turns]
        simp [run_eq, nm0, nm1, n0, P1, P2, mt, mb, o1, lp, o2]
      · have t : (L : Rat) * Rat.divInt many L = (many : Rat) := by
          rw [Rat.divInt_eq_div, Rat.mul_comm, Rat.div_mul_cancel (Rat.ne_of_gt LR)]
        rw [t]
        unfold val
        have f : ((many : Rat)).num / (((many : Rat)).den : Int) = many := by
          show many / ((1 : Nat) : Int) = many
          simp
        rw [f, ce]
        grind
  · have kl : (k : Int) < many := by omega
    have tl : top < b' * B := by
      rcases ends with z | z
      · exact absurd z w
      · exact z
    have B1 : (0 : Rat) < (B : Rat) - 1 := by
      have : ((1 : Int) : Rat) < (B : Rat) := Rat.intCast_lt_intCast.mpr (by omega)
      have e : ((1 : Int) : Rat) = 1 := rfl
      rw [e] at this
      grind
    have m1' := mulB (show b'.natAbs < 2 ^ 1001 by omega) (show (B - 1).natAbs < 2 ^ 4 by omega) (by decide) (by decide) (by decide)
    have m1b := mul_bd _ _ 1005 (show b'.natAbs < 2 ^ 1001 by omega) (show (B - 1).natAbs < 2 ^ 4 by omega) (by decide)
    have zp : 0 < b' * (B - 1) := Int.mul_pos bp (by omega)
    obtain ⟨e1, y1, y2⟩ := lowest_q fu hfu (top := top - b') (bottom := b' * (B - 1)) (by omega) (sm_of m1b (by decide))
    obtain ⟨z, hz⟩ : ∃ z, Rat.divInt (top - b') (b' * (B - 1)) = z := ⟨_, rfl⟩
    have zq : z * ((b' : Rat) * ((B : Rat) - 1)) = (top : Rat) - (b' : Rat) := by
      have e : ((B - 1 : Int) : Rat) = (B : Rat) - 1 := by rw [Rat.intCast_sub]; rfl
      rw [← hz, Rat.divInt_eq_div, Rat.intCast_mul, Rat.intCast_sub, e]
      refine Rat.div_mul_cancel (Rat.ne_of_gt (Rat.mul_pos (Rat.intCast_pos.mpr bp) B1))
    rw [hz] at e1 y1 y2
    have bz : Bd 1005 z := ⟨Nat.lt_of_le_of_lt y1 (Nat.lt_trans (show (top - b').natAbs < 2 ^ 1001 by omega) (Nat.pow_lt_pow_right (by decide) (by decide))), Nat.lt_of_le_of_lt y2 m1b⟩
    obtain ⟨e2, b2z⟩ := plus_q hfu (bd_int (show (k : Int).natAbs < 2 ^ 13 by omega) (by decide)) bz (by decide)
    obtain ⟨e3, x1, x2⟩ := lowest_q fu hfu (top := L) (bottom := many) (by omega) (sm_of (show many.natAbs < 2 ^ 13 by omega) (by decide))
    have b3 : Bd 13 (Rat.divInt L many) := ⟨Nat.lt_of_le_of_lt x1 (by omega), Nat.lt_of_le_of_lt x2 (by omega)⟩
    obtain ⟨e4, b4⟩ := times_q hfu b2z b3 (by decide)
    rw [nm_int] at e2
    have bR : (0 : Rat) < (b' : Rat) := Rat.intCast_pos.mpr bp
    have z0 : 0 ≤ z := Rat.le_of_mul_le_mul_right (c := (b' : Rat) * ((B : Rat) - 1)) (by
      rw [zq, Rat.zero_mul]
      have := Rat.intCast_le_intCast.mpr bt
      grind) (Rat.mul_pos bR B1)
    have z1 : z < 1 := Rat.lt_of_mul_lt_mul_right (c := (b' : Rat) * ((B : Rat) - 1)) (by
      rw [zq]
      have := Rat.intCast_lt_intCast.mpr tl
      rw [Rat.intCast_mul] at this
      grind) (Rat.le_of_lt (Rat.mul_pos bR B1))
    have k0 : (0 : Rat) ≤ ((k : Int) : Rat) := Rat.intCast_nonneg.mpr (by omega)
    have k1 : ((k : Int) : Rat) + 1 ≤ (many : Rat) := by
      have := Rat.intCast_le_intCast.mpr (show (k : Int) + 1 ≤ many by omega)
      rw [Rat.intCast_add] at this
      exact this
    have tt : (((k : Int) : Rat) + z) * Rat.divInt L many * Rat.divInt many L = ((k : Int) : Rat) + z := by
      rw [Rat.divInt_eq_div, Rat.divInt_eq_div]
      have := Rat.ne_of_gt LR
      have := Rat.ne_of_gt MR
      grind
    have dv : Rat.divInt L many * (many : Rat) = (L : Rat) := by
      rw [Rat.divInt_eq_div, Rat.div_mul_cancel (Rat.ne_of_gt MR)]
    refine ⟨fun h => absurd h nlt, fun h => ?_, fun _ _ => ⟨_, ?_, bd_mono b4 (by decide), ?_, ?_, ?_⟩⟩
    · exfalso
      have c1 : c * K < (B : Rat) ^ (low + (k : Int)) * (B : Rat) * K := by
        have h := Rat.intCast_lt_intCast.mpr tl
        rw [Rat.intCast_mul, topq, bq] at h
        grind
      have c2 := Rat.lt_of_mul_lt_mul_right c1 (Rat.le_of_lt Kp)
      obtain ⟨j, hj⟩ : ∃ j : Nat, many = (k : Int) + 1 + j := ⟨(many - k - 1).toNat, by omega⟩
      have g1 : ∀ j : Nat, (1 : Rat) ≤ (B : Rat) ^ j := fun j => by
        induction j with
        | zero => rw [Rat.pow_zero]; exact Rat.le_refl
        | succ j ih =>
          rw [Rat.pow_succ]
          have a : (0 : Rat) ≤ ((B : Rat) ^ j - 1) * ((B : Rat) - 1) := Rat.mul_nonneg (by grind) (Rat.le_of_lt B1)
          grind
      have e5 : (B : Rat) ^ (low + many) = (B : Rat) ^ (low + (k : Int)) * (B : Rat) * (B : Rat) ^ j := by
        rw [hj, show low + ((k : Int) + 1 + (j : Int)) = (low + (k : Int) + 1) + (j : Int) by omega, Rat.zpow_add (B_ne b1), Rat.zpow_add_one (B_ne b1), Rat.zpow_natCast]
      have y : (0 : Rat) < (B : Rat) ^ (low + (k : Int)) * (B : Rat) := Rat.mul_pos Zp (B_pos b1)
      have g := Rat.mul_le_mul_of_nonneg_left (g1 j) (Rat.le_of_lt y)
      rw [← e5] at g
      grind
    · rw [Pg.f_p_along_turns, Pg.s_p_along_turns]
      simp [run_eq, nm0, nm1, n0, P1, P2, mt, mb, o1, lp, w, m1', e1, e2, e3, e4]
    · refine Rat.mul_nonneg (by grind) ?_
      rw [Rat.divInt_nonneg_iff_of_pos_right (by omega)]
      omega
    · have h := Rat.mul_le_mul_of_nonneg_right (a := ((k : Int) : Rat) + z) (b := (many : Rat)) (c := Rat.divInt L many) (by grind) (by
        rw [Rat.divInt_nonneg_iff_of_pos_right (by omega)]
        omega)
      rw [Rat.mul_comm (many : Rat), dv] at h
      exact h
    · rw [tt]
      have f := fl_one (((k : Int) : Rat) + z) (k : Int) (by grind) (by grind)
      unfold val
      rw [f]
      have bz2 : (b' : Rat) ≠ 0 := Rat.ne_of_gt bR
      have s1 : (B : Rat) ^ (low + (k : Int)) * (1 + (((k : Int) : Rat) + z - ((k : Int) : Rat)) * ((B : Rat) - 1)) * (b' : Rat) = (B : Rat) ^ (low + (k : Int)) * (top : Rat) := by
        have : (1 + (((k : Int) : Rat) + z - ((k : Int) : Rat)) * ((B : Rat) - 1)) * (b' : Rat) = (top : Rat) := by grind
        rw [Rat.mul_assoc, this]
      have s2 : c * (b' : Rat) = (B : Rat) ^ (low + (k : Int)) * (top : Rat) := by
        rw [topq, bq]
        grind
      have s3 := s1.trans s2.symm
      grind
end
end Num
set_option Elab.async false
set_option linter.all false
set_option maxRecDepth 100000
set_option maxHeartbeats 4000000
/-! Br: the broken scale. -/
namespace Num
open PySem MI Cal
structure Pc where
  lo : Rat
  hi : Rat
  b : Int
  e : Int
def Pc.d (p : Pc) : MI.D := .tuple [nm p.lo, nm p.hi, .int p.b, .int p.e]
structure Pc.Ok (p : Pc) : Prop where
  lt : p.lo < p.hi
  bl : Bd 130 p.lo
  bh : Bd 130 p.hi
  b0 : 0 ≤ p.b
  be : p.b < p.e
  e1 : p.e ≤ 8000
def Pc.has (c : Rat) (p : Pc) : Bool := decide (¬ c < p.lo ∧ ¬ p.hi < c)
def Pc.at_ (q : Rat) (p : Pc) : Bool := decide (¬ q < (p.b : Rat) ∧ ¬ (p.e : Rat) < q)
def Pc.told (c : Rat) (p : Pc) : Rat := (p.b : Rat) + (c - p.lo) * ((p.e - p.b : Int) : Rat) / (p.hi - p.lo)
def Pc.back (q : Rat) (p : Pc) : Rat := p.lo + (q - (p.b : Rat)) * (p.hi - p.lo) / ((p.e - p.b : Int) : Rat)
section
variable {fu : Nat} (hfu : FU ≤ fu)
include hfu
theorem told_q {c : Rat} (hc : Bd 250 c) {p : Pc} (ok : p.Ok) : Pg.f_p_along_straight fu [nm p.lo, nm p.hi, nm c, .int (p.e - p.b)] = .ok (if p.has c = true then nm (p.told c - (p.b : Rat)) else .none) ∧
    Pg.f_p_plus fu [.tuple [.int p.b, .int 1], nm (p.told c - (p.b : Rat))] = .ok (nm (p.told c)) ∧ Bd 700 (p.told c) := by
  obtain ⟨lt, bl, bh, b0, be, e1⟩ := ok
  obtain ⟨e, b⟩ := along_q hfu bl bh hc (L := p.e - p.b) (by omega) lt (by omega)
  have q : (c - p.lo) * ((p.e - p.b : Int) : Rat) / (p.hi - p.lo) = p.told c - (p.b : Rat) := by unfold Pc.told; grind
  rw [q] at e b
  obtain ⟨e2, b2⟩ := plus_q hfu (bd_int (show p.b.natAbs < 2 ^ 13 by omega) (by decide)) b (by omega)
  have q2 : (p.b : Rat) + (p.told c - (p.b : Rat)) = p.told c := by grind
  rw [q2, nm_int] at e2
  rw [q2] at b2
  refine ⟨?_, e2, bd_mono b2 (by omega)⟩
  rw [e]
  unfold Pc.has
  by_cases o : c < p.lo ∨ p.hi < c
  · rw [if_pos o, if_neg]
    rw [decide_eq_true_eq]
    rintro ⟨h1, h2⟩
    rcases o with o | o
    · exact h1 o
    · exact h2 o
  · rw [if_neg o, if_pos]
    have o1 : ¬ c < p.lo := fun h => o (.inl h)
    have o2 : ¬ p.hi < c := fun h => o (.inr h)
    rw [decide_eq_true_eq]
    exact ⟨o1, o2⟩
theorem back_pq {q : Rat} (hq : Bd 700 q) {p : Pc} (ok : p.Ok) : ∃ r, Pg.f_p_minus fu [nm q, .tuple [.int p.b, .int 1]] = .ok r ∧ Pg.f_p_back_straight fu [nm p.lo, nm p.hi, r, .int (p.e - p.b)] = .ok (nm (p.back q)) ∧ Bd 1500 (p.back q) := by
  obtain ⟨lt, bl, bh, b0, be, e1⟩ := ok
  obtain ⟨e2, b2⟩ := minus_q hfu hq (bd_int (show p.b.natAbs < 2 ^ 13 by omega) (by decide)) (by omega)
  obtain ⟨e, b⟩ := back_q hfu bl bh b2 (L := p.e - p.b) (by omega) (by omega) (by omega)
  rw [nm_int] at e2
  exact ⟨_, e2, e, bd_mono b (by omega)⟩
omit hfu in
theorem isn_some (r : Rat) : fIsN (nm r) .none = some (.bool true) := Eq.trans rfl rfl
omit hfu in
theorem isn_none : fIsN .none .none = some (.bool false) := Eq.trans rfl rfl
theorem along_loop {c : Rat} (hc : Bd 250 c) (c0 : Cell) : ∀ (ps : List Pc) (c2 c3 c4 c5 c6 : Cell), (∀ p ∈ ps, p.Ok) →
    (∃ p, ps.find? (Pc.has c) = some p ∧ loopF (gT (gsCons (gN 2) (gsCons (gN 3) (gsCons (gN 4) (gsCons (gN 5) (gsNil)))))) (Pg.b_p_along_pieces_1 fu) (ps.map Pc.d) [c0, .dat (nm c), c2, c3, c4, c5, c6] = .rt (nm (p.told c))) ∨
    (ps.find? (Pc.has c) = none ∧ ∃ x2 x3 x4 x5 x6, loopF (gT (gsCons (gN 2) (gsCons (gN 3) (gsCons (gN 4) (gsCons (gN 5) (gsNil)))))) (Pg.b_p_along_pieces_1 fu) (ps.map Pc.d) [c0, .dat (nm c), c2, c3, c4, c5, c6] = .nx [c0, .dat (nm c), x2, x3, x4, x5, x6])
  | [], c2, c3, c4, c5, c6, _ => .inr ⟨rfl, c2, c3, c4, c5, c6, loopF_nil⟩
  | p :: ps, c2, c3, c4, c5, c6, h => by
    have ok := h p (List.mem_cons_self ..)
    obtain ⟨e1, e2, _⟩ := told_q hfu hc ok
    cases hh : p.has c with
    | true =>
      rw [if_pos hh] at e1
      refine .inl ⟨p, by rw [List.find?_cons, hh], ?_⟩
      refine loopF_ret (g1 := [c0, .dat (nm c), .dat (nm p.lo), .dat (nm p.hi), .dat (.int p.b), .dat (.int p.e), c6]) rfl ?_
      rw [Pg.b_p_along_pieces_1]
      simp [e1, e2, isn_some]
    | false =>
      rw [if_neg (by rw [hh]; decide)] at e1
      have st : Pg.b_p_along_pieces_1 fu [c0, .dat (nm c), .dat (nm p.lo), .dat (nm p.hi), .dat (.int p.b), .dat (.int p.e), c6] = .nx [c0, .dat (nm c), .dat (nm p.lo), .dat (nm p.hi), .dat (.int p.b), .dat (.int p.e), .dat .none] := by
        rw [Pg.b_p_along_pieces_1]
        simp [e1, isn_none]
      have ih := along_loop hc c0 ps (.dat (nm p.lo)) (.dat (nm p.hi)) (.dat (.int p.b)) (.dat (.int p.e)) (.dat .none) (fun q hq => h q (List.mem_cons_of_mem _ hq))
      rw [List.map_cons, loopF_cons (g1 := [c0, .dat (nm c), .dat (nm p.lo), .dat (nm p.hi), .dat (.int p.b), .dat (.int p.e), c6]) rfl st, List.find?_cons, hh]
      exact ih
theorem back_loop {q : Rat} (hq : Bd 700 q) (c0 : Cell) : ∀ (ps : List Pc) (c2 c3 c4 c5 : Cell), (∀ p ∈ ps, p.Ok) →
    (∃ p, ps.find? (Pc.at_ q) = some p ∧ loopF (gT (gsCons (gN 2) (gsCons (gN 3) (gsCons (gN 4) (gsCons (gN 5) (gsNil)))))) (Pg.b_p_back_pieces_1 fu) (ps.map Pc.d) [c0, .dat (nm q), c2, c3, c4, c5] = .rt (nm (p.back q))) ∨
    (ps.find? (Pc.at_ q) = none ∧ ∃ x2 x3 x4 x5, loopF (gT (gsCons (gN 2) (gsCons (gN 3) (gsCons (gN 4) (gsCons (gN 5) (gsNil)))))) (Pg.b_p_back_pieces_1 fu) (ps.map Pc.d) [c0, .dat (nm q), c2, c3, c4, c5] = .nx [c0, .dat (nm q), x2, x3, x4, x5])
  | [], c2, c3, c4, c5, _ => .inr ⟨rfl, c2, c3, c4, c5, loopF_nil⟩
  | p :: ps, c2, c3, c4, c5, h => by
    have ok := h p (List.mem_cons_self ..)
    obtain ⟨r, e1, e2, _⟩ := back_pq hfu hq ok
    have bb : Bd 13 (p.b : Rat) := bd_int (by have := ok.b0; have := ok.be; have := ok.e1; omega) (by decide)
    have be : Bd 13 (p.e : Rat) := bd_int (by have := ok.b0; have := ok.be; have := ok.e1; omega) (by decide)
    have u1 := under_q (fu := fu) hq bb (by decide)
    have u2 := under_q (fu := fu) be hq (by decide)
    rw [nm_int] at u1 u2
    have st : Pg.b_p_back_pieces_1 fu [c0, .dat (nm q), .dat (nm p.lo), .dat (nm p.hi), .dat (.int p.b), .dat (.int p.e)] = if p.at_ q = true then .rt (nm (p.back q)) else .nx [c0, .dat (nm q), .dat (nm p.lo), .dat (nm p.hi), .dat (.int p.b), .dat (.int p.e)] := by
      unfold Pc.at_
      rw [Pg.b_p_back_pieces_1]
      by_cases a1 : q < (p.b : Rat)
      · simp [u1, a1]
      · by_cases a2 : (p.e : Rat) < q
        · simp [u1, u2, a1, a2]
        · simp [u1, u2, a1, a2, e1, e2]
    cases hh : p.at_ q with
    | true =>
      rw [if_pos hh] at st
      exact .inl ⟨p, by rw [List.find?_cons, hh], loopF_ret (g1 := [c0, .dat (nm q), .dat (nm p.lo), .dat (nm p.hi), .dat (.int p.b), .dat (.int p.e)]) rfl st⟩
    | false =>
      rw [if_neg (by rw [hh]; decide)] at st
      have ih := back_loop hq c0 ps (.dat (nm p.lo)) (.dat (nm p.hi)) (.dat (.int p.b)) (.dat (.int p.e)) (fun q hq => h q (List.mem_cons_of_mem _ hq))
      rw [List.map_cons, loopF_cons (g1 := [c0, .dat (nm q), .dat (nm p.lo), .dat (nm p.hi), .dat (.int p.b), .dat (.int p.e)]) rfl st, List.find?_cons, hh]
      exact ih
/-- what a broken scale holds -/
structure Ps (ps : List Pc) (a z : Pc) : Prop where
  ok : ∀ p ∈ ps, p.Ok
  fst : ∃ t, ps = a :: t
  lst : ∃ i, ps = i ++ [z]
  far : ps.Pairwise fun p q => p.e < q.b
omit hfu in
theorem Ps.a0 {ps : List Pc} {a z : Pc} (h : Ps ps a z) : fIx (.list (ps.map Pc.d)) (.int 0) = some a.d := by
  obtain ⟨t, e⟩ := h.fst
  subst e
  exact fIx_l (j := 0) rfl
omit hfu in
theorem Ps.z0 {ps : List Pc} {a z : Pc} (h : Ps ps a z) : fIx (.list (ps.map Pc.d)) (.int (-1)) = some z.d := by
  obtain ⟨t, e⟩ := h.lst
  subst e
  rw [List.map_append]
  exact L2.atI_last _ _
omit hfu in
theorem d0 (p : Pc) : fIx p.d (.int 0) = some (nm p.lo) := fIx_t (j := 0) rfl
omit hfu in
theorem d1 (p : Pc) : fIx p.d (.int 1) = some (nm p.hi) := fIx_t (j := 1) rfl
omit hfu in
theorem d2 (p : Pc) : fIx p.d (.int 2) = some (.int p.b) := fIx_t (j := 2) rfl
omit hfu in
theorem d3 (p : Pc) : fIx p.d (.int 3) = some (.int p.e) := fIx_t (j := 3) rfl
theorem along_p {c : Rat} (hc : Bd 250 c) {ps : List Pc} {a z : Pc} (h : Ps ps a z) : Pg.f_p_along_pieces fu [.list (ps.map Pc.d), nm c] = .ok (if c < a.lo ∨ z.hi < c then .str "outside" else match ps.find? (Pc.has c) with
    | some p => nm (p.told c)
    | none => .str "gap") := by
  have oa := h.ok a (by obtain ⟨t, e⟩ := h.fst; rw [e]; exact List.mem_cons_self ..)
  have oz := h.ok z (by obtain ⟨t, e⟩ := h.lst; rw [e]; simp)
  have u1 := under_q (fu := fu) hc oa.bl (by decide)
  have u2 := under_q (fu := fu) oz.bh hc (by decide)
  have a0 := h.a0
  have z0 := h.z0
  have hi : mItems (mVar 0) (vd [.dat (.list (ps.map Pc.d)), .dat (nm c), .un, .un, .un, .un, .un]) = .ok (ps.map Pc.d) := by simp
  rw [Pg.f_p_along_pieces, Pg.s_p_along_pieces]
  by_cases o1 : c < a.lo
  · simp [run_eq, a0, z0, d0, d1, u1, o1]
  · by_cases o2 : z.hi < c
    · simp [run_eq, a0, z0, d0, d1, u1, u2, o1, o2]
    · rcases along_loop hfu hc (.dat (.list (ps.map Pc.d))) ps .un .un .un .un .un h.ok with ⟨p, e, l⟩ | ⟨e, x2, x3, x4, x5, x6, l⟩
      · have hf := (forG (t := (gT (gsCons (gN 2) (gsCons (gN 3) (gsCons (gN 4) (gsCons (gN 5) (gsNil))))))) (b := Pg.b_p_along_pieces_1 fu) hi).trans l
        simp [run_eq, a0, z0, d0, d1, u1, u2, o1, o2, hf, e]
      · have hf := (forG (t := (gT (gsCons (gN 2) (gsCons (gN 3) (gsCons (gN 4) (gsCons (gN 5) (gsNil))))))) (b := Pg.b_p_along_pieces_1 fu) hi).trans l
        simp [run_eq, a0, z0, d0, d1, u1, u2, o1, o2, hf, e]
theorem back_p {q : Rat} (hq : Bd 700 q) {ps : List Pc} {a z : Pc} (h : Ps ps a z) : Pg.f_p_back_pieces fu [.list (ps.map Pc.d), nm q] = .ok (match ps.find? (Pc.at_ q) with
    | some p => nm (p.back q)
    | none => .none) := by
  have hi : mItems (mVar 0) (vd [.dat (.list (ps.map Pc.d)), .dat (nm q), .un, .un, .un, .un]) = .ok (ps.map Pc.d) := by simp
  rw [Pg.f_p_back_pieces, Pg.s_p_back_pieces]
  rcases back_loop hfu hq (.dat (.list (ps.map Pc.d))) ps .un .un .un .un h.ok with ⟨p, e, l⟩ | ⟨e, x2, x3, x4, x5, l⟩
  · have hf := (forG (t := (gT (gsCons (gN 2) (gsCons (gN 3) (gsCons (gN 4) (gsCons (gN 5) (gsNil))))))) (b := Pg.b_p_back_pieces_1 fu) hi).trans l
    simp [run_eq, hf, e]
  · have hf := (forG (t := (gT (gsCons (gN 2) (gsCons (gN 3) (gsCons (gN 4) (gsCons (gN 5) (gsNil))))))) (b := Pg.b_p_back_pieces_1 fu) hi).trans l
    simp [run_eq, hf, e]
omit hfu in
theorem Pc.Ok.w {p : Pc} (ok : p.Ok) : (0 : Rat) < p.hi - p.lo ∧ (0 : Rat) < ((p.e - p.b : Int) : Rat) :=
  ⟨by have := ok.lt; grind, Rat.intCast_pos.mpr (by have := ok.be; omega)⟩
omit hfu in
theorem back_told {p : Pc} (ok : p.Ok) (c : Rat) : p.back (p.told c) = c := by
  have w := ok.w
  have := Rat.ne_of_gt w.1
  have := Rat.ne_of_gt w.2
  unfold Pc.back Pc.told
  grind
omit hfu in
theorem told_back {p : Pc} (ok : p.Ok) (q : Rat) : p.told (p.back q) = q := by
  have w := ok.w
  have := Rat.ne_of_gt w.1
  have := Rat.ne_of_gt w.2
  unfold Pc.back Pc.told
  grind
omit hfu in
theorem told_at {p : Pc} (ok : p.Ok) {c : Rat} (h : p.has c = true) : p.at_ (p.told c) = true := by
  unfold Pc.has at h
  rw [decide_eq_true_eq] at h
  obtain ⟨h1, h2⟩ := h
  have h1 := Rat.not_lt.mp h1
  have h2 := Rat.not_lt.mp h2
  have w := ok.w
  have m : (p.told c - (p.b : Rat)) * (p.hi - p.lo) = (c - p.lo) * ((p.e - p.b : Int) : Rat) := by
    have := Rat.ne_of_gt w.1
    unfold Pc.told
    grind
  have eb : ((p.e - p.b : Int) : Rat) = (p.e : Rat) - (p.b : Rat) := Rat.intCast_sub _ _
  unfold Pc.at_
  rw [decide_eq_true_eq]
  constructor
  · have : (0 : Rat) ≤ p.told c - (p.b : Rat) := Rat.le_of_mul_le_mul_right (c := p.hi - p.lo) (by
      rw [m, Rat.zero_mul]
      exact Rat.mul_nonneg (by grind) (Rat.le_of_lt w.2)) w.1
    rw [Rat.not_lt]
    grind
  · have : p.told c - (p.b : Rat) ≤ ((p.e - p.b : Int) : Rat) := Rat.le_of_mul_le_mul_right (c := p.hi - p.lo) (by
      rw [m, Rat.mul_comm ((p.e - p.b : Int) : Rat)]
      exact Rat.mul_le_mul_of_nonneg_right (by grind) (Rat.le_of_lt w.2)) w.1
    rw [Rat.not_lt]
    grind
omit hfu in
theorem one_at {ps : List Pc} (far : ps.Pairwise fun p q => p.e < q.b) (ok : ∀ p ∈ ps, p.Ok) {p q : Pc} (hp : p ∈ ps) (hq : q ∈ ps) {x : Rat} (h1 : p.at_ x = true) (h2 : q.at_ x = true) : p = q := by
  unfold Pc.at_ at h1 h2
  rw [decide_eq_true_eq] at h1 h2
  have no : ∀ p q : Pc, p.e < q.b → ¬ (p.e : Rat) < x → ¬ x < (q.b : Rat) → False := fun p q l a b => by
    have := Rat.intCast_lt_intCast.mpr l
    have := Rat.not_lt.mp a
    have := Rat.not_lt.mp b
    grind
  induction far with
  | nil => cases hp
  | cons hd tl ih =>
    rcases List.mem_cons.mp hp with e1 | e1
    · rcases List.mem_cons.mp hq with e2 | e2
      · rw [e1, e2]
      · subst e1
        exact (no _ _ (hd _ e2) h1.2 h2.1).elim
    · rcases List.mem_cons.mp hq with e2 | e2
      · subst e2
        exact (no _ _ (hd _ e1) h2.2 h1.1).elim
      · exact ih (fun p hp => ok p (List.mem_cons_of_mem _ hp)) e1 e2
omit hfu in
theorem find_at {ps : List Pc} {a z : Pc} (h : Ps ps a z) {c : Rat} {p : Pc} (e : ps.find? (Pc.has c) = some p) : ps.find? (Pc.at_ (p.told c)) = some p := by
  have hp := List.mem_of_find?_eq_some e
  have hh := List.find?_some e
  have ta := told_at (h.ok p hp) hh
  cases f : ps.find? (Pc.at_ (p.told c)) with
  | none =>
    have := List.find?_eq_none.mp f p hp
    exact absurd ta this
  | some q =>
    have hq := List.mem_of_find?_eq_some f
    have := List.find?_some f
    rw [one_at h.far h.ok hq hp this ta]
end
end Num
set_option Elab.async false
set_option linter.all false
set_option maxRecDepth 100000
set_option maxHeartbeats 4000000
/-! Tn2: the scale by turns, of few turns, near 1. -/
namespace Num
open PySem MI Cal
structure Tv (B low many L : Int) : Prop where
  b1 : 2 ≤ B
  b2 : B ≤ 10
  l : -15 ≤ low ∧ low ≤ 15
  m : 1 ≤ many ∧ many ≤ 25
  L : 1 ≤ L ∧ L ≤ 4000
section
variable {fu : Nat} (hfu : FU ≤ fu) {B low many L : Int} (tu : Tv B low many L)
include hfu tu
theorem back_s {p : Rat} {k : Nat} (hp : Bd k p) (hk : k ≤ 300) (p0 : 0 ≤ p) (p1 : p ≤ (L : Rat)) :
    Pg.f_p_back_turns fu [sct B low many L, nm p] = .ok (nm (val B low (p * Rat.divInt many L))) ∧ Bd 700 (val B low (p * Rat.divInt many L)) := by
  obtain ⟨b1, b2, ⟨l1, l2⟩, ⟨m1, m2⟩, L1, L2⟩ := tu
  have Lb : L.natAbs < 2 ^ 13 := by omega
  have mb : many.natAbs < 2 ^ 13 := by omega
  obtain ⟨e1, y1, y2⟩ := lowest_q fu hfu (top := many) (bottom := L) (by omega) (sm_of Lb (by decide))
  have bq : Bd 13 (Rat.divInt many L) := ⟨Nat.lt_of_le_of_lt y1 mb, Nat.lt_of_le_of_lt y2 Lb⟩
  obtain ⟨e2, bt⟩ := times_q hfu hp bq (by omega)
  have LR : (0 : Rat) < (L : Rat) := Rat.intCast_pos.mpr (by omega)
  have MR : (0 : Rat) < (many : Rat) := Rat.intCast_pos.mpr (by omega)
  have tl : p * Rat.divInt many L * (L : Rat) = p * (many : Rat) := by
    rw [Rat.divInt_eq_div]
    have := Rat.div_mul_cancel (a := (many : Rat)) (Rat.ne_of_gt LR)
    grind
  obtain ⟨t, ht⟩ : ∃ t, p * Rat.divInt many L = t := ⟨_, rfl⟩
  rw [ht] at e2 bt tl ⊢
  have t0 : 0 ≤ t := Rat.le_of_mul_le_mul_right (c := (L : Rat)) (by rw [tl, Rat.zero_mul]; exact Rat.mul_nonneg p0 (Rat.le_of_lt MR)) LR
  have t1 : t ≤ (many : Rat) := Rat.le_of_mul_le_mul_right (c := (L : Rat)) (by rw [tl, Rat.mul_comm (many : Rat)]; exact Rat.mul_le_mul_of_nonneg_right p1 (Rat.le_of_lt MR)) LR
  have f1 := fl_le t
  have f2 := lt_fl t
  have dv : fFdv (.int t.num) (.int (t.den : Int)) = some (.int (t.num / t.den)) := fFdv_pos (by have := t.den_pos; omega) (Nat.lt_of_lt_of_le (log2_lt (show ((t.den : Int)).natAbs < 2 ^ (k + 13) from bt.2) (by omega)) (by omega))
  unfold val
  obtain ⟨w, hw⟩ : ∃ w, t.num / (t.den : Int) = w := ⟨_, rfl⟩
  rw [hw] at f1 f2 dv ⊢
  have w0 : -1 < w := by
    have : ((-1 : Int) : Rat) < (w : Rat) := by
      have e : ((-1 : Int) : Rat) = -1 := rfl
      rw [e]
      grind
    exact Rat.intCast_lt_intCast.mp this
  have w1 : w ≤ many := Rat.intCast_le_intCast.mp (Rat.le_trans f1 t1)
  obtain ⟨e3, b3⟩ := minus_q hfu bt (bd_int (show w.natAbs < 2 ^ 13 by omega) (by decide)) (by omega)
  have P1 := power_of fu b1 b2 (low + w) (by omega)
  have P2 := power_of fu b1 b2 (-low - w) (by omega)
  have d1 := P_bd b1 b2 (n := low + w) (k := 41) (by omega)
  have d2 := P_bd b1 b2 (n := -low - w) (k := 41) (by omega)
  have pp := P_pos b1 b2 (-low - w)
  obtain ⟨e4, z1, z2⟩ := lowest_q fu hfu (top := P B (low + w)) (bottom := P B (-low - w)) (by omega) (sm_of d2 (by decide))
  have bz : Bd 165 (Rat.divInt (P B (low + w)) (P B (-low - w))) := ⟨Nat.lt_of_le_of_lt z1 d1, Nat.lt_of_le_of_lt z2 d2⟩
  have pw : Rat.divInt (P B (low + w)) (P B (-low - w)) = (B : Rat) ^ (low + w) := by
    rw [Rat.divInt_eq_div, P_q b1 (low + w), show -(low + w) = -low - w by omega]
    exact Rat.mul_div_cancel (Rat.ne_of_gt (Rat.intCast_pos.mpr pp))
  rw [pw] at e4 bz
  obtain ⟨e5, b5⟩ := times_q hfu b3 (bd_int (show (B - 1).natAbs < 2 ^ 4 by omega) (by decide)) (by omega)
  obtain ⟨e6, b6⟩ := plus_q hfu (bd_int (show (1 : Int).natAbs < 2 ^ 1 by decide) (by decide)) b5 (by omega)
  obtain ⟨e7, b7⟩ := times_q hfu bz b6 (by omega)
  rw [nm_int] at e3 e5 e6
  have o1 : ((1 : Int) : Rat) = 1 := rfl
  have o2 : ((B - 1 : Int) : Rat) = (B : Rat) - 1 := by rw [Rat.intCast_sub]; rfl
  rw [o1, o2] at e6 e7 b7
  rw [o2] at e5
  refine ⟨?_, bd_mono b7 (by omega)⟩
  unfold sct
  rw [Pg.f_p_back_turns, Pg.s_p_back_turns]
  simp [run_eq, e1, e2, nm0, nm1, dv, e3, P1, P2, e4, e5, e6, e7]
theorem along_s {c : Rat} (hc : Bd 180 c) (c0 : 0 < c) :
    (c < (B : Rat) ^ low → Pg.f_p_along_turns fu [sct B low many L, nm c] = .ok (.str "outside")) ∧
    ((B : Rat) ^ (low + many) < c → Pg.f_p_along_turns fu [sct B low many L, nm c] = .ok (.str "outside")) ∧
    (¬ c < (B : Rat) ^ low → ¬ (B : Rat) ^ (low + many) < c → ∃ p : Rat, Pg.f_p_along_turns fu [sct B low many L, nm c] = .ok (nm p) ∧ Bd 300 p ∧ 0 ≤ p ∧ p ≤ (L : Rat) ∧ val B low (p * Rat.divInt many L) = c) := by
  obtain ⟨b1, b2, ⟨l1, l2⟩, ⟨m1, m2⟩, L1, L2⟩ := tu
  have n0 : ¬ c.num ≤ 0 := by
    have h := (Rat.lt_iff 0 c).mp c0
    simp at h
    omega
  have P1 := power_of fu b1 b2 (-low) (by omega)
  have P2 := power_of fu b1 b2 low (by omega)
  have d1 := P_bd b1 b2 (n := -low) (k := 15) (by omega)
  have d2 := P_bd b1 b2 (n := low) (k := 15) (by omega)
  have q1 := P_pos b1 b2 (-low)
  have q2 := P_pos b1 b2 low
  have dp : ((c.den : Int)).natAbs < 2 ^ 180 := hc.2
  have mt := mulB hc.1 d1 (by decide) (by decide) (by decide)
  have mb := mulB dp d2 (by decide) (by decide) (by decide)
  have tb := mul_bd _ _ 241 hc.1 d1 (by decide)
  have bb := mul_bd _ _ 241 dp d2 (by decide)
  have dl := diff_lt b1 b2 c low
  have bpos : 0 < (c.den : Int) * P B low := Int.mul_pos (by have := c.den_pos; omega) q2
  have Kp := diff_pos b1 b2 c low
  have topq : ((c.num * P B (-low) : Int) : Rat) = c * (((c.den : Int) : Rat) * (P B (-low) : Rat)) := by
    rw [Rat.intCast_mul, num_eq c]
    grind
  have botq : (((c.den : Int) * P B low : Int) : Rat) = (B : Rat) ^ low * (((c.den : Int) : Rat) * (P B (-low) : Rat)) := by
    rw [Rat.intCast_mul, P_q b1 low]
    grind
  obtain ⟨K, hK⟩ : ∃ K, ((c.den : Int) : Rat) * (P B (-low) : Rat) = K := ⟨_, rfl⟩
  rw [hK] at Kp topq botq
  obtain ⟨top, htop⟩ : ∃ x, c.num * P B (-low) = x := ⟨_, rfl⟩
  obtain ⟨bot, hbot⟩ : ∃ x, (c.den : Int) * P B low = x := ⟨_, rfl⟩
  rw [htop] at mt tb dl topq
  rw [hbot] at mb bb dl bpos botq
  have BL := Rat.zpow_add (B_ne b1) low
  unfold sct
  by_cases o1 : top < bot
  · have lt := dl.mp (by omega)
    refine ⟨fun _ => ?_, fun _ => ?_, fun h => absurd lt h⟩
    · rw [Pg.f_p_along_turns, Pg.s_p_along_turns]
      simp [run_eq, nm0, nm1, n0, P1, P2, mt, mb, o1]
    · rw [Pg.f_p_along_turns, Pg.s_p_along_turns]
      simp [run_eq, nm0, nm1, n0, P1, P2, mt, mb, o1]
  have nlt : ¬ c < (B : Rat) ^ low := fun h => o1 (by have := dl.mpr h; omega)
  obtain ⟨b', k, ⟨bp, bt⟩, km, be, ends, lp⟩ := turn_loop fu (many := many) b1 b2 (Nat.lt_of_lt_of_le tb (Nat.pow_le_pow_right (by decide) (by decide))) (.dat (.tuple [.str "turns", .int B, .int low, .int many, .int L])) (.dat (nm c)) (.dat (.str "turns")) (.dat (.int low)) (.dat (.int L)) .un fu bot 0 bpos (by omega) (by decide) (by omega) (Nat.lt_of_lt_of_le (fu_lt (b := 10) (show (many - 0).toNat < 2 ^ 10 by omega) (by decide)) hfu)
  have bq : (b' : Rat) = (B : Rat) ^ (low + (k : Int)) * K := by
    rw [be, Rat.intCast_mul, Rat.intCast_pow, botq, BL, Rat.zpow_natCast]
    grind
  have Zp : (0 : Rat) < (B : Rat) ^ (low + (k : Int)) := Rat.zpow_pos (B_pos b1)
  rw [Int.zero_add] at lp km ends
  have MR : (0 : Rat) < (many : Rat) := Rat.intCast_pos.mpr (by omega)
  have LR : (0 : Rat) < (L : Rat) := Rat.intCast_pos.mpr (by omega)
  by_cases w : (k : Int) = many
  · rw [w] at lp bq Zp
    by_cases o2 : b' < top
    · have gt : (B : Rat) ^ (low + many) < c := by
        have h := Rat.intCast_lt_intCast.mpr o2
        rw [topq, bq] at h
        exact Rat.lt_of_mul_lt_mul_right h (Rat.le_of_lt Kp)
      refine ⟨fun h => absurd h nlt, fun _ => ?_, fun _ h => absurd gt h⟩
      rw [Pg.f_p_along_turns, Pg.s_p_along_turns]
      simp [run_eq, nm0, nm1, n0, P1, P2, mt, mb, o1, lp, o2]
    · have e : top = b' := by omega
      have ce : c = (B : Rat) ^ (low + many) := by
        have h : (top : Rat) = (b' : Rat) := by rw [e]
        rw [topq, bq] at h
        have := Rat.ne_of_gt Kp
        grind
      refine ⟨fun h => absurd h nlt, fun h => absurd (ce ▸ h) Rat.lt_irrefl, fun _ _ => ⟨(L : Rat), ?_, bd_mono (bd_int (show L.natAbs < 2 ^ 13 by omega) (by decide)) (by decide), Rat.le_of_lt LR, Rat.le_refl, ?_⟩⟩
      · rw [nm_int, Pg.f_p_along_turns, Pg.s_p_along_turns]
        simp [run_eq, nm0, nm1, n0, P1, P2, mt, mb, o1, lp, o2]
      · have t : (L : Rat) * Rat.divInt many L = (many : Rat) := by
          rw [Rat.divInt_eq_div, Rat.mul_comm, Rat.div_mul_cancel (Rat.ne_of_gt LR)]
        rw [t]
        unfold val
        have f : ((many : Rat)).num / (((many : Rat)).den : Int) = many := by
          show many / ((1 : Nat) : Int) = many
          simp
        rw [f, ce]
        grind
  · have kl : (k : Int) < many := by omega
    have tl : top < b' * B := by
      rcases ends with z | z
      · exact absurd z w
      · exact z
    have B1 : (0 : Rat) < (B : Rat) - 1 := by
      have : ((1 : Int) : Rat) < (B : Rat) := Rat.intCast_lt_intCast.mpr (by omega)
      have e : ((1 : Int) : Rat) = 1 := rfl
      rw [e] at this
      grind
    have m1' := mulB (show b'.natAbs < 2 ^ 241 by omega) (show (B - 1).natAbs < 2 ^ 4 by omega) (by decide) (by decide) (by decide)
    have m1b := mul_bd _ _ 245 (show b'.natAbs < 2 ^ 241 by omega) (show (B - 1).natAbs < 2 ^ 4 by omega) (by decide)
    have zp : 0 < b' * (B - 1) := Int.mul_pos bp (by omega)
    obtain ⟨e1, y1, y2⟩ := lowest_q fu hfu (top := top - b') (bottom := b' * (B - 1)) (by omega) (sm_of m1b (by decide))
    obtain ⟨z, hz⟩ : ∃ z, Rat.divInt (top - b') (b' * (B - 1)) = z := ⟨_, rfl⟩
    have zq : z * ((b' : Rat) * ((B : Rat) - 1)) = (top : Rat) - (b' : Rat) := by
      have e : ((B - 1 : Int) : Rat) = (B : Rat) - 1 := by rw [Rat.intCast_sub]; rfl
      rw [← hz, Rat.divInt_eq_div, Rat.intCast_mul, Rat.intCast_sub, e]
      refine Rat.div_mul_cancel (Rat.ne_of_gt (Rat.mul_pos (Rat.intCast_pos.mpr bp) B1))
    rw [hz] at e1 y1 y2
    have bz : Bd 245 z := ⟨Nat.lt_of_le_of_lt y1 (Nat.lt_trans (show (top - b').natAbs < 2 ^ 241 by omega) (Nat.pow_lt_pow_right (by decide) (by decide))), Nat.lt_of_le_of_lt y2 m1b⟩
    obtain ⟨e2, b2z⟩ := plus_q hfu (bd_int (show (k : Int).natAbs < 2 ^ 13 by omega) (by decide)) bz (by decide)
    obtain ⟨e3, x1, x2⟩ := lowest_q fu hfu (top := L) (bottom := many) (by omega) (sm_of (show many.natAbs < 2 ^ 13 by omega) (by decide))
    have b3 : Bd 13 (Rat.divInt L many) := ⟨Nat.lt_of_le_of_lt x1 (by omega), Nat.lt_of_le_of_lt x2 (by omega)⟩
    obtain ⟨e4, b4⟩ := times_q hfu b2z b3 (by decide)
    rw [nm_int] at e2
    have bR : (0 : Rat) < (b' : Rat) := Rat.intCast_pos.mpr bp
    have z0 : 0 ≤ z := Rat.le_of_mul_le_mul_right (c := (b' : Rat) * ((B : Rat) - 1)) (by
      rw [zq, Rat.zero_mul]
      have := Rat.intCast_le_intCast.mpr bt
      grind) (Rat.mul_pos bR B1)
    have z1 : z < 1 := Rat.lt_of_mul_lt_mul_right (c := (b' : Rat) * ((B : Rat) - 1)) (by
      rw [zq]
      have := Rat.intCast_lt_intCast.mpr tl
      rw [Rat.intCast_mul] at this
      grind) (Rat.le_of_lt (Rat.mul_pos bR B1))
    have k0 : (0 : Rat) ≤ ((k : Int) : Rat) := Rat.intCast_nonneg.mpr (by omega)
    have k1 : ((k : Int) : Rat) + 1 ≤ (many : Rat) := by
      have := Rat.intCast_le_intCast.mpr (show (k : Int) + 1 ≤ many by omega)
      rw [Rat.intCast_add] at this
      exact this
    have tt : (((k : Int) : Rat) + z) * Rat.divInt L many * Rat.divInt many L = ((k : Int) : Rat) + z := by
      rw [Rat.divInt_eq_div, Rat.divInt_eq_div]
      have := Rat.ne_of_gt LR
      have := Rat.ne_of_gt MR
      grind
    have dv : Rat.divInt L many * (many : Rat) = (L : Rat) := by
      rw [Rat.divInt_eq_div, Rat.div_mul_cancel (Rat.ne_of_gt MR)]
    refine ⟨fun h => absurd h nlt, fun h => ?_, fun _ _ => ⟨_, ?_, bd_mono b4 (by decide), ?_, ?_, ?_⟩⟩
    · exfalso
      have c1 : c * K < (B : Rat) ^ (low + (k : Int)) * (B : Rat) * K := by
        have h := Rat.intCast_lt_intCast.mpr tl
        rw [Rat.intCast_mul, topq, bq] at h
        grind
      have c2 := Rat.lt_of_mul_lt_mul_right c1 (Rat.le_of_lt Kp)
      obtain ⟨j, hj⟩ : ∃ j : Nat, many = (k : Int) + 1 + j := ⟨(many - k - 1).toNat, by omega⟩
      have g1 : ∀ j : Nat, (1 : Rat) ≤ (B : Rat) ^ j := fun j => by
        induction j with
        | zero => rw [Rat.pow_zero]; exact Rat.le_refl
        | succ j ih =>
          rw [Rat.pow_succ]
          have a : (0 : Rat) ≤ ((B : Rat) ^ j - 1) * ((B : Rat) - 1) := Rat.mul_nonneg (by grind) (Rat.le_of_lt B1)
          grind
      have e5 : (B : Rat) ^ (low + many) = (B : Rat) ^ (low + (k : Int)) * (B : Rat) * (B : Rat) ^ j := by
        rw [hj, show low + ((k : Int) + 1 + (j : Int)) = (low + (k : Int) + 1) + (j : Int) by omega, Rat.zpow_add (B_ne b1), Rat.zpow_add_one (B_ne b1), Rat.zpow_natCast]
      have y : (0 : Rat) < (B : Rat) ^ (low + (k : Int)) * (B : Rat) := Rat.mul_pos Zp (B_pos b1)
      have g := Rat.mul_le_mul_of_nonneg_left (g1 j) (Rat.le_of_lt y)
      rw [← e5] at g
      grind
    · rw [Pg.f_p_along_turns, Pg.s_p_along_turns]
      simp [run_eq, nm0, nm1, n0, P1, P2, mt, mb, o1, lp, w, m1', e1, e2, e3, e4]
    · refine Rat.mul_nonneg (by grind) ?_
      rw [Rat.divInt_nonneg_iff_of_pos_right (by omega)]
      omega
    · have h := Rat.mul_le_mul_of_nonneg_right (a := ((k : Int) : Rat) + z) (b := (many : Rat)) (c := Rat.divInt L many) (by grind) (by
        rw [Rat.divInt_nonneg_iff_of_pos_right (by omega)]
        omega)
      rw [Rat.mul_comm (many : Rat), dv] at h
      exact h
    · rw [tt]
      have f := fl_one (((k : Int) : Rat) + z) (k : Int) (by grind) (by grind)
      unfold val
      rw [f]
      have bz2 : (b' : Rat) ≠ 0 := Rat.ne_of_gt bR
      have s1 : (B : Rat) ^ (low + (k : Int)) * (1 + (((k : Int) : Rat) + z - ((k : Int) : Rat)) * ((B : Rat) - 1)) * (b' : Rat) = (B : Rat) ^ (low + (k : Int)) * (top : Rat) := by
        have : (1 + (((k : Int) : Rat) + z - ((k : Int) : Rat)) * ((B : Rat) - 1)) * (b' : Rat) = (top : Rat) := by grind
        rw [Rat.mul_assoc, this]
      have s2 : c * (b' : Rat) = (B : Rat) ^ (low + (k : Int)) * (top : Rat) := by
        rw [topq, bq]
        grind
      have s3 := s1.trans s2.symm
      grind
end
theorem one_le_pow {B : Int} (h1 : 2 ≤ B) (j : Nat) : (1 : Rat) ≤ (B : Rat) ^ j := by
  have B1 : (0 : Rat) < (B : Rat) - 1 := by
    have : ((1 : Int) : Rat) < (B : Rat) := Rat.intCast_lt_intCast.mpr (by omega)
    have e : ((1 : Int) : Rat) = 1 := rfl
    rw [e] at this
    grind
  induction j with
  | zero => rw [Rat.pow_zero]; exact Rat.le_refl
  | succ j ih =>
    rw [Rat.pow_succ]
    have a : (0 : Rat) ≤ ((B : Rat) ^ j - 1) * ((B : Rat) - 1) := Rat.mul_nonneg (by grind) (Rat.le_of_lt B1)
    grind
theorem zpow_le {B : Int} (h1 : 2 ≤ B) {a b : Int} (h : a ≤ b) : (B : Rat) ^ a ≤ (B : Rat) ^ b := by
  obtain ⟨j, hj⟩ : ∃ j : Nat, b = a + j := ⟨(b - a).toNat, by omega⟩
  have g := Rat.mul_le_mul_of_nonneg_left (one_le_pow h1 j) (Rat.le_of_lt (Rat.zpow_pos (n := a) (B_pos h1)))
  rw [hj, Rat.zpow_add (B_ne h1), Rat.zpow_natCast]
  rw [Rat.mul_one] at g
  exact g
theorem val_lt {B : Int} (h1 : 2 ≤ B) (low : Int) {s t : Rat} (h : s < t) : val B low s < val B low t := by
  have B1 : (0 : Rat) < (B : Rat) - 1 := by
    have : ((1 : Int) : Rat) < (B : Rat) := Rat.intCast_lt_intCast.mpr (by omega)
    have e : ((1 : Int) : Rat) = 1 := rfl
    rw [e] at this
    grind
  have s1 := fl_le s
  have s2 := lt_fl s
  have t1 := fl_le t
  have t2 := lt_fl t
  unfold val
  obtain ⟨u, hu⟩ : ∃ u, s.num / (s.den : Int) = u := ⟨_, rfl⟩
  obtain ⟨w, hw⟩ : ∃ w, t.num / (t.den : Int) = w := ⟨_, rfl⟩
  rw [hu] at s1 s2 ⊢
  rw [hw] at t1 t2 ⊢
  have uw : u < w + 1 := by
    have : (u : Rat) < ((w + 1 : Int) : Rat) := by
      rw [Rat.intCast_add]
      have e : ((1 : Int) : Rat) = 1 := rfl
      rw [e]
      grind
    exact Rat.intCast_lt_intCast.mp this
  have zp : (0 : Rat) < (B : Rat) ^ (low + u) := Rat.zpow_pos (B_pos h1)
  by_cases e : u = w
  · subst e
    refine Rat.mul_lt_mul_of_pos_left ?_ zp
    have := Rat.mul_lt_mul_of_pos_right (show s - (u : Rat) < t - (u : Rat) by grind) B1
    grind
  · have l : low + u + 1 ≤ low + w := by omega
    have a := zpow_le h1 l
    rw [Rat.zpow_add_one (B_ne h1)] at a
    have b : (B : Rat) ^ (low + u) * (1 + (s - (u : Rat)) * ((B : Rat) - 1)) < (B : Rat) ^ (low + u) * (B : Rat) := by
      refine Rat.mul_lt_mul_of_pos_left ?_ zp
      have := Rat.mul_lt_mul_of_pos_right (show s - (u : Rat) < 1 by grind) B1
      grind
    have zw : (0 : Rat) < (B : Rat) ^ (low + w) := Rat.zpow_pos (B_pos h1)
    have c : (B : Rat) ^ (low + w) * 1 ≤ (B : Rat) ^ (low + w) * (1 + (t - (w : Rat)) * ((B : Rat) - 1)) := by
      refine Rat.mul_le_mul_of_nonneg_left ?_ (Rat.le_of_lt zw)
      have := Rat.mul_nonneg (show 0 ≤ t - (w : Rat) by grind) (Rat.le_of_lt B1)
      grind
    grind
theorem val_int {B : Int} (low w : Int) : val B low (w : Rat) = (B : Rat) ^ (low + w) := by
  have f : ((w : Rat)).num / (((w : Rat)).den : Int) = w := by
    show w / ((1 : Nat) : Int) = w
    simp
  unfold val
  rw [f]
  grind
theorem pow_nm {B : Int} (h1 : 2 ≤ B) (h2 : B ≤ 10) (n : Int) : nm ((B : Rat) ^ n) = .tuple [.int (P B n), .int (P B (-n))] := by
  have g : Int.gcd (P B n) (P B (-n)) = 1 := by
    unfold P
    rcases Int.le_total 0 n with h | h
    · rw [show (-n).toNat = 0 by omega]
      simp
    · rw [show n.toNat = 0 by omega]
      simp
  have p := P_pos h1 h2 (-n)
  have q : (⟨P B n, (P B (-n)).natAbs, by omega, g⟩ : Rat) = (B : Rat) ^ n := by
    rw [← Rat.num_divInt_den (⟨P B n, (P B (-n)).natAbs, by omega, g⟩ : Rat)]
    show Rat.divInt (P B n) (((P B (-n)).natAbs : Nat) : Int) = _
    rw [Int.natAbs_of_nonneg (by omega), Rat.divInt_eq_div, P_q h1 n]
    exact Rat.mul_div_cancel (Rat.ne_of_gt (Rat.intCast_pos.mpr p))
  rw [← q]
  show PyData.tuple [.int (P B n), .int (((P B (-n)).natAbs : Nat) : Int)] = _
  rw [Int.natAbs_of_nonneg (by omega)]
theorem pow_b {B : Int} (h1 : 2 ≤ B) (h2 : B ≤ 10) {n : Int} {k : Nat} (h : n.natAbs ≤ k) : Bd (4 * k + 1) ((B : Rat) ^ n) := by
  have e := pow_nm h1 h2 n
  unfold nm at e
  injection e with e
  injection e with e1 e2
  injection e2 with e2 _
  injection e1 with e1
  injection e2 with e2
  refine ⟨?_, ?_⟩
  · rw [e1]
    exact P_bd h1 h2 (by omega)
  · have := P_bd h1 h2 (n := -n) (k := k) (by omega)
    rw [← e2] at this
    exact this
end Num
set_option Elab.async false
set_option linter.all false
set_option maxRecDepth 100000
set_option maxHeartbeats 4000000
/-! Sg: scales of four kinds, drawn by k23 and k24. -/
namespace Num
open PySem MI Cal
def scb (ps : List Pc) (z : Pc) : MI.D := .tuple [.str "broken", .list (ps.map Pc.d), .int z.e]
def scs (lo hi : Rat) (L : Int) : MI.D := .tuple [.str "straight", nm lo, nm hi, .int L]
def scd (lo hi L : Int) : MI.D := .tuple [.str "days", .int lo, .int hi, .int L]
theorem s_bt : (("broken" : Str) = ("turns" : Str)) = False := eq_false (by decide)
theorem s_bd : (("broken" : Str) = ("days" : Str)) = False := eq_false (by decide)
theorem s_td : (("turns" : Str) = ("days" : Str)) = False := eq_false (by decide)
theorem s_tb : (("turns" : Str) = ("broken" : Str)) = False := eq_false (by decide)
theorem scb_0 (ps : List Pc) (z : Pc) : fIx (scb ps z) (.int 0) = some (.str "broken") := fIx_t0 _ _
theorem scb_1 (ps : List Pc) (z : Pc) : fIx (scb ps z) (.int 1) = some (.list (ps.map Pc.d)) := fIx_t1 _ _ _
theorem scs_0 (lo hi : Rat) (L : Int) : fIx (scs lo hi L) (.int 0) = some (.str "straight") := fIx_t0 _ _
theorem scs_1 (lo hi : Rat) (L : Int) : fIx (scs lo hi L) (.int 1) = some (nm lo) := fIx_t1 _ _ _
theorem scs_2 (lo hi : Rat) (L : Int) : fIx (scs lo hi L) (.int 2) = some (nm hi) := fIx_t2 _ _ _ _
theorem scs_3 (lo hi : Rat) (L : Int) : fIx (scs lo hi L) (.int 3) = some (.int L) := fIx_t (j := 3) rfl
theorem scd_0 (lo hi L : Int) : fIx (scd lo hi L) (.int 0) = some (.str "days") := fIx_t0 _ _
theorem scd_1 (lo hi L : Int) : fIx (scd lo hi L) (.int 1) = some (.int lo) := fIx_t1 _ _ _
theorem scd_2 (lo hi L : Int) : fIx (scd lo hi L) (.int 2) = some (.int hi) := fIx_t2 _ _ _ _
theorem scd_3 (lo hi L : Int) : fIx (scd lo hi L) (.int 3) = some (.int L) := fIx_t (j := 3) rfl
theorem sct_0 (B low many L : Int) : fIx (sct B low many L) (.int 0) = some (.str "turns") := fIx_t0 _ _
inductive Sl where
  | str (lo hi : Rat) (L : Int)
  | trn (B low many L : Int)
  | brk (ps : List Pc) (a z : Pc)
  | dys (lo hi L : Int)
def Sl.d : Sl → MI.D
  | .str lo hi L => scs lo hi L
  | .trn B low many L => sct B low many L
  | .brk ps _ z => scb ps z
  | .dys lo hi L => scd lo hi L
def Sl.len : Sl → Int
  | .str _ _ L => L
  | .trn _ _ _ L => L
  | .brk _ _ z => z.e
  | .dys _ _ L => L
def Sl.Ok : Sl → Prop
  | .str lo hi L => lo < hi ∧ Bd 130 lo ∧ Bd 130 hi ∧ 1 ≤ L ∧ L ≤ 4000
  | .trn B low many L => Tv B low many L
  | .brk ps a z => Ps ps a z ∧ (ps.Pairwise fun p q => p.hi < q.lo) ∧ a.b = 0 ∧ 2 ≤ ps.length ∧ ps.length ≤ 4
  | .dys lo hi L => 0 ≤ lo ∧ lo < hi ∧ hi ≤ 3652059 ∧ 1 ≤ L ∧ L ≤ 4000
def Sl.cell : Sl → Rat → Prop
  | .dys _ _ _, c => ∃ i : Int, c = (i : Rat) ∧ i.natAbs < 2 ^ 30
  | _, c => Bd 180 c
def Sl.hand : Sl → Rat → MI.D
  | .dys _ _ _, c => .int c.num
  | _, c => nm c
def Sl.has : Sl → Rat → Prop
  | .str lo hi _, c => ¬ c < lo ∧ ¬ hi < c
  | .trn B low many _, c => 0 < c ∧ ¬ c < (B : Rat) ^ low ∧ ¬ (B : Rat) ^ (low + many) < c
  | .brk ps _ _, c => ∃ p ∈ ps, p.has c = true
  | .dys lo hi _, c => ¬ c < (lo : Rat) ∧ ¬ (hi : Rat) < c
def Sl.on : Sl → Rat → Prop
  | .brk ps _ _, q => ∃ p ∈ ps, p.at_ q = true
  | s, q => 0 ≤ q ∧ q ≤ (s.len : Rat)
def Sl.back : Sl → Rat → Rat
  | .str lo hi L, q => lo + q * (hi - lo) / (L : Rat)
  | .trn B low many L, q => val B low (q * Rat.divInt many L)
  | .brk ps _ _, q => match ps.find? (Pc.at_ q) with
    | some p => p.back q
    | none => 0
  | .dys lo hi L, q => (lo : Rat) + q * ((hi : Rat) - (lo : Rat)) / (L : Rat)
theorem Sl.len_bd {s : Sl} (h : s.Ok) : 1 ≤ s.len ∧ s.len ≤ 8000 := by
  cases s with
  | str lo hi L => obtain ⟨_, _, _, h1, h2⟩ := h; exact ⟨h1, by show L ≤ 8000; omega⟩
  | trn B low many L => have := h.L; exact ⟨this.1, by show L ≤ 8000; omega⟩
  | brk ps a z =>
    obtain ⟨h, _⟩ := h
    have oz := h.ok z (by obtain ⟨t, e⟩ := h.lst; rw [e]; simp)
    have := oz.b0
    have := oz.be
    exact ⟨by show 1 ≤ z.e; omega, oz.e1⟩
  | dys lo hi L => obtain ⟨_, _, _, h1, h2⟩ := h; exact ⟨h1, by show L ≤ 8000; omega⟩
theorem Sl.cell_bd {s : Sl} {c : Rat} (h : s.cell c) : Bd 180 c := by
  cases s with
  | dys lo hi L =>
    obtain ⟨i, e, b⟩ := h
    rw [e]
    exact bd_mono (bd_int b (by decide)) (by decide)
  | _ => exact h
/-! straight -/
theorem str_on {lo hi c : Rat} {L : Int} (lt : lo < hi) (L1 : 1 ≤ L) (h1 : ¬ c < lo) (h2 : ¬ hi < c) :
    0 ≤ (c - lo) * (L : Rat) / (hi - lo) ∧ (c - lo) * (L : Rat) / (hi - lo) ≤ (L : Rat) ∧ lo + (c - lo) * (L : Rat) / (hi - lo) * (hi - lo) / (L : Rat) = c := by
  have w : (0 : Rat) < hi - lo := by grind
  have LR : (0 : Rat) < (L : Rat) := Rat.intCast_pos.mpr (by omega)
  have e : (c - lo) * (L : Rat) / (hi - lo) * (hi - lo) = (c - lo) * (L : Rat) := Rat.div_mul_cancel (Rat.ne_of_gt w)
  refine ⟨?_, ?_, ?_⟩
  · refine Rat.le_of_mul_le_mul_right (c := hi - lo) ?_ w
    rw [e, Rat.zero_mul]
    exact Rat.mul_nonneg (by grind) (Rat.le_of_lt LR)
  · refine Rat.le_of_mul_le_mul_right (c := hi - lo) ?_ w
    rw [e, Rat.mul_comm (L : Rat)]
    exact Rat.mul_le_mul_of_nonneg_right (by grind) (Rat.le_of_lt LR)
  · have := Rat.ne_of_gt w
    have := Rat.ne_of_gt LR
    grind
theorem str_lt {lo hi p q : Rat} {L : Int} (lt : lo < hi) (L1 : 1 ≤ L) (h : p < q) : lo + p * (hi - lo) / (L : Rat) < lo + q * (hi - lo) / (L : Rat) := by
  have LR : (0 : Rat) < (L : Rat) := Rat.intCast_pos.mpr (by omega)
  have w : (0 : Rat) < hi - lo := by grind
  have m := Rat.mul_lt_mul_of_pos_right h w
  have a : p * (hi - lo) / (L : Rat) < q * (hi - lo) / (L : Rat) := by
    refine Rat.lt_of_mul_lt_mul_right (c := (L : Rat)) ?_ (Rat.le_of_lt LR)
    rw [Rat.div_mul_cancel (Rat.ne_of_gt LR), Rat.div_mul_cancel (Rat.ne_of_gt LR)]
    exact m
  grind
theorem Pc.back_lt {p : Pc} (ok : p.Ok) {x y : Rat} (h : x < y) : p.back x < p.back y := by
  have w := ok.w
  have m := Rat.mul_lt_mul_of_pos_right (show x - (p.b : Rat) < y - (p.b : Rat) by grind) w.1
  have a : (x - (p.b : Rat)) * (p.hi - p.lo) / ((p.e - p.b : Int) : Rat) < (y - (p.b : Rat)) * (p.hi - p.lo) / ((p.e - p.b : Int) : Rat) := by
    refine Rat.lt_of_mul_lt_mul_right (c := ((p.e - p.b : Int) : Rat)) ?_ (Rat.le_of_lt w.2)
    rw [Rat.div_mul_cancel (Rat.ne_of_gt w.2), Rat.div_mul_cancel (Rat.ne_of_gt w.2)]
    exact m
  unfold Pc.back
  grind
theorem Pc.back_in {p : Pc} (ok : p.Ok) {x : Rat} (h : p.at_ x = true) : p.lo ≤ p.back x ∧ p.back x ≤ p.hi := by
  have w := ok.w
  unfold Pc.at_ at h
  rw [decide_eq_true_eq] at h
  have h1 := Rat.not_lt.mp h.1
  have h2 := Rat.not_lt.mp h.2
  have eb : ((p.e - p.b : Int) : Rat) = (p.e : Rat) - (p.b : Rat) := Rat.intCast_sub _ _
  have k : (p.back x - p.lo) * ((p.e - p.b : Int) : Rat) = (x - (p.b : Rat)) * (p.hi - p.lo) := by
    have : p.back x - p.lo = (x - (p.b : Rat)) * (p.hi - p.lo) / ((p.e - p.b : Int) : Rat) := by unfold Pc.back; grind
    rw [this, Rat.div_mul_cancel (Rat.ne_of_gt w.2)]
  constructor
  · have : 0 ≤ p.back x - p.lo := Rat.le_of_mul_le_mul_right (c := ((p.e - p.b : Int) : Rat)) (by
      rw [k, Rat.zero_mul]
      exact Rat.mul_nonneg (by grind) (Rat.le_of_lt w.1)) w.2
    grind
  · have : p.back x - p.lo ≤ p.hi - p.lo := Rat.le_of_mul_le_mul_right (c := ((p.e - p.b : Int) : Rat)) (by
      rw [k, Rat.mul_comm (p.hi - p.lo)]
      exact Rat.mul_le_mul_of_nonneg_right (by grind) (Rat.le_of_lt w.1)) w.2
    grind
theorem Sl.on_in {s : Sl} (h : s.Ok) {q : Rat} (o : s.on q) : 0 ≤ q ∧ q ≤ (s.len : Rat) := by
  cases s with
  | brk ps a z =>
    obtain ⟨hp, _, a0, _⟩ := h
    obtain ⟨p, hm, ha⟩ := o
    have ok := hp.ok p hm
    unfold Pc.at_ at ha
    rw [decide_eq_true_eq] at ha
    have h1 := Rat.not_lt.mp ha.1
    have h2 := Rat.not_lt.mp ha.2
    have b0 : (0 : Rat) ≤ (p.b : Rat) := Rat.intCast_nonneg.mpr ok.b0
    refine ⟨by grind, ?_⟩
    have le : p.e ≤ z.e := by
      obtain ⟨t, e⟩ := hp.lst
      have far := hp.far
      rw [e, List.pairwise_append] at far
      rw [e] at hm
      rcases List.mem_append.mp hm with hm | hm
      · have := far.2.2 p hm z (by simp)
        have oz := hp.ok z (by rw [e]; simp)
        have := oz.be
        omega
      · have := List.mem_singleton.mp hm
        rw [this]
        omega
    have := Rat.intCast_le_intCast.mpr le
    show q ≤ (z.e : Rat)
    grind
  | _ => exact o
theorem find_one {ps : List Pc} {a z : Pc} (h : Ps ps a z) {q : Rat} {p : Pc} (hm : p ∈ ps) (ha : p.at_ q = true) : ps.find? (Pc.at_ q) = some p := by
  cases f : ps.find? (Pc.at_ q) with
  | none => exact absurd ha (List.find?_eq_none.mp f p hm)
  | some r => rw [one_at h.far h.ok (List.mem_of_find?_eq_some f) hm (List.find?_some f) ha]
theorem Sl.back_lt {s : Sl} (h : s.Ok) {p q : Rat} (hp : s.on p) (hq : s.on q) (l : p < q) : s.back p < s.back q := by
  cases s with
  | str lo hi L => exact str_lt h.1 h.2.2.2.1 l
  | dys lo hi L => exact str_lt (Rat.intCast_lt_intCast.mpr h.2.1) h.2.2.2.1 l
  | trn B low many L =>
    refine val_lt h.b1 low (Rat.mul_lt_mul_of_pos_right l ?_)
    rw [Rat.divInt_eq_div]
    have a : (0 : Rat) < (many : Rat) := Rat.intCast_pos.mpr (by have := h.m; omega)
    have b : (0 : Rat) < (L : Rat) := Rat.intCast_pos.mpr (by have := h.L; omega)
    refine Rat.lt_of_mul_lt_mul_right (c := (L : Rat)) ?_ (Rat.le_of_lt b)
    rw [Rat.div_mul_cancel (Rat.ne_of_gt b), Rat.zero_mul]
    exact a
  | brk ps a z =>
    obtain ⟨hs, far, _⟩ := h
    obtain ⟨x, hx, ax⟩ := hp
    obtain ⟨y, hy, ay⟩ := hq
    show (match ps.find? (Pc.at_ p) with
      | some p' => p'.back p
      | none => 0) < (match ps.find? (Pc.at_ q) with
      | some p' => p'.back q
      | none => 0)
    rw [find_one hs hx ax, find_one hs hy ay]
    have ox := hs.ok x hx
    have oy := hs.ok y hy
    by_cases e : x = y
    · subst e
      exact Pc.back_lt ox l
    · have tr : ∀ (R : Pc → Pc → Prop) (l : List Pc), l.Pairwise R → x ∈ l → y ∈ l → R x y ∨ R y x := by
        intro R l hl
        induction hl with
        | nil => intro hx; cases hx
        | cons hd tl ih =>
          intro hx hy
          rcases List.mem_cons.mp hx with e1 | e1
          · rcases List.mem_cons.mp hy with e2 | e2
            · exact absurd (e1.trans e2.symm) e
            · exact .inl (e1 ▸ hd _ e2)
          · rcases List.mem_cons.mp hy with e2 | e2
            · exact .inr (e2 ▸ hd _ e1)
            · exact ih e1 e2
      have both : ps.Pairwise fun p q => p.e < q.b ∧ p.hi < q.lo := by
        have := List.pairwise_and_iff.mpr ⟨hs.far, far⟩
        exact this
      unfold Pc.at_ at ax ay
      rw [decide_eq_true_eq] at ax ay
      rcases tr _ ps both hx hy with w | w
      · have i1 := (Pc.back_in ox (x := p) (by unfold Pc.at_; rw [decide_eq_true_eq]; exact ax)).2
        have i2 := (Pc.back_in oy (x := q) (by unfold Pc.at_; rw [decide_eq_true_eq]; exact ay)).1
        have w2 := w.2
        grind
      · have := Rat.intCast_lt_intCast.mpr w.1
        have a1 := ax.1
        have a2 := ay.2
        grind
theorem Sl.back_iff {s : Sl} (h : s.Ok) {p q : Rat} (hp : s.on p) (hq : s.on q) : s.back p < s.back q ↔ p < q := by
  constructor
  · intro l
    rcases (Rat.le_total : p ≤ q ∨ q ≤ p) with c | c
    · by_cases e : p = q
      · subst e
        exact absurd l Rat.lt_irrefl
      · grind
    · by_cases e : q = p
      · subst e
        exact absurd l Rat.lt_irrefl
      · have := Sl.back_lt h hq hp (by grind)
        grind
  · exact Sl.back_lt h hp hq
theorem Sl.back_inj {s : Sl} (h : s.Ok) {p q : Rat} (hp : s.on p) (hq : s.on q) (e : s.back p = s.back q) : p = q := by
  have a := Sl.back_iff h hp hq
  have b := Sl.back_iff h hq hp
  rw [e] at a b
  have x : ¬ p < q := fun l => Rat.lt_irrefl (a.mpr l)
  have y : ¬ q < p := fun l => Rat.lt_irrefl (b.mpr l)
  have := Rat.not_lt.mp x
  have := Rat.not_lt.mp y
  grind
section
variable {fu : Nat} (hfu : FU ≤ fu)
include hfu
theorem handed {s : Sl} {c : Rat} (hc : s.cell c) : Pg.f_law_handed fu [s.d, nm c] = .ok (s.hand c) := by
  rw [Pg.f_law_handed, Pg.s_law_handed]
  cases s with
  | str lo hi L => simp [run_eq, Sl.d, Sl.hand, scs_0, s_sd]
  | trn B low many L => simp [run_eq, Sl.d, Sl.hand, sct_0, s_td]
  | brk ps a z => simp [run_eq, Sl.d, Sl.hand, scb_0, s_bd]
  | dys lo hi L => simp [run_eq, Sl.d, Sl.hand, scd_0, nm0]
theorem placeN {s : Sl} (h : s.Ok) {c : Rat} (hc : s.cell c) (n : ¬ s.has c) : ∃ z, Pg.f_p_place_on fu [s.d, s.hand c] = .ok (.str z) := by
  have b := s.cell_bd hc
  cases s with
  | str lo hi L =>
    obtain ⟨lt, bl, bh, L1, L2⟩ := h
    obtain ⟨e, _⟩ := along_q hfu bl bh b (L := L) (by omega) lt (by decide)
    rw [if_pos (by
      by_cases q : c < lo
      · exact .inl q
      · by_cases r : hi < c
        · exact .inr r
        · exact absurd ⟨q, r⟩ n)] at e
    refine ⟨"outside", ?_⟩
    rw [Pg.f_p_place_on, Pg.s_p_place_on]
    simp [run_eq, Sl.d, Sl.hand, nm_none, scs_0, scs_1, scs_2, scs_3, s_so, s_sb, s_sr, s_sd, e, none_none]
  | dys lo hi L =>
    obtain ⟨l0, lt, h1, L1, L2⟩ := h
    obtain ⟨i, rfl, bi⟩ := hc
    have bl : Bd 30 (lo : Rat) := bd_int (by omega) (by decide)
    have bh : Bd 30 (hi : Rat) := bd_int (by omega) (by decide)
    obtain ⟨e, _⟩ := along_q hfu bl bh b (L := L) (by omega) (Rat.intCast_lt_intCast.mpr lt) (by decide)
    rw [if_pos (by
      by_cases q : (i : Rat) < (lo : Rat)
      · exact .inl q
      · by_cases r : (hi : Rat) < (i : Rat)
        · exact .inr r
        · exact absurd ⟨q, r⟩ n), nm_int, nm_int, nm_int] at e
    refine ⟨"outside", ?_⟩
    show Pg.f_p_place_on fu [scd lo hi L, .int i] = _
    rw [Pg.f_p_place_on, Pg.s_p_place_on]
    simp [run_eq, int_none, scd_0, scd_1, scd_2, scd_3, s_do, s_db, s_dr, e, none_none]
  | trn B low many L =>
    have go : ∀ z, Pg.f_p_along_turns fu [sct B low many L, nm c] = .ok (.str z) → ∃ z, Pg.f_p_place_on fu [sct B low many L, nm c] = .ok (.str z) := fun z e => ⟨z, by
      rw [Pg.f_p_place_on, Pg.s_p_place_on]
      simp [run_eq, nm_none, sct_0, e]⟩
    by_cases c0 : 0 < c
    · obtain ⟨a1, a2, _⟩ := along_s hfu h b c0
      by_cases q : c < (B : Rat) ^ low
      · exact go _ (a1 q)
      · by_cases r : (B : Rat) ^ (low + many) < c
        · exact go _ (a2 r)
        · exact absurd ⟨c0, q, r⟩ n
    · exact go _ (along_n (Rat.not_lt.mp c0))
  | brk ps a z =>
    have al := along_p hfu (bd_mono b (by decide : 180 ≤ 250)) h.1
    have f : ps.find? (Pc.has c) = none := List.find?_eq_none.mpr fun p hp hh => n ⟨p, hp, hh⟩
    rw [f] at al
    have go : ∀ z', Pg.f_p_along_pieces fu [.list (ps.map Pc.d), nm c] = .ok (.str z') → ∃ z', Pg.f_p_place_on fu [scb ps z, nm c] = .ok (.str z') := fun z' e => ⟨z', by
      rw [Pg.f_p_place_on, Pg.s_p_place_on]
      simp [run_eq, nm_none, scb_0, scb_1, s_bt, e]⟩
    by_cases o : c < a.lo ∨ z.hi < c
    · rw [if_pos o] at al
      exact go _ al
    · rw [if_neg o] at al
      exact go _ al
theorem place {s : Sl} (h : s.Ok) {c : Rat} (hc : s.cell c) (n : s.has c) : ∃ p : Rat, Pg.f_p_place_on fu [s.d, s.hand c] = .ok (nm p) ∧ Bd 700 p ∧ s.on p ∧ s.back p = c ∧ (∀ B low many L, s = .trn B low many L → Bd 300 p) := by
  have b := s.cell_bd hc
  cases s with
  | str lo hi L =>
    obtain ⟨lt, bl, bh, L1, L2⟩ := h
    obtain ⟨e, bp⟩ := along_q hfu bl bh b (L := L) (by omega) lt (by decide)
    rw [if_neg (by rintro (q | q); exact n.1 q; exact n.2 q)] at e
    obtain ⟨o1, o2, o3⟩ := str_on lt L1 n.1 n.2
    refine ⟨_, ?_, bd_mono bp (by decide), ⟨o1, o2⟩, o3, fun _ _ _ _ q => by cases q⟩
    rw [Pg.f_p_place_on, Pg.s_p_place_on]
    simp [run_eq, Sl.d, Sl.hand, nm_none, scs_0, scs_1, scs_2, scs_3, s_so, s_sb, s_sr, s_sd, e]
  | dys lo hi L =>
    obtain ⟨l0, lt, h1, L1, L2⟩ := h
    obtain ⟨i, rfl, bi⟩ := hc
    have bl : Bd 30 (lo : Rat) := bd_int (by omega) (by decide)
    have bh : Bd 30 (hi : Rat) := bd_int (by omega) (by decide)
    have ltq := Rat.intCast_lt_intCast.mpr lt
    obtain ⟨e, bp⟩ := along_q hfu bl bh b (L := L) (by omega) ltq (by decide)
    rw [if_neg (by rintro (q | q); exact n.1 q; exact n.2 q), nm_int, nm_int, nm_int] at e
    obtain ⟨o1, o2, o3⟩ := str_on ltq L1 n.1 n.2
    refine ⟨_, ?_, bd_mono bp (by decide), ⟨o1, o2⟩, o3, fun _ _ _ _ q => by cases q⟩
    show Pg.f_p_place_on fu [scd lo hi L, .int i] = _
    rw [Pg.f_p_place_on, Pg.s_p_place_on]
    simp [run_eq, int_none, nm_none, scd_0, scd_1, scd_2, scd_3, s_do, s_db, s_dr, e]
  | trn B low many L =>
    obtain ⟨_, _, a3⟩ := along_s hfu h b n.1
    obtain ⟨p, e, bp, p0, p1, v⟩ := a3 n.2.1 n.2.2
    refine ⟨p, ?_, bd_mono bp (by decide), ⟨p0, p1⟩, v, fun _ _ _ _ _ => bp⟩
    show Pg.f_p_place_on fu [sct B low many L, nm c] = _
    rw [Pg.f_p_place_on, Pg.s_p_place_on]
    simp [run_eq, nm_none, sct_0, e]
  | brk ps a z =>
    have hp := h.1
    have al := along_p hfu (bd_mono b (by decide : 180 ≤ 250)) hp
    obtain ⟨x, hx, ax⟩ := n
    have out : ¬ (c < a.lo ∨ z.hi < c) := by
      have far := h.2.1
      unfold Pc.has at ax
      rw [decide_eq_true_eq] at ax
      have ox := (hp.ok x hx).lt
      rintro (q | q)
      · obtain ⟨t, e⟩ := hp.fst
        rw [e] at hx far
        rcases List.mem_cons.mp hx with e2 | e2
        · rw [e2] at ax; exact ax.1 q
        · have f := (List.pairwise_cons.mp far).1 x e2
          have oa := (hp.ok a (by rw [e]; simp)).lt
          have := ax.1
          grind
      · obtain ⟨t, e⟩ := hp.lst
        rw [e] at hx far
        rw [List.pairwise_append] at far
        rcases List.mem_append.mp hx with e2 | e2
        · have f := far.2.2 x e2 z (by simp)
          have oz := (hp.ok z (by rw [e]; simp)).lt
          have := ax.2
          grind
        · have := List.mem_singleton.mp e2
          rw [this] at ax
          exact ax.2 q
    cases f : ps.find? (Pc.has c) with
    | none => exact absurd ax (List.find?_eq_none.mp f x hx)
    | some y =>
      rw [if_neg out, f] at al
      have ym := List.mem_of_find?_eq_some f
      have yh := List.find?_some f
      have ok := hp.ok y ym
      obtain ⟨_, _, bt⟩ := told_q hfu (bd_mono b (by decide : 180 ≤ 250)) ok
      have ta := told_at ok yh
      refine ⟨y.told c, ?_, bt, ⟨y, ym, ta⟩, ?_, fun _ _ _ _ q => by cases q⟩
      · show Pg.f_p_place_on fu [scb ps z, nm c] = _
        rw [Pg.f_p_place_on, Pg.s_p_place_on]
        simp [run_eq, nm_none, scb_0, scb_1, s_bt, al]
      · show (match ps.find? (Pc.at_ (y.told c)) with
          | some p' => p'.back (y.told c)
          | none => 0) = c
        rw [find_one hp ym ta]
        exact back_told ok c
theorem read {s : Sl} (h : s.Ok) {p : Rat} (hp : s.on p) (b1 : Bd 700 p) (b2 : ∀ B low many L, s = .trn B low many L → Bd 300 p) : Pg.f_p_read_on fu [s.d, nm p] = .ok (nm (s.back p)) ∧ Bd 1500 (s.back p) := by
  cases s with
  | str lo hi L =>
    obtain ⟨lt, bl, bh, L1, L2⟩ := h
    obtain ⟨e, bq⟩ := back_q hfu bl bh b1 (L := L) (by omega) (by omega) (by decide)
    refine ⟨?_, bd_mono bq (by decide)⟩
    show Pg.f_p_read_on fu [scs lo hi L, nm p] = _
    rw [Pg.f_p_read_on, Pg.s_p_read_on]
    simp [run_eq, scs_0, scs_1, scs_2, scs_3, s_so, s_sb, s_sr, s_sd, e]
    rfl
  | dys lo hi L =>
    obtain ⟨l0, lt, h1, L1, L2⟩ := h
    have bl : Bd 30 (lo : Rat) := bd_int (by omega) (by decide)
    have bh : Bd 30 (hi : Rat) := bd_int (by omega) (by decide)
    obtain ⟨e, bq⟩ := back_q hfu bl bh b1 (L := L) (by omega) (by omega) (by decide)
    refine ⟨?_, bd_mono bq (by decide)⟩
    rw [nm_int, nm_int] at e
    show Pg.f_p_read_on fu [scd lo hi L, nm p] = _
    rw [Pg.f_p_read_on, Pg.s_p_read_on]
    simp [run_eq, scd_0, scd_1, scd_2, scd_3, s_do, s_db, s_dr, e]
    rfl
  | trn B low many L =>
    obtain ⟨e, bq⟩ := back_s hfu h (b2 _ _ _ _ rfl) (by decide) hp.1 hp.2
    refine ⟨?_, bd_mono bq (by decide)⟩
    show Pg.f_p_read_on fu [sct B low many L, nm p] = _
    rw [Pg.f_p_read_on, Pg.s_p_read_on]
    simp [run_eq, sct_0, e]
    rfl
  | brk ps a z =>
    obtain ⟨x, hx, ax⟩ := hp
    have e := back_p hfu b1 h.1
    have eb : (Sl.brk ps a z).back p = x.back p := by
      show (match ps.find? (Pc.at_ p) with
          | some p' => p'.back p
          | none => 0) = _
      rw [find_one h.1 hx ax]
    rw [find_one h.1 hx ax] at e
    rw [eb]
    obtain ⟨_, _, _, bb⟩ := back_pq hfu b1 (h.1.ok x hx)
    refine ⟨?_, bb⟩
    show Pg.f_p_read_on fu [scb ps z, nm p] = _
    rw [Pg.f_p_read_on, Pg.s_p_read_on]
    simp [run_eq, scb_0, scb_1, s_bt, e]
end
end Num
set_option Elab.async false
set_option linter.all false
set_option maxRecDepth 100000
set_option maxHeartbeats 4000000
/-! Sg2: how k23 and k24 draw scales and cells. -/
namespace Num
open PySem MI Cal
theorem mul_bits {z k : Int} (hz : Builtin.Int.intBits z ≤ 1048600) (hk : k.natAbs < 2 ^ 1048600) : okMul z k = true := by
  unfold Builtin.Int.intBits at hz
  unfold okMul
  rw [decide_eq_true_eq]
  have a : k.natAbs.log2 < 1048600 := log2_lt hk (by decide)
  split at hz
  · rename_i h0
    have : z = 0 := by simpa using h0
    subst this
    have : (0 : Int).natAbs.log2 = 0 := by decide +kernel
    omega
  · omega
theorem bits_lt {z : Int} (hz : Builtin.Int.intBits z ≤ 1048576) : z.natAbs.log2 ≤ 1048576 := by
  unfold Builtin.Int.intBits at hz
  split at hz
  · rename_i h0
    have : z = 0 := by simpa using h0
    subst this
    decide +kernel
  · omega
theorem mul_log {z k : Int} (hz : z.natAbs.log2 ≤ 1048576) (hk : k.natAbs.log2 ≤ 1048600) : fMul (.int z) (.int k) = some (.int (z * k)) := fMul_ii (by
  unfold okMul
  rw [decide_eq_true_eq]
  omega)
theorem log2_mono {a b : Nat} (h : a ≤ b) : a.log2 ≤ b.log2 := by
  by_cases e : a = 0
  · subst e
    have : Nat.log2 0 = 0 := by decide +kernel
    omega
  · exact (Nat.le_log2 (by omega)).mpr (Nat.le_trans (Nat.log2_self_le e) h)
theorem mixed (fu : Nat) (z : Int) (hz : z.natAbs.log2 ≤ 1048576) : ∃ r : Int, Pg.f_law_mixed fu [.int z] = .ok (.int r) ∧ 0 ≤ r ∧ r.natAbs.log2 ≤ 1048576 := by
  have p18 : fPow (.int 10) (.int 18) = some (.int 1000000000000000000) := fPow_ii (by decide)
  rw [Pg.f_law_mixed, Pg.s_law_mixed]
  by_cases h : (1000000000000000000 : Int) ≤ z
  · exact ⟨z, by simp [run_eq, p18, h], by omega, hz⟩
  · have e1 := mod_n z 2147483647 (by decide)
    simp at e1
    have m := mul_s (i := z % 2147483647) (j := 48271) (by omega) (by decide)
    have e2 := mod_n (z % 2147483647 * 48271 + 11) 2147483647 (by decide)
    simp at e2
    obtain ⟨r, hr⟩ : ∃ r, (z % 2147483647 * 48271 + 11) % 2147483647 = r := ⟨_, rfl⟩
    have r0 : 0 ≤ r ∧ r < 2147483647 := by omega
    rw [hr] at e2
    refine ⟨r, by simp [run_eq, p18, h, e1, m, e2], r0.1, ?_⟩
    have := log2_lt (i := r) (a := 40) (by omega) (by decide)
    omega
/-- rising whole numbers -/
structure Up (es : List Int) (n : Nat) : Prop where
  len : es.length = n
  up : es.Pairwise (· < ·)
  bd : ∀ e ∈ es, e.natAbs < 2 ^ 100
theorem ends_loop (fu : Nat) (ns : List Int) (c1 c2 : Cell) : ∀ (m : Nat) (lo : Int) (init : List Int) (last : Int) (c4 c5 c6 : Cell), 0 ≤ lo → init.length + m ≤ 20 → (init ++ [last]).Pairwise (· < ·) → (∀ e ∈ init ++ [last], e ≤ last) → (∀ e ∈ init ++ [last], e.natAbs ≤ 1000000000000000000000000 + init.length * 100000000000000000000000000000) →
    ∃ (i' : List Int) (l' : Int) (x4 x5 x6 : Cell), loopF (gN 4) (Pg.b_law_ends_1 fu) (rngL lo 1 m) [.dat (.list (ns.map .int)), c1, c2, .own ((init ++ [last]).map .int), c4, c5, c6] = .nx [.dat (.list (ns.map .int)), c1, c2, .own ((i' ++ [l']).map .int), x4, x5, x6] ∧ i'.length = init.length + m ∧ (i' ++ [l']).Pairwise (· < ·) ∧ (∀ e ∈ i' ++ [l'], e.natAbs ≤ 1000000000000000000000000 + i'.length * 100000000000000000000000000000)
  | 0, lo, init, last, c4, c5, c6, _, _, h1, _, h3 => ⟨init, last, c4, c5, c6, by simp [rngL, loopF], rfl, h1, h3⟩
  | m + 1, lo, init, last, c4, c5, c6, h0, hm, h1, h2, h3 => by
    have k := cell_at' fu ns (z := 2 + lo) (by omega)
    obtain ⟨x, hx⟩ : ∃ x, ns.getD (2 + lo).toNat 0 = x := ⟨_, rfl⟩
    rw [hx] at k
    have p18 : fPow (.int 10) (.int 18) = some (.int 1000000000000000000) := fPow_ii (by decide)
    have p29 : fPow (.int 10) (.int 29) = some (.int 100000000000000000000000000000) := fPow_ii (by decide)
    have e1 := fMod_pos (i := x) (j := 100000000000000000000000000000) (by decide)
    have e2 := mod_n x 60 (by decide)
    simp at e2
    have neg : fIx (.list ((init ++ [last]).map .int)) (.int (-1)) = some (.int last) := by
      rw [List.map_append]
      exact L2.atI_last _ _
    have st : ∃ r : Int, 1 ≤ r ∧ r ≤ 100000000000000000000000000000 ∧ Pg.b_law_ends_1 fu [.dat (.list (ns.map .int)), c1, c2, .own ((init ++ [last]).map .int), .dat (.int lo), c5, c6] = .nx [.dat (.list (ns.map .int)), c1, c2, .own (((init ++ [last]) ++ [last + r]).map .int), .dat (.int lo), .dat (.int x), .dat (.int r)] := by
      have f : ∀ r, flat (.int (last + r)) = true := fun _ => rfl
      have ml : ((init ++ [last]).map PyData.int).length < 16777216 := by simp; omega
      by_cases h : (1000000000000000000 : Int) ≤ x
      · refine ⟨1 + x % 100000000000000000000000000000, by omega, by omega, ?_⟩
        rw [List.map_append (l₁ := init ++ [last])]
        obtain ⟨xs, hx⟩ : ∃ xs, (init ++ [last]).map PyData.int = xs := ⟨_, rfl⟩
        rw [hx] at neg ml ⊢
        rw [Pg.b_law_ends_1]
        simp [neg, k, e1, e2, p18, p29, h, f, ml]
      · refine ⟨1 + x % 60, by omega, by omega, ?_⟩
        rw [List.map_append (l₁ := init ++ [last])]
        obtain ⟨xs, hx⟩ : ∃ xs, (init ++ [last]).map PyData.int = xs := ⟨_, rfl⟩
        rw [hx] at neg ml ⊢
        rw [Pg.b_law_ends_1]
        simp [neg, k, e2, p18, h, f, ml]
    obtain ⟨r, r1, r2, st⟩ := st
    have bl := h3 last (by simp)
    obtain ⟨i', l', x4, x5, x6, e, q1, q2, q3⟩ := ends_loop fu ns c1 c2 m (lo + 1) (init ++ [last]) (last + r) (.dat (.int lo)) (.dat (.int x)) (.dat (.int r)) (by omega) (by simp; omega) (by
      rw [List.pairwise_append]
      refine ⟨h1, by simp, fun a ha b hb => ?_⟩
      have := h2 a ha
      simp at hb
      omega) (fun e he => by
      rcases List.mem_append.mp he with he | he
      · have := h2 e he
        omega
      · simp at he
        omega) (fun e he => by
      have hl : (init ++ [last]).length = init.length + 1 := by rw [List.length_append, List.length_singleton]
      rw [hl, Nat.succ_mul]
      generalize init.length * 100000000000000000000000000000 = T at bl h3 ⊢
      rcases List.mem_append.mp he with he | he
      · have := h3 e he
        omega
      · have he := List.mem_singleton.mp he
        omega)
    refine ⟨i', l', x4, x5, x6, ?_, by rw [q1]; simp; omega, q2, q3⟩
    rw [rngL_succ, loopF_cons rfl st]
    exact e
theorem rng1_m {m : Nat} (h : m ≤ 100000) : rng1 [.int (m : Int)] = some (rngL 0 1 m) := by
  show (if lim62 (m : Int) = true then some (rngL 0 1 (m : Int).toNat) else none) = _
  rw [if_pos]
  · rfl
  · unfold lim62
    simp
    omega
theorem ap {s1 s2 : S} {g g' : Ce} (h : s1 g = .nx g') : sSeq s1 s2 g = s2 g' := by rw [sSeq_ap, h]
theorem run_rt {n N : Nat} {m : S} {ds : List MI.D} {d : MI.D} (h : ds.length = n) (e : m (ds.map Cell.dat ++ List.replicate (N - n) Cell.un) = .rt d) : run n N m ds = .ok d := by
  rw [run_eq n N m ds h, e]
theorem ends (fu : Nat) (ns : List Int) (m : Nat) (hm : m = 3 ∨ m = 5 ∨ m = 7) : ∃ es : List Int, Pg.f_law_ends fu [.list (ns.map .int), .int (m : Int)] = .ok (.list (es.map .int)) ∧ Up es (m + 1) := by
  have k1 := cell_at' fu ns (z := 1) (by decide)
  generalize ns.getD (1 : Int).toNat 0 = x1 at *
  have p24 : fPow (.int 10) (.int 24) = some (.int 1000000000000000000000000) := fPow_ii (by decide)
  have e1 := fdv_n x1 2 (by decide) (by decide)
  have e2 := fMod_pos (i := x1 / 2) (j := 1000000000000000000000000) (by decide)
  have e3 := mod_n x1 2 (by decide)
  simp at e1 e3
  have u1 := Int.emod_nonneg (x1 / 2) (b := 1000000000000000000000000) (by decide)
  have u2 := Int.emod_lt_of_pos (x1 / 2) (b := 1000000000000000000000000) (by decide)
  obtain ⟨t, ht⟩ : ∃ t, x1 / 2 % 1000000000000000000000000 = t := ⟨_, rfl⟩
  rw [ht] at e2 u1 u2
  have r := rng1_m (m := m) (by omega)
  have st : ∃ top : Int, top.natAbs < 1000000000000000000000000 ∧ ∀ k : S, (sSeq (sSet 2 (mBin fMod (mBin fFdv (mCall 2 (Pg.f_law_cell_at fu) [] (mCons (mVar 0) (mCons (mC (.int 1)) (mNil)))) (mC (.int 2))) (mBin fPow (mC (.int 10)) (mC (.int 24))))) (sSeq (sIf (mTru (mBin fEq (mBin fMod (mCall 2 (Pg.f_law_cell_at fu) [] (mCons (mVar 0) (mCons (mC (.int 1)) (mNil)))) (mC (.int 2))) (mC (.int 1)))) (sSet 2 (mBin fSub (mC (.int 0)) (mVar 2))) (sNop)) k)) [.dat (.list (ns.map .int)), .dat (.int (m : Int)), .un, .un, .un, .un, .un] = k [.dat (.list (ns.map .int)), .dat (.int (m : Int)), .dat (.int top), .un, .un, .un, .un] := by
    by_cases c : x1 % 2 = 1
    · exact ⟨-t, by omega, fun k => by simp [k1, p24, e1, e2, e3, c]⟩
    · exact ⟨t, by omega, fun k => by simp [k1, p24, e1, e2, e3, c]⟩
  obtain ⟨top, htop, st⟩ := st
  obtain ⟨i', l', x4, x5, x6, e, q1, q2, q3⟩ := ends_loop fu ns (.dat (.int (m : Int))) (.dat (.int top)) m 0 [] top .un .un .un (by decide) (by simp; omega) (by simp) (by simp) (by simp; omega)
  refine ⟨i' ++ [l'], ?_, by simp [q1], q2, fun e he => ?_⟩
  · have hi : mRng rng1 (mCons (mVar 1) (mNil)) (vd [.dat (.list (ns.map .int)), .dat (.int (m : Int)), .dat (.int top), .own [.int top], .un, .un, .un]) = .ok (rngL 0 1 m) := by simp [r]
    have hf := (forG (t := gN 4) (b := Pg.b_law_ends_1 fu) hi).trans e
    rw [Pg.f_law_ends, Pg.s_law_ends]
    refine run_rt rfl ?_
    show (sSeq _ _ : S) [.dat (.list (ns.map .int)), .dat (.int (m : Int)), .un, .un, .un, .un, .un] = _
    rw [st, ap (g' := [.dat (.list (ns.map .int)), .dat (.int (m : Int)), .dat (.int top), .own [.int top], .un, .un, .un]) (by simp), ap hf]
    simp
  · have := q3 e he
    rw [q1] at this
    simp at this
    omega
/-- what the pieces' loop has laid -/
structure Pp (es : List Int) (bo : Int) (ps : List Pc) (i : Nat) (b : Int) : Prop where
  len : ps.length = i
  ok : ∀ p ∈ ps, p.Ok
  far : ps.Pairwise fun p q => p.e < q.b
  bef : ∀ p ∈ ps, p.e < b
  b0 : 0 ≤ b
  b1 : b ≤ 1100 * i
  z : i = 0 → b = 0
  fst : ∀ p, ps[0]? = some p → p.b = 0
  his : ∀ p ∈ ps, ∃ (k : Nat) (x : Int), k < 2 * i ∧ es[k]? = some x ∧ p.hi = Rat.divInt x bo
  rise : ps.Pairwise fun p q => p.hi < q.lo
theorem up_lt {es : List Int} {n : Nat} (h : Up es n) {j k : Nat} {x y : Int} (hj : es[j]? = some x) (hk : es[k]? = some y) (l : j < k) : x < y := by
  obtain ⟨h1, e1⟩ := List.getElem?_eq_some_iff.mp hj
  obtain ⟨h2, e2⟩ := List.getElem?_eq_some_iff.mp hk
  rw [← e1, ← e2]
  exact List.pairwise_iff_getElem.mp h.up j k h1 h2 l
theorem up_get {es : List Int} {n : Nat} (h : Up es n) {k : Nat} (hk : k + 1 < n) : ∃ x y : Int, es[k]? = some x ∧ es[k + 1]? = some y ∧ x < y ∧ x.natAbs < 2 ^ 100 ∧ y.natAbs < 2 ^ 100 := by
  have hl := h.len
  have h0 : k < es.length := by omega
  have h1 : k + 1 < es.length := by omega
  exact ⟨es[k], es[k + 1], List.getElem?_eq_getElem h0, List.getElem?_eq_getElem h1, up_lt h (List.getElem?_eq_getElem h0) (List.getElem?_eq_getElem h1) (by omega), h.bd _ (List.getElem_mem h0), h.bd _ (List.getElem_mem h1)⟩
theorem ix_map {es : List Int} {k : Nat} {x : Int} (h : es[k]? = some x) : fIx (.list (es.map .int)) (.int (k : Int)) = some (.int x) := fIx_l (by rw [List.getElem?_map, h]; rfl)
theorem div_lt {x y bo : Int} (b0 : 0 < bo) (h : x < y) : Rat.divInt x bo < Rat.divInt y bo := by
  have bp : (0 : Rat) < (bo : Rat) := Rat.intCast_pos.mpr b0
  refine Rat.lt_of_mul_lt_mul_right (c := (bo : Rat)) ?_ (Rat.le_of_lt bp)
  rw [Rat.divInt_eq_div, Rat.divInt_eq_div, Rat.div_mul_cancel (Rat.ne_of_gt bp), Rat.div_mul_cancel (Rat.ne_of_gt bp)]
  exact Rat.intCast_lt_intCast.mpr h
section
variable {fu : Nat} (hfu : FU ≤ fu)
include hfu
theorem end_num {x : Int} {bo : Int} (hx : x.natAbs < 2 ^ 100) (b0 : 0 < bo) (b1 : bo ≤ 100000) : Pg.f_law_lowest fu [.int x, .int bo] = .ok (nm (Rat.divInt x bo)) ∧ Bd 130 (Rat.divInt x bo) := by
  have hb : bo.natAbs < 2 ^ 20 := by omega
  obtain ⟨e, l1, l2⟩ := law_lowest_q fu hfu (top := x) b0 (sm_of hb (by decide))
  exact ⟨e, bd_mono (n := 100) ⟨Nat.lt_of_le_of_lt l1 hx, Nat.lt_of_le_of_lt l2 (Nat.lt_of_lt_of_le hb (Nat.pow_le_pow_right (by decide) (by decide)))⟩ (by decide)⟩
theorem piece_step {es : List Int} {n : Nat} (up : Up es n) {bo cl : Int} (bo0 : 0 < bo) (bo1 : bo ≤ 100000) (hcl : ∀ k : Int, 0 ≤ k → k ≤ 1000000 → (cl + k).natAbs.log2 ≤ 1048576) {ps : List Pc} {i : Nat} {b : Int} (h : Pp es bo ps i b) (hi : i < 5) (hk : 2 * i + 1 < n) (c5 c6 : Cell) :
    ∃ (p : Pc) (b' : Int) (x6 : Cell), Pp es bo (ps ++ [p]) (i + 1) b' ∧ Pg.b_law_pieces_1 fu [.dat (.list (es.map .int)), .dat (.int bo), .dat (.int cl), .own (ps.map Pc.d), .dat (.int b), .dat (.int ((2 * i : Nat) : Int)), c6] = .nx [.dat (.list (es.map .int)), .dat (.int bo), .dat (.int cl), .own ((ps ++ [p]).map Pc.d), .dat (.int b'), .dat (.int ((2 * i : Nat) : Int)), x6] := by
  obtain ⟨x, y, gx, gy, xy, bx, by_⟩ := up_get up hk
  have ex := ix_map gx
  have ey := ix_map gy
  rw [show ((2 * i + 1 : Nat) : Int) = ((2 * i : Nat) : Int) + 1 by omega] at ey
  obtain ⟨lx, Bx⟩ := end_num hfu bx bo0 bo1
  obtain ⟨ly, By⟩ := end_num hfu by_ bo0 bo1
  have lt := div_lt bo0 xy
  obtain ⟨kk, hkk⟩ : ∃ kk : Int, ((2 * i : Nat) : Int) = kk := ⟨_, rfl⟩
  rw [hkk] at ex ey
  have m1 := mul_s (i := 7919) (j := kk) (by decide) (by omega)
  have m2 := mul_s (i := 104729) (j := kk) (by decide) (by omega)
  have l1 := hcl kk (by omega) (by omega)
  have l2 := hcl (7919 * kk) (by omega) (by omega)
  have l3 := hcl (104729 * kk) (by omega) (by omega)
  have m3 := mul_log l1 (k := cl + 7919 * kk) (by omega)
  have m4 := mul_log l1 (k := cl + 104729 * kk) (by omega)
  obtain ⟨q, hq⟩ : ∃ q, (cl + kk) * (cl + 7919 * kk) = q := ⟨_, rfl⟩
  obtain ⟨q2, hq2⟩ : ∃ q, (cl + kk) * (cl + 104729 * kk) = q := ⟨_, rfl⟩
  rw [hq] at m3
  rw [hq2] at m4
  have e1 := mod_n q 2147483629 (by decide)
  have e2 := mod_n (q % 2147483629) 500 (by decide)
  have e4 := mod_n q2 2147483587 (by decide)
  have e5 := mod_n (q2 % 2147483587) 500 (by decide)
  simp at e1 e2 e4 e5
  obtain ⟨u, hu⟩ : ∃ u, q % 2147483629 % 500 = u := ⟨_, rfl⟩
  obtain ⟨v, hv⟩ : ∃ v, q2 % 2147483587 % 500 = v := ⟨_, rfl⟩
  have u0 : 0 ≤ u ∧ u < 500 := by omega
  have v0 : 0 ≤ v ∧ v < 500 := by omega
  rw [hu] at e2
  rw [hv] at e5
  have ml : (ps.map Pc.d).length < 16777216 := by rw [List.length_map, h.len]; omega
  have hb0 := h.b0
  have hb1 := h.b1
  refine ⟨⟨Rat.divInt x bo, Rat.divInt y bo, b, b + 1 + u⟩, b + 1 + u + 1 + v, .dat (.int (b + 1 + u)), ⟨by simp [h.len], ?_, ?_, ?_, by omega, by omega, by omega, ?_, ?_, ?_⟩, ?_⟩
  · intro p hp
    rcases List.mem_append.mp hp with hp | hp
    · exact h.ok p hp
    · have := List.mem_singleton.mp hp
      subst this
      exact ⟨lt, Bx, By, hb0, by show b < b + 1 + u; omega, by show b + 1 + u ≤ 8000; omega⟩
  · rw [List.pairwise_append]
    refine ⟨h.far, by simp, fun p hp q hq => ?_⟩
    have := List.mem_singleton.mp hq
    subst this
    exact h.bef p hp
  · intro p hp
    rcases List.mem_append.mp hp with hp | hp
    · have := h.bef p hp
      omega
    · have := List.mem_singleton.mp hp
      subst this
      show b + 1 + u < _
      omega
  · intro p hp
    cases ps with
    | nil =>
      simp at hp
      subst hp
      exact h.z (by have := h.len; simpa using this.symm)
    | cons a t => exact h.fst p (by simpa using hp)
  · intro p hp
    rcases List.mem_append.mp hp with hp | hp
    · obtain ⟨k, x, hk, g, e⟩ := h.his p hp
      exact ⟨k, x, by omega, g, e⟩
    · have := List.mem_singleton.mp hp
      subst this
      exact ⟨2 * i + 1, y, by omega, gy, rfl⟩
  · rw [List.pairwise_append]
    refine ⟨h.rise, by simp, fun p hp q hq => ?_⟩
    have := List.mem_singleton.mp hq
    subst this
    obtain ⟨k, w, hk, g, e⟩ := h.his p hp
    rw [e]
    exact div_lt bo0 (up_lt up g gx hk)
  · rw [hkk, List.map_append]
    obtain ⟨xs, hxs⟩ : ∃ xs, ps.map Pc.d = xs := ⟨_, rfl⟩
    rw [hxs] at ml ⊢
    rw [Pg.b_law_pieces_1]
    simp [m1, m2, m3, m4, e1, e2, e4, e5, ex, ey, lx, ly, dTup_4, ml, Pc.d]
theorem pieces_loop {es : List Int} {n : Nat} (up : Up es n) {bo cl : Int} (bo0 : 0 < bo) (bo1 : bo ≤ 100000) (hcl : ∀ k : Int, 0 ≤ k → k ≤ 1000000 → (cl + k).natAbs.log2 ≤ 1048576) : ∀ (m i : Nat) (ps : List Pc) (b : Int) (c5 c6 : Cell), Pp es bo ps i b → i + m ≤ 5 → 2 * (i + m) ≤ n →
    ∃ (qs : List Pc) (b' : Int) (x5 x6 : Cell), Pp es bo qs (i + m) b' ∧ loopF (gN 5) (Pg.b_law_pieces_1 fu) ((List.range m).map fun j => .int ((2 * (i + j) : Nat) : Int)) [.dat (.list (es.map .int)), .dat (.int bo), .dat (.int cl), .own (ps.map Pc.d), .dat (.int b), c5, c6] = .nx [.dat (.list (es.map .int)), .dat (.int bo), .dat (.int cl), .own (qs.map Pc.d), .dat (.int b'), x5, x6]
  | 0, i, ps, b, c5, c6, h, _, _ => ⟨ps, b, c5, c6, h, loopF_nil⟩
  | m + 1, i, ps, b, c5, c6, h, h1, h2 => by
    obtain ⟨p, b', x6, h', e⟩ := piece_step hfu up bo0 bo1 hcl h (by omega) (by omega) c5 c6
    obtain ⟨qs, b2, y5, y6, h2', e2⟩ := pieces_loop up bo0 bo1 hcl m (i + 1) (ps ++ [p]) b' (.dat (.int ((2 * i : Nat) : Int))) x6 h' (by omega) (by omega)
    refine ⟨qs, b2, y5, y6, by rw [show i + (m + 1) = i + 1 + m by omega]; exact h2', ?_⟩
    rw [List.range_succ_eq_map, List.map_cons, List.map_map, loopF_cons (g1 := [.dat (.list (es.map .int)), .dat (.int bo), .dat (.int cl), .own (ps.map Pc.d), .dat (.int b), .dat (.int ((2 * i : Nat) : Int)), c6]) rfl e, ← e2]
    congr 1
    apply List.map_congr_left
    intro j _
    show PyData.int _ = PyData.int _
    rw [show i + (j + 1) = i + 1 + j by omega]
theorem pieces {es : List Int} {n : Nat} (up : Up es n) (hn : n = 4 ∨ n = 6 ∨ n = 8) {bo cl : Int} (bo0 : 0 < bo) (bo1 : bo ≤ 100000) (hcl : ∀ k : Int, 0 ≤ k → k ≤ 1000000 → (cl + k).natAbs.log2 ≤ 1048576) :
    ∃ (ps : List Pc) (a z : Pc), Pg.f_law_pieces fu [.list (es.map .int), .int bo, .int cl] = .ok (.list (ps.map Pc.d)) ∧ (Sl.brk ps a z).Ok := by
  have key : ∃ m : Nat, 2 ≤ m ∧ m ≤ 4 ∧ n = 2 * m ∧ rng3 [.int 0, .int (n : Int), .int 2] = some ((List.range m).map fun j => .int ((2 * (0 + j) : Nat) : Int)) := by
    rcases hn with h | h | h <;> subst h
    · exact ⟨2, by decide, by decide, rfl, rfl⟩
    · exact ⟨3, by decide, by decide, rfl, rfl⟩
    · exact ⟨4, by decide, by decide, rfl, rfl⟩
  obtain ⟨m, m2, m4, nm_, r⟩ := key
  obtain ⟨qs, b', x5, x6, pp, e⟩ := pieces_loop hfu up bo0 bo1 hcl m 0 [] 0 .un .un ⟨rfl, by simp, List.Pairwise.nil, by simp, by decide, by decide, fun _ => rfl, by simp, by simp, List.Pairwise.nil⟩ (by omega) (by omega)
  have hl := up.len
  have hi : mRng rng3 (mCons (mC (.int 0)) (mCons (mDs fLen (mCons (mVar 0) (mNil))) (mCons (mC (.int 2)) (mNil)))) (vd [.dat (.list (es.map .int)), .dat (.int bo), .dat (.int cl), .own [], .dat (.int 0), .un, .un]) = .ok ((List.range m).map fun j => .int ((2 * (0 + j) : Nat) : Int)) := by
    simp only [Nat.zero_add] at r ⊢
    simp [hl, r]
  have hf := (forG (t := gN 5) (b := Pg.b_law_pieces_1 fu) hi).trans e
  have len := pp.len
  rw [Nat.zero_add] at len
  cases qs with
  | nil => simp at len; omega
  | cons a t =>
    have ne : a :: t ≠ [] := List.cons_ne_nil _ _
    refine ⟨a :: t, a, (a :: t).getLast ne, ?_, ⟨pp.ok, ⟨t, rfl⟩, ⟨(a :: t).dropLast, (List.dropLast_concat_getLast ne).symm⟩, pp.far⟩, pp.rise, pp.fst a rfl, by omega, by omega⟩
    have go : ∀ (m : S) (d : MI.D), m [.dat (.list (es.map .int)), .dat (.int bo), .dat (.int cl), .un, .un, .un, .un] = .rt d → run 3 7 m [.list (es.map .int), .int bo, .int cl] = .ok d := fun m d h => by
      simp [run_eq, h]
    rw [Pg.f_law_pieces, Pg.s_law_pieces]
    obtain ⟨xs, hxs⟩ : ∃ xs, (a :: t).map Pc.d = xs := ⟨_, rfl⟩
    rw [hxs] at hf ⊢
    exact go _ _ (by simp [hf])
end
end Num
set_option Elab.async false
set_option linter.all false
set_option maxRecDepth 100000
set_option maxHeartbeats 4000000
/-! Shp: data that == takes. -/
namespace MI
open PySem
/-- data that can be held against data, at most so deep -/
def Sh (n : Nat) (d : D) : Prop := d.canLay0 = true ∧ d.depth ≤ n
theorem sh_int (i : Int) (n : Nat) : Sh n (.int i) := ⟨by simp [PyData.canLay0], by simp [PyData.depth]⟩
theorem sh_bool (i : Bool) (n : Nat) : Sh n (.bool i) := ⟨by simp [PyData.canLay0], by simp [PyData.depth]⟩
theorem sh_none (n : Nat) : Sh n .none := ⟨by simp [PyData.canLay0], by simp [PyData.depth]⟩
theorem sh_str {z : Str} (h : PyData.strOk z = true) (n : Nat) : Sh n (.str z) := ⟨by simp [PyData.canLay0, h], by simp [PyData.depth]⟩
theorem sh_all {n : Nat} : ∀ {ds : List D}, (∀ d ∈ ds, Sh n d) → PyData.canLayAll0 ds = true ∧ PyData.depthAll ds ≤ n
  | [], _ => ⟨by simp [PyData.canLayAll0], by simp [PyData.depthAll]⟩
  | d :: ds, h => by
    obtain ⟨a, b⟩ := h d (List.mem_cons_self ..)
    obtain ⟨a2, b2⟩ := sh_all fun e he => h e (List.mem_cons_of_mem _ he)
    exact ⟨by simp [PyData.canLayAll0, a, a2], by simp [PyData.depthAll, b, b2]; omega⟩
theorem sh_list {n : Nat} {ds : List D} (h : ∀ d ∈ ds, Sh n d) : Sh (n + 1) (.list ds) := ⟨by simp [PyData.canLay0, (sh_all h).1], by simp [PyData.depth, (sh_all h).2]⟩
theorem sh_tuple {n : Nat} {ds : List D} (h : ∀ d ∈ ds, Sh n d) : Sh (n + 1) (.tuple ds) := ⟨by simp [PyData.canLay0, (sh_all h).1], by simp [PyData.depth, (sh_all h).2]⟩
theorem sh_mono {n m : Nat} {d : D} (h : Sh n d) (l : n ≤ m) : Sh m d := ⟨h.1, Nat.le_trans h.2 l⟩
theorem shaped_of {n : Nat} {d : D} (h : Sh n d) (l : n ≤ 64) : SeqAt.shaped d = true := by
  unfold SeqAt.shaped
  rw [Bool.and_eq_true, decide_eq_true_eq]
  exact ⟨h.1, Nat.le_trans h.2 l⟩
theorem dEq_sh {n m : Nat} {d e : D} (h : Sh n d) (k : Sh m e) (l : n ≤ 64) (l2 : m ≤ 64) : dEq d e = some (PyData.eqv d e) := by
  have a := shaped_of h l
  have b := shaped_of k l2
  unfold dEq
  split
  · simp only [PyData.eqv]; rw [Option.some.injEq, Bool.eq_iff_iff]; simp
  · simp only [PyData.eqv]; rw [Option.some.injEq, Bool.eq_iff_iff]; simp
  · simp only [PyData.eqv]; rw [Option.some.injEq, Bool.eq_iff_iff]; simp
  · simp only [PyData.eqv]
  · rw [a, b]
    rfl
theorem eq_sh {n m : Nat} {d e : D} (h : Sh n d) (k : Sh m e) (l : n ≤ 64) (l2 : m ≤ 64) : fEq d e = some (.bool (PyData.eqv d e)) := by
  unfold fEq
  rw [dEq_sh h k l l2]
  rfl
theorem ne_sh {n m : Nat} {d e : D} (h : Sh n d) (k : Sh m e) (l : n ≤ 64) (l2 : m ≤ 64) : fNe d e = some (.bool (!PyData.eqv d e)) := by
  unfold fNe
  rw [dEq_sh h k l l2]
  rfl
theorem eqv_self {n : Nat} {d : D} (h : Sh n d) (l : n ≤ 64) : PyData.eqv d d = true := SeqAt.eqv_refl _ (SeqAt.canLay_of_shaped (shaped_of h l))
theorem eq_self {n : Nat} {d : D} (h : Sh n d) (l : n ≤ 64) : fEq d d = some (.bool true) := by rw [eq_sh h h l l, eqv_self h l]
theorem ne_self {n : Nat} {d : D} (h : Sh n d) (l : n ≤ 64) : fNe d d = some (.bool false) := by rw [ne_sh h h l l, eqv_self h l]; rfl
end MI
set_option Elab.async false
set_option linter.all false
set_option maxRecDepth 100000
set_option maxHeartbeats 4000000
/-! Sg3: the drawn scale, the drawn cells, scales held against one another. -/
namespace Num
open PySem MI Cal
theorem dTup_5 (a b c d e : MI.D) : dTup [a, b, c, d, e] = some (.tuple [a, b, c, d, e]) := Eq.trans rfl rfl
section
variable {fu : Nat} (hfu : FU ≤ fu)
include hfu
theorem scale (ns : List Int) (hb : ∀ k, (ns.getD k 0).natAbs.log2 ≤ 1048576) {es : List Int} {n : Nat} (up : Up es n) (hn : n = 4 ∨ n = 6 ∨ n = 8) {bo : Int} (bo0 : 0 < bo) (bo1 : bo ≤ 100000) :
    ∃ s : Sl, Pg.f_law_scale fu [.list (ns.map .int), .list (es.map .int), .int bo] = .ok s.d ∧ s.Ok := by
  have k0 := cell_at' fu ns (z := 0) (by decide)
  have k1 := cell_at' fu ns (z := 1) (by decide)
  have k2 := cell_at' fu ns (z := 2) (by decide)
  have b0 := hb (0 : Int).toNat
  generalize ns.getD (0 : Int).toNat 0 = x0 at *
  generalize ns.getD (1 : Int).toNat 0 = x1 at *
  generalize ns.getD (2 : Int).toNat 0 = x2 at *
  obtain ⟨r, er, r0, rl⟩ := mixed fu x0 b0
  have e1 := mod_n x0 4 (by decide)
  have e2 := fdv_n r 4 (by decide) (by decide)
  simp at e1 e2
  obtain ⟨cl, hcl⟩ : ∃ cl, r / 4 = cl := ⟨_, rfl⟩
  rw [hcl] at e2
  have cl0 : 0 ≤ cl := by omega
  have far : ∀ k : Int, 0 ≤ k → k ≤ 1000000 → (cl + k).natAbs.log2 ≤ 1048576 := fun k h1 h2 => by
    rcases (by omega : (cl + k).natAbs ≤ r.natAbs ∨ (cl + k).natAbs < 2 ^ 30) with h | h
    · exact Nat.le_trans (log2_mono h) rl
    · have := PySem.Flt.log2_lt_of (k := 30) (by decide) h
      omega
  have eL := mod_n cl 4000 (by decide)
  simp at eL
  have L0 : 1 ≤ 1 + cl % 4000 ∧ 1 + cl % 4000 ≤ 4000 := by omega
  have four : x0 % 4 = 0 ∨ x0 % 4 = 1 ∨ x0 % 4 = 2 ∨ x0 % 4 = 3 := by omega
  have go : ∀ (m : S) (d : MI.D), m [.dat (.list (ns.map .int)), .dat (.list (es.map .int)), .dat (.int bo), .un, .un, .un, .un, .un, .un] = .rt d → run 3 9 m [.list (ns.map .int), .list (es.map .int), .int bo] = .ok d := fun m d h => by
    simp [run_eq, h]
  rw [Pg.f_law_scale, Pg.s_law_scale]
  rcases four with c | c | c | c
  · have h0 : 0 < es.length := by rw [up.len]; omega
    have h1 : 1 < es.length := by rw [up.len]; omega
    have g0 := List.getElem?_eq_getElem h0
    have g1 := List.getElem?_eq_getElem h1
    have i0 := ix_map g0
    have i1 := ix_map g1
    obtain ⟨l0, B0⟩ := end_num hfu (up.bd _ (List.getElem_mem h0)) bo0 bo1
    obtain ⟨l1, B1⟩ := end_num hfu (up.bd _ (List.getElem_mem h1)) bo0 bo1
    have lt := div_lt bo0 (up_lt up g0 g1 (by decide))
    refine ⟨.str (Rat.divInt es[0] bo) (Rat.divInt es[1] bo) (1 + cl % 4000), ?_, lt, B0, B1, L0.1, L0.2⟩
    simp at i0 i1
    exact go _ _ (by simp [k0, er, e1, e2, c, eL, i0, i1, l0, l1, dTup_4, Sl.d, scs])
  · have e3 := fdv_n cl 4000 (by decide) (by decide)
    have e4 := mod_n (cl / 4000) 2 (by decide)
    have e5 := fdv_n cl 8000 (by decide) (by decide)
    have e6 := mod_n (cl / 8000) 31 (by decide)
    have e7 := fdv_n cl 248000 (by decide) (by decide)
    have e8 := mod_n (cl / 248000) 25 (by decide)
    simp at e3 e4 e5 e6 e7 e8
    have dl := dLst_ok (ds := [.int 2, .int 10]) (by decide)
    have base : ∃ B : Int, 2 ≤ B ∧ B ≤ 10 ∧ fIx (.list [.int 2, .int 10]) (.int (cl / 4000 % 2)) = some (.int B) := by
      rcases mod2 (cl / 4000) with h | h
      · exact ⟨2, by decide, by decide, by rw [h]; exact fIx_l (j := 0) rfl⟩
      · exact ⟨10, by decide, by decide, by rw [h]; exact fIx_l (j := 1) rfl⟩
    obtain ⟨B, b1, b2, eb⟩ := base
    refine ⟨.trn B (cl / 8000 % 31 - 15) (1 + cl / 248000 % 25) (1 + cl % 4000), ?_, ⟨b1, b2, by omega, by omega, L0⟩⟩
    exact go _ _ (by simp [k0, er, e1, e2, c, eL, e3, e4, e5, e6, e7, e8, dl, eb, dTup_5, Sl.d, sct])
  · obtain ⟨ps, a, z, ep, ok⟩ := pieces hfu up hn bo0 bo1 far
    have z0 := ok.1.z0
    refine ⟨.brk ps a z, ?_, ok⟩
    obtain ⟨xs, hxs⟩ : ∃ xs, ps.map Pc.d = xs := ⟨_, rfl⟩
    rw [hxs] at ep z0
    exact go _ _ (by simp [k0, er, e1, e2, c, ep, z0, d3, Sl.d, scb, hxs])
  · have e3 := mod_n x1 3652058 (by decide)
    simp at e3
    obtain ⟨lo, hlo⟩ : ∃ lo, x1 % 3652058 = lo := ⟨_, rfl⟩
    rw [hlo] at e3
    have l0 : 0 ≤ lo ∧ lo < 3652058 := by omega
    have e4 := fMod_pos (i := x2) (j := 3652058 - lo) (by omega)
    have v0 := Int.emod_nonneg x2 (b := 3652058 - lo) (by omega)
    have v1 := Int.emod_lt_of_pos x2 (b := 3652058 - lo) (by omega)
    obtain ⟨v, hv⟩ : ∃ v, x2 % (3652058 - lo) = v := ⟨_, rfl⟩
    rw [hv] at e4 v0 v1
    refine ⟨.dys lo (lo + 1 + v) (1 + cl % 4000), ?_, l0.1, by omega, by omega, L0.1, L0.2⟩
    exact go _ _ (by simp [k0, k1, k2, er, e1, e2, c, eL, e3, e4, dTup_4, Sl.d, scd])
theorem turned {B low many L : Int} (h : Tv B low many L) (z g : Int) : ∃ c : Rat, Pg.f_law_turned fu [sct B low many L, .int z, .int g] = .ok (nm c) ∧ Bd 180 c := by
  obtain ⟨b1, b2, ⟨l1, l2⟩, ⟨m1, m2⟩, L1, L2⟩ := h
  have e1 := fdv_n z 4 (by decide) (by decide)
  have e2 := mod_n z 4 (by decide)
  have e3 := mod_n (z / 4) 5 (by decide)
  simp at e1 e2 e3
  have e4 := fMod_pos (i := z / 4) (j := many + 2) (by omega)
  have v0 := Int.emod_nonneg (z / 4) (b := many + 2) (by omega)
  have v1 := Int.emod_lt_of_pos (z / 4) (b := many + 2) (by omega)
  obtain ⟨v, hv⟩ : ∃ v, z / 4 % (many + 2) = v := ⟨_, rfl⟩
  rw [hv] at e4 v0 v1
  have m16 := mul_s (i := 16) (j := B) (by decide) (by omega)
  have e5 := fMod_pos (i := g) (j := 16 * B - 15) (by omega)
  have w0 := Int.emod_nonneg g (b := 16 * B - 15) (by omega)
  have w1 := Int.emod_lt_of_pos g (b := 16 * B - 15) (by omega)
  obtain ⟨w, hw⟩ : ∃ w, g % (16 * B - 15) = w := ⟨_, rfl⟩
  rw [hw] at e5 w0 w1
  have go : ∀ (m : S) (d : MI.D), m [.dat (sct B low many L), .dat (.int z), .dat (.int g), .un, .un, .un, .un, .un, .un, .un] = .rt d → run 3 10 m [sct B low many L, .int z, .int g] = .ok d := fun m d h => by
    simp [run_eq, h]
  have un : ∀ k, gT (gsCons (gN 3) (gsCons (gN 4) (gsCons (gN 5) (gsCons (gN 6) (gsCons (gN 7) (gsNil)))))) (sct B low many L) k = (gsCons (gN 3) (gsCons (gN 4) (gsCons (gN 5) (gsCons (gN 6) (gsCons (gN 7) (gsNil)))))) [.str "turns", .int B, .int low, .int many, .int L] k := fun k => rfl
  rw [Pg.f_law_turned, Pg.s_law_turned]
  by_cases c : z % 4 = 1
  · refine ⟨((z / 4 % 5 - 3 : Int) : Rat), go _ _ ?_, bd_mono (bd_int (show (z / 4 % 5 - 3).natAbs < 2 ^ 5 by omega) (by decide)) (by decide)⟩
    rw [nm_int]
    simp [un, e1, e2, e3, e4, e5, m16, c]
  · have P1 := power_of fu b1 b2 (low - 1 + v) (by omega)
    have P2 := power_of fu b1 b2 (-(low - 1 + v)) (by omega)
    have d1 := P_bd b1 b2 (n := low - 1 + v) (k := 40) (by omega)
    have d2 := P_bd b1 b2 (n := -(low - 1 + v)) (k := 40) (by omega)
    have pp := P_pos b1 b2 (-(low - 1 + v))
    have M1 := mulB (show (16 + w).natAbs < 2 ^ 9 by omega) d1 (by decide) (by decide) (by decide)
    have M2 := mulB (show (16 : Int).natAbs < 2 ^ 9 by omega) d2 (by decide) (by decide) (by decide)
    have B1 := mul_bd _ _ 170 (show (16 + w).natAbs < 2 ^ 9 by omega) d1 (by decide)
    have B2 := mul_bd _ _ 170 (show (16 : Int).natAbs < 2 ^ 9 by omega) d2 (by decide)
    obtain ⟨e, y1, y2⟩ := law_lowest_q fu hfu (top := (16 + w) * P B (low - 1 + v)) (bottom := 16 * P B (-(low - 1 + v))) (by omega) (sm_of B2 (by decide))
    refine ⟨_, go _ _ ?_, bd_mono (n := 170) ⟨Nat.lt_of_le_of_lt y1 B1, Nat.lt_of_le_of_lt y2 B2⟩ (by decide)⟩
    simp [un, e1, e2, e4, e5, m16, c, P1, P2, M1, M2, e]
theorem cell {s : Sl} (h : s.Ok) {es : List Int} {n : Nat} (up : Up es n) (hn : n = 4 ∨ n = 6 ∨ n = 8) {bo : Int} (bo0 : 0 < bo) (bo1 : bo ≤ 100000) (z : Int) (hz : z.natAbs.log2 ≤ 1048576) :
    ∃ c : Rat, Pg.f_law_cell fu [s.d, .list (es.map .int), .int bo, .int z] = .ok (nm c) ∧ s.cell c := by
  have hl := up.len
  have bob : bo.natAbs < 2 ^ 20 := by omega
  have p18 : fPow (.int 10) (.int 18) = some (.int 1000000000000000000) := fPow_ii (by decide)
  have e1 := mod_n z 4 (by decide)
  have e2 := fdv_n z 4 (by decide) (by decide)
  have e3 := mod_n (z / 4) 3652059 (by decide)
  have e4 := mod_n (z / 4) 9 (by decide)
  have e5 := fdv_n z 36 (by decide) (by decide)
  have e6 := mod_n (z * 48271) 2147483647 (by decide)
  simp at e1 e2 e3 e4 e5 e6
  have mz := mul_log hz (k := 48271) (by
    have : (48271 : Int).natAbs.log2 = 15 := by decide +kernel
    omega)
  have st : ∃ g : Int, ∀ k : S, (sSeq (sSet 4 (mBin fMod (mBin fMul (mVar 3) (mC (.int 48271))) (mC (.int 2147483647)))) (sSeq (sIf (mTru (mBin fGe (mVar 3) (mBin fPow (mC (.int 10)) (mC (.int 18))))) (sSet 4 (mBin fFdv (mVar 3) (mC (.int 36)))) (sNop)) k)) [.dat s.d, .dat (.list (es.map .int)), .dat (.int bo), .dat (.int z), .un, .un, .un, .un] = k [.dat s.d, .dat (.list (es.map .int)), .dat (.int bo), .dat (.int z), .dat (.int g), .un, .un, .un] := by
    by_cases g : (1000000000000000000 : Int) ≤ z
    · exact ⟨z / 36, fun k => by simp [mz, e6, p18, g, e5]⟩
    · exact ⟨z * 48271 % 2147483647, fun k => by simp [mz, e6, p18, g]⟩
  obtain ⟨g, st⟩ := st
  have go : ∀ (m : S) (d : MI.D), m [.dat s.d, .dat (.list (es.map .int)), .dat (.int bo), .dat (.int z), .un, .un, .un, .un] = .rt d → run 4 8 m [s.d, .list (es.map .int), .int bo, .int z] = .ok d := fun m d h => by
    simp [run_eq, h]
  -- the ends
  have ends2 : ∃ f l1 l : Int, fIx (.list (es.map .int)) (.int 0) = some (.int f) ∧ fIx (.list (es.map .int)) (.int 1) = some (.int l1) ∧ fIx (.list (es.map .int)) (.int (-1)) = some (.int l) ∧ f < l1 ∧ f < l ∧ f.natAbs < 2 ^ 100 ∧ l1.natAbs < 2 ^ 100 ∧ l.natAbs < 2 ^ 100 := by
    have h0 : 0 < es.length := by omega
    have h1 : 1 < es.length := by omega
    have hL : es.length - 1 < es.length := by omega
    have ne : es ≠ [] := fun e => by rw [e] at hl; simp at hl; omega
    refine ⟨es[0], es[1], es[es.length - 1], ix_map (k := 0) (List.getElem?_eq_getElem h0), ix_map (k := 1) (List.getElem?_eq_getElem h1), ?_, List.pairwise_iff_getElem.mp up.up 0 1 h0 h1 (by decide), List.pairwise_iff_getElem.mp up.up 0 (es.length - 1) h0 hL (by omega), up.bd _ (List.getElem_mem h0), up.bd _ (List.getElem_mem h1), up.bd _ (List.getElem_mem hL)⟩
    have e : es.map PyData.int = (es.dropLast.map PyData.int) ++ [PyData.int (es.getLast ne)] := by
      conv => lhs; rw [← List.dropLast_concat_getLast ne]
      rw [List.map_append]
      rfl
    rw [e, List.getLast_eq_getElem]
    exact L2.atI_last _ _
  obtain ⟨f, l1, l, ef, el1, el, fl1, fl, bf, bl1, bl⟩ := ends2
  have low : ∀ (t d : Int), t.natAbs < 2 ^ 120 → 0 < d → d.natAbs < 2 ^ 25 → ∃ c : Rat, Pg.f_law_lowest fu [.int t, .int d] = .ok (nm c) ∧ Bd 180 c := fun t d h1 h2 h3 => by
    obtain ⟨e, l1, l2⟩ := law_lowest_q fu hfu (top := t) h2 (sm_of h3 (by decide))
    exact ⟨_, e, bd_mono (n := 120) ⟨Nat.lt_of_le_of_lt l1 h1, Nat.lt_of_le_of_lt l2 (Nat.lt_of_lt_of_le h3 (Nat.pow_le_pow_right (by decide) (by decide)))⟩ (by decide)⟩
  obtain ⟨sh, hs⟩ : ∃ s, 1 + z / 4 % 9 = s := ⟨_, rfl⟩
  have s0 : 1 ≤ sh ∧ sh ≤ 9 := by omega
  have sb : sh.natAbs < 2 ^ 4 := by omega
  have fin : ∀ l : Int, f < l → l.natAbs < 2 ^ 100 → ∃ c : Rat, Bd 180 c ∧ (sSeq (sSet 6 (mBin fAddL (mC (.int 1)) (mBin fMod (mBin fFdv (mVar 3) (mC (.int 4))) (mC (.int 9))))) (sSeq (sSet 7 (mBin fMul (mBin fSub (mVar 5) (mBin fIx (mVar 1) (mC (.int 0)))) (mVar 6))) (sSeq (sIf (mTru (mBin fEq (mBin fMod (mVar 3) (mC (.int 4))) (mC (.int 1)))) (sRet (mCall 2 (Pg.f_law_lowest fu) [] (mCons (mBin fAddL (mBin fSub (mBin fMul (mBin fIx (mVar 1) (mC (.int 0))) (mVar 6)) (mVar 7)) (mBin fMod (mVar 4) (mBin fAddL (mBin fMul (mC (.int 3)) (mVar 7)) (mC (.int 1))))) (mCons (mBin fMul (mVar 2) (mVar 6)) (mNil))))) (sNop)) (sRet (mCall 2 (Pg.f_law_lowest fu) [] (mCons (mBin fAddL (mBin fMul (mBin fIx (mVar 1) (mC (.int 0))) (mVar 6)) (mBin fMod (mVar 4) (mBin fAddL (mVar 7) (mC (.int 1))))) (mCons (mBin fMul (mVar 2) (mVar 6)) (mNil))))))))
      [.dat s.d, .dat (.list (es.map .int)), .dat (.int bo), .dat (.int z), .dat (.int g), .dat (.int l), .un, .un] = .rt (nm c) := fun l fl bl => by
    have m1 := mulB (subB bl bf) sb (by decide) (by decide) (by decide)
    have b1 := mul_bd _ _ 105 (subB bl bf) sb (by decide)
    have w0 : 0 < (l - f) * sh := Int.mul_pos (by omega) (by omega)
    obtain ⟨w, hw⟩ : ∃ w, (l - f) * sh = w := ⟨_, rfl⟩
    rw [hw] at m1 b1 w0
    have m2 := mulB bf sb (by decide) (by decide) (by decide)
    have b2 := mul_bd _ _ 105 bf sb (by decide)
    obtain ⟨t, ht⟩ : ∃ t, f * sh = t := ⟨_, rfl⟩
    rw [ht] at m2 b2
    have m3 := mulB (show (3 : Int).natAbs < 2 ^ 2 by decide) b1 (by decide) (by decide) (by decide)
    have m4 := mulB bob sb (by decide) (by decide) (by decide)
    have b4 := mul_bd _ _ 25 bob sb (by decide)
    have bs0 : 0 < bo * sh := Int.mul_pos bo0 (by omega)
    by_cases c1 : z % 4 = 1
    · have md := fMod_pos (i := g) (j := 3 * w + 1) (by omega)
      have v0 := Int.emod_nonneg g (b := 3 * w + 1) (by omega)
      have v1 := Int.emod_lt_of_pos g (b := 3 * w + 1) (by omega)
      obtain ⟨v, hv⟩ : ∃ v, g % (3 * w + 1) = v := ⟨_, rfl⟩
      rw [hv] at md v0 v1
      obtain ⟨c, ec, bc⟩ := low (t - w + v) (bo * sh) (by omega) bs0 b4
      exact ⟨c, bc, by simp [e1, c1, e2, e4, hs, ef, m1, m2, m3, md, m4, ec]⟩
    · have md := fMod_pos (i := g) (j := w + 1) (by omega)
      have v0 := Int.emod_nonneg g (b := w + 1) (by omega)
      have v1 := Int.emod_lt_of_pos g (b := w + 1) (by omega)
      obtain ⟨v, hv⟩ : ∃ v, g % (w + 1) = v := ⟨_, rfl⟩
      rw [hv] at md v0 v1
      obtain ⟨c, ec, bc⟩ := low (t + v) (bo * sh) (by omega) bs0 b4
      exact ⟨c, bc, by simp [e1, c1, e2, e4, hs, ef, m1, m2, md, m4, ec]⟩
  rw [Pg.f_law_cell, Pg.s_law_cell]
  cases s with
  | trn B low many L =>
    obtain ⟨c, ec, bc⟩ := turned hfu h z g
    refine ⟨c, go _ _ ?_, bc⟩
    rw [st]
    simp [Sl.d, sct_0, ec]
  | dys lo hi L =>
    obtain ⟨l0, lt, h1, L1, L2⟩ := h
    by_cases c1 : z % 4 = 1
    · refine ⟨((z / 4 % 3652059 : Int) : Rat), go _ _ ?_, _, rfl, by omega⟩
      rw [st]
      rw [nm_int]
      simp [Sl.d, scd_0, s_do, e1, e2, e3, c1]
    · have md := fMod_pos (i := g) (j := hi - lo + 1) (by omega)
      have v0 := Int.emod_nonneg g (b := hi - lo + 1) (by omega)
      have v1 := Int.emod_lt_of_pos g (b := hi - lo + 1) (by omega)
      obtain ⟨v, hv⟩ : ∃ v, g % (hi - lo + 1) = v := ⟨_, rfl⟩
      rw [hv] at md v0 v1
      refine ⟨((lo + v : Int) : Rat), go _ _ ?_, _, rfl, by omega⟩
      rw [st]
      rw [nm_int]
      simp [Sl.d, scd_0, scd_1, scd_2, s_do, e1, c1, md]
  | str lo hi L =>
    obtain ⟨c, bc, ec⟩ := fin l1 fl1 bl1
    refine ⟨c, go _ _ ?_, bc⟩
    rw [st]
    rw [ap (g' := [.dat (Sl.str lo hi L).d, .dat (.list (es.map .int)), .dat (.int bo), .dat (.int z), .dat (.int g), .un, .un, .un]) (by simp [Sl.d, scs_0, s_so])]
    rw [ap (g' := [.dat (Sl.str lo hi L).d, .dat (.list (es.map .int)), .dat (.int bo), .dat (.int z), .dat (.int g), .un, .un, .un]) (by simp [Sl.d, scs_0, s_sd])]
    rw [ap (g' := [.dat (Sl.str lo hi L).d, .dat (.list (es.map .int)), .dat (.int bo), .dat (.int z), .dat (.int g), .dat (.int l1), .un, .un]) (by simp [el1])]
    rw [ap (g' := [.dat (Sl.str lo hi L).d, .dat (.list (es.map .int)), .dat (.int bo), .dat (.int z), .dat (.int g), .dat (.int l1), .un, .un]) (by simp [Sl.d, scs_0, s_sb])]
    exact ec
  | brk ps a z' =>
    obtain ⟨c, bc, ec⟩ := fin l fl bl
    refine ⟨c, go _ _ ?_, bc⟩
    rw [st]
    rw [ap (g' := [.dat (Sl.brk ps a z').d, .dat (.list (es.map .int)), .dat (.int bo), .dat (.int z), .dat (.int g), .un, .un, .un]) (by simp [Sl.d, scb_0, s_bt])]
    rw [ap (g' := [.dat (Sl.brk ps a z').d, .dat (.list (es.map .int)), .dat (.int bo), .dat (.int z), .dat (.int g), .un, .un, .un]) (by simp [Sl.d, scb_0, s_bd])]
    rw [ap (g' := [.dat (Sl.brk ps a z').d, .dat (.list (es.map .int)), .dat (.int bo), .dat (.int z), .dat (.int g), .dat (.int l1), .un, .un]) (by simp [el1])]
    rw [ap (g' := [.dat (Sl.brk ps a z').d, .dat (.list (es.map .int)), .dat (.int bo), .dat (.int z), .dat (.int g), .dat (.int l), .un, .un]) (by simp [Sl.d, scb_0, el])]
    exact ec
end
theorem cut_ints (ns : List Int) : ∃ ms : List Int, fSl (.list (ns.map .int)) (some 10) (some 63) = some (.list (ms.map .int)) ∧ (∀ z ∈ ms, z ∈ ns) ∧ ms.length ≤ ns.length := by
  refine ⟨(ns.drop (HT.sIx (ns.map PyData.int).length 0 (some 10))).take (HT.sIx (ns.map PyData.int).length (ns.map PyData.int).length (some 63) - HT.sIx (ns.map PyData.int).length 0 (some 10)), ?_, fun z h => List.mem_of_mem_drop (List.mem_of_mem_take h), ?_⟩
  · rw [List.map_take, List.map_drop]
    rfl
  · rw [List.length_take, List.length_drop]
    omega
theorem sh_nm (r : Rat) : Sh 1 (nm r) := sh_tuple (n := 0) (allC (sh_int _ _) (allC (sh_int _ _) all0))
theorem sh_sl (s : Sl) : Sh 4 s.d := by
  cases s with
  | brk ps a z =>
    refine sh_tuple (n := 3) (allC (sh_str (by decide +kernel) _) (allC (sh_list (n := 2) fun d hd => ?_) (allC (sh_int _ _) all0)))
    obtain ⟨p, _, rfl⟩ := List.mem_map.mp hd
    exact sh_tuple (n := 1) (allC (sh_nm _) (allC (sh_nm _) (allC (sh_int _ _) (allC (sh_int _ _) all0))))
  | str lo hi L => exact sh_tuple (n := 3) (allC (sh_str (by decide +kernel) _) (allC (sh_mono (sh_nm _) (by decide)) (allC (sh_mono (sh_nm _) (by decide)) (allC (sh_int _ _) all0))))
  | trn B low many L => exact sh_tuple (n := 3) (allC (sh_str (by decide +kernel) _) (allC (sh_int _ _) (allC (sh_int _ _) (allC (sh_int _ _) (allC (sh_int _ _) all0)))))
  | dys lo hi L => exact sh_tuple (n := 3) (allC (sh_str (by decide +kernel) _) (allC (sh_int _ _) (allC (sh_int _ _) (allC (sh_int _ _) all0))))
theorem last_len (s : Sl) : fIx s.d (.int (-1)) = some (.int s.len) := by
  cases s with
  | str lo hi L => exact L2.atI_last [PyData.str "straight", nm lo, nm hi] _
  | trn B low many L => exact L2.atI_last [PyData.str "turns", .int B, .int low, .int many] _
  | brk ps a z => exact L2.atI_last [PyData.str "broken", .list (ps.map Pc.d)] _
  | dys lo hi L => exact L2.atI_last [PyData.str "days", .int lo, .int hi] _
end Num
set_option Elab.async false
set_option linter.all false
set_option maxRecDepth 100000
set_option maxHeartbeats 4000000
namespace K24
open PySem MI Num Cal
theorem above {fu : Nat} {n m : Nat} {a b : Rat} (ha : Bd n a) (hb : Bd m b) (hl : n + m ≤ 900000) : f_law_above fu [nm a, nm b] = .ok (.bool (decide (b < a))) := by
  have n0 := bd_pos ha
  have m0 := bd_pos hb
  have m1 := mulB ha.1 (show ((b.den : Int)).natAbs < 2 ^ m from hb.2) n0 m0 hl
  have m2 := mulB hb.1 (show ((a.den : Int)).natAbs < 2 ^ n from ha.2) m0 n0 (by omega)
  rw [f_law_above, s_law_above]
  simp [run_eq, nm0, nm1, m1, m2, Rat.lt_iff]
/-- the piece's ends, or the scale's -/
structure Reg (s : Sl) (p : Rat) (a b : Int) : Prop where
  on : ∀ q : Rat, (a : Rat) ≤ q → q ≤ (b : Rat) → s.on q
  lo : (a : Rat) ≤ p
  hi : p ≤ (b : Rat)
  bd : 0 ≤ a ∧ b ≤ 8000
  fold : ∀ ps x z, s = .brk ps x z → ∃ y ∈ ps, a = y.b ∧ b = y.e
  all : (∀ ps x z, s ≠ .brk ps x z) → a = 0 ∧ b = s.len
theorem reg {s : Sl} (h : s.Ok) {p : Rat} (o : s.on p) : ∃ a b : Int, Reg s p a b := by
  have lb := Sl.len_bd h
  have simple : (∀ ps x z, s ≠ .brk ps x z) → (∀ q : Rat, 0 ≤ q → q ≤ (s.len : Rat) → s.on q) → ∃ a b : Int, Reg s p a b := fun hn ho => by
    obtain ⟨p0, p1⟩ := Sl.on_in h o
    exact ⟨0, s.len, ho, p0, p1, ⟨by decide, lb.2⟩, fun ps x z e => absurd e (hn ps x z), fun _ => ⟨rfl, rfl⟩⟩
  cases s with
  | str lo hi L => exact simple (fun _ _ _ e => by cases e) fun q a b => ⟨a, b⟩
  | trn B low many L => exact simple (fun _ _ _ e => by cases e) fun q a b => ⟨a, b⟩
  | dys lo hi L => exact simple (fun _ _ _ e => by cases e) fun q a b => ⟨a, b⟩
  | brk ps a z =>
    obtain ⟨x, hx, ax⟩ := o
    have ok := h.1.ok x hx
    have ax' := ax
    unfold Pc.at_ at ax'
    rw [decide_eq_true_eq] at ax'
    refine ⟨x.b, x.e, fun q a b => ⟨x, hx, ?_⟩, Rat.not_lt.mp ax'.1, Rat.not_lt.mp ax'.2, ⟨ok.b0, ok.e1⟩, fun ps' x' z' e => by cases e; exact ⟨x, hx, rfl, rfl⟩, fun e => absurd rfl (e ps a z)⟩
    unfold Pc.at_
    rw [decide_eq_true_eq]
    exact ⟨Rat.not_lt.mpr a, Rat.not_lt.mpr b⟩
/-- the rounded place -/
theorem round {p : Rat} {a b w : Int} (ha : (a : Rat) ≤ p) (hb : p ≤ (b : Rat)) (hw : (2 * p.num + p.den) / (2 * p.den) = w) :
    a ≤ w ∧ w ≤ b ∧ ((2 * w - 1 : Int) : Rat) ≤ 2 * p ∧ 2 * p ≤ ((2 * w + 1 : Int) : Rat) := by
  have dp : (0 : Int) < p.den := by have := p.den_pos; omega
  have l1 := Int.ediv_mul_le (2 * p.num + p.den) (show 2 * (p.den : Int) ≠ 0 by omega)
  have l2 := Int.lt_ediv_add_one_mul_self (2 * p.num + p.den) (show 0 < 2 * (p.den : Int) by omega)
  rw [hw] at l1 l2
  have ha' : a * p.den ≤ p.num := by
    have := (Rat.le_iff (a : Rat) p).mp ha
    have e : p.num * (((a : Rat)).den : Int) = p.num := by
      show p.num * ((1 : Nat) : Int) = p.num
      simp
    rw [e] at this
    exact this
  have hb' : p.num ≤ b * p.den := by
    have := (Rat.le_iff p (b : Rat)).mp hb
    have e : p.num * (((b : Rat)).den : Int) = p.num := by
      show p.num * ((1 : Nat) : Int) = p.num
      simp
    rw [e] at this
    exact this
  have dR : (0 : Rat) < ((p.den : Int) : Rat) := Rat.intCast_pos.mpr dp
  have nq := num_eq p
  obtain ⟨d, hd⟩ : ∃ d : Int, (p.den : Int) = d := ⟨_, rfl⟩
  rw [hd] at dp l1 l2 ha' hb' dR nq
  obtain ⟨n, hn⟩ : ∃ n : Int, p.num = n := ⟨_, rfl⟩
  rw [hn] at l1 l2 ha' hb' nq
  refine ⟨?_, ?_, ?_, ?_⟩
  · rcases (by omega : a ≤ w ∨ w + 1 ≤ a) with k | k
    · exact k
    · have := Int.mul_le_mul_of_nonneg_right k (show 0 ≤ d by omega)
      have e : (w + 1) * (2 * d) = 2 * ((w + 1) * d) := by rw [Int.mul_left_comm]
      rw [e] at l2
      omega
  · rcases (by omega : w ≤ b ∨ b + 1 ≤ w) with k | k
    · exact k
    · have := Int.mul_le_mul_of_nonneg_right k (show 0 ≤ d by omega)
      rw [Int.add_mul] at this
      have e : w * (2 * d) = 2 * (w * d) := by rw [Int.mul_left_comm]
      rw [e] at l1
      omega
  · refine Rat.le_of_mul_le_mul_right (c := (d : Rat)) ?_ dR
    have e : 2 * p * (d : Rat) = ((2 * n : Int) : Rat) := by
      rw [Rat.intCast_mul, nq]
      have : ((2 : Int) : Rat) = 2 := rfl
      rw [this]
      grind
    rw [e, ← Rat.intCast_mul]
    refine Rat.intCast_le_intCast.mpr ?_
    rw [Int.sub_mul]
    have e : w * (2 * d) = 2 * w * d := by rw [Int.mul_left_comm, Int.mul_assoc]
    omega
  · refine Rat.le_of_mul_le_mul_right (c := (d : Rat)) ?_ dR
    have e : 2 * p * (d : Rat) = ((2 * n : Int) : Rat) := by
      rw [Rat.intCast_mul, nq]
      have : ((2 : Int) : Rat) = 2 := rfl
      rw [this]
      grind
    rw [e, ← Rat.intCast_mul]
    refine Rat.intCast_le_intCast.mpr ?_
    rw [Int.add_mul]
    have e : (w + 1) * (2 * d) = 2 * w * d + 2 * d := by rw [Int.add_mul, Int.mul_left_comm, Int.mul_assoc, Int.one_mul]
    omega
def fe (w : Int) (e : MI.D) (p : Pc) : MI.D := if p.b ≤ w ∧ w ≤ p.e then .list [.int p.b, .int p.e] else e
theorem edges_loop {fu : Nat} (w : Int) (c0 : Cell) : ∀ (ps : List Pc) (e : MI.D) (c3 c4 c5 c6 : Cell), ∃ x3 x4 x5 x6, loopF (gT (gsCons (gN 3) (gsCons (gN 4) (gsCons (gN 5) (gsCons (gN 6) (gsNil)))))) (b_law_edges_1 fu) (ps.map Pc.d) [c0, .dat (.int w), .dat e, c3, c4, c5, c6] = .nx [c0, .dat (.int w), .dat (ps.foldl (fe w) e), x3, x4, x5, x6]
  | [], e, c3, c4, c5, c6 => ⟨c3, c4, c5, c6, loopF_nil⟩
  | p :: ps, e, c3, c4, c5, c6 => by
    have dl : ∀ x y : MI.D, dLst [x, y] = some (.list [x, y]) := fun x y => dLst_ok (by show 2 ≤ most; decide)
    have st : b_law_edges_1 fu [c0, .dat (.int w), .dat e, .dat (nm p.lo), .dat (nm p.hi), .dat (.int p.b), .dat (.int p.e)] = .nx [c0, .dat (.int w), .dat (fe w e p), .dat (nm p.lo), .dat (nm p.hi), .dat (.int p.b), .dat (.int p.e)] := by
      rw [b_law_edges_1]
      unfold fe
      by_cases h1 : p.b ≤ w
      · by_cases h2 : w ≤ p.e
        · simp [h1, h2, dl]
        · simp [h1, h2]
      · simp [h1]
    obtain ⟨x3, x4, x5, x6, ih⟩ := edges_loop (fu := fu) w c0 ps (fe w e p) (.dat (nm p.lo)) (.dat (nm p.hi)) (.dat (.int p.b)) (.dat (.int p.e))
    refine ⟨x3, x4, x5, x6, ?_⟩
    rw [List.map_cons, loopF_cons (g1 := [c0, .dat (.int w), .dat e, .dat (nm p.lo), .dat (nm p.hi), .dat (.int p.b), .dat (.int p.e)]) rfl st]
    exact ih
theorem fold_one {w : Int} {x : Pc} (hx : x.b ≤ w ∧ w ≤ x.e) : ∀ (ps : List Pc) (e : MI.D), (∀ p ∈ ps, p.b ≤ w → w ≤ p.e → p = x) → (x ∈ ps ∨ e = .list [.int x.b, .int x.e]) → ps.foldl (fe w) e = .list [.int x.b, .int x.e]
  | [], e, _, h => by
    rcases h with h | h
    · cases h
    · exact h
  | p :: ps, e, hu, h => by
    rw [List.foldl_cons]
    refine fold_one hx ps _ (fun q hq => hu q (List.mem_cons_of_mem _ hq)) ?_
    unfold fe
    by_cases c : p.b ≤ w ∧ w ≤ p.e
    · have := hu p (List.mem_cons_self ..) c.1 c.2
      subst this
      rw [if_pos c]
      exact .inr rfl
    · rw [if_neg c]
      rcases h with h | h
      · rcases List.mem_cons.mp h with e1 | e1
        · exact absurd (e1 ▸ hx) c
        · exact .inl e1
      · exact .inr h
section
variable {fu : Nat} (hfu : FU ≤ fu)
include hfu
theorem edges {s : Sl} (h : s.Ok) {p : Rat} {a b : Int} (r : Reg s p a b) {w : Int} (hw : a ≤ w ∧ w ≤ b) :
    f_law_edges fu [s.d, .int w] = .ok (.list [.int (if 2 * w - 1 > 2 * a then 2 * w - 1 else 2 * a), .int (if 2 * w + 1 < 2 * b then 2 * w + 1 else 2 * b)]) := by
  have lb := Sl.len_bd h
  have bd := r.bd
  have dl : ∀ x y : MI.D, dLst [x, y] = some (.list [x, y]) := fun x y => dLst_ok (by show 2 ≤ most; decide)
  have m1 := mul_s (i := 2) (j := a) (by decide) (by omega)
  have m2 := mul_s (i := 2) (j := b) (by decide) (by omega)
  have m3 := mul_s (i := 2) (j := w) (by decide) (by omega)
  have i0 : ∀ x y : MI.D, fIx (.list [x, y]) (.int 0) = some x := fun x y => fIx_l (j := 0) rfl
  have i1 : ∀ x y : MI.D, fIx (.list [x, y]) (.int 1) = some y := fun x y => fIx_l (j := 1) rfl
  have ll := last_len s
  have go : ∀ (m : S) (d : MI.D), m [.dat s.d, .dat (.int w), .un, .un, .un, .un, .un] = .rt d → run 2 7 m [s.d, .int w] = .ok d := fun m d h => by
    simp [run_eq, h]
  have fin : ∀ x3 x4 x5 x6, (sRet (mDs dLst (mCons (mDs fMax (mCons (mBin fMul (mC (.int 2)) (mBin fIx (mVar 2) (mC (.int 0)))) (mCons (mBin fSub (mBin fMul (mC (.int 2)) (mVar 1)) (mC (.int 1))) (mNil)))) (mCons (mDs fMin (mCons (mBin fMul (mC (.int 2)) (mBin fIx (mVar 2) (mC (.int 1)))) (mCons (mBin fAddL (mBin fMul (mC (.int 2)) (mVar 1)) (mC (.int 1))) (mNil)))) (mNil)))))
      [.dat s.d, .dat (.int w), .dat (.list [.int a, .int b]), x3, x4, x5, x6] = .rt (.list [.int (if 2 * w - 1 > 2 * a then 2 * w - 1 else 2 * a), .int (if 2 * w + 1 < 2 * b then 2 * w + 1 else 2 * b)]) := fun x3 x4 x5 x6 => by
    simp [i0, i1, m1, m2, m3, dl]
  rw [f_law_edges, s_law_edges]
  refine go _ _ ?_
  rw [ap (g' := [.dat s.d, .dat (.int w), .dat (.list [.int 0, .int s.len]), .un, .un, .un, .un]) (by simp [ll, dl])]
  cases s with
  | brk ps x z =>
    obtain ⟨y, hy, ea, eb⟩ := r.fold ps x z rfl
    have hp := h.1
    have far := hp.far
    have one : ∀ p ∈ ps, p.b ≤ w → w ≤ p.e → p = y := fun p hm h1 h2 => by
      refine one_at far hp.ok hm hy (x := (w : Rat)) ?_ ?_
      · unfold Pc.at_
        rw [decide_eq_true_eq, Rat.not_lt, Rat.not_lt]
        exact ⟨Rat.intCast_le_intCast.mpr h1, Rat.intCast_le_intCast.mpr h2⟩
      · unfold Pc.at_
        rw [decide_eq_true_eq, Rat.not_lt, Rat.not_lt]
        exact ⟨Rat.intCast_le_intCast.mpr (by omega), Rat.intCast_le_intCast.mpr (by omega)⟩
    obtain ⟨x3, x4, x5, x6, e⟩ := edges_loop (fu := fu) w (.dat (scb ps z)) ps (.list [.int 0, .int z.e]) .un .un .un .un
    rw [fold_one (by omega : y.b ≤ w ∧ w ≤ y.e) ps _ one (.inl hy), ← ea, ← eb] at e
    have s1 := scb_1 ps z
    obtain ⟨xs, hxs⟩ : ∃ xs, ps.map Pc.d = xs := ⟨_, rfl⟩
    rw [hxs] at e s1
    have hi : mItems (mBin fIx (mVar 0) (mC (.int 1))) (vd [.dat (scb ps z), .dat (.int w), .dat (.list [.int 0, .int z.e]), .un, .un, .un, .un]) = .ok xs := by simp [s1]
    have hf := (forG (t := (gT (gsCons (gN 3) (gsCons (gN 4) (gsCons (gN 5) (gsCons (gN 6) (gsNil))))))) (b := b_law_edges_1 fu) hi).trans e
    rw [ap (g' := [.dat (Sl.brk ps x z).d, .dat (.int w), .dat (.list [.int a, .int b]), x3, x4, x5, x6]) (by
      simp only [sIf_ap]
      simp [Sl.d, scb_0]
      exact hf)]
    exact fin _ _ _ _
  | str lo hi L =>
    obtain ⟨ea, eb⟩ := r.all (fun _ _ _ e => by cases e)
    rw [ap (g' := [.dat (Sl.str lo hi L).d, .dat (.int w), .dat (.list [.int 0, .int L]), .un, .un, .un, .un]) (by simp [Sl.d, Sl.len, scs_0, s_sb])]
    rw [show (.list [.int 0, .int L] : MI.D) = .list [.int a, .int b] by rw [ea, eb]; rfl]
    exact fin _ _ _ _
  | dys lo hi L =>
    obtain ⟨ea, eb⟩ := r.all (fun _ _ _ e => by cases e)
    rw [ap (g' := [.dat (Sl.dys lo hi L).d, .dat (.int w), .dat (.list [.int 0, .int L]), .un, .un, .un, .un]) (by simp [Sl.d, Sl.len, scd_0, s_db])]
    rw [show (.list [.int 0, .int L] : MI.D) = .list [.int a, .int b] by rw [ea, eb]; rfl]
    exact fin _ _ _ _
  | trn B low many L =>
    obtain ⟨ea, eb⟩ := r.all (fun _ _ _ e => by cases e)
    rw [ap (g' := [.dat (Sl.trn B low many L).d, .dat (.int w), .dat (.list [.int 0, .int L]), .un, .un, .un, .un]) (by simp [Sl.d, Sl.len, sct_0, s_tb])]
    rw [show (.list [.int 0, .int L] : MI.D) = .list [.int a, .int b] by rw [ea, eb]; rfl]
    exact fin _ _ _ _
theorem half {e : Int} (h : e.natAbs < 2 ^ 15) : Pg.f_law_lowest fu [.int e, .int 2] = .ok (nm (Rat.divInt e 2)) ∧ Bd 15 (Rat.divInt e 2) ∧ Rat.divInt e 2 * 2 = (e : Rat) := by
  obtain ⟨el, l1, l2⟩ := law_lowest_q fu hfu (top := e) (bottom := 2) (by decide) (sm_of (a := 3) (by decide) (by decide))
  refine ⟨el, ⟨Nat.lt_of_le_of_lt l1 h, Nat.lt_of_le_of_lt l2 (by decide)⟩, ?_⟩
  rw [Rat.divInt_eq_div]
  have e2 : ((2 : Int) : Rat) = 2 := rfl
  rw [e2]
  grind
omit hfu in
theorem back_le {s : Sl} (h : s.Ok) {p q : Rat} (hp : s.on p) (hq : s.on q) (l : p ≤ q) : ¬ s.back q < s.back p := by
  rw [Sl.back_iff h hq hp]
  exact Rat.not_lt.mpr l
theorem right {s : Sl} (h : s.Ok) {c p : Rat} (hc : Bd 180 c) (bp : Bd 700 p) (o : s.on p) (bk : s.back p = c) (b3 : ∀ B low many L, s = .trn B low many L → Bd 300 p) : f_law_right fu [s.d, nm c, nm p] = .ok (.bool true) := by
  obtain ⟨a, b, r⟩ := reg h o
  have isn : ∀ {r : Rat} {n : Nat}, Bd n r → n ≤ 4000 → Pg.f_law_is_number fu [nm r] = .ok (.bool true) := fun {r n} hr hn => is_number_q fu r (Nat.lt_of_lt_of_le (fu_lt hr.2 hn) hfu)
  have i1 := isn bp (by decide)
  obtain ⟨e1, _⟩ := read hfu h o bp b3
  rw [bk] at e1
  have dp : (0 : Int) < p.den := by have := p.den_pos; omega
  have db : ((p.den : Int)).natAbs < 2 ^ 700 := bp.2
  have m1 := mulB (show (2 : Int).natAbs < 2 ^ 2 by decide) bp.1 (by decide) (by decide) (by decide)
  have m2 := mulB (show (2 : Int).natAbs < 2 ^ 2 by decide) db (by decide) (by decide) (by decide)
  have dv : fFdv (.int (2 * p.num + p.den)) (.int (2 * (p.den : Int))) = some (.int ((2 * p.num + p.den) / (2 * p.den))) := fFdv_pos (by omega) (Nat.lt_trans (log2_lt (mul_bd 2 700 702 (by decide) db (by decide)) (by decide)) (by decide))
  obtain ⟨w, hw⟩ : ∃ w, (2 * p.num + p.den) / (2 * (p.den : Int)) = w := ⟨_, rfl⟩
  obtain ⟨w1, w2, w3, w4⟩ := round r.lo r.hi hw
  rw [hw] at dv
  have ed := edges hfu h r ⟨w1, w2⟩
  have bd := r.bd
  obtain ⟨u, hu⟩ : ∃ u, (if 2 * w - 1 > 2 * a then 2 * w - 1 else 2 * a) = u := ⟨_, rfl⟩
  obtain ⟨v, hv⟩ : ∃ v, (if 2 * w + 1 < 2 * b then 2 * w + 1 else 2 * b) = v := ⟨_, rfl⟩
  rw [hu, hv] at ed
  have u1 : 2 * a ≤ u ∧ u ≤ 2 * w ∧ (u = 2 * w - 1 ∨ u = 2 * a) := by
    rw [← hu]
    split <;> omega
  have v1 : 2 * w ≤ v ∧ v ≤ 2 * b ∧ (v = 2 * w + 1 ∨ v = 2 * b) := by
    rw [← hv]
    split <;> omega
  obtain ⟨x1, y1, z1⟩ := half hfu (e := u) (by omega)
  obtain ⟨x2, y2, z2⟩ := half hfu (e := v) (by omega)
  obtain ⟨q1, hq1⟩ : ∃ q, Rat.divInt u 2 = q := ⟨_, rfl⟩
  obtain ⟨q2, hq2⟩ : ∃ q, Rat.divInt v 2 = q := ⟨_, rfl⟩
  rw [hq1] at x1 y1 z1
  rw [hq2] at x2 y2 z2
  have c2 : ((2 : Int) : Rat) = 2 := rfl
  have cu : (u : Rat) = 2 * q1 := by rw [← z1]; grind
  have cv : (v : Rat) = 2 * q2 := by rw [← z2]; grind
  have t1 := Rat.intCast_le_intCast.mpr u1.1
  have t2 := Rat.intCast_le_intCast.mpr u1.2.1
  have t3 := Rat.intCast_le_intCast.mpr v1.1
  have t4 := Rat.intCast_le_intCast.mpr v1.2.1
  rw [Rat.intCast_mul, c2] at t1 t2 t3 t4
  have rl := r.lo
  have rh := r.hi
  have wa := Rat.intCast_le_intCast.mpr w1
  have wb := Rat.intCast_le_intCast.mpr w2
  have qp : q1 ≤ p := by
    rcases u1.2.2 with e | e
    · rw [← e] at w3
      grind
    · have : (u : Rat) = 2 * (a : Rat) := by rw [e, Rat.intCast_mul, c2]
      grind
  have pq : p ≤ q2 := by
    rcases v1.2.2 with e | e
    · rw [← e] at w4
      grind
    · have : (v : Rat) = 2 * (b : Rat) := by rw [e, Rat.intCast_mul, c2]
      grind
  have o1 : s.on q1 := r.on q1 (by grind) (by grind)
  have o2 : s.on q2 := r.on q2 (by grind) (by grind)
  have ow : s.on (w : Rat) := r.on _ wa wb
  obtain ⟨r1, k1⟩ := read hfu h o1 (bd_mono y1 (by decide)) (fun _ _ _ _ _ => bd_mono y1 (by decide))
  obtain ⟨r2, k2⟩ := read hfu h o2 (bd_mono y2 (by decide)) (fun _ _ _ _ _ => bd_mono y2 (by decide))
  have bw : Bd 15 (w : Rat) := bd_int (by omega) (by decide)
  obtain ⟨r3, k3⟩ := read hfu h ow (bd_mono bw (by decide)) (fun _ _ _ _ _ => bd_mono bw (by decide))
  rw [nm_int] at r3
  have n1 := isn k1 (by decide)
  have n2 := isn k2 (by decide)
  have n3 := isn k3 (by decide)
  have a1 := above (fu := fu) k1 hc (by decide)
  have a2 := above (fu := fu) hc k2 (by decide)
  have a3 := above (fu := fu) k1 k3 (by decide)
  have a4 := above (fu := fu) k3 k2 (by decide)
  have l1 := back_le h o1 o qp
  have l2 := back_le h o o2 pq
  rw [bk] at l1 l2
  have l3 := back_le h o1 ow (by grind)
  have l4 := back_le h ow o2 (by grind)
  rw [decide_eq_false l1] at a1
  rw [decide_eq_false l2] at a2
  rw [decide_eq_false l3] at a3
  rw [decide_eq_false l4] at a4
  have nn := ne_q c c
  rw [show (!decide (c = c)) = false by simp] at nn
  have j0 : ∀ x y : MI.D, fIx (.list [x, y]) (.int 0) = some x := fun x y => fIx_l (j := 0) rfl
  have j1 : ∀ x y : MI.D, fIx (.list [x, y]) (.int 1) = some y := fun x y => fIx_l (j := 1) rfl
  have go : ∀ (m : S) (d : MI.D), m [.dat s.d, .dat (nm c), .dat (nm p), .un, .un, .un, .un, .un] = .rt d → run 3 8 m [s.d, nm c, nm p] = .ok d := fun m d h => by
    simp [run_eq, h]
  rw [f_law_right, s_law_right]
  refine go _ _ ?_
  rw [ap (g' := [.dat s.d, .dat (nm c), .dat (nm p), .un, .un, .un, .un, .un]) (by simp [i1, e1, nn])]
  rw [ap (g' := [.dat s.d, .dat (nm c), .dat (nm p), .dat (.int w), .un, .un, .un, .un]) (by simp [nm0, nm1, m1, m2, dv])]
  rw [ap (g' := [.dat s.d, .dat (nm c), .dat (nm p), .dat (.int w), .dat (.list [.int u, .int v]), .un, .un, .un]) (by simp [ed])]
  rw [ap (g' := [.dat s.d, .dat (nm c), .dat (nm p), .dat (.int w), .dat (.list [.int u, .int v]), .dat (nm (s.back q1)), .un, .un]) (by simp [j0, x1, r1])]
  rw [ap (g' := [.dat s.d, .dat (nm c), .dat (nm p), .dat (.int w), .dat (.list [.int u, .int v]), .dat (nm (s.back q1)), .dat (nm (s.back q2)), .un]) (by simp [j1, x2, r2])]
  rw [ap (g' := [.dat s.d, .dat (nm c), .dat (nm p), .dat (.int w), .dat (.list [.int u, .int v]), .dat (nm (s.back q1)), .dat (nm (s.back q2)), .un]) (by simp [n1, n2])]
  rw [ap (g' := [.dat s.d, .dat (nm c), .dat (nm p), .dat (.int w), .dat (.list [.int u, .int v]), .dat (nm (s.back q1)), .dat (nm (s.back q2)), .un]) (by simp [a1, a2])]
  rw [ap (g' := [.dat s.d, .dat (nm c), .dat (nm p), .dat (.int w), .dat (.list [.int u, .int v]), .dat (nm (s.back q1)), .dat (nm (s.back q2)), .dat (nm (s.back (w : Rat)))]) (by simp [r3])]
  simp [n3, a3, a4]
theorem turn {s : Sl} (h : s.Ok) {es : List Int} {n : Nat} (up : Up es n) (hn : n = 4 ∨ n = 6 ∨ n = 8) {bo : Int} (bo0 : 0 < bo) (bo1 : bo ≤ 100000) (z : Int) (hz : z.natAbs.log2 ≤ 1048576) (c0 c5 c6 : Cell) :
    ∃ x5 x6, b_p_law_1 fu [c0, .dat (.list (es.map .int)), .dat (.int bo), .dat s.d, .dat (.int z), c5, c6] = .nx [c0, .dat (.list (es.map .int)), .dat (.int bo), .dat s.d, .dat (.int z), x5, x6] := by
  obtain ⟨c, ec, hc⟩ := cell hfu h up hn bo0 bo1 z hz
  have eh := handed hfu hc
  obtain ⟨xs, hxs⟩ : ∃ xs, es.map PyData.int = xs := ⟨_, rfl⟩
  rw [hxs] at ec ⊢
  rw [b_p_law_1]
  by_cases hh : s.has c
  · obtain ⟨p, ep, bp, op, bk, b3⟩ := place hfu h hc hh
    have rt := right hfu h (Sl.cell_bd hc) bp op bk b3
    exact ⟨.dat (nm c), .dat (nm p), by simp [ec, eh, ep, isT_nm, rt]⟩
  · obtain ⟨t, et⟩ := placeN hfu h hc hh
    exact ⟨.dat (nm c), .dat (.str t), by simp [ec, eh, et]⟩
theorem law (ns : List Int) (hn : ns.length ≤ 63) (hb : ∀ z ∈ ns, Builtin.Int.intBits z ≤ 1048576) : f_p_law fu [.list (ns.map .int)] = .ok (.bool true) := by
  have hb1 : ∀ z ∈ ns, z.natAbs.log2 ≤ 1048576 := fun z hz => bits_lt (hb z hz)
  have hb2 : ∀ k, (ns.getD k 0).natAbs.log2 ≤ 1048576 := fun k => by
    by_cases h : k < ns.length
    · have e : ns.getD k 0 = ns[k] := by simp [List.getD, List.getElem?_eq_getElem h]
      rw [e]
      exact hb1 _ (List.getElem_mem h)
    · have e : ns.getD k 0 = 0 := by simp [List.getD, List.getElem?_eq_none (show ns.length ≤ k by omega)]
      rw [e]
      decide +kernel
  have k1 := cell_at' fu ns (z := 1) (by decide)
  have k9 := cell_at' fu ns (z := 9) (by decide)
  generalize ns.getD (1 : Int).toNat 0 = x1 at *
  generalize ns.getD (9 : Int).toNat 0 = x9 at *
  have e1 := mod_n x1 3 (by decide)
  have e9 := mod_n x9 99991 (by decide)
  simp at e1 e9
  have m2 := mul_s (i := 2) (j := x1 % 3) (by decide) (by omega)
  obtain ⟨m, hm⟩ : ∃ m : Nat, 3 + 2 * (x1 % 3) = m := ⟨(3 + 2 * (x1 % 3)).toNat, by omega⟩
  have m3 : m = 3 ∨ m = 5 ∨ m = 7 := by omega
  obtain ⟨es, ee, up⟩ := ends fu ns m m3
  have h468 : m + 1 = 4 ∨ m + 1 = 6 ∨ m + 1 = 8 := by omega
  obtain ⟨bo, hbo⟩ : ∃ b, 1 + x9 % 99991 = b := ⟨_, rfl⟩
  have bo0 : 0 < bo := by omega
  have bo1 : bo ≤ 100000 := by omega
  obtain ⟨s, es_, h⟩ := scale hfu ns hb2 up h468 bo0 bo1
  obtain ⟨ms, em, hm1, hm2⟩ := cut_ints ns
  have ha : fAddL (.list (ms.map .int)) (.list [.int 0]) = some (.list ((ms ++ [0]).map .int)) := by
    show (if (ms.map PyData.int).length + ([PyData.int 0]).length ≤ most then some (PyData.list (ms.map PyData.int ++ [PyData.int 0])) else none) = _
    rw [if_pos]
    · rw [List.map_append]
      rfl
    · rw [List.length_map]
      show ms.length + 1 ≤ 16777216
      omega
  have hx : ∀ d ∈ ((ms ++ [0]).map PyData.int), ∃ k : Int, d = .int k ∧ k.natAbs.log2 ≤ 1048576 := fun d hd => by
    obtain ⟨k, hk, e⟩ := List.mem_map.mp hd
    refine ⟨k, e.symm, ?_⟩
    rcases List.mem_append.mp hk with hk | hk
    · exact hb1 k (hm1 k hk)
    · have := List.mem_singleton.mp hk
      subst this
      decide +kernel
  have t1 := dLst_ok (ds := [.int 0]) (by decide)
  obtain ⟨xs, hxs⟩ : ∃ xs, (ms ++ [0]).map PyData.int = xs := ⟨_, rfl⟩
  rw [hxs] at ha hx
  obtain ⟨g', e, c4, c5, c6, rfl⟩ := loopF_inv (t := gN 4) (b := b_p_law_1 fu) (fun g => ∃ c4 c5 c6, g = [.dat (.list (ns.map .int)), .dat (.list (es.map .int)), .dat (.int bo), .dat s.d, c4, c5, c6]) xs
    [.dat (.list (ns.map .int)), .dat (.list (es.map .int)), .dat (.int bo), .dat s.d, .un, .un, .un] ⟨_, _, _, rfl⟩ (by
      rintro d hd g ⟨c4, c5, c6, rfl⟩
      obtain ⟨k, rfl, hk⟩ := hx d hd
      obtain ⟨x5, x6, e⟩ := turn hfu h up h468 bo0 bo1 k hk (.dat (.list (ns.map .int))) c5 c6
      exact ⟨_, _, rfl, .inl e, _, _, _, rfl⟩)
  have h1 : mItems (mBin fAddL (mSl (mVar 0) (mPart (mC (.int 10))) (mPart (mC (.int 63)))) (mDs dLst (mCons (mC (.int 0)) (mNil)))) (vd [.dat (.list (ns.map .int)), .dat (.list (es.map .int)), .dat (.int bo), .dat s.d, .un, .un, .un]) = .ok xs := by simp [t1, em, ha]
  have hf := (forG (t := gN 4) (b := b_p_law_1 fu) h1).trans e
  have go : ∀ (m : S) (d : MI.D), m [.dat (.list (ns.map .int)), .un, .un, .un, .un, .un, .un] = .rt d → run 1 7 m [.list (ns.map .int)] = .ok d := fun m d h => by
    simp [run_eq, h]
  rw [f_p_law, s_p_law]
  refine go _ _ ?_
  obtain ⟨E, hE⟩ : ∃ E, es.map PyData.int = E := ⟨_, rfl⟩
  obtain ⟨N, hN⟩ : ∃ N, ns.map PyData.int = N := ⟨_, rfl⟩
  rw [hE] at ee es_ hf
  rw [hN] at ee es_ hf k1 k9 ⊢
  rw [ap (g' := [.dat (.list N), .dat (.list E), .un, .un, .un, .un, .un]) (by simp [k1, e1, m2, hm, ee])]
  rw [ap (g' := [.dat (.list N), .dat (.list E), .dat (.int bo), .un, .un, .un, .un]) (by simp [k9, e9, hbo])]
  rw [ap (g' := [.dat (.list N), .dat (.list E), .dat (.int bo), .dat s.d, .un, .un, .un]) (by simp [es_])]
  rw [ap hf]
  simp
end
end K24
set_option Elab.async false
set_option linter.all false
set_option maxRecDepth 100000
set_option maxHeartbeats 4000000
namespace K24
open PySem PySem.Spec PyProof.Rows L2 MI
def top (i : Nat) : Stmt := PySem.Challenge.pw_markscale_k24_whole_within_half_a_place.main.body.getD i (.Pass ⟨0, 0, 0, 0⟩)
abbrev t_p_divisor : Stmt := top 4
def d_p_divisor : He.DefD := ⟨("divisor", none), "divisor", "divisor", defArgs t_p_divisor, defBody t_p_divisor, defScope t_p_divisor, [], []⟩
abbrev t_p_lowest : Stmt := top 5
def d_p_lowest : He.DefD := ⟨("lowest", none), "lowest", "lowest", defArgs t_p_lowest, defBody t_p_lowest, defScope t_p_lowest, [], []⟩
abbrev t_p_plus : Stmt := top 6
def d_p_plus : He.DefD := ⟨("plus", none), "plus", "plus", defArgs t_p_plus, defBody t_p_plus, defScope t_p_plus, [], []⟩
abbrev t_p_minus : Stmt := top 7
def d_p_minus : He.DefD := ⟨("minus", none), "minus", "minus", defArgs t_p_minus, defBody t_p_minus, defScope t_p_minus, [], []⟩
abbrev t_p_times : Stmt := top 8
def d_p_times : He.DefD := ⟨("times", none), "times", "times", defArgs t_p_times, defBody t_p_times, defScope t_p_times, [], []⟩
abbrev t_p_over : Stmt := top 9
def d_p_over : He.DefD := ⟨("over", none), "over", "over", defArgs t_p_over, defBody t_p_over, defScope t_p_over, [], []⟩
abbrev t_p_under : Stmt := top 10
def d_p_under : He.DefD := ⟨("under", none), "under", "under", defArgs t_p_under, defBody t_p_under, defScope t_p_under, [], []⟩
abbrev t_p_along_straight : Stmt := top 12
def d_p_along_straight : He.DefD := ⟨("along_straight", none), "along_straight", "along_straight", defArgs t_p_along_straight, defBody t_p_along_straight, defScope t_p_along_straight, [], []⟩
abbrev t_p_back_straight : Stmt := top 13
def d_p_back_straight : He.DefD := ⟨("back_straight", none), "back_straight", "back_straight", defArgs t_p_back_straight, defBody t_p_back_straight, defScope t_p_back_straight, [], []⟩
abbrev t_p_power_of : Stmt := top 14
def d_p_power_of : He.DefD := ⟨("power_of", none), "power_of", "power_of", defArgs t_p_power_of, defBody t_p_power_of, defScope t_p_power_of, [], []⟩
abbrev t_p_along_turns : Stmt := top 15
def d_p_along_turns : He.DefD := ⟨("along_turns", none), "along_turns", "along_turns", defArgs t_p_along_turns, defBody t_p_along_turns, defScope t_p_along_turns, [], []⟩
abbrev t_p_back_turns : Stmt := top 16
def d_p_back_turns : He.DefD := ⟨("back_turns", none), "back_turns", "back_turns", defArgs t_p_back_turns, defBody t_p_back_turns, defScope t_p_back_turns, [], []⟩
abbrev t_p_along_pieces : Stmt := top 17
def d_p_along_pieces : He.DefD := ⟨("along_pieces", none), "along_pieces", "along_pieces", defArgs t_p_along_pieces, defBody t_p_along_pieces, defScope t_p_along_pieces, [], []⟩
abbrev t_p_back_pieces : Stmt := top 18
def d_p_back_pieces : He.DefD := ⟨("back_pieces", none), "back_pieces", "back_pieces", defArgs t_p_back_pieces, defBody t_p_back_pieces, defScope t_p_back_pieces, [], []⟩
abbrev t_p_stretch_on : Stmt := top 19
def d_p_stretch_on : He.DefD := ⟨("stretch_on", none), "stretch_on", "stretch_on", defArgs t_p_stretch_on, defBody t_p_stretch_on, defScope t_p_stretch_on, [], []⟩
abbrev t_p_amid : Stmt := top 20
def d_p_amid : He.DefD := ⟨("amid", none), "amid", "amid", defArgs t_p_amid, defBody t_p_amid, defScope t_p_amid, [], []⟩
abbrev t_p_along_order : Stmt := top 21
def d_p_along_order : He.DefD := ⟨("along_order", none), "along_order", "along_order", defArgs t_p_along_order, defBody t_p_along_order, defScope t_p_along_order, [], []⟩
abbrev t_p_place_on : Stmt := top 22
def d_p_place_on : He.DefD := ⟨("place_on", none), "place_on", "place_on", defArgs t_p_place_on, defBody t_p_place_on, defScope t_p_place_on, [], []⟩
abbrev t_p_read_on : Stmt := top 23
def d_p_read_on : He.DefD := ⟨("read_on", none), "read_on", "read_on", defArgs t_p_read_on, defBody t_p_read_on, defScope t_p_read_on, [], []⟩
abbrev t_law_cell_at : Stmt := top 25
def d_law_cell_at : He.DefD := ⟨("_law_cell_at", none), "_law_cell_at", "_law_cell_at", defArgs t_law_cell_at, defBody t_law_cell_at, defScope t_law_cell_at, [], []⟩
abbrev t_law_divisor : Stmt := top 26
def d_law_divisor : He.DefD := ⟨("_law_divisor", none), "_law_divisor", "_law_divisor", defArgs t_law_divisor, defBody t_law_divisor, defScope t_law_divisor, [], []⟩
abbrev t_law_lowest : Stmt := top 27
def d_law_lowest : He.DefD := ⟨("_law_lowest", none), "_law_lowest", "_law_lowest", defArgs t_law_lowest, defBody t_law_lowest, defScope t_law_lowest, [], []⟩
abbrev t_law_is_number : Stmt := top 28
def d_law_is_number : He.DefD := ⟨("_law_is_number", none), "_law_is_number", "_law_is_number", defArgs t_law_is_number, defBody t_law_is_number, defScope t_law_is_number, [], []⟩
abbrev t_law_mixed : Stmt := top 29
def d_law_mixed : He.DefD := ⟨("_law_mixed", none), "_law_mixed", "_law_mixed", defArgs t_law_mixed, defBody t_law_mixed, defScope t_law_mixed, [], []⟩
abbrev t_law_power : Stmt := top 30
def d_law_power : He.DefD := ⟨("_law_power", none), "_law_power", "_law_power", defArgs t_law_power, defBody t_law_power, defScope t_law_power, [], []⟩
abbrev t_law_ends : Stmt := top 31
def d_law_ends : He.DefD := ⟨("_law_ends", none), "_law_ends", "_law_ends", defArgs t_law_ends, defBody t_law_ends, defScope t_law_ends, [], []⟩
abbrev t_law_pieces : Stmt := top 32
def d_law_pieces : He.DefD := ⟨("_law_pieces", none), "_law_pieces", "_law_pieces", defArgs t_law_pieces, defBody t_law_pieces, defScope t_law_pieces, [], []⟩
abbrev t_law_scale : Stmt := top 33
def d_law_scale : He.DefD := ⟨("_law_scale", none), "_law_scale", "_law_scale", defArgs t_law_scale, defBody t_law_scale, defScope t_law_scale, [], []⟩
abbrev t_law_turned : Stmt := top 34
def d_law_turned : He.DefD := ⟨("_law_turned", none), "_law_turned", "_law_turned", defArgs t_law_turned, defBody t_law_turned, defScope t_law_turned, [], []⟩
abbrev t_law_cell : Stmt := top 35
def d_law_cell : He.DefD := ⟨("_law_cell", none), "_law_cell", "_law_cell", defArgs t_law_cell, defBody t_law_cell, defScope t_law_cell, [], []⟩
abbrev t_law_handed : Stmt := top 36
def d_law_handed : He.DefD := ⟨("_law_handed", none), "_law_handed", "_law_handed", defArgs t_law_handed, defBody t_law_handed, defScope t_law_handed, [], []⟩
abbrev t_law_above : Stmt := top 37
def d_law_above : He.DefD := ⟨("_law_above", none), "_law_above", "_law_above", defArgs t_law_above, defBody t_law_above, defScope t_law_above, [], []⟩
abbrev t_law_edges : Stmt := top 38
def d_law_edges : He.DefD := ⟨("_law_edges", none), "_law_edges", "_law_edges", defArgs t_law_edges, defBody t_law_edges, defScope t_law_edges, [], []⟩
abbrev t_law_right : Stmt := top 39
def d_law_right : He.DefD := ⟨("_law_right", none), "_law_right", "_law_right", defArgs t_law_right, defBody t_law_right, defScope t_law_right, [], []⟩
abbrev t_p_law : Stmt := top 40
def d_p_law : He.DefD := ⟨("law", none), "law", "law", defArgs t_p_law, defBody t_p_law, defScope t_p_law, [], []⟩
def fa : List He.Fa := [.free "abs", .glo "NoNumber", .exc "NoNumber", .free "range", .free "len", .free "isinstance", .free "tuple", .free "int", .free "bool", .free "min", .free "max", .free "str", .glo "divisor", .glo "lowest", .glo "plus", .glo "minus", .glo "times", .glo "over", .glo "under", .glo "along_straight", .glo "back_straight", .glo "power_of", .glo "along_turns", .glo "back_turns", .glo "along_pieces", .glo "back_pieces", .glo "stretch_on", .glo "amid", .glo "along_order", .glo "place_on", .glo "read_on", .glo "_law_cell_at", .glo "_law_divisor", .glo "_law_lowest", .glo "_law_is_number", .glo "_law_mixed", .glo "_law_power", .glo "_law_ends", .glo "_law_pieces", .glo "_law_scale", .glo "_law_turned", .glo "_law_cell", .glo "_law_handed", .glo "_law_above", .glo "_law_edges", .glo "_law_right", .glo "law"]
def fxl : List Fx := []
def fn : List He.DefD := [d_p_divisor, d_p_lowest, d_p_plus, d_p_minus, d_p_times, d_p_over, d_p_under, d_p_along_straight, d_p_back_straight, d_p_power_of, d_p_along_turns, d_p_back_turns, d_p_along_pieces, d_p_back_pieces, d_p_stretch_on, d_p_amid, d_p_along_order, d_p_place_on, d_p_read_on, d_law_cell_at, d_law_divisor, d_law_lowest, d_law_is_number, d_law_mixed, d_law_power, d_law_ends, d_law_pieces, d_law_scale, d_law_turned, d_law_cell, d_law_handed, d_law_above, d_law_edges, d_law_right, d_p_law]
section
variable {P : Program} {w : World} {K : PySem.W.Frag} {mg : Str → Option Value} {base : Heap}
theorem sc_p_divisor : FnScope ["one", "other"] ["one", "other"] (defScope t_p_divisor) := ⟨rfl, rfl, rfl, by decide +kernel, rfl, by decide +kernel, by decide +kernel⟩
theorem ok_p_divisor (fu : Nat) (T : Tx fa fn fxl K mg) : DefOk P w K mg base 1 "divisor" 2 (Pg.f_p_divisor fu) [[]] := by
  obtain ⟨fd, F⟩ := T.says.def_ 0 (d := d_p_divisor) rfl
  refine def_ok (d := d_p_divisor) (ps := ["one", "other"]) (T.glo 12) F (MI.fn_ok (N := ["one", "other"]) F sc_p_divisor fun cdv A outer s H E hr => ?_) (allC ⟨[], [], .nil, fun _ => .nil, F.bindsN fun _ _ _ _ _ _ us hl => match us, hl with | [_, _], _ => rfl⟩ all0)
  have tk : Takes (cxOf (L2.CX P w) P w K mg base ["one", "other"] "divisor" (defScope t_p_divisor) (He.ga K "divisor") cdv A outer s H E) (WD E) := takes_of rfl rfl rfl rfl
  have hp : PassesOwn (model P w) (cxOf (L2.CX P w) P w K mg base ["one", "other"] "divisor" (defScope t_p_divisor) (He.ga K "divisor") cdv A outer s H E).A (cxOf (L2.CX P w) P w K mg base ["one", "other"] "divisor" (defScope t_p_divisor) (He.ga K "divisor") cdv A outer s H E).env (cxOf (L2.CX P w) P w K mg base ["one", "other"] "divisor" (defScope t_p_divisor) (He.ga K "divisor") cdv A outer s H E).xe := passes_of rfl
  have nd : (["one", "other"] : List Str).Nodup := sc_p_divisor.nd
  show MSs (cxOf (L2.CX P w) P w K mg base ["one", "other"] "divisor" (defScope t_p_divisor) (He.ga K "divisor") cdv A outer s H E) (WD E) (defBody t_p_divisor) (Pg.s_p_divisor fu)
  exact (mss_cons (ms_while hp (tcmp (o_ne hr.units) bl_ne (mv 1) me_int) (mss_one (spar 0 1 nd (mac (mv 1) (mac (mbin o_mod (mv 0) (mv 1)) ma_nil))))) (mss_one (ms_ret (mcB c_abs (T.free 0) (mac (mv 0) ma_nil)))))
theorem sc_p_lowest : FnScope ["top", "bottom", "by"] ["top", "bottom"] (defScope t_p_lowest) := ⟨rfl, rfl, rfl, by decide +kernel, rfl, by decide +kernel, by decide +kernel⟩
theorem ok_p_lowest (fu : Nat) (T : Tx fa fn fxl K mg) : DefOk P w K mg base 2 "lowest" 2 (Pg.f_p_lowest fu) [[]] := by
  obtain ⟨fd, F⟩ := T.says.def_ 1 (d := d_p_lowest) rfl
  refine def_ok (d := d_p_lowest) (ps := ["top", "bottom"]) (T.glo 13) F (MI.fn_ok (N := ["top", "bottom", "by"]) F sc_p_lowest fun cdv A outer s H E hr => ?_) (allC ⟨[], [], .nil, fun _ => .nil, F.bindsN fun _ _ _ _ _ _ us hl => match us, hl with | [_, _], _ => rfl⟩ all0)
  have tk : Takes (cxOf (L2.CX P w) P w K mg base ["top", "bottom", "by"] "lowest" (defScope t_p_lowest) (He.ga K "lowest") cdv A outer s H E) (WD E) := takes_of rfl rfl rfl rfl
  have hp : PassesOwn (model P w) (cxOf (L2.CX P w) P w K mg base ["top", "bottom", "by"] "lowest" (defScope t_p_lowest) (He.ga K "lowest") cdv A outer s H E).A (cxOf (L2.CX P w) P w K mg base ["top", "bottom", "by"] "lowest" (defScope t_p_lowest) (He.ga K "lowest") cdv A outer s H E).env (cxOf (L2.CX P w) P w K mg base ["top", "bottom", "by"] "lowest" (defScope t_p_lowest) (He.ga K "lowest") cdv A outer s H E).xe := passes_of rfl
  have nd : (["top", "bottom", "by"] : List Str).Nodup := sc_p_lowest.nd
  show MSs (cxOf (L2.CX P w) P w K mg base ["top", "bottom", "by"] "lowest" (defScope t_p_lowest) (He.ga K "lowest") cdv A outer s H E) (WD E) (defBody t_p_lowest) (Pg.s_p_lowest fu)
  exact (mss_cons (sset 2 nd (me_def (dd := []) (ok_p_divisor fu T) hr tk (mac (mv 0) (mac (mv 1) ma_nil)))) (mss_cons (ms_if (tcmp o_lt bl_lt (mv 1) me_int) (mss_one (sset 2 nd (mbin o_sub me_int (mv 2)))) mss_nil) (mss_one (ms_ret (me_tup (mac (mbin o_fdv (mv 0) (mv 2)) (mac (mbin o_fdv (mv 1) (mv 2)) ma_nil)))))))
theorem sc_p_plus : FnScope ["one", "other"] ["one", "other"] (defScope t_p_plus) := ⟨rfl, rfl, rfl, by decide +kernel, rfl, by decide +kernel, by decide +kernel⟩
theorem ok_p_plus (fu : Nat) (T : Tx fa fn fxl K mg) : DefOk P w K mg base 3 "plus" 2 (Pg.f_p_plus fu) [[]] := by
  obtain ⟨fd, F⟩ := T.says.def_ 2 (d := d_p_plus) rfl
  refine def_ok (d := d_p_plus) (ps := ["one", "other"]) (T.glo 14) F (MI.fn_ok (N := ["one", "other"]) F sc_p_plus fun cdv A outer s H E hr => ?_) (allC ⟨[], [], .nil, fun _ => .nil, F.bindsN fun _ _ _ _ _ _ us hl => match us, hl with | [_, _], _ => rfl⟩ all0)
  have tk : Takes (cxOf (L2.CX P w) P w K mg base ["one", "other"] "plus" (defScope t_p_plus) (He.ga K "plus") cdv A outer s H E) (WD E) := takes_of rfl rfl rfl rfl
  have hp : PassesOwn (model P w) (cxOf (L2.CX P w) P w K mg base ["one", "other"] "plus" (defScope t_p_plus) (He.ga K "plus") cdv A outer s H E).A (cxOf (L2.CX P w) P w K mg base ["one", "other"] "plus" (defScope t_p_plus) (He.ga K "plus") cdv A outer s H E).env (cxOf (L2.CX P w) P w K mg base ["one", "other"] "plus" (defScope t_p_plus) (He.ga K "plus") cdv A outer s H E).xe := passes_of rfl
  have nd : (["one", "other"] : List Str).Nodup := sc_p_plus.nd
  show MSs (cxOf (L2.CX P w) P w K mg base ["one", "other"] "plus" (defScope t_p_plus) (He.ga K "plus") cdv A outer s H E) (WD E) (defBody t_p_plus) (Pg.s_p_plus fu)
  exact (mss_one (ms_ret (me_def (dd := []) (ok_p_lowest fu T) hr tk (mac (mbin o_addL (mbin o_mul (mix (mv 0) me_int) (mix (mv 1) me_int)) (mbin o_mul (mix (mv 1) me_int) (mix (mv 0) me_int))) (mac (mbin o_mul (mix (mv 0) me_int) (mix (mv 1) me_int)) ma_nil)))))
theorem sc_p_minus : FnScope ["one", "other"] ["one", "other"] (defScope t_p_minus) := ⟨rfl, rfl, rfl, by decide +kernel, rfl, by decide +kernel, by decide +kernel⟩
theorem ok_p_minus (fu : Nat) (T : Tx fa fn fxl K mg) : DefOk P w K mg base 3 "minus" 2 (Pg.f_p_minus fu) [[]] := by
  obtain ⟨fd, F⟩ := T.says.def_ 3 (d := d_p_minus) rfl
  refine def_ok (d := d_p_minus) (ps := ["one", "other"]) (T.glo 15) F (MI.fn_ok (N := ["one", "other"]) F sc_p_minus fun cdv A outer s H E hr => ?_) (allC ⟨[], [], .nil, fun _ => .nil, F.bindsN fun _ _ _ _ _ _ us hl => match us, hl with | [_, _], _ => rfl⟩ all0)
  have tk : Takes (cxOf (L2.CX P w) P w K mg base ["one", "other"] "minus" (defScope t_p_minus) (He.ga K "minus") cdv A outer s H E) (WD E) := takes_of rfl rfl rfl rfl
  have hp : PassesOwn (model P w) (cxOf (L2.CX P w) P w K mg base ["one", "other"] "minus" (defScope t_p_minus) (He.ga K "minus") cdv A outer s H E).A (cxOf (L2.CX P w) P w K mg base ["one", "other"] "minus" (defScope t_p_minus) (He.ga K "minus") cdv A outer s H E).env (cxOf (L2.CX P w) P w K mg base ["one", "other"] "minus" (defScope t_p_minus) (He.ga K "minus") cdv A outer s H E).xe := passes_of rfl
  have nd : (["one", "other"] : List Str).Nodup := sc_p_minus.nd
  show MSs (cxOf (L2.CX P w) P w K mg base ["one", "other"] "minus" (defScope t_p_minus) (He.ga K "minus") cdv A outer s H E) (WD E) (defBody t_p_minus) (Pg.s_p_minus fu)
  exact (mss_one (ms_ret (me_def (dd := []) (ok_p_lowest fu T) hr tk (mac (mbin o_sub (mbin o_mul (mix (mv 0) me_int) (mix (mv 1) me_int)) (mbin o_mul (mix (mv 1) me_int) (mix (mv 0) me_int))) (mac (mbin o_mul (mix (mv 0) me_int) (mix (mv 1) me_int)) ma_nil)))))
theorem sc_p_times : FnScope ["one", "other"] ["one", "other"] (defScope t_p_times) := ⟨rfl, rfl, rfl, by decide +kernel, rfl, by decide +kernel, by decide +kernel⟩
theorem ok_p_times (fu : Nat) (T : Tx fa fn fxl K mg) : DefOk P w K mg base 3 "times" 2 (Pg.f_p_times fu) [[]] := by
  obtain ⟨fd, F⟩ := T.says.def_ 4 (d := d_p_times) rfl
  refine def_ok (d := d_p_times) (ps := ["one", "other"]) (T.glo 16) F (MI.fn_ok (N := ["one", "other"]) F sc_p_times fun cdv A outer s H E hr => ?_) (allC ⟨[], [], .nil, fun _ => .nil, F.bindsN fun _ _ _ _ _ _ us hl => match us, hl with | [_, _], _ => rfl⟩ all0)
  have tk : Takes (cxOf (L2.CX P w) P w K mg base ["one", "other"] "times" (defScope t_p_times) (He.ga K "times") cdv A outer s H E) (WD E) := takes_of rfl rfl rfl rfl
  have hp : PassesOwn (model P w) (cxOf (L2.CX P w) P w K mg base ["one", "other"] "times" (defScope t_p_times) (He.ga K "times") cdv A outer s H E).A (cxOf (L2.CX P w) P w K mg base ["one", "other"] "times" (defScope t_p_times) (He.ga K "times") cdv A outer s H E).env (cxOf (L2.CX P w) P w K mg base ["one", "other"] "times" (defScope t_p_times) (He.ga K "times") cdv A outer s H E).xe := passes_of rfl
  have nd : (["one", "other"] : List Str).Nodup := sc_p_times.nd
  show MSs (cxOf (L2.CX P w) P w K mg base ["one", "other"] "times" (defScope t_p_times) (He.ga K "times") cdv A outer s H E) (WD E) (defBody t_p_times) (Pg.s_p_times fu)
  exact (mss_one (ms_ret (me_def (dd := []) (ok_p_lowest fu T) hr tk (mac (mbin o_mul (mix (mv 0) me_int) (mix (mv 1) me_int)) (mac (mbin o_mul (mix (mv 0) me_int) (mix (mv 1) me_int)) ma_nil)))))
theorem sc_p_over : FnScope ["one", "other"] ["one", "other"] (defScope t_p_over) := ⟨rfl, rfl, rfl, by decide +kernel, rfl, by decide +kernel, by decide +kernel⟩
theorem ok_p_over (fu : Nat) (T : Tx fa fn fxl K mg) : DefOk P w K mg base 3 "over" 2 (Pg.f_p_over fu) [[]] := by
  obtain ⟨fd, F⟩ := T.says.def_ 5 (d := d_p_over) rfl
  refine def_ok (d := d_p_over) (ps := ["one", "other"]) (T.glo 17) F (MI.fn_ok (N := ["one", "other"]) F sc_p_over fun cdv A outer s H E hr => ?_) (allC ⟨[], [], .nil, fun _ => .nil, F.bindsN fun _ _ _ _ _ _ us hl => match us, hl with | [_, _], _ => rfl⟩ all0)
  have tk : Takes (cxOf (L2.CX P w) P w K mg base ["one", "other"] "over" (defScope t_p_over) (He.ga K "over") cdv A outer s H E) (WD E) := takes_of rfl rfl rfl rfl
  have hp : PassesOwn (model P w) (cxOf (L2.CX P w) P w K mg base ["one", "other"] "over" (defScope t_p_over) (He.ga K "over") cdv A outer s H E).A (cxOf (L2.CX P w) P w K mg base ["one", "other"] "over" (defScope t_p_over) (He.ga K "over") cdv A outer s H E).env (cxOf (L2.CX P w) P w K mg base ["one", "other"] "over" (defScope t_p_over) (He.ga K "over") cdv A outer s H E).xe := passes_of rfl
  have nd : (["one", "other"] : List Str).Nodup := sc_p_over.nd
  show MSs (cxOf (L2.CX P w) P w K mg base ["one", "other"] "over" (defScope t_p_over) (He.ga K "over") cdv A outer s H E) (WD E) (defBody t_p_over) (Pg.s_p_over fu)
  exact (mss_cons (ms_if (tcmp (o_eq hr.units) bl_eq (mix (mv 1) me_int) me_int) (mss_one (sraise (T.glo 1) (T.exc 2) tk)) mss_nil) (mss_one (ms_ret (me_def (dd := []) (ok_p_lowest fu T) hr tk (mac (mbin o_mul (mix (mv 0) me_int) (mix (mv 1) me_int)) (mac (mbin o_mul (mix (mv 0) me_int) (mix (mv 1) me_int)) ma_nil))))))
theorem sc_p_under : FnScope ["one", "other"] ["one", "other"] (defScope t_p_under) := ⟨rfl, rfl, rfl, by decide +kernel, rfl, by decide +kernel, by decide +kernel⟩
theorem ok_p_under (fu : Nat) (T : Tx fa fn fxl K mg) : DefOk P w K mg base 1 "under" 2 (Pg.f_p_under fu) [[]] := by
  obtain ⟨fd, F⟩ := T.says.def_ 6 (d := d_p_under) rfl
  refine def_ok (d := d_p_under) (ps := ["one", "other"]) (T.glo 18) F (MI.fn_ok (N := ["one", "other"]) F sc_p_under fun cdv A outer s H E hr => ?_) (allC ⟨[], [], .nil, fun _ => .nil, F.bindsN fun _ _ _ _ _ _ us hl => match us, hl with | [_, _], _ => rfl⟩ all0)
  have tk : Takes (cxOf (L2.CX P w) P w K mg base ["one", "other"] "under" (defScope t_p_under) (He.ga K "under") cdv A outer s H E) (WD E) := takes_of rfl rfl rfl rfl
  have hp : PassesOwn (model P w) (cxOf (L2.CX P w) P w K mg base ["one", "other"] "under" (defScope t_p_under) (He.ga K "under") cdv A outer s H E).A (cxOf (L2.CX P w) P w K mg base ["one", "other"] "under" (defScope t_p_under) (He.ga K "under") cdv A outer s H E).env (cxOf (L2.CX P w) P w K mg base ["one", "other"] "under" (defScope t_p_under) (He.ga K "under") cdv A outer s H E).xe := passes_of rfl
  have nd : (["one", "other"] : List Str).Nodup := sc_p_under.nd
  show MSs (cxOf (L2.CX P w) P w K mg base ["one", "other"] "under" (defScope t_p_under) (He.ga K "under") cdv A outer s H E) (WD E) (defBody t_p_under) (Pg.s_p_under fu)
  exact (mss_one (ms_ret (mcmp o_lt (mbin o_mul (mix (mv 0) me_int) (mix (mv 1) me_int)) (mbin o_mul (mix (mv 1) me_int) (mix (mv 0) me_int)))))
theorem sc_p_along_straight : FnScope ["lo", "hi", "cell", "long"] ["lo", "hi", "cell", "long"] (defScope t_p_along_straight) := ⟨rfl, rfl, rfl, by decide +kernel, rfl, by decide +kernel, by decide +kernel⟩
theorem ok_p_along_straight (fu : Nat) (T : Tx fa fn fxl K mg) : DefOk P w K mg base 4 "along_straight" 4 (Pg.f_p_along_straight fu) [[]] := by
  obtain ⟨fd, F⟩ := T.says.def_ 7 (d := d_p_along_straight) rfl
  refine def_ok (d := d_p_along_straight) (ps := ["lo", "hi", "cell", "long"]) (T.glo 19) F (MI.fn_ok (N := ["lo", "hi", "cell", "long"]) F sc_p_along_straight fun cdv A outer s H E hr => ?_) (allC ⟨[], [], .nil, fun _ => .nil, F.bindsN fun _ _ _ _ _ _ us hl => match us, hl with | [_, _, _, _], _ => rfl⟩ all0)
  have tk : Takes (cxOf (L2.CX P w) P w K mg base ["lo", "hi", "cell", "long"] "along_straight" (defScope t_p_along_straight) (He.ga K "along_straight") cdv A outer s H E) (WD E) := takes_of rfl rfl rfl rfl
  have hp : PassesOwn (model P w) (cxOf (L2.CX P w) P w K mg base ["lo", "hi", "cell", "long"] "along_straight" (defScope t_p_along_straight) (He.ga K "along_straight") cdv A outer s H E).A (cxOf (L2.CX P w) P w K mg base ["lo", "hi", "cell", "long"] "along_straight" (defScope t_p_along_straight) (He.ga K "along_straight") cdv A outer s H E).env (cxOf (L2.CX P w) P w K mg base ["lo", "hi", "cell", "long"] "along_straight" (defScope t_p_along_straight) (He.ga K "along_straight") cdv A outer s H E).xe := passes_of rfl
  have nd : (["lo", "hi", "cell", "long"] : List Str).Nodup := sc_p_along_straight.nd
  show MSs (cxOf (L2.CX P w) P w K mg base ["lo", "hi", "cell", "long"] "along_straight" (defScope t_p_along_straight) (He.ga K "along_straight") cdv A outer s H E) (WD E) (defBody t_p_along_straight) (Pg.s_p_along_straight fu)
  exact (mss_cons (ms_if (PW.pt (mw_or (ttru (me_def (dd := []) (ok_p_under fu T) hr tk (mac (mv 2) (mac (mv 0) ma_nil)))) (mw_or1 (ttru (me_def (dd := []) (ok_p_under fu T) hr tk (mac (mv 1) (mac (mv 2) ma_nil))))))) (mss_one (ms_ret me_non)) mss_nil) (mss_one (ms_ret (me_def (dd := []) (ok_p_over fu T) hr tk (mac (me_def (dd := []) (ok_p_times fu T) hr tk (mac (me_def (dd := []) (ok_p_minus fu T) hr tk (mac (mv 2) (mac (mv 0) ma_nil))) (mac (me_tup (mac (mv 3) (mac me_int ma_nil))) ma_nil))) (mac (me_def (dd := []) (ok_p_minus fu T) hr tk (mac (mv 1) (mac (mv 0) ma_nil))) ma_nil))))))
theorem sc_p_back_straight : FnScope ["lo", "hi", "place", "long"] ["lo", "hi", "place", "long"] (defScope t_p_back_straight) := ⟨rfl, rfl, rfl, by decide +kernel, rfl, by decide +kernel, by decide +kernel⟩
theorem ok_p_back_straight (fu : Nat) (T : Tx fa fn fxl K mg) : DefOk P w K mg base 4 "back_straight" 4 (Pg.f_p_back_straight fu) [[]] := by
  obtain ⟨fd, F⟩ := T.says.def_ 8 (d := d_p_back_straight) rfl
  refine def_ok (d := d_p_back_straight) (ps := ["lo", "hi", "place", "long"]) (T.glo 20) F (MI.fn_ok (N := ["lo", "hi", "place", "long"]) F sc_p_back_straight fun cdv A outer s H E hr => ?_) (allC ⟨[], [], .nil, fun _ => .nil, F.bindsN fun _ _ _ _ _ _ us hl => match us, hl with | [_, _, _, _], _ => rfl⟩ all0)
  have tk : Takes (cxOf (L2.CX P w) P w K mg base ["lo", "hi", "place", "long"] "back_straight" (defScope t_p_back_straight) (He.ga K "back_straight") cdv A outer s H E) (WD E) := takes_of rfl rfl rfl rfl
  have hp : PassesOwn (model P w) (cxOf (L2.CX P w) P w K mg base ["lo", "hi", "place", "long"] "back_straight" (defScope t_p_back_straight) (He.ga K "back_straight") cdv A outer s H E).A (cxOf (L2.CX P w) P w K mg base ["lo", "hi", "place", "long"] "back_straight" (defScope t_p_back_straight) (He.ga K "back_straight") cdv A outer s H E).env (cxOf (L2.CX P w) P w K mg base ["lo", "hi", "place", "long"] "back_straight" (defScope t_p_back_straight) (He.ga K "back_straight") cdv A outer s H E).xe := passes_of rfl
  have nd : (["lo", "hi", "place", "long"] : List Str).Nodup := sc_p_back_straight.nd
  show MSs (cxOf (L2.CX P w) P w K mg base ["lo", "hi", "place", "long"] "back_straight" (defScope t_p_back_straight) (He.ga K "back_straight") cdv A outer s H E) (WD E) (defBody t_p_back_straight) (Pg.s_p_back_straight fu)
  exact (mss_one (ms_ret (me_def (dd := []) (ok_p_plus fu T) hr tk (mac (mv 0) (mac (me_def (dd := []) (ok_p_over fu T) hr tk (mac (me_def (dd := []) (ok_p_times fu T) hr tk (mac (mv 2) (mac (me_def (dd := []) (ok_p_minus fu T) hr tk (mac (mv 1) (mac (mv 0) ma_nil))) ma_nil))) (mac (me_tup (mac (mv 3) (mac me_int ma_nil))) ma_nil))) ma_nil)))))
theorem sc_p_power_of : FnScope ["base", "many", "found", "k"] ["base", "many"] (defScope t_p_power_of) := ⟨rfl, rfl, rfl, by decide +kernel, rfl, by decide +kernel, by decide +kernel⟩
theorem ok_p_power_of (fu : Nat) (T : Tx fa fn fxl K mg) : DefOk P w K mg base 1 "power_of" 2 (Pg.f_p_power_of fu) [[]] := by
  obtain ⟨fd, F⟩ := T.says.def_ 9 (d := d_p_power_of) rfl
  refine def_ok (d := d_p_power_of) (ps := ["base", "many"]) (T.glo 21) F (MI.fn_ok (N := ["base", "many", "found", "k"]) F sc_p_power_of fun cdv A outer s H E hr => ?_) (allC ⟨[], [], .nil, fun _ => .nil, F.bindsN fun _ _ _ _ _ _ us hl => match us, hl with | [_, _], _ => rfl⟩ all0)
  have tk : Takes (cxOf (L2.CX P w) P w K mg base ["base", "many", "found", "k"] "power_of" (defScope t_p_power_of) (He.ga K "power_of") cdv A outer s H E) (WD E) := takes_of rfl rfl rfl rfl
  have hp : PassesOwn (model P w) (cxOf (L2.CX P w) P w K mg base ["base", "many", "found", "k"] "power_of" (defScope t_p_power_of) (He.ga K "power_of") cdv A outer s H E).A (cxOf (L2.CX P w) P w K mg base ["base", "many", "found", "k"] "power_of" (defScope t_p_power_of) (He.ga K "power_of") cdv A outer s H E).env (cxOf (L2.CX P w) P w K mg base ["base", "many", "found", "k"] "power_of" (defScope t_p_power_of) (He.ga K "power_of") cdv A outer s H E).xe := passes_of rfl
  have nd : (["base", "many", "found", "k"] : List Str).Nodup := sc_p_power_of.nd
  show MSs (cxOf (L2.CX P w) P w K mg base ["base", "many", "found", "k"] "power_of" (defScope t_p_power_of) (He.ga K "power_of") cdv A outer s H E) (WD E) (defBody t_p_power_of) (Pg.s_p_power_of fu)
  exact (mss_cons (sset 2 nd me_int) (mss_cons (ms_for hp (mi_rng1 (T.free 3) (mac (mv 1) ma_nil)) (gname 3 nd) gN_ok (mss_one (sset 2 nd (mbin o_mul (mv 2) (mv 0))))) (mss_one (ms_ret (mv 2)))))
theorem sc_p_along_turns : FnScope ["scale", "cell", "name", "base", "low", "many", "length", "top", "bottom", "turn", "rest"] ["scale", "cell"] (defScope t_p_along_turns) := ⟨rfl, rfl, rfl, by decide +kernel, rfl, by decide +kernel, by decide +kernel⟩
theorem ok_p_along_turns (fu : Nat) (T : Tx fa fn fxl K mg) : DefOk P w K mg base 4 "along_turns" 2 (Pg.f_p_along_turns fu) [[]] := by
  obtain ⟨fd, F⟩ := T.says.def_ 10 (d := d_p_along_turns) rfl
  refine def_ok (d := d_p_along_turns) (ps := ["scale", "cell"]) (T.glo 22) F (MI.fn_ok (N := ["scale", "cell", "name", "base", "low", "many", "length", "top", "bottom", "turn", "rest"]) F sc_p_along_turns fun cdv A outer s H E hr => ?_) (allC ⟨[], [], .nil, fun _ => .nil, F.bindsN fun _ _ _ _ _ _ us hl => match us, hl with | [_, _], _ => rfl⟩ all0)
  have tk : Takes (cxOf (L2.CX P w) P w K mg base ["scale", "cell", "name", "base", "low", "many", "length", "top", "bottom", "turn", "rest"] "along_turns" (defScope t_p_along_turns) (He.ga K "along_turns") cdv A outer s H E) (WD E) := takes_of rfl rfl rfl rfl
  have hp : PassesOwn (model P w) (cxOf (L2.CX P w) P w K mg base ["scale", "cell", "name", "base", "low", "many", "length", "top", "bottom", "turn", "rest"] "along_turns" (defScope t_p_along_turns) (He.ga K "along_turns") cdv A outer s H E).A (cxOf (L2.CX P w) P w K mg base ["scale", "cell", "name", "base", "low", "many", "length", "top", "bottom", "turn", "rest"] "along_turns" (defScope t_p_along_turns) (He.ga K "along_turns") cdv A outer s H E).env (cxOf (L2.CX P w) P w K mg base ["scale", "cell", "name", "base", "low", "many", "length", "top", "bottom", "turn", "rest"] "along_turns" (defScope t_p_along_turns) (He.ga K "along_turns") cdv A outer s H E).xe := passes_of rfl
  have nd : (["scale", "cell", "name", "base", "low", "many", "length", "top", "bottom", "turn", "rest"] : List Str).Nodup := sc_p_along_turns.nd
  show MSs (cxOf (L2.CX P w) P w K mg base ["scale", "cell", "name", "base", "low", "many", "length", "top", "bottom", "turn", "rest"] "along_turns" (defScope t_p_along_turns) (He.ga K "along_turns") cdv A outer s H E) (WD E) (defBody t_p_along_turns) (Pg.s_p_along_turns fu)
  exact (mss_cons (sasg (mv 0) (pg_tup rfl (pgs_cons (gname 2 nd) (pgs_cons (gname 3 nd) (pgs_cons (gname 4 nd) (pgs_cons (gname 5 nd) (pgs_cons (gname 6 nd) pgs_nil)))))) (gT_ok (gsCons_ok gN_ok (gsCons_ok gN_ok (gsCons_ok gN_ok (gsCons_ok gN_ok (gsCons_ok gN_ok gsNil_ok))))))) (mss_cons (ms_if (tcmp o_le bl_le (mix (mv 1) me_int) me_int) (mss_one (ms_ret me_str)) mss_nil) (mss_cons (sset 7 nd (mbin o_mul (mix (mv 1) me_int) (me_def (dd := []) (ok_p_power_of fu T) hr tk (mac (mv 3) (mac (mbin o_sub me_int (mv 4)) ma_nil))))) (mss_cons (sset 8 nd (mbin o_mul (mix (mv 1) me_int) (me_def (dd := []) (ok_p_power_of fu T) hr tk (mac (mv 3) (mac (mv 4) ma_nil))))) (mss_cons (ms_if (tcmp o_lt bl_lt (mv 7) (mv 8)) (mss_one (ms_ret me_str)) mss_nil) (mss_cons (sset 9 nd me_int) (mss_cons (ms_while hp (PW.pt (mw_and (tcmp o_lt bl_lt (mv 9) (mv 5)) (mw_and1 (tcmp o_le bl_le (mbin o_mul (mv 8) (mv 3)) (mv 7))))) (mss_cons (sset 8 nd (mbin o_mul (mv 8) (mv 3))) (mss_one (sset 9 nd (mbin o_addL (mv 9) me_int))))) (mss_cons (ms_if (tcmp (o_eq hr.units) bl_eq (mv 9) (mv 5)) (mss_cons (ms_if (tcmp o_gt bl_gt (mv 7) (mv 8)) (mss_one (ms_ret me_str)) mss_nil) (mss_one (ms_ret (me_tup (mac (mv 6) (mac me_int ma_nil)))))) mss_nil) (mss_cons (sset 10 nd (me_def (dd := []) (ok_p_lowest fu T) hr tk (mac (mbin o_sub (mv 7) (mv 8)) (mac (mbin o_mul (mv 8) (mbin o_sub (mv 3) me_int)) ma_nil)))) (mss_one (ms_ret (me_def (dd := []) (ok_p_times fu T) hr tk (mac (me_def (dd := []) (ok_p_plus fu T) hr tk (mac (me_tup (mac (mv 9) (mac me_int ma_nil))) (mac (mv 10) ma_nil))) (mac (me_def (dd := []) (ok_p_lowest fu T) hr tk (mac (mv 6) (mac (mv 5) ma_nil))) ma_nil))))))))))))))
theorem sc_p_back_turns : FnScope ["scale", "place", "name", "base", "low", "many", "length", "turns", "turn", "rest", "power"] ["scale", "place"] (defScope t_p_back_turns) := ⟨rfl, rfl, rfl, by decide +kernel, rfl, by decide +kernel, by decide +kernel⟩
theorem ok_p_back_turns (fu : Nat) (T : Tx fa fn fxl K mg) : DefOk P w K mg base 4 "back_turns" 2 (Pg.f_p_back_turns fu) [[]] := by
  obtain ⟨fd, F⟩ := T.says.def_ 11 (d := d_p_back_turns) rfl
  refine def_ok (d := d_p_back_turns) (ps := ["scale", "place"]) (T.glo 23) F (MI.fn_ok (N := ["scale", "place", "name", "base", "low", "many", "length", "turns", "turn", "rest", "power"]) F sc_p_back_turns fun cdv A outer s H E hr => ?_) (allC ⟨[], [], .nil, fun _ => .nil, F.bindsN fun _ _ _ _ _ _ us hl => match us, hl with | [_, _], _ => rfl⟩ all0)
  have tk : Takes (cxOf (L2.CX P w) P w K mg base ["scale", "place", "name", "base", "low", "many", "length", "turns", "turn", "rest", "power"] "back_turns" (defScope t_p_back_turns) (He.ga K "back_turns") cdv A outer s H E) (WD E) := takes_of rfl rfl rfl rfl
  have hp : PassesOwn (model P w) (cxOf (L2.CX P w) P w K mg base ["scale", "place", "name", "base", "low", "many", "length", "turns", "turn", "rest", "power"] "back_turns" (defScope t_p_back_turns) (He.ga K "back_turns") cdv A outer s H E).A (cxOf (L2.CX P w) P w K mg base ["scale", "place", "name", "base", "low", "many", "length", "turns", "turn", "rest", "power"] "back_turns" (defScope t_p_back_turns) (He.ga K "back_turns") cdv A outer s H E).env (cxOf (L2.CX P w) P w K mg base ["scale", "place", "name", "base", "low", "many", "length", "turns", "turn", "rest", "power"] "back_turns" (defScope t_p_back_turns) (He.ga K "back_turns") cdv A outer s H E).xe := passes_of rfl
  have nd : (["scale", "place", "name", "base", "low", "many", "length", "turns", "turn", "rest", "power"] : List Str).Nodup := sc_p_back_turns.nd
  show MSs (cxOf (L2.CX P w) P w K mg base ["scale", "place", "name", "base", "low", "many", "length", "turns", "turn", "rest", "power"] "back_turns" (defScope t_p_back_turns) (He.ga K "back_turns") cdv A outer s H E) (WD E) (defBody t_p_back_turns) (Pg.s_p_back_turns fu)
  exact (mss_cons (sasg (mv 0) (pg_tup rfl (pgs_cons (gname 2 nd) (pgs_cons (gname 3 nd) (pgs_cons (gname 4 nd) (pgs_cons (gname 5 nd) (pgs_cons (gname 6 nd) pgs_nil)))))) (gT_ok (gsCons_ok gN_ok (gsCons_ok gN_ok (gsCons_ok gN_ok (gsCons_ok gN_ok (gsCons_ok gN_ok gsNil_ok))))))) (mss_cons (sset 7 nd (me_def (dd := []) (ok_p_times fu T) hr tk (mac (mv 1) (mac (me_def (dd := []) (ok_p_lowest fu T) hr tk (mac (mv 5) (mac (mv 6) ma_nil))) ma_nil)))) (mss_cons (sset 8 nd (mbin o_fdv (mix (mv 7) me_int) (mix (mv 7) me_int))) (mss_cons (sset 9 nd (me_def (dd := []) (ok_p_minus fu T) hr tk (mac (mv 7) (mac (me_tup (mac (mv 8) (mac me_int ma_nil))) ma_nil)))) (mss_cons (sset 10 nd (me_def (dd := []) (ok_p_lowest fu T) hr tk (mac (me_def (dd := []) (ok_p_power_of fu T) hr tk (mac (mv 3) (mac (mbin o_addL (mv 4) (mv 8)) ma_nil))) (mac (me_def (dd := []) (ok_p_power_of fu T) hr tk (mac (mv 3) (mac (mbin o_sub (mbin o_sub me_int (mv 4)) (mv 8)) ma_nil))) ma_nil)))) (mss_one (ms_ret (me_def (dd := []) (ok_p_times fu T) hr tk (mac (mv 10) (mac (me_def (dd := []) (ok_p_plus fu T) hr tk (mac (me_tup (mac me_int (mac me_int ma_nil))) (mac (me_def (dd := []) (ok_p_times fu T) hr tk (mac (mv 9) (mac (me_tup (mac (mbin o_sub (mv 3) me_int) (mac me_int ma_nil))) ma_nil))) ma_nil))) ma_nil))))))))))
theorem sc_p_along_pieces : FnScope ["pieces", "cell", "lo", "hi", "begin", "end", "found"] ["pieces", "cell"] (defScope t_p_along_pieces) := ⟨rfl, rfl, rfl, by decide +kernel, rfl, by decide +kernel, by decide +kernel⟩
theorem ok_p_along_pieces (fu : Nat) (T : Tx fa fn fxl K mg) : DefOk P w K mg base 5 "along_pieces" 2 (Pg.f_p_along_pieces fu) [[]] := by
  obtain ⟨fd, F⟩ := T.says.def_ 12 (d := d_p_along_pieces) rfl
  refine def_ok (d := d_p_along_pieces) (ps := ["pieces", "cell"]) (T.glo 24) F (MI.fn_ok (N := ["pieces", "cell", "lo", "hi", "begin", "end", "found"]) F sc_p_along_pieces fun cdv A outer s H E hr => ?_) (allC ⟨[], [], .nil, fun _ => .nil, F.bindsN fun _ _ _ _ _ _ us hl => match us, hl with | [_, _], _ => rfl⟩ all0)
  have tk : Takes (cxOf (L2.CX P w) P w K mg base ["pieces", "cell", "lo", "hi", "begin", "end", "found"] "along_pieces" (defScope t_p_along_pieces) (He.ga K "along_pieces") cdv A outer s H E) (WD E) := takes_of rfl rfl rfl rfl
  have hp : PassesOwn (model P w) (cxOf (L2.CX P w) P w K mg base ["pieces", "cell", "lo", "hi", "begin", "end", "found"] "along_pieces" (defScope t_p_along_pieces) (He.ga K "along_pieces") cdv A outer s H E).A (cxOf (L2.CX P w) P w K mg base ["pieces", "cell", "lo", "hi", "begin", "end", "found"] "along_pieces" (defScope t_p_along_pieces) (He.ga K "along_pieces") cdv A outer s H E).env (cxOf (L2.CX P w) P w K mg base ["pieces", "cell", "lo", "hi", "begin", "end", "found"] "along_pieces" (defScope t_p_along_pieces) (He.ga K "along_pieces") cdv A outer s H E).xe := passes_of rfl
  have nd : (["pieces", "cell", "lo", "hi", "begin", "end", "found"] : List Str).Nodup := sc_p_along_pieces.nd
  show MSs (cxOf (L2.CX P w) P w K mg base ["pieces", "cell", "lo", "hi", "begin", "end", "found"] "along_pieces" (defScope t_p_along_pieces) (He.ga K "along_pieces") cdv A outer s H E) (WD E) (defBody t_p_along_pieces) (Pg.s_p_along_pieces fu)
  exact (mss_cons (ms_if (PW.pt (mw_or (ttru (me_def (dd := []) (ok_p_under fu T) hr tk (mac (mv 1) (mac (mix (mix (mv 0) me_int) me_int) ma_nil)))) (mw_or1 (ttru (me_def (dd := []) (ok_p_under fu T) hr tk (mac (mix (mix (mv 0) (me_un o_neg me_int)) me_int) (mac (mv 1) ma_nil))))))) (mss_one (ms_ret me_str)) mss_nil) (mss_cons (ms_for hp (mi_items (mv 0)) (pg_tup rfl (pgs_cons (gname 2 nd) (pgs_cons (gname 3 nd) (pgs_cons (gname 4 nd) (pgs_cons (gname 5 nd) pgs_nil))))) (gT_ok (gsCons_ok gN_ok (gsCons_ok gN_ok (gsCons_ok gN_ok (gsCons_ok gN_ok gsNil_ok))))) (mss_cons (sset 6 nd (me_def (dd := []) (ok_p_along_straight fu T) hr tk (mac (mv 2) (mac (mv 3) (mac (mv 1) (mac (mbin o_sub (mv 5) (mv 4)) ma_nil)))))) (mss_one (ms_if (tcmp o_isN bl_isN (mv 6) me_non) (mss_one (ms_ret (me_def (dd := []) (ok_p_plus fu T) hr tk (mac (me_tup (mac (mv 4) (mac me_int ma_nil))) (mac (mv 6) ma_nil))))) mss_nil)))) (mss_one (ms_ret me_str))))
theorem sc_p_back_pieces : FnScope ["pieces", "place", "lo", "hi", "begin", "end"] ["pieces", "place"] (defScope t_p_back_pieces) := ⟨rfl, rfl, rfl, by decide +kernel, rfl, by decide +kernel, by decide +kernel⟩
theorem ok_p_back_pieces (fu : Nat) (T : Tx fa fn fxl K mg) : DefOk P w K mg base 5 "back_pieces" 2 (Pg.f_p_back_pieces fu) [[]] := by
  obtain ⟨fd, F⟩ := T.says.def_ 13 (d := d_p_back_pieces) rfl
  refine def_ok (d := d_p_back_pieces) (ps := ["pieces", "place"]) (T.glo 25) F (MI.fn_ok (N := ["pieces", "place", "lo", "hi", "begin", "end"]) F sc_p_back_pieces fun cdv A outer s H E hr => ?_) (allC ⟨[], [], .nil, fun _ => .nil, F.bindsN fun _ _ _ _ _ _ us hl => match us, hl with | [_, _], _ => rfl⟩ all0)
  have tk : Takes (cxOf (L2.CX P w) P w K mg base ["pieces", "place", "lo", "hi", "begin", "end"] "back_pieces" (defScope t_p_back_pieces) (He.ga K "back_pieces") cdv A outer s H E) (WD E) := takes_of rfl rfl rfl rfl
  have hp : PassesOwn (model P w) (cxOf (L2.CX P w) P w K mg base ["pieces", "place", "lo", "hi", "begin", "end"] "back_pieces" (defScope t_p_back_pieces) (He.ga K "back_pieces") cdv A outer s H E).A (cxOf (L2.CX P w) P w K mg base ["pieces", "place", "lo", "hi", "begin", "end"] "back_pieces" (defScope t_p_back_pieces) (He.ga K "back_pieces") cdv A outer s H E).env (cxOf (L2.CX P w) P w K mg base ["pieces", "place", "lo", "hi", "begin", "end"] "back_pieces" (defScope t_p_back_pieces) (He.ga K "back_pieces") cdv A outer s H E).xe := passes_of rfl
  have nd : (["pieces", "place", "lo", "hi", "begin", "end"] : List Str).Nodup := sc_p_back_pieces.nd
  show MSs (cxOf (L2.CX P w) P w K mg base ["pieces", "place", "lo", "hi", "begin", "end"] "back_pieces" (defScope t_p_back_pieces) (He.ga K "back_pieces") cdv A outer s H E) (WD E) (defBody t_p_back_pieces) (Pg.s_p_back_pieces fu)
  exact (mss_cons (ms_for hp (mi_items (mv 0)) (pg_tup rfl (pgs_cons (gname 2 nd) (pgs_cons (gname 3 nd) (pgs_cons (gname 4 nd) (pgs_cons (gname 5 nd) pgs_nil))))) (gT_ok (gsCons_ok gN_ok (gsCons_ok gN_ok (gsCons_ok gN_ok (gsCons_ok gN_ok gsNil_ok))))) (mss_one (ms_if (PW.pt (mw_and (mt_not (ttru (me_def (dd := []) (ok_p_under fu T) hr tk (mac (mv 1) (mac (me_tup (mac (mv 4) (mac me_int ma_nil))) ma_nil))))) (mw_and1 (mt_not (ttru (me_def (dd := []) (ok_p_under fu T) hr tk (mac (me_tup (mac (mv 5) (mac me_int ma_nil))) (mac (mv 1) ma_nil)))))))) (mss_one (ms_ret (me_def (dd := []) (ok_p_back_straight fu T) hr tk (mac (mv 2) (mac (mv 3) (mac (me_def (dd := []) (ok_p_minus fu T) hr tk (mac (mv 1) (mac (me_tup (mac (mv 4) (mac me_int ma_nil))) ma_nil))) (mac (mbin o_sub (mv 5) (mv 4)) ma_nil))))))) mss_nil))) (mss_one (ms_ret me_non)))
theorem sc_p_stretch_on : FnScope ["scale", "word", "words", "at"] ["scale", "word"] (defScope t_p_stretch_on) := ⟨rfl, rfl, rfl, by decide +kernel, rfl, by decide +kernel, by decide +kernel⟩
theorem ok_p_stretch_on (fu : Nat) (T : Tx fa fn fxl K mg) : DefOk P w K mg base 3 "stretch_on" 2 (Pg.f_p_stretch_on fu) [[]] := by
  obtain ⟨fd, F⟩ := T.says.def_ 14 (d := d_p_stretch_on) rfl
  refine def_ok (d := d_p_stretch_on) (ps := ["scale", "word"]) (T.glo 26) F (MI.fn_ok (N := ["scale", "word", "words", "at"]) F sc_p_stretch_on fun cdv A outer s H E hr => ?_) (allC ⟨[], [], .nil, fun _ => .nil, F.bindsN fun _ _ _ _ _ _ us hl => match us, hl with | [_, _], _ => rfl⟩ all0)
  have tk : Takes (cxOf (L2.CX P w) P w K mg base ["scale", "word", "words", "at"] "stretch_on" (defScope t_p_stretch_on) (He.ga K "stretch_on") cdv A outer s H E) (WD E) := takes_of rfl rfl rfl rfl
  have hp : PassesOwn (model P w) (cxOf (L2.CX P w) P w K mg base ["scale", "word", "words", "at"] "stretch_on" (defScope t_p_stretch_on) (He.ga K "stretch_on") cdv A outer s H E).A (cxOf (L2.CX P w) P w K mg base ["scale", "word", "words", "at"] "stretch_on" (defScope t_p_stretch_on) (He.ga K "stretch_on") cdv A outer s H E).env (cxOf (L2.CX P w) P w K mg base ["scale", "word", "words", "at"] "stretch_on" (defScope t_p_stretch_on) (He.ga K "stretch_on") cdv A outer s H E).xe := passes_of rfl
  have nd : (["scale", "word", "words", "at"] : List Str).Nodup := sc_p_stretch_on.nd
  show MSs (cxOf (L2.CX P w) P w K mg base ["scale", "word", "words", "at"] "stretch_on" (defScope t_p_stretch_on) (He.ga K "stretch_on") cdv A outer s H E) (WD E) (defBody t_p_stretch_on) (Pg.s_p_stretch_on fu)
  exact (mss_cons (sset 2 nd (mix (mv 0) me_int)) (mss_cons (sset 3 nd (me_mt PySem.F.plainAttrs_list PySem.F.slot_list_index PySem.F.type_list_index (m_index (hu65 hr)) (mv 2) (mac (mv 1) ma_nil))) (mss_one (ms_ret (me_tup (mac (me_def (dd := []) (ok_p_lowest fu T) hr tk (mac (mbin o_mul (mv 3) (mix (mv 0) me_int)) (mac (mcB c_len (T.free 4) (mac (mv 2) ma_nil)) ma_nil))) (mac (me_def (dd := []) (ok_p_lowest fu T) hr tk (mac (mbin o_mul (mbin o_addL (mv 3) me_int) (mix (mv 0) me_int)) (mac (mcB c_len (T.free 4) (mac (mv 2) ma_nil)) ma_nil))) ma_nil)))))))
theorem sc_p_amid : FnScope ["stretch"] ["stretch"] (defScope t_p_amid) := ⟨rfl, rfl, rfl, by decide +kernel, rfl, by decide +kernel, by decide +kernel⟩
theorem ok_p_amid (fu : Nat) (T : Tx fa fn fxl K mg) : DefOk P w K mg base 4 "amid" 1 (Pg.f_p_amid fu) [[]] := by
  obtain ⟨fd, F⟩ := T.says.def_ 15 (d := d_p_amid) rfl
  refine def_ok (d := d_p_amid) (ps := ["stretch"]) (T.glo 27) F (MI.fn_ok (N := ["stretch"]) F sc_p_amid fun cdv A outer s H E hr => ?_) (allC ⟨[], [], .nil, fun _ => .nil, F.bindsN fun _ _ _ _ _ _ us hl => match us, hl with | [_], _ => rfl⟩ all0)
  have tk : Takes (cxOf (L2.CX P w) P w K mg base ["stretch"] "amid" (defScope t_p_amid) (He.ga K "amid") cdv A outer s H E) (WD E) := takes_of rfl rfl rfl rfl
  have hp : PassesOwn (model P w) (cxOf (L2.CX P w) P w K mg base ["stretch"] "amid" (defScope t_p_amid) (He.ga K "amid") cdv A outer s H E).A (cxOf (L2.CX P w) P w K mg base ["stretch"] "amid" (defScope t_p_amid) (He.ga K "amid") cdv A outer s H E).env (cxOf (L2.CX P w) P w K mg base ["stretch"] "amid" (defScope t_p_amid) (He.ga K "amid") cdv A outer s H E).xe := passes_of rfl
  have nd : (["stretch"] : List Str).Nodup := sc_p_amid.nd
  show MSs (cxOf (L2.CX P w) P w K mg base ["stretch"] "amid" (defScope t_p_amid) (He.ga K "amid") cdv A outer s H E) (WD E) (defBody t_p_amid) (Pg.s_p_amid fu)
  exact (mss_one (ms_ret (me_def (dd := []) (ok_p_times fu T) hr tk (mac (me_def (dd := []) (ok_p_plus fu T) hr tk (mac (mix (mv 0) me_int) (mac (mix (mv 0) me_int) ma_nil))) (mac (me_tup (mac me_int (mac me_int ma_nil))) ma_nil)))))
theorem sc_p_along_order : FnScope ["scale", "cell"] ["scale", "cell"] (defScope t_p_along_order) := ⟨rfl, rfl, rfl, by decide +kernel, rfl, by decide +kernel, by decide +kernel⟩
theorem ok_p_along_order (fu : Nat) (T : Tx fa fn fxl K mg) : DefOk P w K mg base 5 "along_order" 2 (Pg.f_p_along_order fu) [[]] := by
  obtain ⟨fd, F⟩ := T.says.def_ 16 (d := d_p_along_order) rfl
  refine def_ok (d := d_p_along_order) (ps := ["scale", "cell"]) (T.glo 28) F (MI.fn_ok (N := ["scale", "cell"]) F sc_p_along_order fun cdv A outer s H E hr => ?_) (allC ⟨[], [], .nil, fun _ => .nil, F.bindsN fun _ _ _ _ _ _ us hl => match us, hl with | [_, _], _ => rfl⟩ all0)
  have tk : Takes (cxOf (L2.CX P w) P w K mg base ["scale", "cell"] "along_order" (defScope t_p_along_order) (He.ga K "along_order") cdv A outer s H E) (WD E) := takes_of rfl rfl rfl rfl
  have hp : PassesOwn (model P w) (cxOf (L2.CX P w) P w K mg base ["scale", "cell"] "along_order" (defScope t_p_along_order) (He.ga K "along_order") cdv A outer s H E).A (cxOf (L2.CX P w) P w K mg base ["scale", "cell"] "along_order" (defScope t_p_along_order) (He.ga K "along_order") cdv A outer s H E).env (cxOf (L2.CX P w) P w K mg base ["scale", "cell"] "along_order" (defScope t_p_along_order) (He.ga K "along_order") cdv A outer s H E).xe := passes_of rfl
  have nd : (["scale", "cell"] : List Str).Nodup := sc_p_along_order.nd
  show MSs (cxOf (L2.CX P w) P w K mg base ["scale", "cell"] "along_order" (defScope t_p_along_order) (He.ga K "along_order") cdv A outer s H E) (WD E) (defBody t_p_along_order) (Pg.s_p_along_order fu)
  exact (mss_cons (ms_if (tcmp (o_notIn (hu65 hr)) (bl_in true) (mv 1) (mix (mv 0) me_int)) (mss_one (ms_ret me_str)) mss_nil) (mss_one (ms_ret (me_def (dd := []) (ok_p_amid fu T) hr tk (mac (me_def (dd := []) (ok_p_stretch_on fu T) hr tk (mac (mv 0) (mac (mv 1) ma_nil))) ma_nil)))))
theorem sc_p_place_on : FnScope ["scale", "cell", "found"] ["scale", "cell"] (defScope t_p_place_on) := ⟨rfl, rfl, rfl, by decide +kernel, rfl, by decide +kernel, by decide +kernel⟩
theorem ok_p_place_on (fu : Nat) (T : Tx fa fn fxl K mg) : DefOk P w K mg base 6 "place_on" 2 (Pg.f_p_place_on fu) [[]] := by
  obtain ⟨fd, F⟩ := T.says.def_ 17 (d := d_p_place_on) rfl
  refine def_ok (d := d_p_place_on) (ps := ["scale", "cell"]) (T.glo 29) F (MI.fn_ok (N := ["scale", "cell", "found"]) F sc_p_place_on fun cdv A outer s H E hr => ?_) (allC ⟨[], [], .nil, fun _ => .nil, F.bindsN fun _ _ _ _ _ _ us hl => match us, hl with | [_, _], _ => rfl⟩ all0)
  have tk : Takes (cxOf (L2.CX P w) P w K mg base ["scale", "cell", "found"] "place_on" (defScope t_p_place_on) (He.ga K "place_on") cdv A outer s H E) (WD E) := takes_of rfl rfl rfl rfl
  have hp : PassesOwn (model P w) (cxOf (L2.CX P w) P w K mg base ["scale", "cell", "found"] "place_on" (defScope t_p_place_on) (He.ga K "place_on") cdv A outer s H E).A (cxOf (L2.CX P w) P w K mg base ["scale", "cell", "found"] "place_on" (defScope t_p_place_on) (He.ga K "place_on") cdv A outer s H E).env (cxOf (L2.CX P w) P w K mg base ["scale", "cell", "found"] "place_on" (defScope t_p_place_on) (He.ga K "place_on") cdv A outer s H E).xe := passes_of rfl
  have nd : (["scale", "cell", "found"] : List Str).Nodup := sc_p_place_on.nd
  show MSs (cxOf (L2.CX P w) P w K mg base ["scale", "cell", "found"] "place_on" (defScope t_p_place_on) (He.ga K "place_on") cdv A outer s H E) (WD E) (defBody t_p_place_on) (Pg.s_p_place_on fu)
  exact (mss_cons (ms_if (tcmp o_is bl_is (mv 1) me_non) (mss_one (ms_ret me_str)) mss_nil) (mss_cons (ms_if (tcmp (o_eq hr.units) bl_eq (mix (mv 0) me_int) me_str) (mss_one (ms_ret (me_def (dd := []) (ok_p_along_turns fu T) hr tk (mac (mv 0) (mac (mv 1) ma_nil))))) mss_nil) (mss_cons (ms_if (tcmp (o_eq hr.units) bl_eq (mix (mv 0) me_int) me_str) (mss_one (ms_ret (me_def (dd := []) (ok_p_along_pieces fu T) hr tk (mac (mix (mv 0) me_int) (mac (mv 1) ma_nil))))) mss_nil) (mss_cons (ms_if (tcmp (o_eq hr.units) bl_eq (mix (mv 0) me_int) me_str) (mss_one (ms_ret (me_def (dd := []) (ok_p_along_order fu T) hr tk (mac (mv 0) (mac (mv 1) ma_nil))))) mss_nil) (mss_cons (ms_if (tcmp (o_eq hr.units) bl_eq (mix (mv 0) me_int) me_str) (mss_one (sset 2 nd (me_def (dd := []) (ok_p_along_straight fu T) hr tk (mac (me_tup (mac (mix (mv 0) me_int) (mac me_int ma_nil))) (mac (me_tup (mac (mix (mv 0) me_int) (mac me_int ma_nil))) (mac (me_tup (mac (mv 1) (mac me_int ma_nil))) (mac (mix (mv 0) me_int) ma_nil))))))) (mss_one (sset 2 nd (me_def (dd := []) (ok_p_along_straight fu T) hr tk (mac (mix (mv 0) me_int) (mac (mix (mv 0) me_int) (mac (mv 1) (mac (mix (mv 0) me_int) ma_nil)))))))) (mss_cons (ms_if (tcmp o_is bl_is (mv 2) me_non) (mss_one (ms_ret me_str)) mss_nil) (mss_one (ms_ret (mv 2)))))))))
theorem sc_p_read_on : FnScope ["scale", "place"] ["scale", "place"] (defScope t_p_read_on) := ⟨rfl, rfl, rfl, by decide +kernel, rfl, by decide +kernel, by decide +kernel⟩
theorem ok_p_read_on (fu : Nat) (T : Tx fa fn fxl K mg) : DefOk P w K mg base 6 "read_on" 2 (Pg.f_p_read_on fu) [[]] := by
  obtain ⟨fd, F⟩ := T.says.def_ 18 (d := d_p_read_on) rfl
  refine def_ok (d := d_p_read_on) (ps := ["scale", "place"]) (T.glo 30) F (MI.fn_ok (N := ["scale", "place"]) F sc_p_read_on fun cdv A outer s H E hr => ?_) (allC ⟨[], [], .nil, fun _ => .nil, F.bindsN fun _ _ _ _ _ _ us hl => match us, hl with | [_, _], _ => rfl⟩ all0)
  have tk : Takes (cxOf (L2.CX P w) P w K mg base ["scale", "place"] "read_on" (defScope t_p_read_on) (He.ga K "read_on") cdv A outer s H E) (WD E) := takes_of rfl rfl rfl rfl
  have hp : PassesOwn (model P w) (cxOf (L2.CX P w) P w K mg base ["scale", "place"] "read_on" (defScope t_p_read_on) (He.ga K "read_on") cdv A outer s H E).A (cxOf (L2.CX P w) P w K mg base ["scale", "place"] "read_on" (defScope t_p_read_on) (He.ga K "read_on") cdv A outer s H E).env (cxOf (L2.CX P w) P w K mg base ["scale", "place"] "read_on" (defScope t_p_read_on) (He.ga K "read_on") cdv A outer s H E).xe := passes_of rfl
  have nd : (["scale", "place"] : List Str).Nodup := sc_p_read_on.nd
  show MSs (cxOf (L2.CX P w) P w K mg base ["scale", "place"] "read_on" (defScope t_p_read_on) (He.ga K "read_on") cdv A outer s H E) (WD E) (defBody t_p_read_on) (Pg.s_p_read_on fu)
  exact (mss_cons (ms_if (tcmp (o_eq hr.units) bl_eq (mix (mv 0) me_int) me_str) (mss_one (ms_ret (me_def (dd := []) (ok_p_back_turns fu T) hr tk (mac (mv 0) (mac (mv 1) ma_nil))))) mss_nil) (mss_cons (ms_if (tcmp (o_eq hr.units) bl_eq (mix (mv 0) me_int) me_str) (mss_one (ms_ret (me_def (dd := []) (ok_p_back_pieces fu T) hr tk (mac (mix (mv 0) me_int) (mac (mv 1) ma_nil))))) mss_nil) (mss_cons (ms_if (tcmp (o_eq hr.units) bl_eq (mix (mv 0) me_int) me_str) (mss_one (ms_ret me_non)) mss_nil) (mss_cons (ms_if (tcmp (o_eq hr.units) bl_eq (mix (mv 0) me_int) me_str) (mss_one (ms_ret (me_def (dd := []) (ok_p_back_straight fu T) hr tk (mac (me_tup (mac (mix (mv 0) me_int) (mac me_int ma_nil))) (mac (me_tup (mac (mix (mv 0) me_int) (mac me_int ma_nil))) (mac (mv 1) (mac (mix (mv 0) me_int) ma_nil))))))) mss_nil) (mss_one (ms_ret (me_def (dd := []) (ok_p_back_straight fu T) hr tk (mac (mix (mv 0) me_int) (mac (mix (mv 0) me_int) (mac (mv 1) (mac (mix (mv 0) me_int) ma_nil)))))))))))
theorem sc_law_cell_at : FnScope ["_law_script", "_law_k"] ["_law_script", "_law_k"] (defScope t_law_cell_at) := ⟨rfl, rfl, rfl, by decide +kernel, rfl, by decide +kernel, by decide +kernel⟩
theorem ok_law_cell_at (fu : Nat) (T : Tx fa fn fxl K mg) : DefOk P w K mg base 1 "_law_cell_at" 2 (Pg.f_law_cell_at fu) [[]] := by
  obtain ⟨fd, F⟩ := T.says.def_ 19 (d := d_law_cell_at) rfl
  refine def_ok (d := d_law_cell_at) (ps := ["_law_script", "_law_k"]) (T.glo 31) F (MI.fn_ok (N := ["_law_script", "_law_k"]) F sc_law_cell_at fun cdv A outer s H E hr => ?_) (allC ⟨[], [], .nil, fun _ => .nil, F.bindsN fun _ _ _ _ _ _ us hl => match us, hl with | [_, _], _ => rfl⟩ all0)
  have tk : Takes (cxOf (L2.CX P w) P w K mg base ["_law_script", "_law_k"] "_law_cell_at" (defScope t_law_cell_at) (He.ga K "_law_cell_at") cdv A outer s H E) (WD E) := takes_of rfl rfl rfl rfl
  have hp : PassesOwn (model P w) (cxOf (L2.CX P w) P w K mg base ["_law_script", "_law_k"] "_law_cell_at" (defScope t_law_cell_at) (He.ga K "_law_cell_at") cdv A outer s H E).A (cxOf (L2.CX P w) P w K mg base ["_law_script", "_law_k"] "_law_cell_at" (defScope t_law_cell_at) (He.ga K "_law_cell_at") cdv A outer s H E).env (cxOf (L2.CX P w) P w K mg base ["_law_script", "_law_k"] "_law_cell_at" (defScope t_law_cell_at) (He.ga K "_law_cell_at") cdv A outer s H E).xe := passes_of rfl
  have nd : (["_law_script", "_law_k"] : List Str).Nodup := sc_law_cell_at.nd
  show MSs (cxOf (L2.CX P w) P w K mg base ["_law_script", "_law_k"] "_law_cell_at" (defScope t_law_cell_at) (He.ga K "_law_cell_at") cdv A outer s H E) (WD E) (defBody t_law_cell_at) (Pg.s_law_cell_at fu)
  exact (mss_cons (ms_if (tcmp o_lt bl_lt (mv 1) (mcB c_len (T.free 4) (mac (mv 0) ma_nil))) (mss_one (ms_ret (mix (mv 0) (mv 1)))) mss_nil) (mss_one (ms_ret me_int)))
theorem sc_law_divisor : FnScope ["_law_one", "_law_other"] ["_law_one", "_law_other"] (defScope t_law_divisor) := ⟨rfl, rfl, rfl, by decide +kernel, rfl, by decide +kernel, by decide +kernel⟩
theorem ok_law_divisor (fu : Nat) (T : Tx fa fn fxl K mg) : DefOk P w K mg base 1 "_law_divisor" 2 (Pg.f_p_divisor fu) [[]] := by
  obtain ⟨fd, F⟩ := T.says.def_ 20 (d := d_law_divisor) rfl
  refine def_ok (d := d_law_divisor) (ps := ["_law_one", "_law_other"]) (T.glo 32) F (MI.fn_ok (N := ["_law_one", "_law_other"]) F sc_law_divisor fun cdv A outer s H E hr => ?_) (allC ⟨[], [], .nil, fun _ => .nil, F.bindsN fun _ _ _ _ _ _ us hl => match us, hl with | [_, _], _ => rfl⟩ all0)
  have tk : Takes (cxOf (L2.CX P w) P w K mg base ["_law_one", "_law_other"] "_law_divisor" (defScope t_law_divisor) (He.ga K "_law_divisor") cdv A outer s H E) (WD E) := takes_of rfl rfl rfl rfl
  have hp : PassesOwn (model P w) (cxOf (L2.CX P w) P w K mg base ["_law_one", "_law_other"] "_law_divisor" (defScope t_law_divisor) (He.ga K "_law_divisor") cdv A outer s H E).A (cxOf (L2.CX P w) P w K mg base ["_law_one", "_law_other"] "_law_divisor" (defScope t_law_divisor) (He.ga K "_law_divisor") cdv A outer s H E).env (cxOf (L2.CX P w) P w K mg base ["_law_one", "_law_other"] "_law_divisor" (defScope t_law_divisor) (He.ga K "_law_divisor") cdv A outer s H E).xe := passes_of rfl
  have nd : (["_law_one", "_law_other"] : List Str).Nodup := sc_law_divisor.nd
  show MSs (cxOf (L2.CX P w) P w K mg base ["_law_one", "_law_other"] "_law_divisor" (defScope t_law_divisor) (He.ga K "_law_divisor") cdv A outer s H E) (WD E) (defBody t_law_divisor) (Pg.s_p_divisor fu)
  exact (mss_cons (ms_while hp (tcmp (o_ne hr.units) bl_ne (mv 1) me_int) (mss_one (spar 0 1 nd (mac (mv 1) (mac (mbin o_mod (mv 0) (mv 1)) ma_nil))))) (mss_one (ms_ret (mcB c_abs (T.free 0) (mac (mv 0) ma_nil)))))
theorem sc_law_lowest : FnScope ["_law_top", "_law_bottom", "_law_share"] ["_law_top", "_law_bottom"] (defScope t_law_lowest) := ⟨rfl, rfl, rfl, by decide +kernel, rfl, by decide +kernel, by decide +kernel⟩
theorem ok_law_lowest (fu : Nat) (T : Tx fa fn fxl K mg) : DefOk P w K mg base 2 "_law_lowest" 2 (Pg.f_law_lowest fu) [[]] := by
  obtain ⟨fd, F⟩ := T.says.def_ 21 (d := d_law_lowest) rfl
  refine def_ok (d := d_law_lowest) (ps := ["_law_top", "_law_bottom"]) (T.glo 33) F (MI.fn_ok (N := ["_law_top", "_law_bottom", "_law_share"]) F sc_law_lowest fun cdv A outer s H E hr => ?_) (allC ⟨[], [], .nil, fun _ => .nil, F.bindsN fun _ _ _ _ _ _ us hl => match us, hl with | [_, _], _ => rfl⟩ all0)
  have tk : Takes (cxOf (L2.CX P w) P w K mg base ["_law_top", "_law_bottom", "_law_share"] "_law_lowest" (defScope t_law_lowest) (He.ga K "_law_lowest") cdv A outer s H E) (WD E) := takes_of rfl rfl rfl rfl
  have hp : PassesOwn (model P w) (cxOf (L2.CX P w) P w K mg base ["_law_top", "_law_bottom", "_law_share"] "_law_lowest" (defScope t_law_lowest) (He.ga K "_law_lowest") cdv A outer s H E).A (cxOf (L2.CX P w) P w K mg base ["_law_top", "_law_bottom", "_law_share"] "_law_lowest" (defScope t_law_lowest) (He.ga K "_law_lowest") cdv A outer s H E).env (cxOf (L2.CX P w) P w K mg base ["_law_top", "_law_bottom", "_law_share"] "_law_lowest" (defScope t_law_lowest) (He.ga K "_law_lowest") cdv A outer s H E).xe := passes_of rfl
  have nd : (["_law_top", "_law_bottom", "_law_share"] : List Str).Nodup := sc_law_lowest.nd
  show MSs (cxOf (L2.CX P w) P w K mg base ["_law_top", "_law_bottom", "_law_share"] "_law_lowest" (defScope t_law_lowest) (He.ga K "_law_lowest") cdv A outer s H E) (WD E) (defBody t_law_lowest) (Pg.s_law_lowest fu)
  exact (mss_cons (sset 2 nd (me_def (dd := []) (ok_law_divisor fu T) hr tk (mac (mv 0) (mac (mv 1) ma_nil)))) (mss_one (ms_ret (me_tup (mac (mbin o_fdv (mv 0) (mv 2)) (mac (mbin o_fdv (mv 1) (mv 2)) ma_nil))))))
theorem sc_law_is_number : FnScope ["_law_thing", "_law_part"] ["_law_thing"] (defScope t_law_is_number) := ⟨rfl, rfl, rfl, by decide +kernel, rfl, by decide +kernel, by decide +kernel⟩
theorem ok_law_is_number (fu : Nat) (T : Tx fa fn fxl K mg) : DefOk P w K mg base 2 "_law_is_number" 1 (Pg.f_law_is_number fu) [[]] := by
  obtain ⟨fd, F⟩ := T.says.def_ 22 (d := d_law_is_number) rfl
  refine def_ok (d := d_law_is_number) (ps := ["_law_thing"]) (T.glo 34) F (MI.fn_ok (N := ["_law_thing", "_law_part"]) F sc_law_is_number fun cdv A outer s H E hr => ?_) (allC ⟨[], [], .nil, fun _ => .nil, F.bindsN fun _ _ _ _ _ _ us hl => match us, hl with | [_], _ => rfl⟩ all0)
  have tk : Takes (cxOf (L2.CX P w) P w K mg base ["_law_thing", "_law_part"] "_law_is_number" (defScope t_law_is_number) (He.ga K "_law_is_number") cdv A outer s H E) (WD E) := takes_of rfl rfl rfl rfl
  have hp : PassesOwn (model P w) (cxOf (L2.CX P w) P w K mg base ["_law_thing", "_law_part"] "_law_is_number" (defScope t_law_is_number) (He.ga K "_law_is_number") cdv A outer s H E).A (cxOf (L2.CX P w) P w K mg base ["_law_thing", "_law_part"] "_law_is_number" (defScope t_law_is_number) (He.ga K "_law_is_number") cdv A outer s H E).env (cxOf (L2.CX P w) P w K mg base ["_law_thing", "_law_part"] "_law_is_number" (defScope t_law_is_number) (He.ga K "_law_is_number") cdv A outer s H E).xe := passes_of rfl
  have nd : (["_law_thing", "_law_part"] : List Str).Nodup := sc_law_is_number.nd
  show MSs (cxOf (L2.CX P w) P w K mg base ["_law_thing", "_law_part"] "_law_is_number" (defScope t_law_is_number) (He.ga K "_law_is_number") cdv A outer s H E) (WD E) (defBody t_law_is_number) (Pg.s_law_is_number fu)
  exact (mss_cons (ms_if (PW.pt (mw_or (mt_not (ttru (misi "tuple" (T.free 5) (T.free 6) (mv 0)))) (mw_or1 (tcmp (o_ne hr.units) bl_ne (mcB c_len (T.free 4) (mac (mv 0) ma_nil)) me_int)))) (mss_one (ms_ret me_bl)) mss_nil) (mss_cons (ms_for hp (mi_items (mv 0)) (gname 1 nd) gN_ok (mss_one (ms_if (PW.pt (mw_or (mt_not (ttru (misi "int" (T.free 5) (T.free 7) (mv 1)))) (mw_or1 (ttru (misi "bool" (T.free 5) (T.free 8) (mv 1)))))) (mss_one (ms_ret me_bl)) mss_nil))) (mss_one (ms_ret (me_and (mcmp o_gt (mix (mv 0) me_int) me_int) (me_one (mcmp (o_eq hr.units) (me_def (dd := []) (ok_law_divisor fu T) hr tk (mac (mix (mv 0) me_int) (mac (mix (mv 0) me_int) ma_nil))) me_int)))))))
theorem sc_law_mixed : FnScope ["_law_cell_here"] ["_law_cell_here"] (defScope t_law_mixed) := ⟨rfl, rfl, rfl, by decide +kernel, rfl, by decide +kernel, by decide +kernel⟩
theorem ok_law_mixed (fu : Nat) (T : Tx fa fn fxl K mg) : DefOk P w K mg base 1 "_law_mixed" 1 (Pg.f_law_mixed fu) [[]] := by
  obtain ⟨fd, F⟩ := T.says.def_ 23 (d := d_law_mixed) rfl
  refine def_ok (d := d_law_mixed) (ps := ["_law_cell_here"]) (T.glo 35) F (MI.fn_ok (N := ["_law_cell_here"]) F sc_law_mixed fun cdv A outer s H E hr => ?_) (allC ⟨[], [], .nil, fun _ => .nil, F.bindsN fun _ _ _ _ _ _ us hl => match us, hl with | [_], _ => rfl⟩ all0)
  have tk : Takes (cxOf (L2.CX P w) P w K mg base ["_law_cell_here"] "_law_mixed" (defScope t_law_mixed) (He.ga K "_law_mixed") cdv A outer s H E) (WD E) := takes_of rfl rfl rfl rfl
  have hp : PassesOwn (model P w) (cxOf (L2.CX P w) P w K mg base ["_law_cell_here"] "_law_mixed" (defScope t_law_mixed) (He.ga K "_law_mixed") cdv A outer s H E).A (cxOf (L2.CX P w) P w K mg base ["_law_cell_here"] "_law_mixed" (defScope t_law_mixed) (He.ga K "_law_mixed") cdv A outer s H E).env (cxOf (L2.CX P w) P w K mg base ["_law_cell_here"] "_law_mixed" (defScope t_law_mixed) (He.ga K "_law_mixed") cdv A outer s H E).xe := passes_of rfl
  have nd : (["_law_cell_here"] : List Str).Nodup := sc_law_mixed.nd
  show MSs (cxOf (L2.CX P w) P w K mg base ["_law_cell_here"] "_law_mixed" (defScope t_law_mixed) (He.ga K "_law_mixed") cdv A outer s H E) (WD E) (defBody t_law_mixed) (Pg.s_law_mixed fu)
  exact (mss_cons (ms_if (tcmp o_ge bl_ge (mv 0) (mbin o_pow me_int me_int)) (mss_one (ms_ret (mv 0))) mss_nil) (mss_one (ms_ret (mbin o_mod (mbin o_addL (mbin o_mul (mbin o_mod (mv 0) me_int) me_int) me_int) me_int))))
theorem sc_law_power : FnScope ["_law_base", "_law_many", "_law_found", "_law_k"] ["_law_base", "_law_many"] (defScope t_law_power) := ⟨rfl, rfl, rfl, by decide +kernel, rfl, by decide +kernel, by decide +kernel⟩
theorem ok_law_power (fu : Nat) (T : Tx fa fn fxl K mg) : DefOk P w K mg base 1 "_law_power" 2 (Pg.f_p_power_of fu) [[]] := by
  obtain ⟨fd, F⟩ := T.says.def_ 24 (d := d_law_power) rfl
  refine def_ok (d := d_law_power) (ps := ["_law_base", "_law_many"]) (T.glo 36) F (MI.fn_ok (N := ["_law_base", "_law_many", "_law_found", "_law_k"]) F sc_law_power fun cdv A outer s H E hr => ?_) (allC ⟨[], [], .nil, fun _ => .nil, F.bindsN fun _ _ _ _ _ _ us hl => match us, hl with | [_, _], _ => rfl⟩ all0)
  have tk : Takes (cxOf (L2.CX P w) P w K mg base ["_law_base", "_law_many", "_law_found", "_law_k"] "_law_power" (defScope t_law_power) (He.ga K "_law_power") cdv A outer s H E) (WD E) := takes_of rfl rfl rfl rfl
  have hp : PassesOwn (model P w) (cxOf (L2.CX P w) P w K mg base ["_law_base", "_law_many", "_law_found", "_law_k"] "_law_power" (defScope t_law_power) (He.ga K "_law_power") cdv A outer s H E).A (cxOf (L2.CX P w) P w K mg base ["_law_base", "_law_many", "_law_found", "_law_k"] "_law_power" (defScope t_law_power) (He.ga K "_law_power") cdv A outer s H E).env (cxOf (L2.CX P w) P w K mg base ["_law_base", "_law_many", "_law_found", "_law_k"] "_law_power" (defScope t_law_power) (He.ga K "_law_power") cdv A outer s H E).xe := passes_of rfl
  have nd : (["_law_base", "_law_many", "_law_found", "_law_k"] : List Str).Nodup := sc_law_power.nd
  show MSs (cxOf (L2.CX P w) P w K mg base ["_law_base", "_law_many", "_law_found", "_law_k"] "_law_power" (defScope t_law_power) (He.ga K "_law_power") cdv A outer s H E) (WD E) (defBody t_law_power) (Pg.s_p_power_of fu)
  exact (mss_cons (sset 2 nd me_int) (mss_cons (ms_for hp (mi_rng1 (T.free 3) (mac (mv 1) ma_nil)) (gname 3 nd) gN_ok (mss_one (sset 2 nd (mbin o_mul (mv 2) (mv 0))))) (mss_one (ms_ret (mv 2)))))
theorem sc_law_ends : FnScope ["_law_script", "_law_many", "_law_top", "_law_ends_here", "_law_k", "_law_cell_here", "_law_step"] ["_law_script", "_law_many"] (defScope t_law_ends) := ⟨rfl, rfl, rfl, by decide +kernel, rfl, by decide +kernel, by decide +kernel⟩
theorem ok_law_ends (fu : Nat) (T : Tx fa fn fxl K mg) : DefOk P w K mg base 2 "_law_ends" 2 (Pg.f_law_ends fu) [[]] := by
  obtain ⟨fd, F⟩ := T.says.def_ 25 (d := d_law_ends) rfl
  refine def_ok (d := d_law_ends) (ps := ["_law_script", "_law_many"]) (T.glo 37) F (MI.fn_ok (N := ["_law_script", "_law_many", "_law_top", "_law_ends_here", "_law_k", "_law_cell_here", "_law_step"]) F sc_law_ends fun cdv A outer s H E hr => ?_) (allC ⟨[], [], .nil, fun _ => .nil, F.bindsN fun _ _ _ _ _ _ us hl => match us, hl with | [_, _], _ => rfl⟩ all0)
  have tk : Takes (cxOf (L2.CX P w) P w K mg base ["_law_script", "_law_many", "_law_top", "_law_ends_here", "_law_k", "_law_cell_here", "_law_step"] "_law_ends" (defScope t_law_ends) (He.ga K "_law_ends") cdv A outer s H E) (WD E) := takes_of rfl rfl rfl rfl
  have hp : PassesOwn (model P w) (cxOf (L2.CX P w) P w K mg base ["_law_script", "_law_many", "_law_top", "_law_ends_here", "_law_k", "_law_cell_here", "_law_step"] "_law_ends" (defScope t_law_ends) (He.ga K "_law_ends") cdv A outer s H E).A (cxOf (L2.CX P w) P w K mg base ["_law_script", "_law_many", "_law_top", "_law_ends_here", "_law_k", "_law_cell_here", "_law_step"] "_law_ends" (defScope t_law_ends) (He.ga K "_law_ends") cdv A outer s H E).env (cxOf (L2.CX P w) P w K mg base ["_law_script", "_law_many", "_law_top", "_law_ends_here", "_law_k", "_law_cell_here", "_law_step"] "_law_ends" (defScope t_law_ends) (He.ga K "_law_ends") cdv A outer s H E).xe := passes_of rfl
  have nd : (["_law_script", "_law_many", "_law_top", "_law_ends_here", "_law_k", "_law_cell_here", "_law_step"] : List Str).Nodup := sc_law_ends.nd
  show MSs (cxOf (L2.CX P w) P w K mg base ["_law_script", "_law_many", "_law_top", "_law_ends_here", "_law_k", "_law_cell_here", "_law_step"] "_law_ends" (defScope t_law_ends) (He.ga K "_law_ends") cdv A outer s H E) (WD E) (defBody t_law_ends) (Pg.s_law_ends fu)
  exact (mss_cons (sset 2 nd (mbin o_mod (mbin o_fdv (me_def (dd := []) (ok_law_cell_at fu T) hr tk (mac (mv 0) (mac me_int ma_nil))) me_int) (mbin o_pow me_int me_int))) (mss_cons (ms_if (tcmp (o_eq hr.units) bl_eq (mbin o_mod (me_def (dd := []) (ok_law_cell_at fu T) hr tk (mac (mv 0) (mac me_int ma_nil))) me_int) me_int) (mss_one (sset 2 nd (mbin o_sub me_int (mv 2)))) mss_nil) (mss_cons (ms_own 3 nd (mn_lst (mac (mv 2) ma_nil))) (mss_cons (ms_for hp (mi_rng1 (T.free 3) (mac (mv 1) ma_nil)) (gname 4 nd) gN_ok (mss_cons (sset 5 nd (me_def (dd := []) (ok_law_cell_at fu T) hr tk (mac (mv 0) (mac (mbin o_addL me_int (mv 4)) ma_nil)))) (mss_cons (sset 6 nd (mbin o_addL me_int (mbin o_mod (mv 5) me_int))) (mss_cons (ms_if (tcmp o_ge bl_ge (mv 5) (mbin o_pow me_int me_int)) (mss_one (sset 6 nd (mbin o_addL me_int (mbin o_mod (mv 5) (mbin o_pow me_int me_int))))) mss_nil) (mss_one (ms_appF 3 (mbin o_addL (mix (mv 3) (me_un o_neg me_int)) (mv 6)) (pv 3))))))) (mss_fz (mss_one (ms_ret (mv 3))))))))
theorem sc_law_pieces : FnScope ["_law_ends_here", "_law_bottom", "_law_cell_here", "_law_pieces_here", "_law_begin", "_law_k", "_law_end"] ["_law_ends_here", "_law_bottom", "_law_cell_here"] (defScope t_law_pieces) := ⟨rfl, rfl, rfl, by decide +kernel, rfl, by decide +kernel, by decide +kernel⟩
theorem ok_law_pieces (fu : Nat) (T : Tx fa fn fxl K mg) : DefOk P w K mg base 3 "_law_pieces" 3 (Pg.f_law_pieces fu) [[]] := by
  obtain ⟨fd, F⟩ := T.says.def_ 26 (d := d_law_pieces) rfl
  refine def_ok (d := d_law_pieces) (ps := ["_law_ends_here", "_law_bottom", "_law_cell_here"]) (T.glo 38) F (MI.fn_ok (N := ["_law_ends_here", "_law_bottom", "_law_cell_here", "_law_pieces_here", "_law_begin", "_law_k", "_law_end"]) F sc_law_pieces fun cdv A outer s H E hr => ?_) (allC ⟨[], [], .nil, fun _ => .nil, F.bindsN fun _ _ _ _ _ _ us hl => match us, hl with | [_, _, _], _ => rfl⟩ all0)
  have tk : Takes (cxOf (L2.CX P w) P w K mg base ["_law_ends_here", "_law_bottom", "_law_cell_here", "_law_pieces_here", "_law_begin", "_law_k", "_law_end"] "_law_pieces" (defScope t_law_pieces) (He.ga K "_law_pieces") cdv A outer s H E) (WD E) := takes_of rfl rfl rfl rfl
  have hp : PassesOwn (model P w) (cxOf (L2.CX P w) P w K mg base ["_law_ends_here", "_law_bottom", "_law_cell_here", "_law_pieces_here", "_law_begin", "_law_k", "_law_end"] "_law_pieces" (defScope t_law_pieces) (He.ga K "_law_pieces") cdv A outer s H E).A (cxOf (L2.CX P w) P w K mg base ["_law_ends_here", "_law_bottom", "_law_cell_here", "_law_pieces_here", "_law_begin", "_law_k", "_law_end"] "_law_pieces" (defScope t_law_pieces) (He.ga K "_law_pieces") cdv A outer s H E).env (cxOf (L2.CX P w) P w K mg base ["_law_ends_here", "_law_bottom", "_law_cell_here", "_law_pieces_here", "_law_begin", "_law_k", "_law_end"] "_law_pieces" (defScope t_law_pieces) (He.ga K "_law_pieces") cdv A outer s H E).xe := passes_of rfl
  have nd : (["_law_ends_here", "_law_bottom", "_law_cell_here", "_law_pieces_here", "_law_begin", "_law_k", "_law_end"] : List Str).Nodup := sc_law_pieces.nd
  show MSs (cxOf (L2.CX P w) P w K mg base ["_law_ends_here", "_law_bottom", "_law_cell_here", "_law_pieces_here", "_law_begin", "_law_k", "_law_end"] "_law_pieces" (defScope t_law_pieces) (He.ga K "_law_pieces") cdv A outer s H E) (WD E) (defBody t_law_pieces) (Pg.s_law_pieces fu)
  exact (mss_cons (ms_own 3 nd (mn_lst ma_nil)) (mss_cons (sset 4 nd me_int) (mss_cons (ms_for hp (mi_rng3 (T.free 3) (mac me_int (mac (mcB c_len (T.free 4) (mac (mv 0) ma_nil)) (mac me_int ma_nil)))) (gname 5 nd) gN_ok (mss_cons (sset 6 nd (mbin o_addL (mbin o_addL (mv 4) me_int) (mbin o_mod (mbin o_mod (mbin o_mul (mbin o_addL (mv 2) (mv 5)) (mbin o_addL (mv 2) (mbin o_mul me_int (mv 5)))) me_int) me_int))) (mss_cons (ms_app 3 (me_tup (mac (me_def (dd := []) (ok_law_lowest fu T) hr tk (mac (mix (mv 0) (mv 5)) (mac (mv 1) ma_nil))) (mac (me_def (dd := []) (ok_law_lowest fu T) hr tk (mac (mix (mv 0) (mbin o_addL (mv 5) me_int)) (mac (mv 1) ma_nil))) (mac (mv 4) (mac (mv 6) ma_nil))))) (pv 3)) (mss_one (sset 4 nd (mbin o_addL (mbin o_addL (mv 6) me_int) (mbin o_mod (mbin o_mod (mbin o_mul (mbin o_addL (mv 2) (mv 5)) (mbin o_addL (mv 2) (mbin o_mul me_int (mv 5)))) me_int) me_int))))))) (mss_fz (mss_one (ms_ret (mv 3)))))))
theorem sc_law_scale : FnScope ["_law_script", "_law_ends_here", "_law_bottom", "_law_kind", "_law_cell_here", "_law_base", "_law_pieces_here", "_law_lo", "_law_hi"] ["_law_script", "_law_ends_here", "_law_bottom"] (defScope t_law_scale) := ⟨rfl, rfl, rfl, by decide +kernel, rfl, by decide +kernel, by decide +kernel⟩
theorem ok_law_scale (fu : Nat) (T : Tx fa fn fxl K mg) : DefOk P w K mg base 4 "_law_scale" 3 (Pg.f_law_scale fu) [[]] := by
  obtain ⟨fd, F⟩ := T.says.def_ 27 (d := d_law_scale) rfl
  refine def_ok (d := d_law_scale) (ps := ["_law_script", "_law_ends_here", "_law_bottom"]) (T.glo 39) F (MI.fn_ok (N := ["_law_script", "_law_ends_here", "_law_bottom", "_law_kind", "_law_cell_here", "_law_base", "_law_pieces_here", "_law_lo", "_law_hi"]) F sc_law_scale fun cdv A outer s H E hr => ?_) (allC ⟨[], [], .nil, fun _ => .nil, F.bindsN fun _ _ _ _ _ _ us hl => match us, hl with | [_, _, _], _ => rfl⟩ all0)
  have tk : Takes (cxOf (L2.CX P w) P w K mg base ["_law_script", "_law_ends_here", "_law_bottom", "_law_kind", "_law_cell_here", "_law_base", "_law_pieces_here", "_law_lo", "_law_hi"] "_law_scale" (defScope t_law_scale) (He.ga K "_law_scale") cdv A outer s H E) (WD E) := takes_of rfl rfl rfl rfl
  have hp : PassesOwn (model P w) (cxOf (L2.CX P w) P w K mg base ["_law_script", "_law_ends_here", "_law_bottom", "_law_kind", "_law_cell_here", "_law_base", "_law_pieces_here", "_law_lo", "_law_hi"] "_law_scale" (defScope t_law_scale) (He.ga K "_law_scale") cdv A outer s H E).A (cxOf (L2.CX P w) P w K mg base ["_law_script", "_law_ends_here", "_law_bottom", "_law_kind", "_law_cell_here", "_law_base", "_law_pieces_here", "_law_lo", "_law_hi"] "_law_scale" (defScope t_law_scale) (He.ga K "_law_scale") cdv A outer s H E).env (cxOf (L2.CX P w) P w K mg base ["_law_script", "_law_ends_here", "_law_bottom", "_law_kind", "_law_cell_here", "_law_base", "_law_pieces_here", "_law_lo", "_law_hi"] "_law_scale" (defScope t_law_scale) (He.ga K "_law_scale") cdv A outer s H E).xe := passes_of rfl
  have nd : (["_law_script", "_law_ends_here", "_law_bottom", "_law_kind", "_law_cell_here", "_law_base", "_law_pieces_here", "_law_lo", "_law_hi"] : List Str).Nodup := sc_law_scale.nd
  show MSs (cxOf (L2.CX P w) P w K mg base ["_law_script", "_law_ends_here", "_law_bottom", "_law_kind", "_law_cell_here", "_law_base", "_law_pieces_here", "_law_lo", "_law_hi"] "_law_scale" (defScope t_law_scale) (He.ga K "_law_scale") cdv A outer s H E) (WD E) (defBody t_law_scale) (Pg.s_law_scale fu)
  exact (mss_cons (sset 3 nd (mbin o_mod (me_def (dd := []) (ok_law_cell_at fu T) hr tk (mac (mv 0) (mac me_int ma_nil))) me_int)) (mss_cons (sset 4 nd (mbin o_fdv (me_def (dd := []) (ok_law_mixed fu T) hr tk (mac (me_def (dd := []) (ok_law_cell_at fu T) hr tk (mac (mv 0) (mac me_int ma_nil))) ma_nil)) me_int)) (mss_cons (ms_if (tcmp (o_eq hr.units) bl_eq (mv 3) me_int) (mss_cons (sset 5 nd (mix (me_lst (mac me_int (mac me_int ma_nil))) (mbin o_mod (mbin o_fdv (mv 4) me_int) me_int))) (mss_one (ms_ret (me_tup (mac me_str (mac (mv 5) (mac (mbin o_sub (mbin o_mod (mbin o_fdv (mv 4) me_int) me_int) me_int) (mac (mbin o_addL me_int (mbin o_mod (mbin o_fdv (mv 4) me_int) me_int)) (mac (mbin o_addL me_int (mbin o_mod (mv 4) me_int)) ma_nil))))))))) mss_nil) (mss_cons (ms_if (tcmp (o_eq hr.units) bl_eq (mv 3) me_int) (mss_cons (sset 6 nd (me_def (dd := []) (ok_law_pieces fu T) hr tk (mac (mv 1) (mac (mv 2) (mac (mv 4) ma_nil))))) (mss_one (ms_ret (me_tup (mac me_str (mac (mv 6) (mac (mix (mix (mv 6) (me_un o_neg me_int)) me_int) ma_nil))))))) mss_nil) (mss_cons (ms_if (tcmp (o_eq hr.units) bl_eq (mv 3) me_int) (mss_cons (sset 7 nd (mbin o_mod (me_def (dd := []) (ok_law_cell_at fu T) hr tk (mac (mv 0) (mac me_int ma_nil))) me_int)) (mss_cons (sset 8 nd (mbin o_addL (mbin o_addL (mv 7) me_int) (mbin o_mod (me_def (dd := []) (ok_law_cell_at fu T) hr tk (mac (mv 0) (mac me_int ma_nil))) (mbin o_sub me_int (mv 7))))) (mss_one (ms_ret (me_tup (mac me_str (mac (mv 7) (mac (mv 8) (mac (mbin o_addL me_int (mbin o_mod (mv 4) me_int)) ma_nil))))))))) mss_nil) (mss_one (ms_ret (me_tup (mac me_str (mac (me_def (dd := []) (ok_law_lowest fu T) hr tk (mac (mix (mv 1) me_int) (mac (mv 2) ma_nil))) (mac (me_def (dd := []) (ok_law_lowest fu T) hr tk (mac (mix (mv 1) me_int) (mac (mv 2) ma_nil))) (mac (mbin o_addL me_int (mbin o_mod (mv 4) me_int)) ma_nil))))))))))))
theorem sc_law_turned : FnScope ["_law_scale_here", "_law_cell_here", "_law_far", "_law_name", "_law_base", "_law_low", "_law_many", "_law_length", "_law_at", "_law_part"] ["_law_scale_here", "_law_cell_here", "_law_far"] (defScope t_law_turned) := ⟨rfl, rfl, rfl, by decide +kernel, rfl, by decide +kernel, by decide +kernel⟩
theorem ok_law_turned (fu : Nat) (T : Tx fa fn fxl K mg) : DefOk P w K mg base 3 "_law_turned" 3 (Pg.f_law_turned fu) [[]] := by
  obtain ⟨fd, F⟩ := T.says.def_ 28 (d := d_law_turned) rfl
  refine def_ok (d := d_law_turned) (ps := ["_law_scale_here", "_law_cell_here", "_law_far"]) (T.glo 40) F (MI.fn_ok (N := ["_law_scale_here", "_law_cell_here", "_law_far", "_law_name", "_law_base", "_law_low", "_law_many", "_law_length", "_law_at", "_law_part"]) F sc_law_turned fun cdv A outer s H E hr => ?_) (allC ⟨[], [], .nil, fun _ => .nil, F.bindsN fun _ _ _ _ _ _ us hl => match us, hl with | [_, _, _], _ => rfl⟩ all0)
  have tk : Takes (cxOf (L2.CX P w) P w K mg base ["_law_scale_here", "_law_cell_here", "_law_far", "_law_name", "_law_base", "_law_low", "_law_many", "_law_length", "_law_at", "_law_part"] "_law_turned" (defScope t_law_turned) (He.ga K "_law_turned") cdv A outer s H E) (WD E) := takes_of rfl rfl rfl rfl
  have hp : PassesOwn (model P w) (cxOf (L2.CX P w) P w K mg base ["_law_scale_here", "_law_cell_here", "_law_far", "_law_name", "_law_base", "_law_low", "_law_many", "_law_length", "_law_at", "_law_part"] "_law_turned" (defScope t_law_turned) (He.ga K "_law_turned") cdv A outer s H E).A (cxOf (L2.CX P w) P w K mg base ["_law_scale_here", "_law_cell_here", "_law_far", "_law_name", "_law_base", "_law_low", "_law_many", "_law_length", "_law_at", "_law_part"] "_law_turned" (defScope t_law_turned) (He.ga K "_law_turned") cdv A outer s H E).env (cxOf (L2.CX P w) P w K mg base ["_law_scale_here", "_law_cell_here", "_law_far", "_law_name", "_law_base", "_law_low", "_law_many", "_law_length", "_law_at", "_law_part"] "_law_turned" (defScope t_law_turned) (He.ga K "_law_turned") cdv A outer s H E).xe := passes_of rfl
  have nd : (["_law_scale_here", "_law_cell_here", "_law_far", "_law_name", "_law_base", "_law_low", "_law_many", "_law_length", "_law_at", "_law_part"] : List Str).Nodup := sc_law_turned.nd
  show MSs (cxOf (L2.CX P w) P w K mg base ["_law_scale_here", "_law_cell_here", "_law_far", "_law_name", "_law_base", "_law_low", "_law_many", "_law_length", "_law_at", "_law_part"] "_law_turned" (defScope t_law_turned) (He.ga K "_law_turned") cdv A outer s H E) (WD E) (defBody t_law_turned) (Pg.s_law_turned fu)
  exact (mss_cons (sasg (mv 0) (pg_tup rfl (pgs_cons (gname 3 nd) (pgs_cons (gname 4 nd) (pgs_cons (gname 5 nd) (pgs_cons (gname 6 nd) (pgs_cons (gname 7 nd) pgs_nil)))))) (gT_ok (gsCons_ok gN_ok (gsCons_ok gN_ok (gsCons_ok gN_ok (gsCons_ok gN_ok (gsCons_ok gN_ok gsNil_ok))))))) (mss_cons (sset 8 nd (mbin o_addL (mbin o_sub (mv 5) me_int) (mbin o_mod (mbin o_fdv (mv 1) me_int) (mbin o_addL (mv 6) me_int)))) (mss_cons (sset 9 nd (mbin o_addL me_int (mbin o_mod (mv 2) (mbin o_sub (mbin o_mul me_int (mv 4)) me_int)))) (mss_cons (ms_if (tcmp (o_eq hr.units) bl_eq (mbin o_mod (mv 1) me_int) me_int) (mss_one (ms_ret (me_tup (mac (mbin o_sub (mbin o_mod (mbin o_fdv (mv 1) me_int) me_int) me_int) (mac me_int ma_nil))))) mss_nil) (mss_one (ms_ret (me_def (dd := []) (ok_law_lowest fu T) hr tk (mac (mbin o_mul (mv 9) (me_def (dd := []) (ok_law_power fu T) hr tk (mac (mv 4) (mac (mv 8) ma_nil)))) (mac (mbin o_mul me_int (me_def (dd := []) (ok_law_power fu T) hr tk (mac (mv 4) (mac (mbin o_sub me_int (mv 8)) ma_nil)))) ma_nil)))))))))
theorem sc_law_cell : FnScope ["_law_scale_here", "_law_ends_here", "_law_bottom", "_law_cell_here", "_law_far", "_law_last", "_law_share", "_law_wide"] ["_law_scale_here", "_law_ends_here", "_law_bottom", "_law_cell_here"] (defScope t_law_cell) := ⟨rfl, rfl, rfl, by decide +kernel, rfl, by decide +kernel, by decide +kernel⟩
theorem ok_law_cell (fu : Nat) (T : Tx fa fn fxl K mg) : DefOk P w K mg base 4 "_law_cell" 4 (Pg.f_law_cell fu) [[]] := by
  obtain ⟨fd, F⟩ := T.says.def_ 29 (d := d_law_cell) rfl
  refine def_ok (d := d_law_cell) (ps := ["_law_scale_here", "_law_ends_here", "_law_bottom", "_law_cell_here"]) (T.glo 41) F (MI.fn_ok (N := ["_law_scale_here", "_law_ends_here", "_law_bottom", "_law_cell_here", "_law_far", "_law_last", "_law_share", "_law_wide"]) F sc_law_cell fun cdv A outer s H E hr => ?_) (allC ⟨[], [], .nil, fun _ => .nil, F.bindsN fun _ _ _ _ _ _ us hl => match us, hl with | [_, _, _, _], _ => rfl⟩ all0)
  have tk : Takes (cxOf (L2.CX P w) P w K mg base ["_law_scale_here", "_law_ends_here", "_law_bottom", "_law_cell_here", "_law_far", "_law_last", "_law_share", "_law_wide"] "_law_cell" (defScope t_law_cell) (He.ga K "_law_cell") cdv A outer s H E) (WD E) := takes_of rfl rfl rfl rfl
  have hp : PassesOwn (model P w) (cxOf (L2.CX P w) P w K mg base ["_law_scale_here", "_law_ends_here", "_law_bottom", "_law_cell_here", "_law_far", "_law_last", "_law_share", "_law_wide"] "_law_cell" (defScope t_law_cell) (He.ga K "_law_cell") cdv A outer s H E).A (cxOf (L2.CX P w) P w K mg base ["_law_scale_here", "_law_ends_here", "_law_bottom", "_law_cell_here", "_law_far", "_law_last", "_law_share", "_law_wide"] "_law_cell" (defScope t_law_cell) (He.ga K "_law_cell") cdv A outer s H E).env (cxOf (L2.CX P w) P w K mg base ["_law_scale_here", "_law_ends_here", "_law_bottom", "_law_cell_here", "_law_far", "_law_last", "_law_share", "_law_wide"] "_law_cell" (defScope t_law_cell) (He.ga K "_law_cell") cdv A outer s H E).xe := passes_of rfl
  have nd : (["_law_scale_here", "_law_ends_here", "_law_bottom", "_law_cell_here", "_law_far", "_law_last", "_law_share", "_law_wide"] : List Str).Nodup := sc_law_cell.nd
  show MSs (cxOf (L2.CX P w) P w K mg base ["_law_scale_here", "_law_ends_here", "_law_bottom", "_law_cell_here", "_law_far", "_law_last", "_law_share", "_law_wide"] "_law_cell" (defScope t_law_cell) (He.ga K "_law_cell") cdv A outer s H E) (WD E) (defBody t_law_cell) (Pg.s_law_cell fu)
  exact (mss_cons (sset 4 nd (mbin o_mod (mbin o_mul (mv 3) me_int) me_int)) (mss_cons (ms_if (tcmp o_ge bl_ge (mv 3) (mbin o_pow me_int me_int)) (mss_one (sset 4 nd (mbin o_fdv (mv 3) me_int))) mss_nil) (mss_cons (ms_if (tcmp (o_eq hr.units) bl_eq (mix (mv 0) me_int) me_str) (mss_one (ms_ret (me_def (dd := []) (ok_law_turned fu T) hr tk (mac (mv 0) (mac (mv 3) (mac (mv 4) ma_nil)))))) mss_nil) (mss_cons (ms_if (tcmp (o_eq hr.units) bl_eq (mix (mv 0) me_int) me_str) (mss_cons (ms_if (tcmp (o_eq hr.units) bl_eq (mbin o_mod (mv 3) me_int) me_int) (mss_one (ms_ret (me_tup (mac (mbin o_mod (mbin o_fdv (mv 3) me_int) me_int) (mac me_int ma_nil))))) mss_nil) (mss_one (ms_ret (me_tup (mac (mbin o_addL (mix (mv 0) me_int) (mbin o_mod (mv 4) (mbin o_addL (mbin o_sub (mix (mv 0) me_int) (mix (mv 0) me_int)) me_int))) (mac me_int ma_nil)))))) mss_nil) (mss_cons (sset 5 nd (mix (mv 1) me_int)) (mss_cons (ms_if (tcmp (o_eq hr.units) bl_eq (mix (mv 0) me_int) me_str) (mss_one (sset 5 nd (mix (mv 1) (me_un o_neg me_int)))) mss_nil) (mss_cons (sset 6 nd (mbin o_addL me_int (mbin o_mod (mbin o_fdv (mv 3) me_int) me_int))) (mss_cons (sset 7 nd (mbin o_mul (mbin o_sub (mv 5) (mix (mv 1) me_int)) (mv 6))) (mss_cons (ms_if (tcmp (o_eq hr.units) bl_eq (mbin o_mod (mv 3) me_int) me_int) (mss_one (ms_ret (me_def (dd := []) (ok_law_lowest fu T) hr tk (mac (mbin o_addL (mbin o_sub (mbin o_mul (mix (mv 1) me_int) (mv 6)) (mv 7)) (mbin o_mod (mv 4) (mbin o_addL (mbin o_mul me_int (mv 7)) me_int))) (mac (mbin o_mul (mv 2) (mv 6)) ma_nil))))) mss_nil) (mss_one (ms_ret (me_def (dd := []) (ok_law_lowest fu T) hr tk (mac (mbin o_addL (mbin o_mul (mix (mv 1) me_int) (mv 6)) (mbin o_mod (mv 4) (mbin o_addL (mv 7) me_int))) (mac (mbin o_mul (mv 2) (mv 6)) ma_nil))))))))))))))
theorem sc_law_handed : FnScope ["_law_scale_here", "_law_cell_here"] ["_law_scale_here", "_law_cell_here"] (defScope t_law_handed) := ⟨rfl, rfl, rfl, by decide +kernel, rfl, by decide +kernel, by decide +kernel⟩
theorem ok_law_handed (fu : Nat) (T : Tx fa fn fxl K mg) : DefOk P w K mg base 1 "_law_handed" 2 (Pg.f_law_handed fu) [[]] := by
  obtain ⟨fd, F⟩ := T.says.def_ 30 (d := d_law_handed) rfl
  refine def_ok (d := d_law_handed) (ps := ["_law_scale_here", "_law_cell_here"]) (T.glo 42) F (MI.fn_ok (N := ["_law_scale_here", "_law_cell_here"]) F sc_law_handed fun cdv A outer s H E hr => ?_) (allC ⟨[], [], .nil, fun _ => .nil, F.bindsN fun _ _ _ _ _ _ us hl => match us, hl with | [_, _], _ => rfl⟩ all0)
  have tk : Takes (cxOf (L2.CX P w) P w K mg base ["_law_scale_here", "_law_cell_here"] "_law_handed" (defScope t_law_handed) (He.ga K "_law_handed") cdv A outer s H E) (WD E) := takes_of rfl rfl rfl rfl
  have hp : PassesOwn (model P w) (cxOf (L2.CX P w) P w K mg base ["_law_scale_here", "_law_cell_here"] "_law_handed" (defScope t_law_handed) (He.ga K "_law_handed") cdv A outer s H E).A (cxOf (L2.CX P w) P w K mg base ["_law_scale_here", "_law_cell_here"] "_law_handed" (defScope t_law_handed) (He.ga K "_law_handed") cdv A outer s H E).env (cxOf (L2.CX P w) P w K mg base ["_law_scale_here", "_law_cell_here"] "_law_handed" (defScope t_law_handed) (He.ga K "_law_handed") cdv A outer s H E).xe := passes_of rfl
  have nd : (["_law_scale_here", "_law_cell_here"] : List Str).Nodup := sc_law_handed.nd
  show MSs (cxOf (L2.CX P w) P w K mg base ["_law_scale_here", "_law_cell_here"] "_law_handed" (defScope t_law_handed) (He.ga K "_law_handed") cdv A outer s H E) (WD E) (defBody t_law_handed) (Pg.s_law_handed fu)
  exact (mss_cons (ms_if (tcmp (o_eq hr.units) bl_eq (mix (mv 0) me_int) me_str) (mss_one (ms_ret (mix (mv 1) me_int))) mss_nil) (mss_one (ms_ret (mv 1))))
theorem sc_law_above : FnScope ["_law_one", "_law_other"] ["_law_one", "_law_other"] (defScope t_law_above) := ⟨rfl, rfl, rfl, by decide +kernel, rfl, by decide +kernel, by decide +kernel⟩
theorem ok_law_above (fu : Nat) (T : Tx fa fn fxl K mg) : DefOk P w K mg base 1 "_law_above" 2 (f_law_above fu) [[]] := by
  obtain ⟨fd, F⟩ := T.says.def_ 31 (d := d_law_above) rfl
  refine def_ok (d := d_law_above) (ps := ["_law_one", "_law_other"]) (T.glo 43) F (MI.fn_ok (N := ["_law_one", "_law_other"]) F sc_law_above fun cdv A outer s H E hr => ?_) (allC ⟨[], [], .nil, fun _ => .nil, F.bindsN fun _ _ _ _ _ _ us hl => match us, hl with | [_, _], _ => rfl⟩ all0)
  have tk : Takes (cxOf (L2.CX P w) P w K mg base ["_law_one", "_law_other"] "_law_above" (defScope t_law_above) (He.ga K "_law_above") cdv A outer s H E) (WD E) := takes_of rfl rfl rfl rfl
  have hp : PassesOwn (model P w) (cxOf (L2.CX P w) P w K mg base ["_law_one", "_law_other"] "_law_above" (defScope t_law_above) (He.ga K "_law_above") cdv A outer s H E).A (cxOf (L2.CX P w) P w K mg base ["_law_one", "_law_other"] "_law_above" (defScope t_law_above) (He.ga K "_law_above") cdv A outer s H E).env (cxOf (L2.CX P w) P w K mg base ["_law_one", "_law_other"] "_law_above" (defScope t_law_above) (He.ga K "_law_above") cdv A outer s H E).xe := passes_of rfl
  have nd : (["_law_one", "_law_other"] : List Str).Nodup := sc_law_above.nd
  show MSs (cxOf (L2.CX P w) P w K mg base ["_law_one", "_law_other"] "_law_above" (defScope t_law_above) (He.ga K "_law_above") cdv A outer s H E) (WD E) (defBody t_law_above) (s_law_above fu)
  exact (mss_one (ms_ret (mcmp o_gt (mbin o_mul (mix (mv 0) me_int) (mix (mv 1) me_int)) (mbin o_mul (mix (mv 1) me_int) (mix (mv 0) me_int)))))
theorem sc_law_edges : FnScope ["_law_scale_here", "_law_along", "_law_edges_here", "_law_lo", "_law_hi", "_law_begin", "_law_end"] ["_law_scale_here", "_law_along"] (defScope t_law_edges) := ⟨rfl, rfl, rfl, by decide +kernel, rfl, by decide +kernel, by decide +kernel⟩
theorem ok_law_edges (fu : Nat) (T : Tx fa fn fxl K mg) : DefOk P w K mg base 1 "_law_edges" 2 (f_law_edges fu) [[]] := by
  obtain ⟨fd, F⟩ := T.says.def_ 32 (d := d_law_edges) rfl
  refine def_ok (d := d_law_edges) (ps := ["_law_scale_here", "_law_along"]) (T.glo 44) F (MI.fn_ok (N := ["_law_scale_here", "_law_along", "_law_edges_here", "_law_lo", "_law_hi", "_law_begin", "_law_end"]) F sc_law_edges fun cdv A outer s H E hr => ?_) (allC ⟨[], [], .nil, fun _ => .nil, F.bindsN fun _ _ _ _ _ _ us hl => match us, hl with | [_, _], _ => rfl⟩ all0)
  have tk : Takes (cxOf (L2.CX P w) P w K mg base ["_law_scale_here", "_law_along", "_law_edges_here", "_law_lo", "_law_hi", "_law_begin", "_law_end"] "_law_edges" (defScope t_law_edges) (He.ga K "_law_edges") cdv A outer s H E) (WD E) := takes_of rfl rfl rfl rfl
  have hp : PassesOwn (model P w) (cxOf (L2.CX P w) P w K mg base ["_law_scale_here", "_law_along", "_law_edges_here", "_law_lo", "_law_hi", "_law_begin", "_law_end"] "_law_edges" (defScope t_law_edges) (He.ga K "_law_edges") cdv A outer s H E).A (cxOf (L2.CX P w) P w K mg base ["_law_scale_here", "_law_along", "_law_edges_here", "_law_lo", "_law_hi", "_law_begin", "_law_end"] "_law_edges" (defScope t_law_edges) (He.ga K "_law_edges") cdv A outer s H E).env (cxOf (L2.CX P w) P w K mg base ["_law_scale_here", "_law_along", "_law_edges_here", "_law_lo", "_law_hi", "_law_begin", "_law_end"] "_law_edges" (defScope t_law_edges) (He.ga K "_law_edges") cdv A outer s H E).xe := passes_of rfl
  have nd : (["_law_scale_here", "_law_along", "_law_edges_here", "_law_lo", "_law_hi", "_law_begin", "_law_end"] : List Str).Nodup := sc_law_edges.nd
  show MSs (cxOf (L2.CX P w) P w K mg base ["_law_scale_here", "_law_along", "_law_edges_here", "_law_lo", "_law_hi", "_law_begin", "_law_end"] "_law_edges" (defScope t_law_edges) (He.ga K "_law_edges") cdv A outer s H E) (WD E) (defBody t_law_edges) (s_law_edges fu)
  exact (mss_cons (sset 2 nd (me_lst (mac me_int (mac (mix (mv 0) (me_un o_neg me_int)) ma_nil)))) (mss_cons (ms_if (tcmp (o_eq hr.units) bl_eq (mix (mv 0) me_int) me_str) (mss_one (ms_for hp (mi_items (mix (mv 0) me_int)) (pg_tup rfl (pgs_cons (gname 3 nd) (pgs_cons (gname 4 nd) (pgs_cons (gname 5 nd) (pgs_cons (gname 6 nd) pgs_nil))))) (gT_ok (gsCons_ok gN_ok (gsCons_ok gN_ok (gsCons_ok gN_ok (gsCons_ok gN_ok gsNil_ok))))) (mss_one (ms_if (PW.pt (mw_and (tcmp o_le bl_le (mv 5) (mv 1)) (mw_and1 (tcmp o_le bl_le (mv 1) (mv 6))))) (mss_one (sset 2 nd (me_lst (mac (mv 5) (mac (mv 6) ma_nil))))) mss_nil)))) mss_nil) (mss_one (ms_ret (me_lst (mac (mcB (c_max rfl) (T.free 10) (mac (mbin o_mul me_int (mix (mv 2) me_int)) (mac (mbin o_sub (mbin o_mul me_int (mv 1)) me_int) ma_nil))) (mac (mcB (c_min rfl) (T.free 9) (mac (mbin o_mul me_int (mix (mv 2) me_int)) (mac (mbin o_addL (mbin o_mul me_int (mv 1)) me_int) ma_nil))) ma_nil)))))))
theorem sc_law_right : FnScope ["_law_scale_here", "_law_one", "_law_told", "_law_along", "_law_edges_here", "_law_low", "_law_high", "_law_near"] ["_law_scale_here", "_law_one", "_law_told"] (defScope t_law_right) := ⟨rfl, rfl, rfl, by decide +kernel, rfl, by decide +kernel, by decide +kernel⟩
theorem ok_law_right (fu : Nat) (T : Tx fa fn fxl K mg) : DefOk P w K mg base 7 "_law_right" 3 (f_law_right fu) [[]] := by
  obtain ⟨fd, F⟩ := T.says.def_ 33 (d := d_law_right) rfl
  refine def_ok (d := d_law_right) (ps := ["_law_scale_here", "_law_one", "_law_told"]) (T.glo 45) F (MI.fn_ok (N := ["_law_scale_here", "_law_one", "_law_told", "_law_along", "_law_edges_here", "_law_low", "_law_high", "_law_near"]) F sc_law_right fun cdv A outer s H E hr => ?_) (allC ⟨[], [], .nil, fun _ => .nil, F.bindsN fun _ _ _ _ _ _ us hl => match us, hl with | [_, _, _], _ => rfl⟩ all0)
  have tk : Takes (cxOf (L2.CX P w) P w K mg base ["_law_scale_here", "_law_one", "_law_told", "_law_along", "_law_edges_here", "_law_low", "_law_high", "_law_near"] "_law_right" (defScope t_law_right) (He.ga K "_law_right") cdv A outer s H E) (WD E) := takes_of rfl rfl rfl rfl
  have hp : PassesOwn (model P w) (cxOf (L2.CX P w) P w K mg base ["_law_scale_here", "_law_one", "_law_told", "_law_along", "_law_edges_here", "_law_low", "_law_high", "_law_near"] "_law_right" (defScope t_law_right) (He.ga K "_law_right") cdv A outer s H E).A (cxOf (L2.CX P w) P w K mg base ["_law_scale_here", "_law_one", "_law_told", "_law_along", "_law_edges_here", "_law_low", "_law_high", "_law_near"] "_law_right" (defScope t_law_right) (He.ga K "_law_right") cdv A outer s H E).env (cxOf (L2.CX P w) P w K mg base ["_law_scale_here", "_law_one", "_law_told", "_law_along", "_law_edges_here", "_law_low", "_law_high", "_law_near"] "_law_right" (defScope t_law_right) (He.ga K "_law_right") cdv A outer s H E).xe := passes_of rfl
  have nd : (["_law_scale_here", "_law_one", "_law_told", "_law_along", "_law_edges_here", "_law_low", "_law_high", "_law_near"] : List Str).Nodup := sc_law_right.nd
  show MSs (cxOf (L2.CX P w) P w K mg base ["_law_scale_here", "_law_one", "_law_told", "_law_along", "_law_edges_here", "_law_low", "_law_high", "_law_near"] "_law_right" (defScope t_law_right) (He.ga K "_law_right") cdv A outer s H E) (WD E) (defBody t_law_right) (s_law_right fu)
  exact (mss_cons (ms_if (PW.pt (mw_or (mt_not (ttru (me_def (dd := []) (ok_law_is_number fu T) hr tk (mac (mv 2) ma_nil)))) (mw_or1 (tcmp (o_ne hr.units) bl_ne (me_def (dd := []) (ok_p_read_on fu T) hr tk (mac (mv 0) (mac (mv 2) ma_nil))) (mv 1))))) (mss_one (ms_ret me_bl)) mss_nil) (mss_cons (sset 3 nd (mbin o_fdv (mbin o_addL (mbin o_mul me_int (mix (mv 2) me_int)) (mix (mv 2) me_int)) (mbin o_mul me_int (mix (mv 2) me_int)))) (mss_cons (sset 4 nd (me_def (dd := []) (ok_law_edges fu T) hr tk (mac (mv 0) (mac (mv 3) ma_nil)))) (mss_cons (sset 5 nd (me_def (dd := []) (ok_p_read_on fu T) hr tk (mac (mv 0) (mac (me_def (dd := []) (ok_law_lowest fu T) hr tk (mac (mix (mv 4) me_int) (mac me_int ma_nil))) ma_nil)))) (mss_cons (sset 6 nd (me_def (dd := []) (ok_p_read_on fu T) hr tk (mac (mv 0) (mac (me_def (dd := []) (ok_law_lowest fu T) hr tk (mac (mix (mv 4) me_int) (mac me_int ma_nil))) ma_nil)))) (mss_cons (ms_if (PW.pt (mw_or (mt_not (ttru (me_def (dd := []) (ok_law_is_number fu T) hr tk (mac (mv 5) ma_nil)))) (mw_or1 (mt_not (ttru (me_def (dd := []) (ok_law_is_number fu T) hr tk (mac (mv 6) ma_nil))))))) (mss_one (ms_ret me_bl)) mss_nil) (mss_cons (ms_if (PW.pt (mw_or (ttru (me_def (dd := []) (ok_law_above fu T) hr tk (mac (mv 5) (mac (mv 1) ma_nil)))) (mw_or1 (ttru (me_def (dd := []) (ok_law_above fu T) hr tk (mac (mv 1) (mac (mv 6) ma_nil))))))) (mss_one (ms_ret me_bl)) mss_nil) (mss_cons (sset 7 nd (me_def (dd := []) (ok_p_read_on fu T) hr tk (mac (mv 0) (mac (me_tup (mac (mv 3) (mac me_int ma_nil))) ma_nil)))) (mss_one (ms_ret (me_and (me_def (dd := []) (ok_law_is_number fu T) hr tk (mac (mv 7) ma_nil)) (me_and (me_not (me_def (dd := []) (ok_law_above fu T) hr tk (mac (mv 5) (mac (mv 7) ma_nil)))) (me_one (me_not (me_def (dd := []) (ok_law_above fu T) hr tk (mac (mv 7) (mac (mv 6) ma_nil)))))))))))))))))
theorem sc_p_law : FnScope ["_law_script", "_law_ends_here", "_law_bottom", "_law_scale_here", "_law_cell_here", "_law_one", "_law_told"] ["_law_script"] (defScope t_p_law) := ⟨rfl, rfl, rfl, by decide +kernel, rfl, by decide +kernel, by decide +kernel⟩
theorem ok_p_law (fu : Nat) (T : Tx fa fn fxl K mg) {fd : FuncData} (F : FunD K d_p_law.name d_p_law.qual d_p_law.params d_p_law.body d_p_law.scope (d_p_law.dvs K) (d_p_law.kws K) (He.ga K "law") fd) : FnOk P w K mg base (L2.CX P w) 8 (He.ga K "law") fd ["_law_script"] (spD K mg 1 (f_p_law fu)) := by
  refine MI.fn_ok (N := ["_law_script", "_law_ends_here", "_law_bottom", "_law_scale_here", "_law_cell_here", "_law_one", "_law_told"]) F sc_p_law fun cdv A outer s H E hr => ?_
  have tk : Takes (cxOf (L2.CX P w) P w K mg base ["_law_script", "_law_ends_here", "_law_bottom", "_law_scale_here", "_law_cell_here", "_law_one", "_law_told"] "law" (defScope t_p_law) (He.ga K "law") cdv A outer s H E) (WD E) := takes_of rfl rfl rfl rfl
  have hp : PassesOwn (model P w) (cxOf (L2.CX P w) P w K mg base ["_law_script", "_law_ends_here", "_law_bottom", "_law_scale_here", "_law_cell_here", "_law_one", "_law_told"] "law" (defScope t_p_law) (He.ga K "law") cdv A outer s H E).A (cxOf (L2.CX P w) P w K mg base ["_law_script", "_law_ends_here", "_law_bottom", "_law_scale_here", "_law_cell_here", "_law_one", "_law_told"] "law" (defScope t_p_law) (He.ga K "law") cdv A outer s H E).env (cxOf (L2.CX P w) P w K mg base ["_law_script", "_law_ends_here", "_law_bottom", "_law_scale_here", "_law_cell_here", "_law_one", "_law_told"] "law" (defScope t_p_law) (He.ga K "law") cdv A outer s H E).xe := passes_of rfl
  have nd : (["_law_script", "_law_ends_here", "_law_bottom", "_law_scale_here", "_law_cell_here", "_law_one", "_law_told"] : List Str).Nodup := sc_p_law.nd
  show MSs (cxOf (L2.CX P w) P w K mg base ["_law_script", "_law_ends_here", "_law_bottom", "_law_scale_here", "_law_cell_here", "_law_one", "_law_told"] "law" (defScope t_p_law) (He.ga K "law") cdv A outer s H E) (WD E) (defBody t_p_law) (s_p_law fu)
  exact (mss_cons (sset 1 nd (me_def (dd := []) (ok_law_ends fu T) hr tk (mac (mv 0) (mac (mbin o_addL me_int (mbin o_mul me_int (mbin o_mod (me_def (dd := []) (ok_law_cell_at fu T) hr tk (mac (mv 0) (mac me_int ma_nil))) me_int))) ma_nil)))) (mss_cons (sset 2 nd (mbin o_addL me_int (mbin o_mod (me_def (dd := []) (ok_law_cell_at fu T) hr tk (mac (mv 0) (mac me_int ma_nil))) me_int))) (mss_cons (sset 3 nd (me_def (dd := []) (ok_law_scale fu T) hr tk (mac (mv 0) (mac (mv 1) (mac (mv 2) ma_nil))))) (mss_cons (ms_for hp (mi_items (mbin o_addL (me_sl (mv 0) (mo_some me_int) (mo_some me_int)) (me_lst (mac me_int ma_nil)))) (gname 4 nd) gN_ok (mss_cons (sset 5 nd (me_def (dd := []) (ok_law_cell fu T) hr tk (mac (mv 3) (mac (mv 1) (mac (mv 2) (mac (mv 4) ma_nil)))))) (mss_cons (sset 6 nd (me_def (dd := []) (ok_p_place_on fu T) hr tk (mac (mv 3) (mac (me_def (dd := []) (ok_law_handed fu T) hr tk (mac (mv 3) (mac (mv 5) ma_nil))) ma_nil)))) (mss_one (ms_if (PW.pt (mw_and (mt_not (ttru (misi "str" (T.free 5) (T.free 11) (mv 6)))) (mw_and1 (mt_not (ttru (me_def (dd := []) (ok_law_right fu T) hr tk (mac (mv 3) (mac (mv 5) (mac (mv 6) ma_nil))))))))) (mss_one (ms_ret me_bl)) mss_nil))))) (mss_one (ms_ret me_bl))))))
end
abbrev R0 : PySem.W.OpenRow := PySem.W.OpenLaw.row PySem.Challenge.rw_markscale_k24_whole_within_half_a_place
abbrev hk : PySem.W.Hook := hookM 4 fa fn fxl
def ob (s : PySem.W.SharedT) : AlM := obsM 4 fa fn fxl (HandSHeadRun.getT s)
theorem ob_eq (s : PySem.W.SharedT) : ob s = hk.obs s.abs := obsM_eq (HandSHeadRun.getT_eq s)
theorem head (w : World) : HandSHeadRun.RunEq R0 (PySem.W.view R0.prog [40]) hk ob 4000 ("MarkError" :: "NoNumber" :: "divisor" :: "lowest" :: "plus" :: "minus" :: "times" :: "over" :: "under" :: "along_straight" :: "back_straight" :: "power_of" :: "along_turns" :: "back_turns" :: "along_pieces" :: "back_pieces" :: "stretch_on" :: "amid" :: "along_order" :: "place_on" :: "read_on" :: "_law_cell_at" :: "_law_divisor" :: "_law_lowest" :: "_law_is_number" :: "_law_mixed" :: "_law_power" :: "_law_ends" :: "_law_pieces" :: "_law_scale" :: "_law_turned" :: "_law_cell" :: "_law_handed" :: "_law_above" :: "_law_edges" :: "_law_right" :: "__name__" :: []) w := by
  intro os
  kernel_rfl
end K24
open PySem PySem.W PySem.Calls PyProof.Rows
theorem K24.holds_of (fu : Nat) (hf : ∀ ns : List Int, ns.length ≤ 63 → (∀ z ∈ ns, Builtin.Int.intBits z ≤ 1048576) → K24.f_p_law fu [.list (ns.map .int)] = .ok (.bool true)) : PySem.Challenge.rw_markscale_k24_whole_within_half_a_place.Holds := by
  w_on; o_law
  refine HandSHeadRun.head_any (r := OpenLaw.row PySem.Challenge.rw_markscale_k24_whole_within_half_a_place) (q := view (OpenLaw.row PySem.Challenge.rw_markscale_k24_whole_within_half_a_place).prog [40]) (H := K24.hk) (ob := K24.ob) (M := 4000) (loose := ("MarkError" :: "NoNumber" :: "divisor" :: "lowest" :: "plus" :: "minus" :: "times" :: "over" :: "under" :: "along_straight" :: "back_straight" :: "power_of" :: "along_turns" :: "back_turns" :: "along_pieces" :: "back_pieces" :: "stretch_on" :: "amid" :: "along_order" :: "place_on" :: "read_on" :: "_law_cell_at" :: "_law_divisor" :: "_law_lowest" :: "_law_is_number" :: "_law_mixed" :: "_law_power" :: "_law_ends" :: "_law_pieces" :: "_law_scale" :: "_law_turned" :: "_law_cell" :: "_law_handed" :: "_law_above" :: "_law_edges" :: "_law_right" :: "__name__" :: [])) (d := HandSHeadRun.topDef (OpenLaw.row PySem.Challenge.rw_markscale_k24_whole_within_half_a_place).prog 40) (kwd := []) K24.ob_eq
    (by kernel_rfl) (fun s => by kernel_rfl) K24.head (by kernel_rfl) (by kernel_rfl) (by kernel_rfl) (by rfl) (by first | assumption | decide +kernel) (by decide +kernel) ⟨rfl, rfl, rfl, rfl, rfl, by decide +kernel⟩ ?hw ?hc
  case hw => w_witness2
  case hc =>
    refine MI.walk_mi (l := PySem.Challenge.rw_markscale_k24_whole_within_half_a_place) (n := 63) (k := 8) (x := "_law_script") (f := K24.f_p_law fu) rfl (by decide) (by kernel_rfl) ⟨rfl, by decide, by decide⟩ ?F hf
    intro w mg fa h Y G hmg0
    obtain ⟨K, KX, c⟩ := Y
    have hmg : mg ("law" : PySem.Str) = some (.ref fa) := by
      have e : (HandSHeadRun.topDef (OpenLaw.row PySem.Challenge.rw_markscale_k24_whole_within_half_a_place).prog 40).name = ("law" : PySem.Str) := by kernel_rfl
      rw [← e]
      exact hmg0
    have T : MI.Tx K24.fa K24.fn K24.fxl K mg := ⟨c.1, ⟨h, KX, G⟩, c.2⟩
    obtain ⟨fd, F⟩ := T.says.def_ 34 (d := K24.d_p_law) rfl
    have e := hmg.symm.trans (T.glo 46)
    cases e
    have b := L2.FunD.bindsA (ps := ["_law_script"]) F fun _ _ _ _ _ _ us hl => match us, hl with | [_], _ => rfl
    exact ⟨K, fd, KX, fun s v => b s [v] rfl, fun base _ _ => K24.ok_p_law fu T F⟩
set_option maxRecDepth 100000 in
set_option maxHeartbeats 8000000 in
theorem PySem.Challenge.cw_markscale_k24_whole_within_half_a_place_holds : PySem.Challenge.rw_markscale_k24_whole_within_half_a_place.Holds :=
  K24.holds_of Num.FU fun ns hn hb => K24.law (Nat.le_refl _) ns hn hb

