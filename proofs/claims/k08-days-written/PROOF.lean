import PyProof.Rows.All
import Wide.All
import OpenK.AllK
import Wide.FinOn
import HandS.ForExc
import HandS.ForMost
import HandS.Wide
import HandS.Defaults
import HandS.HeadHook2
import HandS.Flow
import HandS.IsInst
import HandS.Deep
import HandS.HeadEnd
import HandS.CallSlots
import HandS.RaiseMore
import HandS.StrMore
import HandS.Codes
import HandS.WideBits
import HandS.EndBits
import HandS.ExcIs
import HandS.Comp
import HandS.Head2
import HandS.TryOnly
import HandS.ExcValue
import KE.KTryMore
import KE.KExcIs
import HandS.Style
import KE.IntTextText
import PyProof.Rows.StrFirst
import PyProof.Rows.StrClip
import PySem.Challenge.RW_markscale_k08_days_written
set_option Elab.async false
set_option linter.all false
set_option maxRecDepth 100000
set_option maxHeartbeats 4000000
/-! MI1: results, views, the frozen heap; expressions' readings over data. -/
namespace MI
open PySem PySem.Spec PyProof.Rows L2
abbrev D := PyData
/-- a result: a value, an exception (its class's name, its one field), or no claim -/
inductive R (α : Type) where
  | ok (a : α)
  | exc (c : Str) (p : Option D)
  | bad
def R.bind {α β : Type} (x : R α) (f : α → R β) : R β := match x with
  | .ok a => f a
  | .exc c p => .exc c p
  | .bad => .bad
def R.of {α : Type} : Option α → R α
  | some a => .ok a
  | none => .bad
@[simp] theorem R.bind_ok {α β : Type} (a : α) (f : α → R β) : (R.ok a).bind f = f a := Eq.trans rfl rfl
@[simp] theorem R.bind_exc {α β : Type} (c : Str) (p : Option D) (f : α → R β) : (R.exc c p : R α).bind f = .exc c p := Eq.trans rfl rfl
@[simp] theorem R.bind_bad {α β : Type} (f : α → R β) : (R.bad : R α).bind f = .bad := Eq.trans rfl rfl
@[simp] theorem R.of_some {α : Type} (a : α) : R.of (some a) = .ok a := Eq.trans rfl rfl
@[simp] theorem R.of_none {α : Type} : R.of (none : Option α) = .bad := Eq.trans rfl rfl
abbrev Vw := List (Option D)
abbrev M := Vw → R D
/-! ### what data stand for -/
/-- an exception of the class at C, its dict at od -/
def ExT (a C : Addr) (od : Option Addr) : HO := .ext fun h => ∃ (oe : Obj) (vs : Array Value), h.get? a = some oe ∧ (oe.cls = .ref C ∧ oe.dict = od) ∧ oe.data = .fields vs
/-- the data that stand for it: its class's name, its field -/
def excD (c : Str) (p : Option D) : D := .dict [(.none, .str c), (.none, match p with
  | some d => .tuple [d]
  | none => .none)]
def vD : V → Option D
  | .non => some .none
  | .bl b => some (.bool b)
  | .int i => some (.int i)
  | .str z => some (.str z)
  | _ => none
/-- the one field that some of the exceptions have -/
def xfield (c : Str) : Option Str :=
  if c = "NoTable" then some "row" else if c = "NoPlan" then some "step" else if c = "NoTelling" then some "part" else none
mutual
inductive Dp (K : PySem.W.Frag) (H : Hp) : V → D → Prop
  | non : Dp K H .non .none
  | bl (b : Bool) : Dp K H (.bl b) (.bool b)
  | int (i : Int) : Dp K H (.int i) (.int i)
  | str (x : Str) : Dp K H (.str x) (.str x)
  | lst {a : Addr} {xs : List V} {ds : List D} : SqL K H a xs → DpAll K H xs ds → Dp K H (.ref a) (.list ds)
  | tup {a : Addr} {xs : List V} {ds : List D} : SqT K H a xs → DpAll K H xs ds → Dp K H (.ref a) (.tuple ds)
  | exc {a : Addr} (c : Str) : H a = some (ExT a (He.ga K c) none) → Dp K H (.ref a) (excD c none)
  | excF {a dx : Addr} (c : Str) {f : Str} {v : V} {d : D} : H a = some (ExT a (He.ga K c) (some dx)) → H dx = some (.xd [(f, v)]) → xfield c = some f → vD v = some d → Dp K H (.ref a) (excD c (some d))
  | dct0 {a : Addr} : H a = some (.dK []) → Dp K H (.ref a) (.dict [])
inductive DpAll (K : PySem.W.Frag) (H : Hp) : List V → List D → Prop
  | nil : DpAll K H [] []
  | cons {v : V} {vs : List V} {d : D} {ds : List D} : Dp K H v d → DpAll K H vs ds → DpAll K H (v :: vs) (d :: ds)
end
mutual
theorem dp_old {K : PySem.W.Frag} {H : Hp} : ∀ {v : V} {d : D}, Dp K H v d → d.canLay0 = true → L2.Dp K H v d
  | _, _, .non, _ => .non
  | _, _, .bl b, _ => .bl b
  | _, _, .int i, _ => .int i
  | _, _, .str z, _ => .str z
  | _, _, .lst a b, h => .lst a (dpa_old b (by simpa [PyData.canLay0] using h))
  | _, _, .tup a b, h => .tup a (dpa_old b (by simpa [PyData.canLay0] using h))
  | _, _, .exc c a, h => by simp [excD, PyData.canLay0] at h
  | _, _, .excF c a _ _ _, h => by simp [excD, PyData.canLay0] at h
  | _, _, .dct0 a, h => by simp [PyData.canLay0] at h
theorem dpa_old {K : PySem.W.Frag} {H : Hp} : ∀ {vs : List V} {ds : List D}, DpAll K H vs ds → PyData.canLayAll0 ds = true → L2.DpAll K H vs ds
  | _, _, .nil, _ => .nil
  | _, _, .cons a b, h => by
    simp only [PyData.canLayAll0, Bool.and_eq_true] at h
    exact .cons (dp_old a h.1) (dpa_old b h.2)
end
theorem dp_shaped {K : PySem.W.Frag} {H : Hp} {v : V} {d : D} (h : Dp K H v d) (s : SeqAt.shaped d = true) : L2.Dp K H v d := dp_old h (Bool.and_eq_true_iff.mp s).1
/-! ### heaps -/
structure Ext (F H F' H' : Hp) : Prop where
  f : Same F F'
  h : Same H H'
  s : Same F' H'
  n : ∀ a o, F' a = some o → F a = none → H a = none
theorem Ext.refl {F H : Hp} (s : Same F H) : Ext F H F H := ⟨Same.refl F, Same.refl H, s, fun a o e n => by rw [n] at e; cases e⟩
theorem Ext.trans {F H F1 H1 F2 H2 : Hp} (a : Ext F H F1 H1) (b : Ext F1 H1 F2 H2) : Ext F H F2 H2 := by
  refine ⟨a.f.trans b.f, a.h.trans b.h, b.s, fun x o e n => ?_⟩
  cases q : F1 x with
  | some o1 => exact a.n x o1 q n
  | none =>
    have z := b.n x o e q
    cases w : H x with
    | none => rfl
    | some u => rw [a.h x u w] at z; cases z
theorem same_upd {H : Hp} {p : Addr} {o : HO} (h : H p = none) : Same H (upd H p o) := fun a u e => by
  rw [upd_ne (ne_of_none e h)]
  exact e
/-- a new object, frozen at once -/
theorem Ext.new {F H : Hp} (s : Same F H) {p : Addr} {o : HO} (h : H p = none) : Ext F H (upd F p o) (upd H p o) := by
  have hf : F p = none := s.free h
  refine ⟨same_upd hf, same_upd h, fun a u e => ?_, fun a u e n => ?_⟩
  · by_cases z : a = p
    · subst z; rw [upd_same] at e ⊢; exact e
    · rw [upd_ne z] at e ⊢; exact s a u e
  · by_cases z : a = p
    · subst z; exact h
    · rw [upd_ne z, n] at e; cases e
/-- a new object, not frozen -/
theorem Ext.loose {F H : Hp} (s : Same F H) {p : Addr} {o : HO} (h : H p = none) : Ext F H F (upd H p o) :=
  ⟨Same.refl F, same_upd h, s.trans (same_upd h), fun a u e n => by rw [n] at e; cases e⟩
theorem same_t {K : PySem.W.Frag} {H H' : Hp} {a : Addr} {xs : List V} (e : Same H H') (h : SqT K H a xs) : SqT K H' a xs := by
  rcases h with (h | ⟨o, h⟩) | h
  · exact .inl (.inl (e _ _ h))
  · exact .inl (.inr ⟨o, e _ _ h⟩)
  · exact .inr h
mutual
theorem dp_mono' {K : PySem.W.Frag} {F F' : Hp} (e : Same F F') : ∀ {v : V} {d : D}, Dp K F v d → Dp K F' v d
  | _, _, .non => .non
  | _, _, .bl b => .bl b
  | _, _, .int i => .int i
  | _, _, .str z => .str z
  | _, _, .lst a b => .lst (e.seq a) (dpa_mono' e b)
  | _, _, .tup a b => .tup (same_t e a) (dpa_mono' e b)
  | _, _, .exc c a => .exc c (e _ _ a)
  | _, _, .excF c a b f v => .excF c (e _ _ a) (e _ _ b) f v
  | _, _, .dct0 a => .dct0 (e _ _ a)
theorem dpa_mono' {K : PySem.W.Frag} {F F' : Hp} (e : Same F F') : ∀ {vs : List V} {ds : List D}, DpAll K F vs ds → DpAll K F' vs ds
  | _, _, .nil => .nil
  | _, _, .cons a b => .cons (dp_mono' e a) (dpa_mono' e b)
end
theorem dp_mono {K : PySem.W.Frag} {F F' : Hp} (e : Same F F') (d : D) {v : V} (h : Dp K F v d) : Dp K F' v d := dp_mono' e h
theorem dpa_mono {K : PySem.W.Frag} {F F' : Hp} (e : Same F F') (ds : List D) {vs : List V} (h : DpAll K F vs ds) : DpAll K F' vs ds := dpa_mono' e h
theorem dpa_len {K : PySem.W.Frag} {F : Hp} : ∀ {vs : List V} {ds : List D}, DpAll K F vs ds → vs.length = ds.length
  | [], [], .nil => rfl
  | _ :: _, _ :: _, .cons _ b => congrArg Nat.succ (dpa_len b)
theorem dpa_append {K : PySem.W.Frag} {F : Hp} : ∀ {vs ws : List V} {ds es : List D}, DpAll K F vs ds → DpAll K F ws es → DpAll K F (vs ++ ws) (ds ++ es)
  | [], _, [], _, .nil, h => h
  | _ :: _, _, _ :: _, _, .cons a b, h => .cons a (dpa_append b h)
theorem dpa_get {K : PySem.W.Frag} {F : Hp} : ∀ {vs : List V} {ds : List D} {i : Nat} {d : D}, DpAll K F vs ds → ds[i]? = some d → ∃ v, vs[i]? = some v ∧ Dp K F v d
  | [], [], _, _, .nil, e => by simp at e
  | v :: _, d :: _, 0, _, .cons a b, e => by
    simp at e
    subst e
    exact ⟨v, by simp, a⟩
  | _ :: _, _ :: _, i + 1, _, .cons a b, e => by
    obtain ⟨v, h1, h2⟩ := dpa_get (i := i) b (by simpa using e)
    exact ⟨v, by simpa using h1, h2⟩
theorem dpa_get' {K : PySem.W.Frag} {F : Hp} : ∀ {vs : List V} {ds : List D} {i : Nat} {v : V}, DpAll K F vs ds → vs[i]? = some v → ∃ d, ds[i]? = some d ∧ Dp K F v d
  | [], [], _, _, .nil, e => by simp at e
  | v :: _, d :: _, 0, _, .cons a b, e => by
    simp at e
    subst e
    exact ⟨d, by simp, a⟩
  | _ :: _, _ :: _, i + 1, _, .cons a b, e => by
    obtain ⟨v, h1, h2⟩ := dpa_get' (i := i) b (by simpa using e)
    exact ⟨v, by simpa using h1, h2⟩
theorem dpa_drop {K : PySem.W.Frag} {F : Hp} : ∀ (n : Nat) {vs : List V} {ds : List D}, DpAll K F vs ds → DpAll K F (vs.drop n) (ds.drop n)
  | 0, _, _, h => h
  | _ + 1, _, _, .nil => .nil
  | n + 1, _, _, .cons _ b => dpa_drop n b
theorem dpa_take {K : PySem.W.Frag} {F : Hp} : ∀ (n : Nat) {vs : List V} {ds : List D}, DpAll K F vs ds → DpAll K F (vs.take n) (ds.take n)
  | 0, _, _, _ => .nil
  | _ + 1, _, _, .nil => .nil
  | n + 1, _, _, .cons a b => .cons a (dpa_take n b)
/-- what a view tells of the slots -/
def VwOk (K : PySem.W.Frag) (F : Hp) (σ : L2.St) (δ : Vw) : Prop := δ.length ≤ σ.length ∧ ∀ (i : Nat) (d : D), δ[i]? = some (some d) → ∃ v, σ[i]? = some (some v) ∧ Dp K F v d
theorem VwOk.mono {K : PySem.W.Frag} {F F' : Hp} {σ : L2.St} {δ : Vw} (h : VwOk K F σ δ) (e : Same F F') : VwOk K F' σ δ := ⟨h.1, fun i d q =>
  let ⟨v, a, b⟩ := h.2 i d q
  ⟨v, a, dp_mono e d b⟩⟩
/-- an exception, by its class's name and its field -/
def XV (K : PySem.W.Frag) (mg : Str → Option Value) (F : Hp) (c : Str) (p : Option D) (cls : Value) (od : Option Addr) : Prop :=
  ∃ C, mg c = some (.ref C) ∧ cls = .ref C ∧ match p with
    | none => od = none
    | some d => ∃ dx f v, od = some dx ∧ F dx = some (.xd [(f, v)]) ∧ xfield c = some f ∧ Dp K F v d
section
variable (X : Cx) (W : WX)
def EPost (F H : Hp) (σ : L2.St) (Q : VK) : R D → Prop
  | .ok d => ∀ v F' H', Ext F H F' H' → Dp X.K F' v d → Q v H'
  | .exc c p => ∀ cls od F' H', Ext F H F' H' → XV X.K X.mg F' c p cls od → W cls od σ H'
  | .bad => False
def BPost (F H : Hp) (σ : L2.St) (Q : Bool → Hp → Prop) : R Bool → Prop
  | .ok b => ∀ F' H', Ext F H F' H' → Q b H'
  | .exc c p => ∀ cls od F' H', Ext F H F' H' → XV X.K X.mg F' c p cls od → W cls od σ H'
  | .bad => False
def APost (F H : Hp) (σ : L2.St) (Q : List V → Hp → Prop) : R (List D) → Prop
  | .ok ds => ∀ vs F' H', Ext F H F' H' → DpAll X.K F' vs ds → Q vs H'
  | .exc c p => ∀ cls od F' H', Ext F H F' H' → XV X.K X.mg F' c p cls od → W cls od σ H'
  | .bad => False
def tM (m : M) : TE := fun σ H Q => ∃ F δ, Same F H ∧ VwOk X.K F σ δ ∧ EPost X W F H σ Q (m δ)
def tT (m : Vw → R Bool) : TT := fun σ H Q => ∃ F δ, Same F H ∧ VwOk X.K F σ δ ∧ BPost X W F H σ Q (m δ)
def tA (m : Vw → R (List D)) : TA := fun σ H Q => ∃ F δ, Same F H ∧ VwOk X.K F σ δ ∧ APost X W F H σ Q (m δ)
end
abbrev ME (X : Cx) (W : WX) (e : Expr) (m : M) : Prop := PE X e (tM X W m)
abbrev MT (X : Cx) (W : WX) (e : Expr) (m : Vw → R Bool) : Prop := PT X e (tT X W m)
abbrev MA (X : Cx) (W : WX) (es : List Expr) (m : Vw → R (List D)) : Prop := PA X es (tA X W m)
theorem PE.imp {X : Cx} {e : Expr} {t t' : TE} (h : PE X e t) (i : ∀ σ H Q, t' σ H Q → t σ H Q) : PE X e t' := ⟨fun pins s σ H Q I hw => h.run pins s σ H Q I (i _ _ _ hw)⟩
theorem PT.imp {X : Cx} {e : Expr} {t t' : TT} (h : PT X e t) (i : ∀ σ H Q, t' σ H Q → t σ H Q) : PT X e t' := ⟨fun pins s σ H Q I hw => h.run pins s σ H Q I (i _ _ _ hw)⟩
theorem PW.imp {X : Cx} {e : Expr} {t t' : TT} (h : PW X e t) (i : ∀ σ H Q, t' σ H Q → t σ H Q) : PW X e t' := ⟨fun wh pins s σ H Q I hw => h.run wh pins s σ H Q I (i _ _ _ hw)⟩
theorem PA.imp {X : Cx} {e : List Expr} {t t' : TA} (h : PA X e t) (i : ∀ σ H Q, t' σ H Q → t σ H Q) : PA X e t' := ⟨fun pos pins s σ H Q I hw => h.run pos pins s σ H Q I (i _ _ _ hw)⟩
theorem PS.imp {X : Cx} {e : Stmt} {t t' : TS} (h : PS X e t) (i : ∀ D σ H, t' D σ H → t D σ H) : PS X e t' := ⟨fun pins s σ H D I hw => h.run pins s σ H D I (i _ _ _ hw)⟩
theorem PSs.imp {X : Cx} {e : List Stmt} {t t' : TS} (h : PSs X e t) (i : ∀ D σ H, t' D σ H → t D σ H) : PSs X e t' := ⟨fun pins s σ H D I hw => h.run pins s σ H D I (i _ _ _ hw)⟩
/-! ### the bind of readings -/
section
variable {X : Cx} {W : WX} {F H : Hp} {σ : L2.St} {δ : Vw}
/-- a reading at a view, with what follows -/
theorem tM_bind {m : M} {f : D → R D} {Q : VK} {P : VK} (s : Same F H) (v : VwOk X.K F σ δ) (h : EPost X W F H σ Q ((m δ).bind f))
    (k : ∀ d x F' H', m δ = .ok d → Ext F H F' H' → Dp X.K F' x d → EPost X W F' H' σ Q (f d) → P x H') : tM X W m σ H P := by
  refine ⟨F, δ, s, v, ?_⟩
  cases e : m δ with
  | ok d =>
    rw [e] at h
    intro x F' H' E hx
    refine k d x F' H' e E hx ?_
    have h' : EPost X W F H σ Q (f d) := h
    cases e2 : f d with
    | ok d2 => rw [e2] at h'; exact fun v2 F2 H2 E2 hd => h' v2 F2 H2 (E.trans E2) hd
    | exc c p => rw [e2] at h'; exact fun cls od F2 H2 E2 hd => h' cls od F2 H2 (E.trans E2) hd
    | bad => rw [e2] at h'; exact h'
  | exc c p => rw [e] at h; exact h
  | bad => rw [e] at h; exact h
theorem tM_bindB {m : M} {f : D → R Bool} {Q : Bool → Hp → Prop} {P : VK} (s : Same F H) (v : VwOk X.K F σ δ) (h : BPost X W F H σ Q ((m δ).bind f))
    (k : ∀ d x F' H', m δ = .ok d → Ext F H F' H' → Dp X.K F' x d → BPost X W F' H' σ Q (f d) → P x H') : tM X W m σ H P := by
  refine ⟨F, δ, s, v, ?_⟩
  cases e : m δ with
  | ok d =>
    rw [e] at h
    intro x F' H' E hx
    refine k d x F' H' e E hx ?_
    have h' : BPost X W F H σ Q (f d) := h
    cases e2 : f d with
    | ok d2 => rw [e2] at h'; exact fun F2 H2 E2 => h' F2 H2 (E.trans E2)
    | exc c p => rw [e2] at h'; exact fun cls od F2 H2 E2 hd => h' cls od F2 H2 (E.trans E2) hd
    | bad => rw [e2] at h'; exact h'
  | exc c p => rw [e] at h; exact h
  | bad => rw [e] at h; exact h
theorem tT_bind {m : Vw → R Bool} {f : Bool → R D} {Q : VK} {P : Bool → Hp → Prop} (s : Same F H) (v : VwOk X.K F σ δ) (h : EPost X W F H σ Q ((m δ).bind f))
    (k : ∀ b F' H', Ext F H F' H' → EPost X W F' H' σ Q (f b) → P b H') : tT X W m σ H P := by
  refine ⟨F, δ, s, v, ?_⟩
  cases e : m δ with
  | ok d =>
    rw [e] at h
    intro F' H' E
    refine k d F' H' E ?_
    have h' : EPost X W F H σ Q (f d) := h
    cases e2 : f d with
    | ok d2 => rw [e2] at h'; exact fun v2 F2 H2 E2 hd => h' v2 F2 H2 (E.trans E2) hd
    | exc c p => rw [e2] at h'; exact fun cls od F2 H2 E2 hd => h' cls od F2 H2 (E.trans E2) hd
    | bad => rw [e2] at h'; exact h'
  | exc c p => rw [e] at h; exact h
  | bad => rw [e] at h; exact h
theorem tT_bindB {m : Vw → R Bool} {f : Bool → R Bool} {Q : Bool → Hp → Prop} {P : Bool → Hp → Prop} (s : Same F H) (v : VwOk X.K F σ δ) (h : BPost X W F H σ Q ((m δ).bind f))
    (k : ∀ b F' H', Ext F H F' H' → BPost X W F' H' σ Q (f b) → P b H') : tT X W m σ H P := by
  refine ⟨F, δ, s, v, ?_⟩
  cases e : m δ with
  | ok d =>
    rw [e] at h
    intro F' H' E
    refine k d F' H' E ?_
    have h' : BPost X W F H σ Q (f d) := h
    cases e2 : f d with
    | ok d2 => rw [e2] at h'; exact fun F2 H2 E2 => h' F2 H2 (E.trans E2)
    | exc c p => rw [e2] at h'; exact fun cls od F2 H2 E2 hd => h' cls od F2 H2 (E.trans E2) hd
    | bad => rw [e2] at h'; exact h'
  | exc c p => rw [e] at h; exact h
  | bad => rw [e] at h; exact h
theorem tA_bind {m : Vw → R (List D)} {f : List D → R D} {Q : VK} {P : List V → Hp → Prop} (s : Same F H) (v : VwOk X.K F σ δ) (h : EPost X W F H σ Q ((m δ).bind f))
    (k : ∀ ds xs F' H', m δ = .ok ds → Ext F H F' H' → DpAll X.K F' xs ds → EPost X W F' H' σ Q (f ds) → P xs H') : tA X W m σ H P := by
  refine ⟨F, δ, s, v, ?_⟩
  cases e : m δ with
  | ok d =>
    rw [e] at h
    intro x F' H' E hx
    refine k d x F' H' e E hx ?_
    have h' : EPost X W F H σ Q (f d) := h
    cases e2 : f d with
    | ok d2 => rw [e2] at h'; exact fun v2 F2 H2 E2 hd => h' v2 F2 H2 (E.trans E2) hd
    | exc c p => rw [e2] at h'; exact fun cls od F2 H2 E2 hd => h' cls od F2 H2 (E.trans E2) hd
    | bad => rw [e2] at h'; exact h'
  | exc c p => rw [e] at h; exact h
  | bad => rw [e] at h; exact h
end
/-! ### atoms -/
def mVar (i : Nat) : M := fun δ => match δ[i]? with
  | some (some d) => .ok d
  | _ => .bad
def mC (d : D) : M := fun _ => .ok d
section
variable {X : Cx} {W : WX} {pos : Pos}
theorem me_var {i : Nat} {x : Str} (hN : X.N[i]? = some x) (hv : Vis X.env.scope x) (hd : (x == ("__debug__" : Str)) = false) (hcd : (x == ("__classdict__" : Str)) = false) : ME X W (.Name x pos) (mVar i) := by
  refine PE.imp (pe_var hN hv hd hcd) fun σ H Q ⟨F, δ, s, v, h⟩ => ?_
  unfold mVar at h
  cases e : δ[i]? with
  | none => rw [e] at h; exact h.elim
  | some o =>
    cases o with
    | none => rw [e] at h; exact h.elim
    | some d =>
      rw [e] at h
      obtain ⟨u, hu, dp⟩ := v.2 i d e
      exact ⟨u, hu, h u F H (Ext.refl s) dp⟩
theorem me_c {e : Expr} {d : D} {x : V} (h : PE X e (tC x)) (hd : ∀ F, Dp X.K F x d) : ME X W e (mC d) := by
  refine PE.imp h fun σ H Q ⟨F, δ, s, v, h⟩ => ?_
  exact h x F H (Ext.refl s) (hd F)
theorem me_int {i j} : ME X W (.Constant (.int i) j pos) (mC (.int i)) := me_c pe_int fun _ => .int i
theorem me_bl {i j} : ME X W (.Constant (.bool i) j pos) (mC (.bool i)) := me_c pe_bl fun _ => .bl i
theorem me_str {i j} : ME X W (.Constant (.str i) j pos) (mC (.str i)) := me_c pe_str fun _ => .str i
theorem me_non {j} : ME X W (.Constant .none j pos) (mC .none) := me_c pe_non fun _ => .non
end
/-! ### operations on values -/
/-- f on data, read on values -/
def rD2 (K : PySem.W.Frag) (f : D → D → Option D) : R2 := fun x y H Q => ∃ F d1 d2 d, Same F H ∧ Dp K F x d1 ∧ Dp K F y d2 ∧ f d1 d2 = some d ∧ ∀ v F' H', Ext F H F' H' → Dp K F' v d → Q v H'
def rD1 (K : PySem.W.Frag) (f : D → Option D) : V → Hp → VK → Prop := fun x H Q => ∃ F d1 d, Same F H ∧ Dp K F x d1 ∧ f d1 = some d ∧ ∀ v F' H', Ext F H F' H' → Dp K F' v d → Q v H'
def rDs (K : PySem.W.Frag) (f : List D → Option D) : List V → Hp → VK → Prop := fun xs H Q => ∃ F ds d, Same F H ∧ DpAll K F xs ds ∧ f ds = some d ∧ ∀ v F' H', Ext F H F' H' → Dp K F' v d → Q v H'
def mBin (f : D → D → Option D) (a b : M) : M := fun δ => (a δ).bind fun x => (b δ).bind fun y => R.of (f x y)
def mUn (f : D → Option D) (a : M) : M := fun δ => (a δ).bind fun x => R.of (f x)
def mDs (f : List D → Option D) (a : Vw → R (List D)) : M := fun δ => (a δ).bind fun x => R.of (f x)
def mNil : Vw → R (List D) := fun _ => .ok []
def mCons (a : M) (r : Vw → R (List D)) : Vw → R (List D) := fun δ => (a δ).bind fun x => (r δ).bind fun y => .ok (x :: y)
section
variable {X : Cx} {W : WX} {pos : Pos} {a b : Expr} {ma mb : M}
theorem of_post {F H : Hp} {σ : L2.St} {Q : VK} {o : Option D} (h : EPost X W F H σ Q (R.of o)) : ∃ d, o = some d ∧ ∀ v F' H', Ext F H F' H' → Dp X.K F' v d → Q v H' := by
  cases o with
  | none => exact h.elim
  | some d => exact ⟨d, rfl, h⟩
theorem bin_tM {r : R2} {f : D → D → Option D} (hr : ∀ x y H Q, rD2 X.K f x y H Q → r x y H Q) {σ : L2.St} {H : Hp} {Q : VK} (h : tM X W (mBin f ma mb) σ H Q) : tOp r (tM X W ma) (tM X W mb) σ H Q := by
  obtain ⟨F, δ, s, v, h⟩ := h
  refine tM_bind s v h fun d x F1 H1 _ E hx h1 => ?_
  refine tM_bind E.s (v.mono E.f) h1 fun d2 y F2 H2 _ E2 hy h2 => ?_
  obtain ⟨d3, e, q⟩ := of_post h2
  exact hr _ _ _ _ ⟨F2, d, d2, d3, E2.s, dp_mono E2.f d hx, hy, e, q⟩
theorem me_op {op : Operator} {f : D → D → Option D} (ho : OpR X (binaryOp op) (rD2 X.K f)) (ha : ME X W a ma) (hb : ME X W b mb) : ME X W (.BinOp a op b pos) (mBin f ma mb) :=
  PE.imp (pe_op ho ha hb) fun _ _ _ h => bin_tM (fun _ _ _ _ z => z) h
theorem me_un {op : UnaryOp} {f : D → Option D} (ho : UnR X (unaryOp op) (rD1 X.K f)) (ha : ME X W a ma) : ME X W (.UnaryOp op a pos) (mUn f ma) := by
  refine PE.imp (pe_un ho ha) fun σ H Q ⟨F, δ, s, v, h⟩ => ?_
  refine tM_bind s v h fun d x F1 H1 _ E hx h1 => ?_
  obtain ⟨d3, e, q⟩ := of_post h1
  exact ⟨F1, d, d3, E.s, hx, e, q⟩
theorem me_cmp {op : CmpOp} {f : D → D → Option D} (ho : OpR X (compareOp op) (rD2 X.K f)) (ha : ME X W a ma) (hb : ME X W b mb) (hm : behindInMarks op b = false) : ME X W (.Compare a [op] [b] pos) (mBin f ma mb) :=
  PE.imp (pe_cmpR ho ha hb hm) fun _ _ _ h => bin_tM (fun _ _ _ _ z => z) h
theorem me_ix {f : D → D → Option D} {r : R2} (hr : IxR X r) (hf : ∀ x y H Q, rD2 X.K f x y H Q → r x y H Q) (ha : ME X W a ma) (hb : ME X W b mb) (hs : PlainIx b) : ME X W (.Subscript a b pos) (mBin f ma mb) :=
  PE.imp (pe_ix hr ha hb hs) fun _ _ _ h => bin_tM hf h
/-! ### arguments, displays -/
theorem ma_nil : MA X W [] mNil := PA.imp pa_nil fun σ H Q ⟨F, δ, s, v, h⟩ => h [] F H (Ext.refl s) .nil
theorem ma_cons {es : List Expr} {mr : Vw → R (List D)} (ha : ME X W a ma) (hr : MA X W es mr) (hs : starEach (a :: es) X.env = (false, eval a X.env) :: starEach es X.env) : MA X W (a :: es) (mCons ma mr) := by
  refine PA.imp (pa_cons ha hr hs) fun σ H Q ⟨F, δ, s, v, h⟩ => ?_
  refine ⟨F, δ, s, v, ?_⟩
  unfold mCons at h
  cases e : ma δ with
  | ok d =>
    rw [e] at h
    intro x F1 H1 E hx
    refine ⟨F1, δ, E.s, v.mono E.f, ?_⟩
    cases e2 : mr δ with
    | ok ds =>
      rw [R.bind_ok, e2] at h
      intro xs F2 H2 E2 hxs
      exact h (x :: xs) F2 H2 (E.trans E2) (.cons (dp_mono E2.f d hx) hxs)
    | exc c p => rw [R.bind_ok, e2] at h; exact fun cls od F2 H2 E2 hd => h cls od F2 H2 (E.trans E2) hd
    | bad => rw [R.bind_ok, e2] at h; exact h
  | exc c p => rw [e] at h; exact h
  | bad => rw [e] at h; exact h
/-- the longest list, tuple, text -/
def most : Nat := 16777216
theorem most_eq : most = sizeLine := by rw [sizeLine_eq]; rfl
theorem most_le {n : Nat} (h : n ≤ most) : n ≤ sizeLine := by rw [← most_eq]; exact h
def dTup (ds : List D) : Option D := if ds.length ≤ most then some (.tuple ds) else none
def dLst (ds : List D) : Option D := if ds.length ≤ most then some (.list ds) else none
theorem me_tup {es : List Expr} {m : Vw → R (List D)} {k} (h : MA X W es m) : ME X W (.Tuple es k pos) (mDs dTup m) := by
  refine PE.imp (pe_tup h) fun σ H Q ⟨F, δ, s, v, h⟩ => ?_
  refine tA_bind s v h fun ds xs F1 H1 _ E hx h1 => ?_
  obtain ⟨d3, e, q⟩ := of_post h1
  unfold dTup at e
  split at e
  · rename_i hl
    cases e
    refine ⟨by rw [dpa_len hx]; exact most_le hl, fun p hp => ?_⟩
    have E2 := Ext.new (o := .tup xs) E.s hp
    exact q _ _ _ E2 (.tup (SqT.of upd_same) (dpa_mono E2.f _ hx))
  · cases e
theorem me_lst {es : List Expr} {m : Vw → R (List D)} (h : MA X W es m) : ME X W (.List es pos) (mDs dLst m) := by
  refine PE.imp (pe_lst h) fun σ H Q ⟨F, δ, s, v, h⟩ => ?_
  refine tA_bind s v h fun ds xs F1 H1 _ E hx h1 => ?_
  obtain ⟨d3, e, q⟩ := of_post h1
  unfold dLst at e
  split at e
  · rename_i hl
    cases e
    refine ⟨by rw [dpa_len hx]; exact most_le hl, fun p hp => ?_⟩
    have E2 := Ext.new (o := .lst xs) E.s hp
    exact q _ _ _ E2 (.lst (SqL.of upd_same) (dpa_mono E2.f _ hx))
  · cases e
end
/-! ### truth, tests -/
def truthD : D → Option Bool
  | .none => some false
  | .bool b => some b
  | .int i => some (i != 0)
  | .str s => if s.length ≤ most then some ((s.length : Int) != 0) else none
  | .list xs => some (!xs.isEmpty)
  | .tuple xs => some (!xs.isEmpty)
  | .dict _ => none
theorem dpall_empty {K : PySem.W.Frag} {F : Hp} {vs : List V} {ds : List D} (h : DpAll K F vs ds) : vs.isEmpty = ds.isEmpty := by
  cases h <;> rfl
theorem truth_ok {K : PySem.W.Frag} {F H : Hp} {x : V} {d : D} {b : Bool} (s : Same F H) (h : Dp K F x d) (e : truthD d = some b) : TruV K x H b := by
  cases h with
  | non => exact (Option.some.inj e).symm
  | bl c => exact (Option.some.inj e).symm
  | int i => exact (Option.some.inj e).symm
  | str z =>
    unfold truthD at e
    dsimp only at e
    split at e
    · rename_i hl
      exact ⟨most_le hl, (Option.some.inj e).symm⟩
    · cases e
  | lst q r =>
    refine .inl ⟨_, s.seq q, ?_⟩
    rw [dpall_empty r]
    exact (Option.some.inj e).symm
  | tup q r =>
    refine .inr (.inl ⟨_, same_t s q, ?_⟩)
    rw [dpall_empty r]
    exact (Option.some.inj e).symm
  | exc c a => cases e
  | excF c a b f v => cases e
  | dct0 a => cases e
def mTru (m : M) : Vw → R Bool := fun δ => (m δ).bind fun d => R.of (truthD d)
def mNot (t : Vw → R Bool) : Vw → R Bool := fun δ => (t δ).bind fun b => .ok (!b)
def mAndT (t u : Vw → R Bool) : Vw → R Bool := fun δ => (t δ).bind fun b => if b = true then u δ else .ok false
def mOrT (t u : Vw → R Bool) : Vw → R Bool := fun δ => (t δ).bind fun b => if b = true then .ok true else u δ
/-- a test as a value -/
def mTV (t : Vw → R Bool) : M := fun δ => (t δ).bind fun b => .ok (.bool b)
def mAndV (a b : M) : M := fun δ => (a δ).bind fun x => (R.of (truthD x)).bind fun k => if k = true then b δ else .ok x
def mOrV (a b : M) : M := fun δ => (a δ).bind fun x => (R.of (truthD x)).bind fun k => if k = true then .ok x else b δ
def mIf (t : Vw → R Bool) (a b : M) : M := fun δ => (t δ).bind fun k => if k = true then a δ else b δ
section
variable {X : Cx} {W : WX} {pos : Pos} {a b c : Expr} {ma mb : M} {t u : Vw → R Bool}
theorem of_postB {F H : Hp} {σ : L2.St} {Q : Bool → Hp → Prop} {o : Option Bool} (h : BPost X W F H σ Q (R.of o)) : ∃ d, o = some d ∧ ∀ F' H', Ext F H F' H' → Q d H' := by
  cases o with
  | none => exact h.elim
  | some d => exact ⟨d, rfl, h⟩
theorem mt_tru (ha : ME X W a ma) (he : ∀ whole, isTrue a X.env whole = (do let v ← whole; standAt a.pos; holding [v] (truthy v))) : MT X W a (mTru ma) := by
  refine PT.imp (pt_truth ha he) fun σ H Q ⟨F, δ, s, v, h⟩ => ?_
  refine tM_bindB s v h fun d x F1 H1 _ E hx h1 => ?_
  obtain ⟨k, e, q⟩ := of_postB h1
  exact ⟨k, truth_ok E.s hx e, q F1 H1 (Ext.refl E.s)⟩
theorem mt_cmp {op : CmpOp} {f : D → D → Option D} (ho : OpR X (compareOp op) (rD2 X.K f)) (hb' : ∀ x y d, f x y = some d → ∃ z : Bool, d = .bool z) (ha : ME X W a ma) (hb : ME X W b mb) (hm : behindInMarks op b = false) : MT X W (.Compare a [op] [b] pos) (mTru (mBin f ma mb)) := by
  refine PT.imp (pt_cmpR ho ha hb hm) fun σ H Q ⟨F, δ, s, v, h⟩ => ?_
  refine bin_tM (X := X) (W := W) (fun _ _ _ _ z => z) ?_
  refine tM_bindB s v h fun d x F1 H1 e E hx h1 => ?_
  obtain ⟨k, e2, q⟩ := of_postB h1
  have : ∃ z : Bool, d = .bool z := by
    unfold mBin at e
    cases e3 : ma δ with
    | ok d1 =>
      rw [e3, R.bind_ok] at e
      cases e4 : mb δ with
      | ok d2 =>
        rw [e4, R.bind_ok] at e
        cases e5 : f d1 d2 with
        | none => rw [e5] at e; cases e
        | some z => rw [e5] at e; cases e; exact hb' _ _ _ e5
      | exc c p => rw [e4] at e; cases e
      | bad => rw [e4] at e; cases e
    | exc c p => rw [e3] at e; cases e
    | bad => rw [e3] at e; cases e
  obtain ⟨b0, rfl⟩ := this
  cases hx
  cases e2
  exact ⟨k, rfl, q F1 H1 (Ext.refl E.s)⟩
theorem mt_not (ha : MT X W a t) : MT X W (.UnaryOp .Not a pos) (mNot t) := by
  refine PT.imp (pt_not ha) fun σ H Q ⟨F, δ, s, v, h⟩ => ?_
  refine tT_bindB s v h fun b F1 H1 E h1 => h1 F1 H1 (Ext.refl E.s)
theorem mw_and1 (ha : MT X W a t) : PW X (.BoolOp .And [a] pos) (tT X W t) := pw_and1 ha
theorem mw_or1 (ha : MT X W a t) : PW X (.BoolOp .Or [a] pos) (tT X W t) := pw_or1 ha
theorem mw_and {rest : List Expr} (ha : MT X W a t) (hb : PW X (.BoolOp .And (b :: rest) pos) (tT X W u)) : PW X (.BoolOp .And (a :: b :: rest) pos) (tT X W (mAndT t u)) := by
  refine PW.imp (pw_and ha hb) fun σ H Q ⟨F, δ, s, v, h⟩ => ?_
  refine tT_bindB s v h fun k F1 H1 E h1 => ?_
  cases k with
  | true => exact ⟨F1, δ, E.s, v.mono E.f, h1⟩
  | false => exact h1 F1 H1 (Ext.refl E.s)
theorem mw_or {rest : List Expr} (ha : MT X W a t) (hb : PW X (.BoolOp .Or (b :: rest) pos) (tT X W u)) : PW X (.BoolOp .Or (a :: b :: rest) pos) (tT X W (mOrT t u)) := by
  refine PW.imp (pw_or ha hb) fun σ H Q ⟨F, δ, s, v, h⟩ => ?_
  refine tT_bindB s v h fun k F1 H1 E h1 => ?_
  cases k with
  | false => exact ⟨F1, δ, E.s, v.mono E.f, h1⟩
  | true => exact h1 F1 H1 (Ext.refl E.s)
/-! values -/
theorem me_one {op} (h : ME X W a ma) : ME X W (.BoolOp op [a] pos) ma := pe_one h
theorem me_and {rest : List Expr} (ha : ME X W a ma) (hb : ME X W (.BoolOp .And (b :: rest) pos) mb) : ME X W (.BoolOp .And (a :: b :: rest) pos) (mAndV ma mb) := by
  refine PE.imp (pe_andT ha hb) fun σ H Q ⟨F, δ, s, v, h⟩ => ?_
  refine tM_bind s v h fun d x F1 H1 _ E hx h1 => ?_
  cases e : truthD d with
  | none => rw [e] at h1; exact h1.elim
  | some k =>
    rw [e] at h1
    refine ⟨k, truth_ok E.s hx e, ?_⟩
    cases k with
    | true => exact ⟨F1, δ, E.s, v.mono E.f, h1⟩
    | false => exact h1 x F1 H1 (Ext.refl E.s) hx
theorem me_or {rest : List Expr} (ha : ME X W a ma) (hb : ME X W (.BoolOp .Or (b :: rest) pos) mb) : ME X W (.BoolOp .Or (a :: b :: rest) pos) (mOrV ma mb) := by
  refine PE.imp (pe_orT ha hb) fun σ H Q ⟨F, δ, s, v, h⟩ => ?_
  refine tM_bind s v h fun d x F1 H1 _ E hx h1 => ?_
  cases e : truthD d with
  | none => rw [e] at h1; exact h1.elim
  | some k =>
    rw [e] at h1
    refine ⟨k, truth_ok E.s hx e, ?_⟩
    cases k with
    | false => exact ⟨F1, δ, E.s, v.mono E.f, h1⟩
    | true => exact h1 x F1 H1 (Ext.refl E.s) hx
def mNotV (a : M) : M := fun δ => (a δ).bind fun x => (R.of (truthD x)).bind fun k => .ok (.bool (!k))
theorem me_not (ha : ME X W a ma) : ME X W (.UnaryOp .Not a pos) (mNotV ma) := by
  refine PE.imp (pe_notT ha) fun σ H Q ⟨F, δ, s, v, h⟩ => ?_
  refine tM_bind s v h fun d x F1 H1 _ E hx h1 => ?_
  cases e : truthD d with
  | none => rw [e] at h1; exact h1.elim
  | some k =>
    rw [e] at h1
    exact ⟨k, truth_ok E.s hx e, h1 (.bl (!k)) F1 H1 (Ext.refl E.s) (.bl _)⟩
theorem me_if (hc : MT X W c t) (ha : ME X W a ma) (hb : ME X W b mb) : ME X W (.IfExp c a b pos) (mIf t ma mb) := by
  refine PE.imp (pe_ifExp hc ha hb) fun σ H Q ⟨F, δ, s, v, h⟩ => ?_
  refine tT_bind s v h fun k F1 H1 E h1 => ?_
  cases k with
  | true => exact ⟨F1, δ, E.s, v.mono E.f, h1⟩
  | false => exact ⟨F1, δ, E.s, v.mono E.f, h1⟩
end
end MI
set_option Elab.async false
set_option linter.all false
set_option maxRecDepth 100000
set_option maxHeartbeats 4000000
/-! MI2: statements over cells; defs. -/
namespace MI
open PySem PySem.Spec PyProof.Rows L2
/-- a slot: nothing, data that stands frozen, a list that this def alone holds -/
inductive Cell where
  | un
  | dat (d : D)
  | own (ds : List D)
abbrev Ce := List Cell
inductive Out where
  | nx (g : Ce)
  | rt (d : D)
  | bk (g : Ce)
  | ct (g : Ce)
  | ex (c : Str) (p : Option D) (g : Ce)
  | bad
abbrev S := Ce → Out
def Cell.vd : Cell → Option D
  | .dat d => some d
  | _ => none
def Cell.va : Cell → Option D
  | .dat d => some d
  | .own ds => some (.list ds)
  | .un => none
def vd (g : Ce) : Vw := g.map Cell.vd
def va (g : Ce) : Vw := g.map Cell.va
mutual
/-- no list within -/
def flat : D → Bool
  | .list _ => false
  | .dict ((.none, _) :: _) => true
  | .dict _ => false
  | .tuple ds => flatL ds
  | _ => true
def flatL : List D → Bool
  | [] => true
  | d :: ds => flat d && flatL ds
end
def flatO : Option D → Bool
  | none => true
  | some d => flat d
/-- frozen: F0, F; tracked: H0 (the def's entry), H -/
structure StOk (K : PySem.W.Frag) (F0 H0 F H : Hp) (σ : L2.St) (g : Ce) : Prop where
  e : Ext F0 H0 F H
  len : σ.length = g.length
  dat : ∀ (i : Nat) (d : D), g[i]? = some (.dat d) → ∃ v, σ[i]? = some (some v) ∧ Dp K F v d
  own : ∀ (i : Nat) (ds : List D), g[i]? = some (.own ds) → ∃ a xs, σ[i]? = some (some (.ref a)) ∧ H a = some (.lst xs) ∧ F a = none ∧ H0 a = none ∧ DpAll K F xs ds
  inj : ∀ (i j : Nat) (ds es : List D) (a : Addr), g[i]? = some (.own ds) → g[j]? = some (.own es) → σ[i]? = some (some (.ref a)) → σ[j]? = some (some (.ref a)) → i = j
section
variable {K : PySem.W.Frag} {F0 H0 F H F' H' : Hp} {σ : L2.St} {g : Ce}
theorem Ext.new_none (E : Ext F H F' H') {a : Addr} {o : HO} (hf : F a = none) (hh : H a = some o) : F' a = none := by
  cases q : F' a with
  | none => rfl
  | some o' =>
    have := E.n a o' q hf
    rw [hh] at this
    cases this
theorem StOk.mono (ok : StOk K F0 H0 F H σ g) (E : Ext F H F' H') : StOk K F0 H0 F' H' σ g :=
  ⟨ok.e.trans E, ok.len, fun i d q => let ⟨v, a, b⟩ := ok.dat i d q; ⟨v, a, dp_mono E.f d b⟩,
    fun i ds q => let ⟨a, xs, h1, h2, h3, h4, h5⟩ := ok.own i ds q; ⟨a, xs, h1, E.h _ _ h2, E.new_none h3 h2, h4, dpa_mono E.f ds h5⟩, ok.inj⟩
theorem StOk.vd (ok : StOk K F0 H0 F H σ g) : VwOk K F σ (vd g) := by
  refine ⟨by unfold MI.vd; rw [List.length_map]; exact Nat.le_of_eq ok.len.symm, ?_⟩
  intro i d q
  unfold MI.vd at q
  rw [List.getElem?_map] at q
  cases e : g[i]? with
  | none => rw [e] at q; cases q
  | some c =>
    rw [e] at q
    cases c with
    | un => cases q
    | dat d' => cases q; exact ok.dat i d e
    | own ds => cases q
/-- an address of an own list -/
def Own (σ : L2.St) (g : Ce) (a : Addr) : Prop := ∃ (i : Nat) (ds : List D), g[i]? = some (Cell.own ds) ∧ σ[i]? = some (some (V.ref a))
open Classical in
noncomputable def frz (F H : Hp) (σ : L2.St) (g : Ce) : Hp := fun a => if Own σ g a then H a else F a
open Classical in
noncomputable def thw (F' : Hp) (σ : L2.St) (g : Ce) : Hp := fun a => if Own σ g a then none else F' a
theorem frz_own {a : Addr} (h : Own σ g a) : frz F H σ g a = H a := by unfold frz; rw [if_pos h]
theorem frz_not {a : Addr} (h : ¬ Own σ g a) : frz F H σ g a = F a := by unfold frz; rw [if_neg h]
theorem thw_own {a : Addr} (h : Own σ g a) : thw F σ g a = none := by unfold thw; rw [if_pos h]
theorem thw_not {a : Addr} (h : ¬ Own σ g a) : thw F σ g a = F a := by unfold thw; rw [if_neg h]
theorem StOk.ownAt (ok : StOk K F0 H0 F H σ g) {a : Addr} (h : Own σ g a) : ∃ xs, H a = some (.lst xs) ∧ F a = none ∧ H0 a = none := by
  obtain ⟨i, ds, h1, h2⟩ := h
  obtain ⟨b, xs, q1, q2, q3, q4, _⟩ := ok.own i ds h1
  rw [h2] at q1
  cases q1
  exact ⟨xs, q2, q3, q4⟩
theorem StOk.frzF (ok : StOk K F0 H0 F H σ g) : Same F (frz F H σ g) := fun a o e => by
  by_cases h : Own σ g a
  · obtain ⟨_, _, q, _⟩ := ok.ownAt h
    rw [q] at e; cases e
  · rw [frz_not h]; exact e
theorem StOk.frzH (ok : StOk K F0 H0 F H σ g) : Same (frz F H σ g) H := fun a o e => by
  by_cases h : Own σ g a
  · rw [frz_own h] at e; exact e
  · rw [frz_not h] at e; exact ok.e.s _ _ e
theorem StOk.va (ok : StOk K F0 H0 F H σ g) : VwOk K (frz F H σ g) σ (va g) := by
  refine ⟨by unfold MI.va; rw [List.length_map]; exact Nat.le_of_eq ok.len.symm, ?_⟩
  intro i d q
  unfold MI.va at q
  rw [List.getElem?_map] at q
  cases e : g[i]? with
  | none => rw [e] at q; cases q
  | some c =>
    rw [e] at q
    cases c with
    | un => cases q
    | dat d' => cases q; exact let ⟨v, a, b⟩ := ok.dat i d e; ⟨v, a, dp_mono ok.frzF d b⟩
    | own ds =>
      cases q
      obtain ⟨a, xs, h1, h2, h3, h4, h5⟩ := ok.own i ds e
      refine ⟨_, h1, .lst (.inl (.inl ?_)) (dpa_mono ok.frzF ds h5)⟩
      rw [frz_own ⟨i, ds, e, h1⟩]
      exact h2
mutual
theorem dp_flat' {K : PySem.W.Frag} {F G : Hp} (h : ∀ a o, F a = some o → (∀ xs, o ≠ .lst xs) → (∀ kvs, o ≠ .dK kvs) → G a = some o) : ∀ {v : V} {d : D}, Dp K F v d → flat d = true → Dp K G v d
  | _, _, .non, _ => .non
  | _, _, .bl b, _ => .bl b
  | _, _, .int i, _ => .int i
  | _, _, .str z, _ => .str z
  | _, _, .lst a b, f => by unfold flat at f; cases f
  | _, _, .tup a b, f => by
    unfold flat at f
    refine .tup ?_ (dpa_flat' h b f)
    rcases a with (a | ⟨o, a⟩) | a
    · exact .inl (.inl (h _ _ a (by intro xs e; cases e) (by intro xs e; cases e)))
    · exact .inl (.inr ⟨o, h _ _ a (by intro xs e; cases e) (by intro xs e; cases e)⟩)
    · exact .inr a
  | _, _, .exc c a, _ => .exc c (h _ _ a (by intro xs e; cases e) (by intro xs e; cases e))
  | _, _, .excF c a b f v, _ => .excF c (h _ _ a (by intro xs e; cases e) (by intro xs e; cases e)) (h _ _ b (by intro xs e; cases e) (by intro xs e; cases e)) f v
  | _, _, .dct0 a, f => by unfold flat at f; cases f
theorem dpa_flat' {K : PySem.W.Frag} {F G : Hp} (h : ∀ a o, F a = some o → (∀ xs, o ≠ .lst xs) → (∀ kvs, o ≠ .dK kvs) → G a = some o) : ∀ {vs : List V} {ds : List D}, DpAll K F vs ds → flatL ds = true → DpAll K G vs ds
  | _, _, .nil, _ => .nil
  | _, _, .cons a b, f => by
    unfold flatL at f
    rw [Bool.and_eq_true] at f
    exact .cons (dp_flat' h a f.1) (dpa_flat' h b f.2)
end
theorem dp_flat {F G : Hp} (h : ∀ a o, F a = some o → (∀ xs, o ≠ .lst xs) → G a = some o) (d : D) {v : V} (a : Dp K F v d) (f : flat d = true) : Dp K G v d := dp_flat' (fun a o e n _ => h a o e n) a f
theorem StOk.thwOk (ok : StOk K F0 H0 F H σ g) (E : Ext (frz F H σ g) H F' H') : StOk K F0 H0 (thw F' σ g) H' σ g := by
  have fF : Same F (thw F' σ g) := fun a o e => by
    have hn : ¬ Own σ g a := fun h => by
      obtain ⟨_, _, q, _⟩ := ok.ownAt h
      rw [q] at e; cases e
    rw [thw_not hn]
    exact E.f _ _ (by rw [frz_not hn]; exact e)
  have tF : Same (thw F' σ g) F' := fun a o e => by
    by_cases h : Own σ g a
    · rw [thw_own h] at e; cases e
    · rw [thw_not h] at e; exact e
  refine ⟨⟨ok.e.f.trans fF, ok.e.h.trans E.h, tF.trans E.s, fun a o e n => ?_⟩, ok.len, fun i d q => let ⟨v, a, b⟩ := ok.dat i d q; ⟨v, a, dp_mono fF d b⟩, fun i ds q => ?_, ok.inj⟩
  · have hn : ¬ Own σ g a := fun h => by rw [thw_own h] at e; cases e
    rw [thw_not hn] at e
    cases q : frz F H σ g a with
    | some u =>
      rw [frz_not hn] at q
      exact ok.e.n a u q n
    | none => exact ok.e.h.free (E.n a o e q)
  · obtain ⟨a, xs, h1, h2, h3, h4, h5⟩ := ok.own i ds q
    exact ⟨a, xs, h1, E.h _ _ h2, thw_own ⟨i, ds, q, h1⟩, h4, dpa_mono fF ds h5⟩
theorem StOk.thwKeep (ok : StOk K F0 H0 F H σ g) (E : Ext (frz F H σ g) H F' H') : ∀ a o, F' a = some o → (∀ xs, o ≠ .lst xs) → thw F' σ g a = some o := fun a o e n => by
  have hn : ¬ Own σ g a := fun h => by
    obtain ⟨xs, q, _, _⟩ := ok.ownAt h
    have : F' a = some (.lst xs) := E.f _ _ (by rw [frz_own h]; exact q)
    rw [this] at e
    cases e
    exact n xs rfl
  rw [thw_not hn]
  exact e
theorem xv_flat {mg : Str → Option Value} {G : Hp} {c : Str} {p : Option D} {cls : Value} {od : Option Addr} (x : XV K mg F c p cls od) (f : flatO p = true) (h : ∀ a o, F a = some o → (∀ xs, o ≠ .lst xs) → G a = some o) : XV K mg G c p cls od := by
  obtain ⟨C, h1, h2, h3⟩ := x
  refine ⟨C, h1, h2, ?_⟩
  cases p with
  | none => exact h3
  | some d =>
    obtain ⟨dx, fl, v, q1, q2, q3, q4⟩ := h3
    exact ⟨dx, fl, v, q1, h _ _ q2 (by intro xs e; cases e), q3, dp_flat h d q4 f⟩
theorem StOk.set (ok : StOk K F0 H0 F H σ g) {i : Nat} {v : V} {d : D} (h : Dp K F v d) : StOk K F0 H0 F H (σ.set i (some v)) (g.set i (.dat d)) := by
  refine ⟨ok.e, by simpa using ok.len, fun j d' q => ?_, fun j ds q => ?_, fun j k ds es a q1 q2 q3 q4 => ?_⟩
  · rw [List.getElem?_set] at q ⊢
    by_cases e : i = j
    · subst e
      rw [if_pos rfl] at q ⊢
      by_cases l : i < g.length
      · rw [if_pos l] at q
        rw [if_pos (by rw [ok.len]; exact l)]
        cases q
        exact ⟨v, rfl, h⟩
      · rw [if_neg l] at q; cases q
    · rw [if_neg e] at q ⊢
      exact ok.dat j d' q
  · rw [List.getElem?_set] at q ⊢
    by_cases e : i = j
    · subst e
      rw [if_pos rfl] at q
      split at q <;> cases q
    · rw [if_neg e] at q ⊢
      exact ok.own j ds q
  · rw [List.getElem?_set] at q1 q2 q3 q4
    by_cases e : i = j
    · subst e
      rw [if_pos rfl] at q1
      split at q1 <;> cases q1
    · by_cases e2 : i = k
      · subst e2
        rw [if_pos rfl] at q2
        split at q2 <;> cases q2
      · rw [if_neg e] at q1 q3
        rw [if_neg e2] at q2 q4
        exact ok.inj j k ds es a q1 q2 q3 q4
/-- a list that nobody else holds -/
theorem StOk.setOwn (ok : StOk K F0 H0 F H σ g) {i : Nat} {a : Addr} {xs : List V} {ds : List D} (h : DpAll K F xs ds) (hH : H a = some (.lst xs)) (hF : F a = none) (h0 : H0 a = none) (ho : ∀ j es, j ≠ i → g[j]? = some (.own es) → σ[j]? ≠ some (some (.ref a))) :
    StOk K F0 H0 F H (σ.set i (some (.ref a))) (g.set i (.own ds)) := by
  refine ⟨ok.e, by simpa using ok.len, fun j d' q => ?_, fun j es q => ?_, fun j k ds' es b q1 q2 q3 q4 => ?_⟩
  · rw [List.getElem?_set] at q ⊢
    by_cases e : i = j
    · subst e
      rw [if_pos rfl] at q
      split at q <;> cases q
    · rw [if_neg e] at q ⊢
      exact ok.dat j d' q
  · rw [List.getElem?_set] at q ⊢
    by_cases e : i = j
    · subst e
      rw [if_pos rfl] at q ⊢
      by_cases l : i < g.length
      · rw [if_pos l] at q
        rw [if_pos (by rw [ok.len]; exact l)]
        cases q
        exact ⟨a, xs, rfl, hH, hF, h0, h⟩
      · rw [if_neg l] at q; cases q
    · rw [if_neg e] at q ⊢
      exact ok.own j es q
  · rw [List.getElem?_set] at q1 q2 q3 q4
    by_cases e : i = j
    · subst e
      by_cases e2 : i = k
      · exact e2
      · rw [if_neg e2] at q2 q4
        rw [if_pos rfl] at q3
        split at q3
        · cases q3
          exact absurd q4 (ho k es (Ne.symm e2) q2)
        · cases q3
    · by_cases e2 : i = k
      · subst e2
        rw [if_neg e] at q1 q3
        rw [if_pos rfl] at q4
        split at q4
        · cases q4
          exact absurd q3 (ho j ds' (Ne.symm e) q1)
        · cases q4
      · rw [if_neg e] at q1 q3
        rw [if_neg e2] at q2 q4
        exact ok.inj j k ds' es b q1 q2 q3 q4
/-- new ground for a part: what is frozen now stays -/
theorem StOk.base (ok : StOk K F0 H0 F H σ g) : StOk K F H0 F H σ g :=
  ⟨⟨Same.refl F, ok.e.h, ok.e.s, fun a o e n => by rw [n] at e; cases e⟩, ok.len, ok.dat, ok.own, ok.inj⟩
theorem Ext.back (b : Ext F0 H0 F H) (a : Ext F H0 F' H') : Ext F0 H0 F' H' :=
  ⟨b.f.trans a.f, a.h, a.s, fun x o e n => by
    cases q : F x with
    | some u => exact b.n x u q n
    | none => exact a.n x o e q⟩
theorem StOk.back {σ' : L2.St} {g' : Ce} (b : Ext F0 H0 F H) (ok : StOk K F H0 F' H' σ' g') : StOk K F0 H0 F' H' σ' g' :=
  ⟨b.back ok.e, ok.len, ok.dat, ok.own, ok.inj⟩
end
section
variable (K : PySem.W.Frag) (mg : Str → Option Value) (W : WX)
def SPost (F0 H0 : Hp) (D : Ends) : Out → Prop
  | .nx g => ∀ F H σ, StOk K F0 H0 F H σ g → D.nx σ H
  | .rt d => ∀ v F H, Ext F0 H0 F H → Dp K F v d → D.rt v H
  | .bk g => ∀ F H σ, StOk K F0 H0 F H σ g → D.bk σ H
  | .ct g => ∀ F H σ, StOk K F0 H0 F H σ g → D.ct σ H
  | .ex c p g => ∀ cls od F H σ, StOk K F0 H0 F H σ g → XV K mg F c p cls od → W cls od σ H
  | .bad => False
def tS (m : S) : TS := fun D σ H => ∃ F0 H0 F g, StOk K F0 H0 F H σ g ∧ SPost K mg W F0 H0 D (m g)
end
section
variable {K : PySem.W.Frag} {mg : Str → Option Value} {W : WX} {F0 H0 F H : Hp} {D D' : Ends} {o : Out}
theorem SPost.base (b : Ext F0 H0 F H) (h : SPost K mg W F0 H0 D o) : SPost K mg W F H0 D o := by
  cases o with
  | nx g => exact fun F' H' σ ok => h F' H' σ (ok.back b)
  | rt d => exact fun v F' H' e q => h v F' H' (b.back e) q
  | bk g => exact fun F' H' σ ok => h F' H' σ (ok.back b)
  | ct g => exact fun F' H' σ ok => h F' H' σ (ok.back b)
  | ex c p g => exact fun cls od F' H' σ ok x => h cls od F' H' σ (ok.back b) x
  | bad => exact h
end
abbrev MS (X : Cx) (W : WX) (st : Stmt) (m : S) : Prop := PS X st (tS X.K X.mg W m)
abbrev MSs (X : Cx) (W : WX) (st : List Stmt) (m : S) : Prop := PSs X st (tS X.K X.mg W m)
/-! ### an expression within a statement -/
/-- what an expression told, to what follows; g: the cells, if it raised -/
def R.to {α : Type} (x : R α) (g : Ce) (k : α → Out) : Out := match x with
  | .ok a => k a
  | .exc c p => if flatO p = true then .ex c p g else .bad
  | .bad => .bad
section
variable {X : Cx} {W : WX} {F0 H0 F H : Hp} {σ : L2.St} {g : Ce} {D : Ends}
theorem ev_vd {m : M} {k : MI.D → Out} {Q : VK} (ok : StOk X.K F0 H0 F H σ g) (h : SPost X.K X.mg W F0 H0 D ((m (vd g)).to g k))
    (q : ∀ d v F' H', m (vd g) = .ok d → StOk X.K F0 H0 F' H' σ g → Dp X.K F' v d → SPost X.K X.mg W F0 H0 D (k d) → Q v H') : tM X W m σ H Q := by
  refine ⟨F, vd g, ok.e.s, ok.vd, ?_⟩
  cases e : m (vd g) with
  | ok d => rw [e] at h; exact fun v F' H' E hd => q d v F' H' e (ok.mono E) hd h
  | exc c p =>
    rw [e] at h
    unfold R.to at h
    dsimp only at h
    split at h
    · exact fun cls od F' H' E x => h cls od F' H' σ (ok.mono E) x
    · exact h.elim
  | bad => rw [e] at h; exact h
theorem evA_vd {m : Vw → R (List MI.D)} {k : List MI.D → Out} {Q : List V → Hp → Prop} (ok : StOk X.K F0 H0 F H σ g) (h : SPost X.K X.mg W F0 H0 D ((m (vd g)).to g k))
    (q : ∀ ds vs F' H', m (vd g) = .ok ds → StOk X.K F0 H0 F' H' σ g → DpAll X.K F' vs ds → SPost X.K X.mg W F0 H0 D (k ds) → Q vs H') : tA X W m σ H Q := by
  refine ⟨F, vd g, ok.e.s, ok.vd, ?_⟩
  cases e : m (vd g) with
  | ok d => rw [e] at h; exact fun v F' H' E hd => q d v F' H' e (ok.mono E) hd h
  | exc c p =>
    rw [e] at h
    unfold R.to at h
    dsimp only at h
    split at h
    · exact fun cls od F' H' E x => h cls od F' H' σ (ok.mono E) x
    · exact h.elim
  | bad => rw [e] at h; exact h
theorem ev_va {m : M} {k : MI.D → Out} {Q : VK} (ok : StOk X.K F0 H0 F H σ g) (h : SPost X.K X.mg W F0 H0 D ((m (va g)).to g k))
    (q : ∀ d v F' H', m (va g) = .ok d → StOk X.K F0 H0 F' H' σ g → (flat d = true → Dp X.K F' v d) → SPost X.K X.mg W F0 H0 D (k d) → Q v H') : tM X W m σ H Q := by
  refine ⟨frz F H σ g, va g, ok.frzH, ok.va, ?_⟩
  cases e : m (va g) with
  | ok d => rw [e] at h; exact fun v F' H' E hd => q d v _ H' e (ok.thwOk E) (fun f => dp_flat (ok.thwKeep E) d hd f) h
  | exc c p =>
    rw [e] at h
    unfold R.to at h
    dsimp only at h
    split at h
    · rename_i fl
      exact fun cls od F' H' E x => h cls od _ H' σ (ok.thwOk E) (xv_flat x fl (ok.thwKeep E))
    · exact h.elim
  | bad => rw [e] at h; exact h
theorem evT_va {m : Vw → R Bool} {k : Bool → Out} {Q : Bool → Hp → Prop} (ok : StOk X.K F0 H0 F H σ g) (h : SPost X.K X.mg W F0 H0 D ((m (va g)).to g k))
    (q : ∀ b F' H', m (va g) = .ok b → StOk X.K F0 H0 F' H' σ g → SPost X.K X.mg W F0 H0 D (k b) → Q b H') : tT X W m σ H Q := by
  refine ⟨frz F H σ g, va g, ok.frzH, ok.va, ?_⟩
  cases e : m (va g) with
  | ok b => rw [e] at h; exact fun F' H' E => q b _ H' e (ok.thwOk E) h
  | exc c p =>
    rw [e] at h
    unfold R.to at h
    dsimp only at h
    split at h
    · rename_i fl
      exact fun cls od F' H' E x => h cls od _ H' σ (ok.thwOk E) (xv_flat x fl (ok.thwKeep E))
    · exact h.elim
  | bad => rw [e] at h; exact h
end
/-! ### statements -/
def sNop : S := .nx
def sSeq (a b : S) : S := fun g => match a g with
  | .nx g' => b g'
  | o => o
def sIf (t : Vw → R Bool) (a b : S) : S := fun g => (t (va g)).to g fun k => if k = true then a g else b g
def sRet (m : M) : S := fun g => match m (va g) with
  | .ok d => .rt d
  | .exc c p => if flatO p = true then .ex c p g else .bad
  | .bad => .bad
def sRetN : S := fun _ => .rt .none
def sBreak : S := .bk
def sCont : S := .ct
def sExpr (m : M) : S := fun g => (m (va g)).to g fun _ => .nx g
def sSet (i : Nat) (m : M) : S := fun g => (m (vd g)).to g fun d => .nx (g.set i (.dat d))
def sSetF (i : Nat) (m : M) : S := fun g => (m (va g)).to g fun d => if flat d = true then .nx (g.set i (.dat d)) else .bad
def sPar (i j : Nat) (m : Vw → R (List D)) : S := fun g => (m (vd g)).to g fun ds => match ds with
  | [x, y] => .nx ((g.set i (.dat x)).set j (.dat y))
  | _ => .bad
def sRaise (c : Str) : S := fun g => .ex c none g
/-- what is own becomes data -/
def frzC (zs : List Nat) (g : Ce) : Ce := g.mapIdx fun i c => match c with
  | .own ds => if zs.contains i then .dat (.list ds) else .own ds
  | c => c
def sFrz (zs : List Nat) (m : S) : S := fun g => m (frzC zs g)
def sNewL (i : Nat) (m : Vw → R (List D)) : S := fun g => (m (vd g)).to g fun ds => if ds.length ≤ most then .nx (g.set i (.own ds)) else .bad
def sApp (i : Nat) (m : M) : S := fun g => match g[i]? with
  | some (.own ds) => (m (vd g)).to g fun d => if ds.length < most then .nx (g.set i (.own (ds ++ [d]))) else .bad
  | _ => .bad
section
variable {X : Cx} {W : WX} {pos : Pos} {st : Stmt} {rest : List Stmt} {a b : S}
theorem mss_nil : MSs X W [] sNop := PSs.imp pss_nil fun D σ H ⟨F0, H0, F, g, ok, h⟩ => h F H σ ok
theorem mss_cons (h1 : MS X W st a) (h2 : MSs X W rest b) : MSs X W (st :: rest) (sSeq a b) := by
  refine PSs.imp (pss_cons h1 h2) fun D σ H ⟨F0, H0, F, g, ok, h⟩ => ⟨F0, H0, F, g, ok, ?_⟩
  unfold sSeq at h
  cases e : a g with
  | nx g' =>
    rw [e] at h
    intro F' H' σ' ok'
    exact ⟨F0, H0, F', g', ok', h⟩
  | rt d => rw [e] at h; exact h
  | bk g' => rw [e] at h; exact h
  | ct g' => rw [e] at h; exact h
  | ex c p g' => rw [e] at h; exact h
  | bad => rw [e] at h; exact h
theorem mss_one (h1 : MS X W st a) : MSs X W [st] a := pss_one h1
theorem ms_pass : MS X W (.Pass pos) sNop := PS.imp ps_pass fun D σ H ⟨F0, H0, F, g, ok, h⟩ => h F H σ ok
theorem ms_break : MS X W (.Break pos) sBreak := PS.imp ps_break fun D σ H ⟨F0, H0, F, g, ok, h⟩ => h F H σ ok
theorem ms_cont : MS X W (.Continue pos) sCont := PS.imp ps_continue fun D σ H ⟨F0, H0, F, g, ok, h⟩ => h F H σ ok
theorem ms_if {c : Expr} {p q : List Stmt} {t : Vw → R Bool} (hc : MT X W c t) (ha : MSs X W p a) (hb : MSs X W q b) : MS X W (.If c p q pos) (sIf t a b) := by
  refine PS.imp (ps_if hc ha hb) fun D σ H ⟨F0, H0, F, g, ok, h⟩ => evT_va ok h fun k F' H' e ok' h' => ?_
  cases k with
  | true => exact ⟨F0, H0, F', g, ok', h'⟩
  | false => exact ⟨F0, H0, F', g, ok', h'⟩
theorem ms_ret {e : Expr} {m : M} (he : ME X W e m) : MS X W (.Return (some e) pos) (sRet m) := by
  refine PS.imp (ps_ret he) fun D σ H ⟨F0, H0, F, g, ok, h⟩ => ⟨frz F H σ g, va g, ok.frzH, ok.va, ?_⟩
  unfold sRet at h
  cases e : m (va g) with
  | ok d =>
    rw [e] at h
    intro v F' H' E hd
    refine h v F' H' ⟨ok.e.f.trans (ok.frzF.trans E.f), ok.e.h.trans E.h, E.s, fun a o q n => ?_⟩ hd
    cases z : frz F H σ g a with
    | some u =>
      by_cases w : Own σ g a
      · obtain ⟨_, _, _, y⟩ := ok.ownAt w
        exact y
      · rw [frz_not w] at z
        exact ok.e.n a u z n
    | none => exact ok.e.h.free (E.n a o q z)
  | exc c p =>
    rw [e] at h
    dsimp only at h
    split at h
    · rename_i fl
      exact fun cls od F' H' E x => h cls od _ H' σ (ok.thwOk E) (xv_flat x fl (ok.thwKeep E))
    · exact h.elim
  | bad => rw [e] at h; exact h
theorem ms_retN : MS X W (.Return none pos) sRetN := PS.imp ps_retN fun D σ H ⟨F0, H0, F, g, ok, h⟩ => h .non F H ok.e .non
theorem ms_expr {e : Expr} {m : M} (he : ME X W e m) (hs : swapsWith e none pos.line X.env = pure false) : MS X W (.Expr e pos) (sExpr m) := by
  refine PS.imp (ps_expr he hs) fun D σ H ⟨F0, H0, F, g, ok, h⟩ => ?_
  exact ev_va (Q := fun _ H1 => D.nx σ H1) ok h fun d v F' H' e ok' _ h' => h' F' H' σ ok'
theorem ms_set {i : Nat} {x : Str} {e : Expr} {m : M} {pos' : Pos} (hN : X.N.Nodup) (hi : X.N[i]? = some x) (hx : Loc X.env.scope x) (he : ME X W e m) (hs : swapsWith e (some (.Name x pos')) pos.line X.env = pure false) (hf : X.fn x = true ∨ X.env.scope.names.lookup x = some .local) :
    MS X W (.Assign [.Name x pos'] e pos) (sSet i m) := by
  refine PS.imp (ps_set hN hi hx he hs hf) fun D σ H ⟨F0, H0, F, g, ok, h⟩ => ?_
  exact ev_vd (Q := fun v H1 => D.nx (σ.set i (some v)) H1) ok h fun d v F' H' e ok' hd h' => h' F' H' _ (ok'.set hd)
theorem ms_setF {i : Nat} {x : Str} {e : Expr} {m : M} {pos' : Pos} (hN : X.N.Nodup) (hi : X.N[i]? = some x) (hx : Loc X.env.scope x) (he : ME X W e m) (hs : swapsWith e (some (.Name x pos')) pos.line X.env = pure false) (hf : X.fn x = true ∨ X.env.scope.names.lookup x = some .local) :
    MS X W (.Assign [.Name x pos'] e pos) (sSetF i m) := by
  refine PS.imp (ps_set hN hi hx he hs hf) fun D σ H ⟨F0, H0, F, g, ok, h⟩ => ?_
  refine ev_va (Q := fun v H1 => D.nx (σ.set i (some v)) H1) ok h fun d v F' H' e ok' hd h' => ?_
  split at h'
  · rename_i f
    exact h' F' H' _ (ok'.set (hd f))
  · exact h'.elim
theorem ms_par {i j : Nat} {x y : Str} {e f : Expr} {m : Vw → R (List D)} {px py pt : Pos} {kt k2 pt2} (hc : X.calm = true) (hN : X.N.Nodup) (hi : X.N[i]? = some x) (hj : X.N[j]? = some y) (hij : i ≠ j)
    (hx : X.env.scope.names.lookup x = some .local) (hy : X.env.scope.names.lookup y = some .local) (ha : MA X W [e, f] m)
    (hw : swappedStores [.Tuple [.Name x px, .Name y py] kt pt] (.Tuple [e, f] k2 pt2) X.env = pure (some [x, y]))
    (hs : swapsWithSole [.Tuple [.Name x px, .Name y py] kt pt] (.Tuple [e, f] k2 pt2) pos.line X.env = pure false) :
    MS X W (.Assign [.Tuple [.Name x px, .Name y py] kt pt] (.Tuple [e, f] k2 pt2) pos) (sPar i j m) := by
  refine PS.imp (ps_par hc hN hi hj hij hx hy ha hw hs) fun D σ H ⟨F0, H0, F, g, ok, h⟩ => ?_
  refine evA_vd ok h fun ds vs F' H' e ok' hd h' => ?_
  cases hd with
  | nil => exact h'.elim
  | cons h1 r =>
    cases r with
    | nil => exact h'.elim
    | cons h2 r =>
      cases r with
      | nil => exact ⟨_, _, rfl, h' F' H' _ ((ok'.set h1).set h2)⟩
      | cons h3 r => exact h'.elim
theorem ms_raise {c : Str} {e : Expr} {C : Addr} (hc : X.calm = true) (tk : Takes X W) (gC : X.mg c = some (.ref C)) (he : PMk X e (fun _ H Q => Q (.ref C) none H)) : MS X W (.Raise (some e) none pos) (sRaise c) :=
  PS.imp (ps_raise hc tk he) fun D σ H ⟨F0, H0, F, g, ok, h⟩ => h (.ref C) none F H σ ok ⟨C, gC, rfl, rfl⟩
theorem frz_ok {K : PySem.W.Frag} {F0 H0 F H : Hp} {σ : L2.St} {g : Ce} (zs : List Nat) (ok : StOk K F0 H0 F H σ g) : ∃ F', StOk K F0 H0 F' H σ (frzC zs g) := by
  classical
  let P : Addr → Prop := fun a => ∃ i ds, zs.contains i = true ∧ g[i]? = some (Cell.own ds) ∧ σ[i]? = some (some (V.ref a))
  let F' : Hp := fun a => if P a then H a else F a
  have own_of : ∀ a, P a → ∃ xs, H a = some (.lst xs) ∧ F a = none ∧ H0 a = none := fun a ⟨i, ds, _, h1, h2⟩ => ok.ownAt ⟨i, ds, h1, h2⟩
  have fF : Same F F' := fun a o e => by
    by_cases h : P a
    · obtain ⟨_, _, q, _⟩ := own_of a h
      rw [q] at e; cases e
    · show (if P a then H a else F a) = _
      rw [if_neg h]; exact e
  have fH : Same F' H := fun a o e => by
    have e' : (if P a then H a else F a) = some o := e
    by_cases h : P a
    · rw [if_pos h] at e'; exact e'
    · rw [if_neg h] at e'; exact ok.e.s _ _ e'
  have cell : ∀ i : Nat, (frzC zs g)[i]? = (g[i]?).map fun c => match c with
      | .own ds => if zs.contains i then Cell.dat (.list ds) else .own ds
      | c => c := fun i => by
    unfold frzC
    rw [List.getElem?_mapIdx]
  refine ⟨F', ⟨ok.e.f.trans fF, ok.e.h, fH, fun a o e n => ?_⟩, by unfold frzC; simpa using ok.len, fun i d q => ?_, fun i ds q => ?_, fun i j ds es a q1 q2 q3 q4 => ?_⟩
  · have e' : (if P a then H a else F a) = some o := e
    by_cases h : P a
    · obtain ⟨_, _, _, y⟩ := own_of a h
      exact y
    · rw [if_neg h] at e'; exact ok.e.n a o e' n
  · rw [cell] at q
    cases e : g[i]? with
    | none => rw [e] at q; cases q
    | some c =>
      rw [e] at q
      cases c with
      | un => cases q
      | dat d' =>
        cases q
        obtain ⟨v, h1, h2⟩ := ok.dat i d e
        exact ⟨v, h1, dp_mono fF d h2⟩
      | own ds =>
        by_cases z : zs.contains i = true
        · have q' : (if zs.contains i = true then Cell.dat (.list ds) else .own ds) = Cell.dat d := Option.some.inj q
          rw [if_pos z] at q'
          cases q'
          obtain ⟨a, xs, h1, h2, h3, h4, h5⟩ := ok.own i ds e
          refine ⟨_, h1, .lst (.inl (.inl ?_)) (dpa_mono fF ds h5)⟩
          show (if P a then H a else F a) = _
          rw [if_pos ⟨i, ds, z, e, h1⟩]
          exact h2
        · have q' : (if zs.contains i = true then Cell.dat (.list ds) else .own ds) = Cell.dat d := Option.some.inj q
          rw [if_neg z] at q'
          cases q'
  · rw [cell] at q
    cases e : g[i]? with
    | none => rw [e] at q; cases q
    | some c =>
      rw [e] at q
      cases c with
      | un => cases q
      | dat d' => cases q
      | own es =>
        by_cases z : zs.contains i = true
        · have q' : (if zs.contains i = true then Cell.dat (.list es) else .own es) = Cell.own ds := Option.some.inj q
          rw [if_pos z] at q'
          cases q'
        · have q' : (if zs.contains i = true then Cell.dat (.list es) else .own es) = Cell.own ds := Option.some.inj q
          rw [if_neg z] at q'
          cases q'
          obtain ⟨a, xs, h1, h2, h3, h4, h5⟩ := ok.own i ds e
          refine ⟨a, xs, h1, h2, ?_, h4, dpa_mono fF ds h5⟩
          show (if P a then H a else F a) = _
          rw [if_neg]
          · exact h3
          · rintro ⟨j, ds', zj, gj, sj⟩
            have := ok.inj i j ds ds' a e gj h1 sj
            subst this
            exact z zj
  · have un : ∀ (i : Nat) (ds : List D), (frzC zs g)[i]? = some (.own ds) → g[i]? = some (.own ds) := fun i ds q => by
      rw [cell] at q
      cases e : g[i]? with
      | none => rw [e] at q; cases q
      | some c =>
        rw [e] at q
        cases c with
        | un => cases q
        | dat d' => cases q
        | own es =>
          by_cases z : zs.contains i = true
          · have q' : (if zs.contains i = true then Cell.dat (.list es) else .own es) = Cell.own ds := Option.some.inj q
            rw [if_pos z] at q'
            cases q'
          · have q' : (if zs.contains i = true then Cell.dat (.list es) else .own es) = Cell.own ds := Option.some.inj q
            rw [if_neg z] at q'
            cases q'
            rfl
    exact ok.inj i j ds es a (un i ds q1) (un j es q2) q3 q4
theorem ms_frz (zs : List Nat) (h : MS X W st a) : MS X W st (sFrz zs a) := by
  refine PS.imp h fun D σ H ⟨F0, H0, F, g, ok, q⟩ => ?_
  obtain ⟨F', ok'⟩ := frz_ok zs ok
  exact ⟨F0, H0, F', _, ok', q⟩
theorem ms_newL {i : Nat} {x : Str} {es : List Expr} {m : Vw → R (List D)} {pos' pos2 : Pos} (hN : X.N.Nodup) (hi : X.N[i]? = some x) (hx : Loc X.env.scope x) (he : MA X W es m) (hs : swapsWith (.List es pos2) (some (.Name x pos')) pos.line X.env = pure false) (hf : X.fn x = true ∨ X.env.scope.names.lookup x = some .local) :
    MS X W (.Assign [.Name x pos'] (.List es pos2) pos) (sNewL i m) := by
  refine PS.imp (ps_set hN hi hx (pe_lst he) hs hf) fun D σ H ⟨F0, H0, F, g, ok, h⟩ => ?_
  refine evA_vd (Q := fun xs H1 => xs.length ≤ sizeLine ∧ ∀ p, H1 p = none → D.nx (σ.set i (some (.ref p))) (upd H1 p (.lst xs))) ok h fun ds xs F' H' e ok' hd h' => ?_
  split at h'
  · rename_i l
    refine ⟨by rw [dpa_len hd]; exact most_le l, fun p hp => h' F' _ _ ?_⟩
    have E := Ext.loose (o := .lst xs) ok'.e.s hp
    refine (ok'.mono E).setOwn hd upd_same (ok'.e.s.free hp) (ok'.e.h.free hp) fun j es' _ hj hs' => ?_
    obtain ⟨b, ys, q1, q2, _⟩ := ok'.own j es' hj
    rw [q1] at hs'
    cases hs'
    rw [hp] at q2
    cases q2
  · exact h'.elim
end
end MI
set_option Elab.async false
set_option linter.all false
set_option maxRecDepth 100000
set_option maxHeartbeats 4000000
/-! MI3: loops, targets, try, calls, defs. -/
namespace MI
open PySem PySem.Spec PyProof.Rows L2
/-! ### targets -/
abbrev Tg := D → Ce → Option Ce
def gN (i : Nat) : Tg := fun d g => some (g.set i (.dat d))
abbrev Tgs := List D → Ce → Option Ce
def gsNil : Tgs := fun ds g => match ds with
  | [] => some g
  | _ => none
def gsCons (t : Tg) (u : Tgs) : Tgs := fun ds g => match ds with
  | d :: r => (t d g).bind (u r)
  | [] => none
/-- a, b, .. = a tuple -/
def gT (u : Tgs) : Tg := fun d g => match d with
  | .tuple ds => u ds g
  | _ => none
/-- what a target's rule asks -/
def TgOk (K : PySem.W.Frag) (r : TG) (t : Tg) : Prop := ∀ (F0 H0 F H : Hp) (σ : L2.St) (g g' : Ce) (v : V) (d : D) (Q : L2.St → Hp → Prop),
  StOk K F0 H0 F H σ g → Dp K F v d → t d g = some g' → (∀ σ', StOk K F0 H0 F H σ' g' → Q σ' H) → r v σ H Q
def TgsOk (K : PySem.W.Frag) (n : Nat) (r : TGs) (t : Tgs) : Prop := (∀ ds g g', t ds g = some g' → ds.length = n) ∧ ∀ (F0 H0 F H : Hp) (σ : L2.St) (g g' : Ce) (vs : List V) (ds : List D) (Q : L2.St → Hp → Prop),
  StOk K F0 H0 F H σ g → DpAll K F vs ds → t ds g = some g' → (∀ σ', StOk K F0 H0 F H σ' g' → Q σ' H) → r vs σ H Q
theorem gN_ok {K : PySem.W.Frag} {i : Nat} : TgOk K (gName i) (gN i) := fun F0 H0 F H σ g g' v d Q ok hd e q => by
  cases e
  exact q _ (ok.set hd)
theorem gsNil_ok {K : PySem.W.Frag} : TgsOk K 0 gNil gsNil := by
  refine ⟨fun ds g g' e => ?_, fun F0 H0 F H σ g g' vs ds Q ok hd e q => ?_⟩
  · cases ds with
    | nil => rfl
    | cons a b => cases e
  · cases hd with
    | nil =>
      cases e
      exact ⟨rfl, q _ ok⟩
    | cons a b => cases e
theorem gsCons_ok {K : PySem.W.Frag} {n : Nat} {r : TG} {rs : TGs} {t : Tg} {ts : Tgs} (h1 : TgOk K r t) (h2 : TgsOk K n rs ts) : TgsOk K (n + 1) (gCons r rs) (gsCons t ts) := ⟨fun ds g g' e => by
  cases ds with
  | nil => cases e
  | cons d ds =>
    have e' : (t d g).bind (ts ds) = some g' := e
    cases q : t d g with
    | none => rw [q] at e'; cases e'
    | some g1 =>
      rw [q] at e'
      exact congrArg Nat.succ (h2.1 ds g1 g' e'), fun F0 H0 F H σ g g' vs ds Q ok hd e Q' => by
  cases hd with
  | nil => cases e
  | @cons v vs d ds a b =>
    have e' : (t d g).bind (ts ds) = some g' := e
    cases q : t d g with
    | none => rw [q] at e'; cases e'
    | some g1 =>
      rw [q] at e'
      exact ⟨v, vs, rfl, h1 F0 H0 F H σ g g1 v d _ ok a q fun σ' ok' => h2.2 F0 H0 F H σ' g1 g' vs ds Q ok' b e' Q'⟩⟩
theorem gT_ok {K : PySem.W.Frag} {n : Nat} {r : TGs} {t : Tgs} (h : TgsOk K n r t) : TgOk K (gTup K n r) (gT t) := fun F0 H0 F H σ g g' v d Q ok hd e q => by
  cases hd with
  | tup a b =>
    exact ⟨_, _, rfl, same_t ok.e.s a, (dpa_len b).trans (h.1 _ _ _ e), h.2 F0 H0 F H σ g g' _ _ Q ok b e q⟩
  | _ => cases e
def sAsg (t : Tg) (m : M) : S := fun g => (m (vd g)).to g fun d => match t d g with
  | some g' => .nx g'
  | none => .bad
theorem ms_asg {X : Cx} {W : WX} {pos : Pos} {tg e : Expr} {m : M} {r : TG} {t : Tg} (he : ME X W e m) (hg : PG X tg r) (ht : TgOk X.K r t) (hs : swapsWithSole [tg] e pos.line X.env = pure false) (hw : swappedStores [tg] e X.env = pure none) (h1 : (assignEach [tg] X.env).map (·.2) = [assign tg X.env]) : MS X W (.Assign [tg] e pos) (sAsg t m) := by
  refine PS.imp (ps_asg he hg hs hw h1) fun D σ H ⟨F0, H0, F, g, ok, h⟩ => ?_
  refine ev_vd (Q := fun v H1 => r v σ H1 D.nx) ok h fun d v F' H' e ok' hd h' => ?_
  cases q : t d g with
  | none => rw [q] at h'; exact h'.elim
  | some g' =>
    rw [q] at h'
    exact ht F0 H0 F' H' σ g g' v d D.nx ok' hd q fun σ' ok2 => h' F' H' σ' ok2
/-! ### for -/
def loopF (t : Tg) (b : S) : List D → S
  | [], g => .nx g
  | d :: ds, g => match t d g with
    | none => .bad
    | some g1 => match b g1 with
      | .nx g2 => loopF t b ds g2
      | .ct g2 => loopF t b ds g2
      | .bk g2 => .nx g2
      | o => o
def sForL (m : M) (t : Tg) (b : S) : S := fun g => (m (vd g)).to g fun d => match d with
  | .list ds => loopF t b ds g
  | .tuple ds => loopF t b ds g
  | _ => .bad
def iLT (K : PySem.W.Frag) (tl : TE) : TI := fun σ H R => iList K tl σ H R ∨ iTup K tl σ H R
theorem pi_lt {X : Cx} {tg l : Expr} {tl : TE} (hl : PE X l tl) : PI X tg l (iLT X.K tl) := ⟨fun pins s σ H R I h => by
  rcases h with h | h
  · exact (pi_list hl).run pins s σ H R I h
  · exact (pi_tup hl).run pins s σ H R I h⟩
/-- one turn -/
theorem loopF_turn {K : PySem.W.Frag} {mg : Str → Option Value} {W : WX} {F0 H0 F H : Hp} {σ : L2.St} {g : Ce} {D : Ends} {r : TG} {t : Tg} {b : S} {d : MI.D} {ds : List MI.D} {x : V} {N : L2.St → Hp → Prop} (ht : TgOk K r t)
    (ok : StOk K F0 H0 F H σ g) (hd : Dp K F x d) (h : SPost K mg W F0 H0 D (loopF t b (d :: ds) g))
    (n : ∀ F' H' σ' g', StOk K F H0 F' H' σ' g' → SPost K mg W F0 H0 D (loopF t b ds g') → N σ' H') :
    r x σ H fun σ2 H2 => tS K mg W b { D with nx := N, ct := N, bk := D.nx } σ2 H2 := by
  unfold loopF at h
  cases q : t d g with
  | none => rw [q] at h; exact h.elim
  | some g1 =>
    rw [q] at h
    refine ht F0 H0 F H σ g g1 x d _ ok hd q fun σ' ok' => ⟨F, H0, F, g1, ok'.base, ?_⟩
    dsimp only at h
    cases e : b g1 with
    | nx g2 =>
      rw [e] at h
      exact fun F' H' σ2 ok2 => n F' H' σ2 g2 ok2 h
    | ct g2 =>
      rw [e] at h
      exact fun F' H' σ2 ok2 => n F' H' σ2 g2 ok2 h
    | bk g2 =>
      rw [e] at h
      exact fun F' H' σ2 ok2 => h F' H' σ2 (ok2.back ok'.e)
    | rt v =>
      rw [e] at h
      have h' : SPost K mg W F0 H0 D (.rt v) := h
      exact fun v F' H' E q => h' v F' H' (ok'.e.back E) q
    | ex c p g2 =>
      rw [e] at h
      have h' : SPost K mg W F0 H0 D (.ex c p g2) := h
      exact fun cls od F' H' σ2 ok2 x => h' cls od F' H' σ2 (ok2.back ok'.e) x
    | bad => rw [e] at h; exact h
theorem drop_get {α : Type} {l : List α} {i : Nat} {x : α} (h : l[i]? = some x) : l.drop i = x :: l.drop (i + 1) := by
  obtain ⟨hi, e⟩ := List.getElem?_eq_some_iff.mp h
  rw [List.drop_eq_getElem_cons hi, e]
theorem ms_forL {X : Cx} {W : WX} {pos : Pos} {tg iter : Expr} {body : List Stmt} {m : M} {r : TG} {t : Tg} {b : S} (hp : PassesOwn (model X.prog X.w) X.A X.env X.xe) (hc : X.calm = true) (he : ME X W iter m) (hg : PG X tg r) (ht : TgOk X.K r t) (hb : MSs X W body b)
    (hs : ∀ x, foldedSetIterable iter X.env x = pure x) : MS X W (.For tg iter body [] pos) (sForL m t b) := by
  refine PS.imp (ps_for hp hc (pi_lt he) hg hb hs) fun D σ H ⟨F0, H0, F, g, ok, h⟩ => ?_
  have key : ∀ (ds : List MI.D) (xs : List V), SPost X.K X.mg W F0 H0 D (loopF t b ds g) → ∀ F' H', StOk X.K F0 H0 F' H' σ g → DpAll X.K F' xs ds →
      ∃ Pv : Nat → L2.St → Hp → Prop, Pv 0 σ H' ∧ (∀ i σ H, Pv i σ H → ∃ F2, Same F' F2 ∧ Same F2 H) ∧ (∀ i x σ H, xs[i]? = some x → Pv i σ H → r x σ H fun σ2 H2 => tS X.K X.mg W b { D with nx := Pv (i + 1), ct := Pv (i + 1), bk := D.nx } σ2 H2) ∧ ∀ σ H, Pv xs.length σ H → D.nx σ H := by
    intro ds xs hl F' H' ok' hd
    refine ⟨fun i σ H => ∃ F2 g2, Ext F' H0 F2 H ∧ StOk X.K F0 H0 F2 H σ g2 ∧ SPost X.K X.mg W F0 H0 D (loopF t b (ds.drop i) g2), ⟨F', g, ok'.base.e, ok', by simpa using hl⟩, fun i σ H ⟨F2, g2, E, ok2, _⟩ => ⟨F2, E.f, ok2.e.s⟩, fun i x σ H hi ⟨F2, g2, E, ok2, h2⟩ => ?_, fun σ H ⟨F2, g2, E, ok2, h2⟩ => ?_⟩
    · obtain ⟨d, e, dx⟩ := dpa_get' hd hi
      rw [drop_get e] at h2
      exact loopF_turn ht ok2 (dp_mono E.f d dx) h2 fun F3 H3 σ3 g3 ok3 h3 => ⟨F3, g3, E.back ok3.e, ok3.back ok2.e, h3⟩
    · rw [List.drop_of_length_le (by rw [dpa_len hd]; exact Nat.le_refl _)] at h2
      exact h2 F2 H σ ok2
  have h' : SPost X.K X.mg W F0 H0 D ((m (MI.vd g)).to g fun d => match d with
      | .list ds => loopF t b ds g
      | .tuple ds => loopF t b ds g
      | _ => .bad) := h
  cases em : m (MI.vd g) with
  | ok d =>
    cases d with
    | list ds =>
      refine .inl (ev_vd ok h' fun d v F' H' e ok' hd hl => ?_)
      rw [em] at e
      cases e
      cases hd with
      | lst hs ha =>
        obtain ⟨Pv, p0, ps, pt, pd⟩ := key ds _ hl F' H' ok' ha
        exact ⟨_, rfl, ⟨_, ok'.e.s.seq hs⟩, for_list Pv p0 (fun i σ H _ p => let ⟨F2, a, b⟩ := ps i σ H p; (a.trans b).seq hs) pt pd⟩
    | tuple ds =>
      refine .inr (ev_vd ok h' fun d v F' H' e ok' hd hl => ?_)
      rw [em] at e
      cases e
      cases hd with
      | tup hs ha =>
        obtain ⟨Pv, p0, ps, pt, pd⟩ := key ds _ hl F' H' ok' ha
        exact ⟨_, rfl, ⟨_, same_t ok'.e.s hs⟩, for_tup Pv p0 (fun i σ H _ p => let ⟨F2, a, b⟩ := ps i σ H p; same_t (a.trans b) hs) pt pd⟩
    | _ => rw [em] at h'; exact h'.elim
  | exc c p =>
    refine .inl (ev_vd (k := fun _ => .bad) (D := D) ok ?_ fun d v F' H' e ok' hd hl => hl.elim)
    rw [em] at h' ⊢
    exact h'
  | bad =>
    rw [em] at h'
    exact h'.elim
/-! ### while -/
def loopW (t : Vw → R Bool) (b : S) : Nat → S
  | 0, _ => .bad
  | n + 1, g => (t (va g)).to g fun k => if k = true then (match b g with
      | .nx g2 => loopW t b n g2
      | .ct g2 => loopW t b n g2
      | .bk g2 => .nx g2
      | o => o) else .nx g
theorem ms_while {X : Cx} {W : WX} {pos : Pos} {c : Expr} {body : List Stmt} {t : Vw → R Bool} {b : S} {n : Nat} (hp : PassesOwn (model X.prog X.w) X.A X.env X.xe) (hc : MT X W c t) (hb : MSs X W body b) : MS X W (.While c body [] pos) (loopW t b n) := by
  refine PS.imp (ps_while hp hc hb) fun D σ H ⟨F0, H0, F, g, ok, h⟩ => ?_
  refine ⟨fun m σ H => ∃ F g, StOk X.K F0 H0 F H σ g ∧ SPost X.K X.mg W F0 H0 D (loopW t b m g), ⟨n, F, g, ok, h⟩, ?_⟩
  rintro m σ H ⟨F, g, ok, h⟩
  cases m with
  | zero => exact h.elim
  | succ m =>
    refine evT_va ok h fun k F' H' e ok' h' => ?_
    cases k with
    | false => exact h' F' H' σ ok'
    | true =>
      rw [if_pos rfl] at h' ⊢
      refine ⟨fun σ' H' => ∃ F g, StOk X.K F0 H0 F H' σ' g ∧ SPost X.K X.mg W F0 H0 D (loopW t b m g), fun σ' H' q => ⟨m, Nat.lt_succ_self m, q⟩, F0, H0, F', g, ok', ?_⟩
      cases e : b g with
      | nx g2 =>
        rw [e] at h'
        exact fun F3 H3 σ3 ok3 => ⟨F3, g2, ok3, h'⟩
      | ct g2 =>
        rw [e] at h'
        exact fun F3 H3 σ3 ok3 => ⟨F3, g2, ok3, h'⟩
      | bk g2 =>
        rw [e] at h'
        exact fun F3 H3 σ3 ok3 => h' F3 H3 σ3 ok3
      | rt v => rw [e] at h'; exact h'
      | ex c p g2 => rw [e] at h'; exact h'
      | bad => rw [e] at h'; exact h'
/-! ### range -/
def rngL (lo c : Int) (n : Nat) : List D := (List.range n).map fun (i : Nat) => .int (lo + (i : Int) * c)
theorem rngL_get {lo c : Int} {n i : Nat} (h : i < n) : (rngL lo c n)[i]? = some (.int (lo + (i : Int) * c)) := by
  unfold rngL
  rw [List.getElem?_map, List.getElem?_range h]
  rfl
theorem rngL_len {lo c : Int} {n : Nat} : (rngL lo c n).length = n := by
  unfold rngL
  rw [List.length_map, List.length_range]
def lim62 (i : Int) : Bool := decide (-(2 ^ 62) ≤ i) && decide (i < 2 ^ 62)
def rng1 : List D → Option (List D)
  | [.int j] => if lim62 j = true then some (rngL 0 1 j.toNat) else none
  | _ => none
def rng2 : List D → Option (List D)
  | [.int i, .int j] => if (lim62 i && lim62 j) = true then some (rngL i 1 (j - i).toNat) else none
  | _ => none
def rng3 : List D → Option (List D)
  | [.int i, .int j, .int c] => if c ≠ 0 ∧ c.natAbs < 1073741824 ∧ Builtin.Range.small i j c = true ∧ 0 ≤ Builtin.Range.rangeSize i j c then some (rngL i c (Builtin.Range.rangeSize i j c).toNat) else none
  | _ => none
def sForR (f : List D → Option (List D)) (m : Vw → R (List D)) (t : Tg) (b : S) : S := fun g => (m (vd g)).to g fun ds => match f ds with
  | some xs => loopF t b xs g
  | none => .bad
section
variable {X : Cx} {W : WX} {F0 H0 : Hp} {D : Ends} {r : TG} {t : Tg} {b : S} {g : Ce}
theorem rng_key (ht : TgOk X.K r t) {lo c : Int} {n : Nat} (hl : SPost X.K X.mg W F0 H0 D (loopF t b (rngL lo c n) g)) {F H : Hp} {σ : L2.St} (ok : StOk X.K F0 H0 F H σ g) :
    ∃ Pv : Nat → L2.St → Hp → Prop, Pv 0 σ H ∧ (∀ i σ H, i < n → Pv i σ H → r (.int (lo + (i : Int) * c)) σ H fun σ2 H2 => tS X.K X.mg W b { D with nx := Pv (i + 1), ct := Pv (i + 1), bk := D.nx } σ2 H2) ∧ ∀ σ H, Pv n σ H → D.nx σ H := by
  refine ⟨fun i σ H => ∃ F2 g2, StOk X.K F0 H0 F2 H σ g2 ∧ SPost X.K X.mg W F0 H0 D (loopF t b ((rngL lo c n).drop i) g2), ⟨F, g, ok, by simpa using hl⟩, fun i σ H hi ⟨F2, g2, ok2, h2⟩ => ?_, fun σ H ⟨F2, g2, ok2, h2⟩ => ?_⟩
  · rw [drop_get (rngL_get hi)] at h2
    exact loopF_turn ht ok2 (.int _) h2 fun F3 H3 σ3 g3 ok3 h3 => ⟨F3, g3, ok3.back ok2.e, h3⟩
  · rw [List.drop_of_length_le (by rw [rngL_len]; exact Nat.le_refl _)] at h2
    exact h2 F2 H σ ok2
end
theorem dpa1 {K : PySem.W.Frag} {F : Hp} {vs : List V} {a : D} (h : DpAll K F vs [a]) : ∃ v, vs = [v] ∧ Dp K F v a := by
  cases h with
  | cons a b => cases b; exact ⟨_, rfl, a⟩
theorem dpa2 {K : PySem.W.Frag} {F : Hp} {vs : List V} {a b : D} (h : DpAll K F vs [a, b]) : ∃ v w, vs = [v, w] ∧ Dp K F v a ∧ Dp K F w b := by
  cases h with
  | cons a r =>
    obtain ⟨w, rfl, q⟩ := dpa1 r
    exact ⟨_, _, rfl, a, q⟩
theorem dpa3 {K : PySem.W.Frag} {F : Hp} {vs : List V} {a b c : D} (h : DpAll K F vs [a, b, c]) : ∃ v w x, vs = [v, w, x] ∧ Dp K F v a ∧ Dp K F w b ∧ Dp K F x c := by
  cases h with
  | cons a r =>
    obtain ⟨w, x, rfl, q, q'⟩ := dpa2 r
    exact ⟨_, _, _, rfl, a, q, q'⟩
theorem dp_int {K : PySem.W.Frag} {F : Hp} {v : V} {i : Int} (h : Dp K F v (.int i)) : v = .int i := by cases h; rfl
section
variable {X : Cx} {W : WX} {pos p : Pos} {tg a b c : Expr} {body : List Stmt} {m : Vw → R (List D)} {r : TG} {t : Tg} {s : S}
theorem ms_for1 (hp : PassesOwn (model X.prog X.w) X.A X.env X.xe) (hc : X.calm = true) (hG : Gl X "range") (hm : X.mg "range" = none) (ha : MA X W [a] m) (hst : starEach [a] X.env = [(false, eval a X.env)]) (hg : PG X tg r) (ht : TgOk X.K r t) (hb : MSs X W body s)
    {q : Pos} (hs : ∀ x, foldedSetIterable (.Call (.Name "range" p) [a] [] q) X.env x = pure x) : MS X W (.For tg (.Call (.Name "range" p) [a] [] q) body [] pos) (sForR rng1 m t s) := by
  refine PS.imp (ps_for hp hc (pi_range1 hG hm ha hst) hg hb hs) fun D σ H ⟨F0, H0, F, g, ok, h⟩ => ?_
  refine evA_vd ok h fun ds vs F' H' e ok' hd h' => ?_
  unfold rng1 at h'
  split at h'
  · rename_i xs e1
    split at e1
    · rename_i j
      split at e1
      · rename_i l
        cases e1
        obtain ⟨v, rfl, hv⟩ := dpa1 hd
        cases dp_int hv
        unfold lim62 at l
        rw [Bool.and_eq_true, decide_eq_true_eq, decide_eq_true_eq] at l
        obtain ⟨Pv, p0, pt, pd⟩ := rng_key ht h' ok'
        refine ⟨j, rfl, l.1, l.2, for_range Pv p0 (fun i σ H hi q => ?_) pd⟩
        have := pt i σ H hi q
        rw [Int.mul_one] at this
        exact this
      · cases e1
    · cases e1
  · exact h'.elim
theorem ms_for2 (hp : PassesOwn (model X.prog X.w) X.A X.env X.xe) (hc : X.calm = true) (hG : Gl X "range") (hm : X.mg "range" = none) (ha : MA X W [a, b] m) (hst : starEach [a, b] X.env = [(false, eval a X.env), (false, eval b X.env)]) (hst2 : starEach [b] X.env = [(false, eval b X.env)]) (hg : PG X tg r) (ht : TgOk X.K r t) (hb : MSs X W body s)
    {q : Pos} (hs : ∀ x, foldedSetIterable (.Call (.Name "range" p) [a, b] [] q) X.env x = pure x) : MS X W (.For tg (.Call (.Name "range" p) [a, b] [] q) body [] pos) (sForR rng2 m t s) := by
  refine PS.imp (ps_for hp hc (pi_range2 hG hm ha hst hst2) hg hb hs) fun D σ H ⟨F0, H0, F, g, ok, h⟩ => ?_
  refine evA_vd ok h fun ds vs F' H' e ok' hd h' => ?_
  unfold rng2 at h'
  split at h'
  · rename_i xs e1
    split at e1
    · rename_i i j
      split at e1
      · rename_i l
        cases e1
        obtain ⟨v, w, rfl, hv, hw⟩ := dpa2 hd
        cases dp_int hv
        cases dp_int hw
        unfold lim62 at l
        rw [Bool.and_eq_true, Bool.and_eq_true, Bool.and_eq_true, decide_eq_true_eq, decide_eq_true_eq, decide_eq_true_eq, decide_eq_true_eq] at l
        obtain ⟨Pv, p0, pt, pd⟩ := rng_key ht h' ok'
        refine ⟨i, j, rfl, ⟨l.1.1, l.1.2, l.2.1, l.2.2⟩, for_range Pv p0 (fun i σ H hi q => ?_) pd⟩
        have := pt i σ H hi q
        rw [Int.mul_one] at this
        exact this
      · cases e1
    · cases e1
  · exact h'.elim
theorem ms_for3 (hp : PassesOwn (model X.prog X.w) X.A X.env X.xe) (hc : X.calm = true) (hG : Gl X "range") (hm : X.mg "range" = none) (ha : MA X W [a, b, c] m) {q : Pos} (hst : starEach [a, b, c] X.env = (false, eval a X.env) :: starEach [b, c] X.env) (hpl : (backTo q (starEach [b, c] X.env)).any (·.1) = false) (hg : PG X tg r) (ht : TgOk X.K r t) (hb : MSs X W body s)
    (hs : ∀ x, foldedSetIterable (.Call (.Name "range" p) [a, b, c] [] q) X.env x = pure x) : MS X W (.For tg (.Call (.Name "range" p) [a, b, c] [] q) body [] pos) (sForR rng3 m t s) := by
  refine PS.imp (ps_for hp hc (pi_range3 hG hm ha hst hpl) hg hb hs) fun D σ H ⟨F0, H0, F, g, ok, h⟩ => ?_
  refine evA_vd ok h fun ds vs F' H' e ok' hd h' => ?_
  unfold rng3 at h'
  split at h'
  · rename_i xs e1
    split at e1
    · rename_i i j c
      split at e1
      · rename_i l
        cases e1
        obtain ⟨v, w, x, rfl, hv, hw, hx⟩ := dpa3 hd
        cases dp_int hv
        cases dp_int hw
        cases dp_int hx
        obtain ⟨Pv, p0, pt, pd⟩ := rng_key ht h' ok'
        exact ⟨i, j, c, _, rfl, ⟨l.1, l.2.1, l.2.2.1, (Int.toNat_of_nonneg l.2.2.2).symm⟩, for_rangeC Pv p0 pt pd⟩
      · cases e1
    · cases e1
  · exact h'.elim
end
/-! ### try: .. except X: .. -/
/-- sub: whether an exception of that class is caught; none: no claim -/
def sTry (sub : Str → Option Bool) (b u : S) : S := fun g => match b g with
  | .ex c p g' => (match sub c with
    | some true => (match u g' with
      | .ex _ _ _ => .bad
      | o => o)
    | some false => .ex c p g'
    | none => .bad)
  | o => o
def SubOk (K : PySem.W.Frag) (mg : Str → Option Value) (sub : Str → Option Bool) (c : Value) : Prop := ∀ x k C, sub x = some k → mg x = some (.ref C) → PySem.W.exmOne K (.ref C) c = some k
theorem ms_try {X : Cx} {W : WX} {x : Str} {c : Value} {body suite : List Stmt} {b0 : Stmt} {np pos pos' : Pos} {sub : Str → Option Bool} {b u : S} (hs : X.stack = X.env :: X.outer) (hf : X.env.frame = some X.env.locals) (hc : Names X x c) (tk : Takes X W) (so : SubOk X.K X.mg sub c)
    (hb : ∀ (W' : WX) (pn : List (Addr × Obj)) (xe : Value → Shared → Prop), Takes (X.tr pn xe) W' → PassesOwn (model X.prog X.w) X.A X.env xe → MSs (X.tr pn xe) W' body b)
    (hsu : ∀ (a : Addr) (oe : Obj) (cls : Value) (d : Option Addr) (pn : List (Addr × Obj)), Zc cls d oe → (∃ vs, oe.data = .fields vs) → ∀ W' : WX, MSs (X.suite a ((a, oe) :: pn)) W' (b0 :: suite) u) :
    MS X W (.Try body [.ExceptHandler (some (.Name x np)) none (b0 :: suite) pos'] [] [] pos) (sTry sub b u) := by
  refine PS.imp (ps_try_only (tb := fun W' => tS X.K X.mg W' b) (ts := fun _ _ _ => tS X.K X.mg (fun _ _ _ _ => False) u) hs hf hc tk hb fun a oe cls d pn z f => hsu a oe cls d pn z f _) fun D σ H ⟨F0, H0, F, g, ok, h⟩ => ⟨F0, H0, F, g, ok, ?_⟩
  unfold sTry at h
  cases e : b g with
  | nx g' => rw [e] at h; exact h
  | rt d => rw [e] at h; exact h
  | bk g' => rw [e] at h; exact h
  | ct g' => rw [e] at h; exact h
  | bad => rw [e] at h; exact h
  | ex cx p g' =>
    rw [e] at h
    dsimp only at h
    intro cls od F' H' σ' ok' xv
    obtain ⟨C, gC, rfl, xr⟩ := id xv
    cases q : sub cx with
    | none => rw [q] at h; exact h.elim
    | some k =>
      rw [q] at h
      refine ⟨k, so _ _ _ q gC, fun ek a ha => ?_, fun ek => ?_⟩
      · subst ek
        refine ⟨F0, H0, F', g', ok', ?_⟩
        cases e2 : u g' with
        | ex c2 p2 g2 => rw [e2] at h; exact h.elim
        | nx g2 => rw [e2] at h; exact h
        | rt d => rw [e2] at h; exact h
        | bk g2 => rw [e2] at h; exact h
        | ct g2 => rw [e2] at h; exact h
        | bad => rw [e2] at h; exact h
      · subst ek
        exact h (.ref C) od F' H' σ' ok' xv
end MI
set_option Elab.async false
set_option linter.all false
set_option maxRecDepth 100000
set_option maxHeartbeats 4000000
/-! MI4: defs and calls; operations on data. -/
namespace MI
open PySem PySem.Spec PyProof.Rows L2
/-! ### defs -/
def run (n N : Nat) (m : S) (ds : List D) : R D := if ds.length = n then (match m (ds.map Cell.dat ++ List.replicate (N - n) Cell.un) with
  | .nx _ => .ok .none
  | .rt d => .ok d
  | .ex c p _ => .exc c p
  | _ => .bad) else .bad
def FPost (K : PySem.W.Frag) (mg : Str → Option Value) (F H : Hp) (Q : VK) (E : XK) : R D → Prop
  | .ok d => ∀ v F' H', Ext F H F' H' → Dp K F' v d → Q v H'
  | .exc c p => ∀ cls od F' H', Ext F H F' H' → XV K mg F' c p cls od → E cls od H'
  | .bad => False
def spD (K : PySem.W.Frag) (mg : Str → Option Value) (n : Nat) (f : List D → R D) : Sp := fun vs H Q E => ∃ F ds, Same F H ∧ DpAll K F vs ds ∧ ds.length = n ∧ FPost K mg F H Q E (f ds)
theorem StOk.start {K : PySem.W.Frag} {F H : Hp} {vs : List V} {ds : List D} {N : List Str} (s : Same F H) (h : DpAll K F vs ds) (l : ds.length ≤ N.length) : StOk K F H F H (start N vs) (ds.map Cell.dat ++ List.replicate (N.length - ds.length) Cell.un) := by
  have hl := dpa_len h
  refine ⟨Ext.refl s, ?_, fun i d q => ?_, fun i es q => ?_, fun i j es es' a q => ?_⟩
  · unfold L2.start
    simp
    omega
  · by_cases hi : i < ds.length
    · rw [List.getElem?_append_left (by simpa using hi), List.getElem?_map] at q
      cases e : ds[i]? with
      | none => rw [e] at q; cases q
      | some d' =>
        rw [e] at q
        cases q
        obtain ⟨v, h1, h2⟩ := dpa_get h e
        refine ⟨v, ?_, h2⟩
        unfold L2.start
        rw [List.getElem?_append_left (by simpa [hl] using hi), List.getElem?_map, h1]
        rfl
    · rw [List.getElem?_append_right (by simpa using hi), List.getElem?_replicate] at q
      split at q <;> cases q
  · by_cases hi : i < ds.length
    · rw [List.getElem?_append_left (by simpa using hi), List.getElem?_map] at q
      cases e : ds[i]? with
      | none => rw [e] at q; cases q
      | some d' => rw [e] at q; cases q
    · rw [List.getElem?_append_right (by simpa using hi), List.getElem?_replicate] at q
      split at q <;> cases q
  · exfalso
    by_cases hi : i < ds.length
    · rw [List.getElem?_append_left (by simpa using hi), List.getElem?_map] at q
      cases e : ds[i]? with
      | none => rw [e] at q; cases q
      | some d' => rw [e] at q; cases q
    · rw [List.getElem?_append_right (by simpa using hi), List.getElem?_replicate] at q
      split at q <;> cases q
/-- a def's W -/
abbrev WD (E : XK) : WX := fun cls d _ H => E cls d H
theorem fn_ok {P : Program} {w : World} {K : PySem.W.Frag} {mg : Str → Option Value} {base : Heap} {x qual : Str} {params : Arguments} {body : List Stmt} {scope : Scope} {dvs : List V} {kws : List (Str × V)} {f : Addr} {fd : FuncData} {N ps : List Str} {k : Nat} {m : S}
    (F : FunD K x qual params body scope dvs kws f fd) (Sc : FnScope N ps scope)
    (hbody : ∀ (cdv : Value) (A : Around) (outer : List Env) (s : Shared) (H : Hp) (E : XK), Room k (A.deeper (envOfC qual scope s.heap.objs.size f cdv)) →
      MSs (cxOf (L2.CX P w) P w K mg base N qual scope f cdv A outer s H E) (WD E) body m) :
    FnOk P w K mg base (L2.CX P w) (k + 1) f fd ps (spD K mg ps.length (run ps.length N.length m)) := by
  refine F.ok Sc (fun vs H Q E ⟨F, ds, s, h, l, _⟩ => (dpa_len h).trans l) fun cdv A outer s H vs Q E hr ⟨F, ds, sm, h, l, hp⟩ => ⟨_, hbody cdv A outer s H E hr, F, H, F, _, StOk.start (N := N) sm h ?_, ?_⟩
  · rw [l]
    have := congrArg List.length Sc.pre
    rw [List.length_take] at this
    omega
  · unfold run at hp
    rw [if_pos l] at hp
    rw [l]
    cases e : m (ds.map Cell.dat ++ List.replicate (N.length - ps.length) Cell.un) with
    | nx g =>
      rw [e] at hp
      exact fun F' H' σ ok => hp .non F' H' ok.e .non
    | rt d =>
      rw [e] at hp
      exact hp
    | ex c p g =>
      rw [e] at hp
      exact fun cls od F' H' σ ok xv => hp cls od F' H' ok.e xv
    | bk g => rw [e] at hp; exact (show False from hp).elim
    | ct g => rw [e] at hp; exact (show False from hp).elim
    | bad => rw [e] at hp; exact (show False from hp).elim
theorem FPost.ext {K : PySem.W.Frag} {mg : Str → Option Value} {F H F' H' : Hp} {Q : VK} {E : XK} {r : R D} (e : Ext F H F' H') (h : FPost K mg F H Q E r) : FPost K mg F' H' Q E r := by
  cases r with
  | ok d => exact fun v F2 H2 e2 q => h v F2 H2 (e.trans e2) q
  | exc c p => exact fun cls od F2 H2 e2 q => h cls od F2 H2 (e.trans e2) q
  | bad => exact h
def mCall (n : Nat) (f : List D → R D) (dds : List D) (m : Vw → R (List D)) : M := fun δ => (m δ).bind fun ds => if (ds ++ dds).length = n then f (ds ++ dds) else .bad
theorem me_call {X : Cx} {W : WX} {k n : Nat} {f : Addr} {fd : FuncData} {ps : List Str} {dvs : List V} {ds : List Value} {x : Str} {p pos : Pos} {e : Expr} {es : List Expr} {m : Vw → R (List D)} {fn : List D → R D} {dds : List D}
    (G : FnOk X.prog X.w X.K X.mg X.base (L2.CX X.prog X.w) k f fd ps (spD X.K X.mg n fn)) (hr : Room k X.A) (hg : Gl X x) (hm : X.mg x = some (.ref f)) (hk : PySem.W.keepIn X.K (.ref f) = true) (hb : Binds X.K fd ps ds) (hd : Vals dvs ds)
    (hdd : ∀ F, DpAll X.K F dvs dds) (tk : Takes X W) (ha : MA X W (e :: es) m) (hdb : (x == ("__debug__" : Str)) = false) (he : starEach (e :: es) X.env = (false, eval e X.env) :: starEach es X.env) (hpl : (backTo pos (starEach es X.env)).any (·.1) = false) :
    ME X W (.Call (.Name x p) (e :: es) [] pos) (mCall n fn dds m) := by
  refine PE.imp (pe_callSD (E := WE W) G hr hg hm hk hb hd (fun σ => passAt tk σ) ha hdb he hpl) fun σ H Q ⟨F, δ, s, v, h⟩ => ?_
  refine ⟨F, δ, s, v, ?_⟩
  unfold mCall at h
  cases q : m δ with
  | ok ds' =>
    rw [q, R.bind_ok] at h
    intro vs F' H' E hvs
    split at h
    · rename_i hl
      refine ⟨F', ds' ++ dds, E.s, dpa_append hvs (hdd F'), hl, ?_⟩
      have h2 : FPost X.K X.mg F H Q (WE W σ) (fn (ds' ++ dds)) := by
        cases z : fn (ds' ++ dds) with
        | ok d => rw [z] at h; exact h
        | exc c p => rw [z] at h; exact h
        | bad => rw [z] at h; exact h
      exact h2.ext E
    · exact h.elim
  | exc c p => rw [q] at h; exact h
  | bad => rw [q] at h; exact h
/-! the law's end -/
theorem spD_law {K : PySem.W.Frag} {mg : Str → Option Value} {f : List D → R D} {H : Hp} {a : Addr} {ns : List Int} (hO : Only H) (hS : SqL K H a (ns.map V.int)) (h : f [.list (ns.map .int)] = .ok (.bool true)) :
    spD K mg 1 f [.ref a] H (fun v _ => v = .bl true) fun _ _ _ => False := by
  have intsD : ∀ ns : List Int, DpAll K H (ns.map V.int) (ns.map PyData.int) := fun ns => by
    induction ns with
    | nil => exact .nil
    | cons n ns ih => exact .cons (.int n) ih
  refine ⟨H, [.list (ns.map .int)], Same.refl H, .cons (.lst hS (intsD ns)) .nil, rfl, ?_⟩
  rw [h]
  intro v F' H' E q
  cases q
  rfl
/-! ### operations -/
section
variable {X : Cx}
theorem opr_of {f : Value → Value → Sem Value} {r' : R2} (h : ∀ x y H Q, r' x y H Q → ∃ r, OpR X f r ∧ r x y H Q) : OpR X f r' := fun pins s σ H x y v u Q I rx ry hh => by
  obtain ⟨r, ho, q⟩ := h x y H Q hh
  exact ho pins s σ H x y v u Q I rx ry q
theorem unr_of {f : Value → Sem Value} {r' : V → Hp → VK → Prop} (h : ∀ x H Q, r' x H Q → ∃ r, UnR X f r ∧ r x H Q) : UnR X f r' := fun pins s σ H x v Q I rx hh => by
  obtain ⟨r, ho, q⟩ := h x H Q hh
  exact ho pins s σ H x v Q I rx q
theorem callr_of {f : Value} {r' : List V → Hp → VK → Prop} (h : ∀ xs H Q, r' xs H Q → ∃ r, CallR X f r ∧ r xs H Q) : CallR X f r' := fun pins s σ H xs us Q I rx hh => by
  obtain ⟨r, ho, q⟩ := h xs H Q hh
  exact ho pins s σ H xs us Q I rx q
theorem mtr_of {id : String} {r' : V → List V → Hp → VK → Prop} (h : ∀ x xs H Q, r' x xs H Q → ∃ r, MtR X id r ∧ r x xs H Q) : MtR X id r' := fun pins s σ H x xs v us Q I rx rs hh => by
  obtain ⟨r, ho, q⟩ := h x xs H Q hh
  exact ho pins s σ H x xs v us Q I rx rs q
end
theorem dp_str {K : PySem.W.Frag} {F : Hp} {v : V} {i : Str} (h : Dp K F v (.str i)) : v = .str i := by cases h; rfl
theorem dp_bl {K : PySem.W.Frag} {F : Hp} {v : V} {i : Bool} (h : Dp K F v (.bool i)) : v = .bl i := by cases h; rfl
/-- great factors: together below a hundred million bits -/
def okMul (i j : Int) : Bool := decide (i.natAbs.log2 + j.natAbs.log2 < 100000000)
theorem okMul_ok {i j : Int} (h : okMul i j = true) : CMulX i j := by
  unfold okMul at h
  rw [decide_eq_true_eq] at h
  have b : ∀ x : Int, Builtin.Int.intBits x ≤ x.natAbs.log2 + 1 := fun x => by
    unfold Builtin.Int.intBits
    split <;> omega
  have x := b i
  have y := b j
  unfold CMulX
  omega
def okDiv (j : Int) : Bool := decide (j ≠ 0) && decide (j.natAbs.log2 < 9000)
def fAdd : D → D → Option D
  | .int i, .int j => some (.int (i + j))
  | .str a, .str b => if a.length + b.length ≤ most then some (.str (a ++ b)) else none
  | .list a, .list b => none
  | .tuple a, .tuple b => if a ≠ [] ∧ a.length + b.length ≤ most then some (.tuple (a ++ b)) else none
  | _, _ => none
def fSub : D → D → Option D
  | .int i, .int j => some (.int (i - j))
  | _, _ => none
def fMul : D → D → Option D
  | .int i, .int j => if okMul i j = true then some (.int (i * j)) else none
  | _, _ => none
def fFdv : D → D → Option D
  | .int i, .int j => if okDiv j = true then some (.int (i.fdiv j)) else none
  | _, _ => none
def fMod : D → D → Option D
  | .int i, .int j => if j ≠ 0 then some (.int (i.fmod j)) else none
  | _, _ => none
def fPow : D → D → Option D
  | .int i, .int j => if 0 ≤ j ∧ j ≤ 1000000 ∧ i.natAbs < 2 ^ 64 then some (.int (i ^ j.toNat)) else none
  | _, _ => none
def fNeg : D → Option D
  | .int i => some (.int (-i))
  | _ => none
section
variable {X : Cx}
theorem o_add : OpR X (binaryOp .Add) (rD2 X.K fAdd) := opr_of fun x y H Q ⟨F, d1, d2, d, s, h1, h2, e, q⟩ => by
  unfold fAdd at e
  split at e
  · cases e
    cases dp_int h1
    cases dp_int h2
    exact ⟨_, op_add, _, _, rfl, rfl, q _ F H (Ext.refl s) (.int _)⟩
  · split at e
    · rename_i l
      cases e
      cases dp_str h1
      cases dp_str h2
      exact ⟨_, op_add_str, _, _, rfl, rfl, most_le l, q _ F H (Ext.refl s) (.str _)⟩
    · cases e
  · cases e
  · split at e
    · rename_i l
      cases e
      cases h1 with
      | tup a b =>
        cases h2 with
        | tup a2 b2 =>
          refine ⟨_, op_catT, _, _, _, _, rfl, rfl, same_t s a, same_t s a2, ?_, ?_, fun z => ?_, fun _ p hp => q _ _ _ (Ext.new s hp) (.tup (SqT.of upd_same) (dpa_mono (Ext.new (o := .tup _) s hp).f _ (dpa_append b b2)))⟩
          · intro z
            subst z
            cases b
            exact l.1 rfl
          · rw [dpa_len b, dpa_len b2]
            exact most_le l.2
          · subst z
            cases b2
            rw [List.append_nil] at q
            exact q _ F H (Ext.refl s) (.tup a b)
    · cases e
  · cases e
theorem o_sub : OpR X (binaryOp .Sub) (rD2 X.K fSub) := opr_of fun x y H Q ⟨F, d1, d2, d, s, h1, h2, e, q⟩ => by
  unfold fSub at e
  split at e
  · cases e
    cases dp_int h1
    cases dp_int h2
    exact ⟨_, op_sub, _, _, rfl, rfl, q _ F H (Ext.refl s) (.int _)⟩
  · cases e
theorem o_mul : OpR X (binaryOp .Mult) (rD2 X.K fMul) := opr_of fun x y H Q ⟨F, d1, d2, d, s, h1, h2, e, q⟩ => by
  unfold fMul at e
  split at e
  · split at e
    · rename_i l
      cases e
      cases dp_int h1
      cases dp_int h2
      exact ⟨_, op_mulX, _, _, rfl, rfl, okMul_ok l, q _ F H (Ext.refl s) (.int _)⟩
    · cases e
  · cases e
theorem op_fdivZ : OpR X (binaryOp .FloorDiv) (rI (fun _ j => j ≠ 0 ∧ j.natAbs.log2 < 9000) fun i j => .int (i.fdiv j)) :=
  opI fun _ _ _ _ _ _ _ hc q => floordiv_int hc.1 q (.inl (PyProof.noPylong_of_log2 hc.2))
theorem o_fdv : OpR X (binaryOp .FloorDiv) (rD2 X.K fFdv) := opr_of fun x y H Q ⟨F, d1, d2, d, s, h1, h2, e, q⟩ => by
  unfold fFdv at e
  split at e
  · split at e
    · rename_i l
      cases e
      cases dp_int h1
      cases dp_int h2
      unfold okDiv at l
      rw [Bool.and_eq_true, decide_eq_true_eq, decide_eq_true_eq] at l
      exact ⟨_, op_fdivZ, _, _, rfl, rfl, l, q _ F H (Ext.refl s) (.int _)⟩
    · cases e
  · cases e
theorem o_mod : OpR X (binaryOp .Mod) (rD2 X.K fMod) := opr_of fun x y H Q ⟨F, d1, d2, d, s, h1, h2, e, q⟩ => by
  unfold fMod at e
  split at e
  · split at e
    · rename_i l
      cases e
      cases dp_int h1
      cases dp_int h2
      exact ⟨_, op_modN, _, _, rfl, rfl, l, q _ F H (Ext.refl s) (.int _)⟩
    · cases e
  · cases e
theorem o_pow : OpR X (binaryOp .Pow) (rD2 X.K fPow) := opr_of fun x y H Q ⟨F, d1, d2, d, s, h1, h2, e, q⟩ => by
  unfold fPow at e
  split at e
  · split at e
    · rename_i l
      cases e
      cases dp_int h1
      cases dp_int h2
      exact ⟨_, op_pow, _, _, rfl, rfl, l, q _ F H (Ext.refl s) (.int _)⟩
    · cases e
  · cases e
theorem o_neg : UnR X (unaryOp .USub) (rD1 X.K fNeg) := unr_of fun x H Q ⟨F, d1, d, s, h1, e, q⟩ => by
  unfold fNeg at e
  split at e
  · cases e
    cases dp_int h1
    exact ⟨_, un_neg, _, rfl, q _ F H (Ext.refl s) (.int _)⟩
  · cases e
end
/-! comparisons -/
def fLt : D → D → Option D
  | .int i, .int j => some (.bool (decide (i < j)))
  | .str a, .str b => some (.bool (decide (a.cps.toList < b.cps.toList)))
  | _, _ => none
def fLe : D → D → Option D
  | .int i, .int j => some (.bool (decide (i ≤ j)))
  | _, _ => none
def fGt : D → D → Option D
  | .int i, .int j => some (.bool (decide (j < i)))
  | _, _ => none
def fGe : D → D → Option D
  | .int i, .int j => some (.bool (decide (j ≤ i)))
  | _, _ => none
def dEq : D → D → Option Bool
  | .int i, .int j => some (decide (i = j))
  | .str a, .str b => some (decide (a = b))
  | .bool a, .bool b => some (decide (a = b))
  | .none, .none => some true
  | d, e => if (SeqAt.shaped d && SeqAt.shaped e) = true then some (PyData.eqv d e) else none
def fEq (d e : D) : Option D := (dEq d e).map .bool
def fNe (d e : D) : Option D := (dEq d e).map fun b => .bool (!b)
def fIs (d e : D) : Option D := match e with
  | .none => (match d with
    | .none => some (.bool true)
    | _ => some (.bool false))
  | _ => none
def fIsN (d e : D) : Option D := match e with
  | .none => (match d with
    | .none => some (.bool false)
    | _ => some (.bool true))
  | _ => none
def fIn (neg : Bool) : D → D → Option D
  | d, .list ds => if (SeqAt.shaped d && SeqAt.shaped (.list ds)) = true then some (.bool (if neg = true then !(ds.any fun z => PyData.eqv z d) else ds.any fun z => PyData.eqv z d)) else none
  | .str a, .str b => some (.bool (if neg = true then !(!(Builtin.Str.occurrences b a 0 b.length 1).isEmpty) else !(Builtin.Str.occurrences b a 0 b.length 1).isEmpty))
  | _, _ => none
section
variable {X : Cx}
theorem o_lt : OpR X (compareOp .Lt) (rD2 X.K fLt) := opr_of fun x y H Q ⟨F, d1, d2, d, s, h1, h2, e, q⟩ => by
  unfold fLt at e
  split at e
  · cases e
    cases dp_int h1
    cases dp_int h2
    exact ⟨_, op_lt, _, _, rfl, rfl, q _ F H (Ext.refl s) (.bl _)⟩
  · cases e
    cases dp_str h1
    cases dp_str h2
    exact ⟨_, op_lt_str, _, _, rfl, rfl, q _ F H (Ext.refl s) (.bl _)⟩
  · cases e
theorem o_le : OpR X (compareOp .LtE) (rD2 X.K fLe) := opr_of fun x y H Q ⟨F, d1, d2, d, s, h1, h2, e, q⟩ => by
  unfold fLe at e
  split at e
  · cases e
    cases dp_int h1
    cases dp_int h2
    exact ⟨_, op_le, _, _, rfl, rfl, q _ F H (Ext.refl s) (.bl _)⟩
  · cases e
theorem o_gt : OpR X (compareOp .Gt) (rD2 X.K fGt) := opr_of fun x y H Q ⟨F, d1, d2, d, s, h1, h2, e, q⟩ => by
  unfold fGt at e
  split at e
  · cases e
    cases dp_int h1
    cases dp_int h2
    exact ⟨_, op_gt, _, _, rfl, rfl, q _ F H (Ext.refl s) (.bl _)⟩
  · cases e
theorem o_ge : OpR X (compareOp .GtE) (rD2 X.K fGe) := opr_of fun x y H Q ⟨F, d1, d2, d, s, h1, h2, e, q⟩ => by
  unfold fGe at e
  split at e
  · cases e
    cases dp_int h1
    cases dp_int h2
    exact ⟨_, op_ge, _, _, rfl, rfl, q _ F H (Ext.refl s) (.bl _)⟩
  · cases e
theorem dEq_ok {K : PySem.W.Frag} {F H : Hp} {x y : V} {d e : D} {b : Bool} (s : Same F H) (h1 : Dp K F x d) (h2 : Dp K F y e) (q : dEq d e = some b) :
    (scal x y = true ∧ decide (x = y) = b) ∨ (L2.Dp K H x d ∧ L2.Dp K H y e ∧ SeqAt.shaped d = true ∧ SeqAt.shaped e = true ∧ PyData.eqv d e = b) := by
  unfold dEq at q
  split at q
  · cases q
    cases dp_int h1
    cases dp_int h2
    exact .inl ⟨rfl, by simp⟩
  · cases q
    cases dp_str h1
    cases dp_str h2
    exact .inl ⟨rfl, by simp⟩
  · cases q
    cases dp_bl h1
    cases dp_bl h2
    exact .inl ⟨rfl, by simp⟩
  · cases q
    cases h1
    cases h2
    exact .inl ⟨rfl, by simp⟩
  · split at q
    · rename_i l
      cases q
      rw [Bool.and_eq_true] at l
      exact .inr ⟨dp_shaped (dp_mono s _ h1) l.1, dp_shaped (dp_mono s _ h2) l.2, l.1, l.2, rfl⟩
    · cases q
theorem o_eq (hu : X.A.units + 64 < cLine) : OpR X (compareOp .Eq) (rD2 X.K fEq) := opr_of fun x y H Q ⟨F, d1, d2, d, s, h1, h2, e, q⟩ => by
  unfold fEq at e
  cases z : dEq d1 d2 with
  | none => rw [z] at e; cases e
  | some b =>
    rw [z] at e
    cases e
    have q' := q (.bl b) F H (Ext.refl s) (.bl b)
    rcases dEq_ok s h1 h2 z with ⟨a1, a2⟩ | ⟨a1, a2, a3, a4, a5⟩
    · exact ⟨_, op_eq, a1, by rw [a2]; exact q'⟩
    · exact ⟨_, op_eqD hu, _, _, a1, a2, a3, a4, by rw [a5]; exact q'⟩
theorem o_ne (hu : X.A.units + 64 < cLine) : OpR X (compareOp .NotEq) (rD2 X.K fNe) := opr_of fun x y H Q ⟨F, d1, d2, d, s, h1, h2, e, q⟩ => by
  unfold fNe at e
  cases z : dEq d1 d2 with
  | none => rw [z] at e; cases e
  | some b =>
    rw [z] at e
    cases e
    have q' := q (.bl (!b)) F H (Ext.refl s) (.bl _)
    rcases dEq_ok s h1 h2 z with ⟨a1, a2⟩ | ⟨a1, a2, a3, a4, a5⟩
    · exact ⟨_, op_ne, a1, by rw [a2]; exact q'⟩
    · exact ⟨_, op_neD hu, _, _, a1, a2, a3, a4, by rw [a5]; exact q'⟩
theorem o_is : OpR X (compareOp .Is) (rD2 X.K fIs) := opr_of fun x y H Q ⟨F, d1, d2, d, s, h1, h2, e, q⟩ => by
  unfold fIs at e
  split at e
  · cases h2
    refine ⟨_, op_isN, rfl, ?_⟩
    split at e
    · cases e
      cases h1
      exact q _ F H (Ext.refl s) (.bl _)
    · rename_i hn
      cases e
      have : decide (x = .non) = false := by
        cases h1 with
        | non => exact absurd rfl hn
        | _ => rfl
      rw [this]
      exact q _ F H (Ext.refl s) (.bl _)
  · cases e
theorem o_isN : OpR X (compareOp .IsNot) (rD2 X.K fIsN) := opr_of fun x y H Q ⟨F, d1, d2, d, s, h1, h2, e, q⟩ => by
  unfold fIsN at e
  split at e
  · cases h2
    refine ⟨_, op_notN, rfl, ?_⟩
    split at e
    · cases e
      cases h1
      exact q _ F H (Ext.refl s) (.bl _)
    · rename_i hn
      cases e
      have : decide (x = .non) = false := by
        cases h1 with
        | non => exact absurd rfl hn
        | _ => rfl
      rw [this]
      exact q _ F H (Ext.refl s) (.bl _)
  · cases e
theorem o_in (hu : X.A.units + 65 < cLine) : OpR X (compareOp .In) (rD2 X.K (fIn false)) := opr_of fun x y H Q ⟨F, d1, d2, d, s, h1, h2, e, q⟩ => by
  unfold fIn at e
  split at e
  · split at e
    · rename_i l
      cases e
      rw [Bool.and_eq_true] at l
      exact ⟨_, op_inD hu, _, _, dp_shaped (dp_mono s _ h1) l.1, dp_shaped (dp_mono s _ h2) l.2, l.1, l.2, q _ F H (Ext.refl s) (.bl _)⟩
    · cases e
  · cases e
    cases dp_str h1
    cases dp_str h2
    exact ⟨_, op_in_str, _, _, rfl, rfl, q _ F H (Ext.refl s) (.bl _)⟩
  · cases e
theorem o_notIn (hu : X.A.units + 65 < cLine) : OpR X (compareOp .NotIn) (rD2 X.K (fIn true)) := opr_of fun x y H Q ⟨F, d1, d2, d, s, h1, h2, e, q⟩ => by
  unfold fIn at e
  split at e
  · split at e
    · rename_i l
      cases e
      rw [Bool.and_eq_true] at l
      exact ⟨_, op_notInD hu, _, _, dp_shaped (dp_mono s _ h1) l.1, dp_shaped (dp_mono s _ h2) l.2, l.1, l.2, q _ F H (Ext.refl s) (.bl _)⟩
    · cases e
  · cases e
    cases dp_str h1
    cases dp_str h2
    exact ⟨_, op_notIn_str, _, _, rfl, rfl, q _ F H (Ext.refl s) (.bl _)⟩
  · cases e
end
/-- a comparison tells a truth -/
theorem bl_lt : ∀ x y d, fLt x y = some d → ∃ z : Bool, d = .bool z := fun x y d e => by
  unfold fLt at e
  split at e <;> cases e <;> exact ⟨_, rfl⟩
theorem bl_le : ∀ x y d, fLe x y = some d → ∃ z : Bool, d = .bool z := fun x y d e => by
  unfold fLe at e
  split at e <;> cases e <;> exact ⟨_, rfl⟩
theorem bl_gt : ∀ x y d, fGt x y = some d → ∃ z : Bool, d = .bool z := fun x y d e => by
  unfold fGt at e
  split at e <;> cases e <;> exact ⟨_, rfl⟩
theorem bl_ge : ∀ x y d, fGe x y = some d → ∃ z : Bool, d = .bool z := fun x y d e => by
  unfold fGe at e
  split at e <;> cases e <;> exact ⟨_, rfl⟩
theorem bl_eq : ∀ x y d, fEq x y = some d → ∃ z : Bool, d = .bool z := fun x y d e => by
  unfold fEq at e
  cases z : dEq x y with
  | none => rw [z] at e; cases e
  | some b => rw [z] at e; cases e; exact ⟨_, rfl⟩
theorem bl_ne : ∀ x y d, fNe x y = some d → ∃ z : Bool, d = .bool z := fun x y d e => by
  unfold fNe at e
  cases z : dEq x y with
  | none => rw [z] at e; cases e
  | some b => rw [z] at e; cases e; exact ⟨_, rfl⟩
theorem bl_is : ∀ x y d, fIs x y = some d → ∃ z : Bool, d = .bool z := fun x y d e => by
  unfold fIs at e
  split at e
  · split at e <;> cases e <;> exact ⟨_, rfl⟩
  · cases e
theorem bl_isN : ∀ x y d, fIsN x y = some d → ∃ z : Bool, d = .bool z := fun x y d e => by
  unfold fIsN at e
  split at e
  · split at e <;> cases e <;> exact ⟨_, rfl⟩
  · cases e
theorem bl_in (n : Bool) : ∀ x y d, fIn n x y = some d → ∃ z : Bool, d = .bool z := fun x y d e => by
  unfold fIn at e
  split at e
  · split at e <;> cases e <;> exact ⟨_, rfl⟩
  · cases e; exact ⟨_, rfl⟩
  · cases e
/-! items, slices -/
def fIx : D → D → Option D
  | .list ds, .int i => atI ds i
  | .tuple ds, .int i => atI ds i
  | .str z, .int i => if z.length ≤ most then (atI z.cps.toList i).map fun c => .str ⟨#[c]⟩ else none
  | _, _ => none
theorem dpa_at {K : PySem.W.Frag} {F : Hp} {vs : List V} {ds : List D} {i : Int} {d : D} (h : DpAll K F vs ds) (e : atI ds i = some d) : ∃ v, atI vs i = some v ∧ Dp K F v d := by
  unfold atI at e ⊢
  rw [dpa_len h]
  cases q : ixN ds.length i with
  | none => rw [q] at e; cases e
  | some j => rw [q] at e; exact dpa_get h e
theorem i_ix {K : PySem.W.Frag} : ∀ x y H Q, rD2 K fIx x y H Q → rIx K x y H Q := fun x y H Q ⟨F, d1, d2, d, s, h1, h2, e, q⟩ => by
  unfold fIx at e
  split at e
  · cases dp_int h2
    cases h1 with
    | lst a b =>
      obtain ⟨v, e1, e2⟩ := dpa_at b e
      exact .inl ⟨_, _, _, _, rfl, rfl, s.seq a, e1, q _ F H (Ext.refl s) e2⟩
  · cases dp_int h2
    cases h1 with
    | tup a b =>
      obtain ⟨v, e1, e2⟩ := dpa_at b e
      exact .inr (.inl ⟨_, _, _, _, rfl, rfl, same_t s a, e1, q _ F H (Ext.refl s) e2⟩)
  · split at e
    · rename_i z i l
      cases dp_int h2
      cases dp_str h1
      cases w : atI z.cps.toList i with
      | none => rw [w] at e; cases e
      | some c =>
        rw [w] at e
        cases e
        exact .inr (.inr ⟨_, _, _, rfl, rfl, most_le l, w, q _ F H (Ext.refl s) (.str _)⟩)
    · cases e
  · cases e
/-- a part of a slice -/
def mPart (m : M) : Vw → R (Option Int) := fun δ => (m δ).bind fun d => match d with
  | .int i => .ok (some i)
  | _ => .bad
def mNoPart : Vw → R (Option Int) := fun _ => .ok none
def cutD (xs : List D) (lo hi : Option Int) : List D := (xs.drop (HT.sIx xs.length 0 lo)).take (HT.sIx xs.length xs.length hi - HT.sIx xs.length 0 lo)
def fSl (d : D) (lo hi : Option Int) : Option D := match d with
  | .list ds => some (.list (cutD ds lo hi))
  | .tuple ds => if HT.sIx ds.length 0 lo = 0 ∧ HT.sIx ds.length ds.length hi = ds.length then none else some (.tuple (cutD ds lo hi))
  | .str z => if z.length ≤ most then some (.str (Txt.slice z lo hi)) else none
  | _ => none
def mSl (m : M) (lo hi : Vw → R (Option Int)) : M := fun δ => (m δ).bind fun d => (lo δ).bind fun l => (hi δ).bind fun h => R.of (fSl d l h)
section
variable {X : Cx} {W : WX}
def OPost (F H : Hp) (σ : L2.St) (Q : Option Int → Hp → Prop) : R (Option Int) → Prop
  | .ok b => ∀ F' H', Ext F H F' H' → Q b H'
  | .exc c p => ∀ cls od F' H', Ext F H F' H' → XV X.K X.mg F' c p cls od → W cls od σ H'
  | .bad => False
def tO (X : Cx) (W : WX) (m : Vw → R (Option Int)) : TO := fun σ H Q => ∃ F δ, Same F H ∧ VwOk X.K F σ δ ∧ OPost (X := X) (W := W) F H σ Q (m δ)
abbrev MO (X : Cx) (W : WX) (e : Option Expr) (m : Vw → R (Option Int)) : Prop := PO X e (tO X W m)
theorem PO.imp {e : Option Expr} {t t' : TO} (h : PO X e t) (i : ∀ σ H Q, t' σ H Q → t σ H Q) : PO X e t' := ⟨fun pins s σ H Q I hw => h.run pins s σ H Q I (i _ _ _ hw)⟩
theorem mo_none : MO X W none mNoPart := PO.imp po_none fun σ H Q ⟨F, δ, s, v, h⟩ => h F H (Ext.refl s)
theorem mo_some {e : Expr} {m : M} (he : ME X W e m) : MO X W (some e) (mPart m) := PO.imp (po_some he) fun σ H Q ⟨F, δ, s, v, h⟩ => by
  refine ⟨F, δ, s, v, ?_⟩
  unfold mPart at h
  cases e : m δ with
  | ok d =>
    rw [e, R.bind_ok] at h
    cases d with
    | int i =>
      intro x F' H' E hx
      cases dp_int hx
      exact ⟨i, rfl, h F' H' E⟩
    | _ => exact h.elim
  | exc c p => rw [e] at h; exact h
  | bad => rw [e] at h; exact h
theorem dpa_cut {K : PySem.W.Frag} {F : Hp} {vs : List V} {ds : List D} {lo hi : Option Int} (h : DpAll K F vs ds) : DpAll K F (cutV vs lo hi) (cutD ds lo hi) := by
  unfold cutV cutD
  rw [dpa_len h]
  exact dpa_take _ (dpa_drop _ h)
def rSlD (K : PySem.W.Frag) : V → Option Int → Option Int → Hp → VK → Prop := fun x lo hi H Q => ∃ F d1 d, Same F H ∧ Dp K F x d1 ∧ fSl d1 lo hi = some d ∧ ∀ v F' H', Ext F H F' H' → Dp K F' v d → Q v H'
theorem slr_of {r' : V → Option Int → Option Int → Hp → VK → Prop} (h : ∀ x lo hi H Q, r' x lo hi H Q → ∃ r, SlR X r ∧ r x lo hi H Q) : SlR X r' := by
  intro pins s σ H x v vl vu lo hi sl Q I rx hs pl pu hh
  obtain ⟨r, ho, q⟩ := h x lo hi H Q hh
  exact ho pins s σ H x v vl vu lo hi sl Q I rx hs pl pu q
theorem l_sl : SlR X (rSlD X.K) := slr_of fun x lo hi H Q ⟨F, d1, d, s, h1, e, q⟩ => by
  unfold fSl at e
  split at e
  · cases e
    cases h1 with
    | lst a b => exact ⟨_, sl_list, _, _, rfl, s.seq a, fun p hp => q _ _ _ (Ext.new s hp) (.lst (SqL.of upd_same) (dpa_mono (Ext.new (o := .lst _) s hp).f _ (dpa_cut b)))⟩
  · split at e
    · cases e
    · rename_i l
      cases e
      cases h1 with
      | tup a b => exact ⟨_, sl_tup, _, _, rfl, same_t s a, by rw [dpa_len b]; exact l, fun p hp => q _ _ _ (Ext.new s hp) (.tup (SqT.of upd_same) (dpa_mono (Ext.new (o := .tup _) s hp).f _ (dpa_cut b)))⟩
  · split at e
    · rename_i l
      cases e
      cases dp_str h1
      exact ⟨_, C8.sl_txt, _, rfl, most_le l, q _ F H (Ext.refl s) (.str _)⟩
    · cases e
  · cases e
theorem me_sl {e : Expr} {lo hi : Option Expr} {m : M} {ml mh : Vw → R (Option Int)} {pos p2 : Pos} (he : ME X W e m) (hl : MO X W lo ml) (hh : MO X W hi mh) : ME X W (.Subscript e (.Slice lo hi none p2) pos) (mSl m ml mh) := by
  refine PE.imp (pe_slice l_sl he hl hh) fun σ H Q ⟨F, δ, s, v, h⟩ => ?_
  refine tM_bind s v h fun d x F1 H1 _ E hx h1 => ?_
  refine ⟨F1, δ, E.s, v.mono E.f, ?_⟩
  cases e1 : ml δ with
  | ok l =>
    rw [e1, R.bind_ok] at h1
    intro F2 H2 E2
    refine ⟨F2, δ, E2.s, (v.mono E.f).mono E2.f, ?_⟩
    cases e2 : mh δ with
    | ok u =>
      rw [e2, R.bind_ok] at h1
      obtain ⟨d3, e3, q⟩ := of_post h1
      intro F3 H3 E3
      exact ⟨F3, d, d3, E3.s, dp_mono (E2.f.trans E3.f) d hx, e3, fun w F4 H4 E4 hw => q w F4 H4 (E2.trans (E3.trans E4)) hw⟩
    | exc c p =>
      rw [e2] at h1
      exact fun cls od F3 H3 E3 xv => h1 cls od F3 H3 (E2.trans E3) xv
    | bad => rw [e2] at h1; exact h1.elim
  | exc c p => rw [e1] at h1; exact h1
  | bad => rw [e1] at h1; exact h1.elim
end
/-! built-in functions -/
section
variable {X : Cx} {W : WX} {x : Str} {p pos : Pos} {e : Expr} {es : List Expr} {m : Vw → R (List D)} {id T : String} {f : List D → Option D}
theorem me_cB (hc : CallR X (.builtin id) (rDs X.K f)) (hg : Gl X x) (hm : X.mg x = none) (hv : bootBuiltins x = some (.builtin id)) (ha : MA X W (e :: es) m) (hn : x ≠ "__name__") (hdb : (x == ("__debug__" : Str)) = false)
    (he : starEach (e :: es) X.env = (false, eval e X.env) :: starEach es X.env) (hpl : (backTo pos (starEach es X.env)).any (·.1) = false) : ME X W (.Call (.Name x p) (e :: es) [] pos) (mDs f m) := by
  refine PE.imp (pe_callB hc hg hm hv ha hn hdb he hpl) fun σ H Q ⟨F, δ, s, v, h⟩ => ?_
  refine tA_bind s v h fun ds xs F1 H1 _ E hx h1 => ?_
  obtain ⟨d3, e, q⟩ := of_post h1
  exact ⟨F1, ds, d3, E.s, hx, e, q⟩
theorem me_cT (hc : CallR X (.type T) (rDs X.K f)) (hg : Gl X x) (hm : X.mg x = none) (hv : bootBuiltins x = some (.type T)) (ha : MA X W (e :: es) m) (hn : x ≠ "__name__") (hdb : (x == ("__debug__" : Str)) = false)
    (he : starEach (e :: es) X.env = (false, eval e X.env) :: starEach es X.env) (hpl : (backTo pos (starEach es X.env)).any (·.1) = false) : ME X W (.Call (.Name x p) (e :: es) [] pos) (mDs f m) := by
  refine PE.imp (pe_callTy hc hg hm hv ha hn hdb he hpl) fun σ H Q ⟨F, δ, s, v, h⟩ => ?_
  refine tA_bind s v h fun ds xs F1 H1 _ E hx h1 => ?_
  obtain ⟨d3, e, q⟩ := of_post h1
  exact ⟨F1, ds, d3, E.s, hx, e, q⟩
end
def fAbs : List D → Option D
  | [.int i] => some (.int (if i < 0 then -i else i))
  | _ => none
def fLen : List D → Option D
  | [.list ds] => some (.int ds.length)
  | [.tuple ds] => some (.int ds.length)
  | [.str z] => if z.length ≤ most then some (.int z.length) else none
  | _ => none
def fMax : List D → Option D
  | [.int i, .int j] => some (.int (if j > i then j else i))
  | _ => none
def fMin : List D → Option D
  | [.int i, .int j] => some (.int (if j < i then j else i))
  | _ => none
def fInt : List D → Option D
  | [.int i] => some (.int i)
  | [.bool k] => some (.int (if k then 1 else 0))
  | _ => none
def fStr : List D → Option D
  | [.int i] => if i.natAbs.log2 < 1920 then some (.str (toString i)) else none
  | [.str z] => some (.str z)
  | _ => none
def fListOf : List D → Option D
  | [.list ds] => some (.list ds)
  | [.tuple ds] => some (.list ds)
  | _ => none
def fTupOf : List D → Option D
  | [.list ds] => some (.tuple ds)
  | [.tuple ds] => some (.tuple ds)
  | _ => none
section
variable {X : Cx}
theorem c_abs : CallR X (.builtin "abs") (rDs X.K fAbs) := callr_of fun xs H Q ⟨F, ds, d, s, h, e, q⟩ => by
  unfold fAbs at e
  split at e
  · cases e
    obtain ⟨v, rfl, hv⟩ := dpa1 h
    cases dp_int hv
    exact ⟨_, call_abs, _, rfl, q _ F H (Ext.refl s) (.int _)⟩
  · cases e
theorem c_len : CallR X (.builtin "len") (rDs X.K fLen) := callr_of fun xs H Q ⟨F, ds, d, s, h, e, q⟩ => by
  unfold fLen at e
  split at e
  · cases e
    obtain ⟨v, rfl, hv⟩ := dpa1 h
    cases hv with
    | lst a b => exact ⟨_, call_len_seq, _, _, rfl, .inl (s.seq a), by rw [dpa_len b]; exact q _ F H (Ext.refl s) (.int _)⟩
  · cases e
    obtain ⟨v, rfl, hv⟩ := dpa1 h
    cases hv with
    | tup a b => exact ⟨_, call_len_seq, _, _, rfl, .inr (same_t s a), by rw [dpa_len b]; exact q _ F H (Ext.refl s) (.int _)⟩
  · split at e
    · rename_i l
      cases e
      obtain ⟨v, rfl, hv⟩ := dpa1 h
      cases dp_str hv
      exact ⟨_, call_len_str, _, rfl, most_le l, q _ F H (Ext.refl s) (.int _)⟩
    · cases e
  · cases e
theorem c_max (hc : X.calm = true) : CallR X (.builtin "max") (rDs X.K fMax) := callr_of fun xs H Q ⟨F, ds, d, s, h, e, q⟩ => by
  unfold fMax at e
  split at e
  · cases e
    obtain ⟨v, w, rfl, hv, hw⟩ := dpa2 h
    cases dp_int hv
    cases dp_int hw
    exact ⟨_, call_max2 hc, _, _, rfl, q _ F H (Ext.refl s) (.int _)⟩
  · cases e
theorem c_min (hc : X.calm = true) : CallR X (.builtin "min") (rDs X.K fMin) := callr_of fun xs H Q ⟨F, ds, d, s, h, e, q⟩ => by
  unfold fMin at e
  split at e
  · cases e
    obtain ⟨v, w, rfl, hv, hw⟩ := dpa2 h
    cases dp_int hv
    cases dp_int hw
    exact ⟨_, call_min2 hc, _, _, rfl, q _ F H (Ext.refl s) (.int _)⟩
  · cases e
theorem c_int : CallR X (.type "int") (rDs X.K fInt) := callr_of fun xs H Q ⟨F, ds, d, s, h, e, q⟩ => by
  unfold fInt at e
  split at e
  · cases e
    obtain ⟨v, rfl, hv⟩ := dpa1 h
    cases dp_int hv
    exact ⟨_, call_int1, .inl ⟨_, rfl, q _ F H (Ext.refl s) (.int _)⟩⟩
  · cases e
    obtain ⟨v, rfl, hv⟩ := dpa1 h
    cases dp_bl hv
    exact ⟨_, call_int1, .inr ⟨_, rfl, q _ F H (Ext.refl s) (.int _)⟩⟩
  · cases e
theorem c_str : CallR X (.type "str") (rDs X.K fStr) := callr_of fun xs H Q ⟨F, ds, d, s, h, e, q⟩ => by
  unfold fStr at e
  split at e
  · split at e
    · rename_i l
      cases e
      obtain ⟨v, rfl, hv⟩ := dpa1 h
      cases dp_int hv
      exact ⟨_, call_str_int, _, rfl, l, q _ F H (Ext.refl s) (.str _)⟩
    · cases e
  · cases e
    obtain ⟨v, rfl, hv⟩ := dpa1 h
    cases dp_str hv
    exact ⟨_, SkE.call_str_str, _, rfl, q _ F H (Ext.refl s) (.str _)⟩
  · cases e
theorem c_list : CallR X (.type "list") (rDs X.K fListOf) := callr_of fun xs H Q ⟨F, ds, d, s, h, e, q⟩ => by
  unfold fListOf at e
  split at e
  · cases e
    obtain ⟨v, rfl, hv⟩ := dpa1 h
    cases hv with
    | lst a b => exact ⟨_, call_list_of, _, _, rfl, .inl (s.seq a), fun p hp => q _ _ _ (Ext.new s hp) (.lst (SqL.of upd_same) (dpa_mono (Ext.new (o := .lst _) s hp).f _ b))⟩
  · cases e
    obtain ⟨v, rfl, hv⟩ := dpa1 h
    cases hv with
    | tup a b => exact ⟨_, call_list_of, _, _, rfl, .inr (same_t s a), fun p hp => q _ _ _ (Ext.new s hp) (.lst (SqL.of upd_same) (dpa_mono (Ext.new (o := .lst _) s hp).f _ b))⟩
  · cases e
theorem c_tuple : CallR X (.type "tuple") (rDs X.K fTupOf) := callr_of fun xs H Q ⟨F, ds, d, s, h, e, q⟩ => by
  unfold fTupOf at e
  split at e
  · cases e
    obtain ⟨v, rfl, hv⟩ := dpa1 h
    cases hv with
    | lst a b => exact ⟨_, call_tuple_of, _, _, rfl, .inl ⟨s.seq a, fun p hp => q _ _ _ (Ext.new s hp) (.tup (SqT.of upd_same) (dpa_mono (Ext.new (o := .tup _) s hp).f _ b))⟩⟩
  · cases e
    obtain ⟨v, rfl, hv⟩ := dpa1 h
    cases hv with
    | tup a b => exact ⟨_, call_tuple_of, _, _, rfl, .inr ⟨same_t s a, q _ F H (Ext.refl s) (.tup a b)⟩⟩
  · cases e
end
/-! isinstance -/
def tyD : D → String
  | .none => "NoneType"
  | .bool _ => "bool"
  | .int _ => "int"
  | .str _ => "str"
  | .list _ => "list"
  | .tuple _ => "tuple"
  | .dict _ => "dict"
theorem tyx_of {K : PySem.W.Frag} {F H : Hp} {x : V} {d : D} (s : Same F H) (h : Dp K F x d) (hd : ∀ p kvs, d ≠ .dict (p :: kvs)) : TyX K H x (.type (tyD d)) := by
  cases h with
  | exc c a => exact absurd rfl (hd _ _)
  | excF c a _ _ _ => exact absurd rfl (hd _ _)
  | dct0 a => exact .base (.dK (s _ _ a))
  | non => exact .base .non
  | bl b => exact .base (.bl b)
  | int i => exact .base (.int i)
  | str z => exact .base (.str z)
  | lst a b =>
    rcases s.seq a with (h | ⟨o, h⟩) | ⟨o, its, n, h1, h2, _⟩
    · exact .base (.lst h)
    · exact .base (.frz h)
    · exact .kList h1 h2
  | tup a b =>
    rcases same_t s a with (h | ⟨o, h⟩) | ⟨o, its, n, h1, h2, _⟩
    · exact .base (.tup h)
    · exact .fTuple h
    · exact .kTuple h1 h2
/-- the built-in classes that are asked for, by data's own classes -/
def isT (T : String) (d : D) : Option Bool := match d with
  | .dict (_ :: _) => none
  | d => kitB (tyD d) T
theorem isT_nd {T : String} {d : D} {b : Bool} (h : isT T d = some b) : ∀ p kvs, d ≠ .dict (p :: kvs) := fun p kvs e => by
  subst e
  cases h
def mIsi (T : String) (a : M) : M := fun δ => (a δ).bind fun d => R.of ((isT T d).map .bool)
theorem pe_bty {X : Cx} {x : Str} {T : String} {pos : Pos} (hg : Gl X x) (hm : X.mg x = none) (hv : bootBuiltins x = some (.type T)) (hn : x ≠ "__name__") (hdb : (x == ("__debug__" : Str)) = false) : PE X (.Name x pos) (tC (.ty T)) :=
  ⟨fun pins s σ H Q I h => ld_blt I hg hm hv ⟨.ty T, H, I, rfl, h⟩ hn hdb⟩
theorem me_isi {X : Cx} {W : WX} {a : Expr} {ma : M} {x : Str} {T : String} {p p2 pos : Pos} (hgi : Gl X "isinstance") (hmi : X.mg "isinstance" = none) (ha : ME X W a ma) (hg : Gl X x) (hm : X.mg x = none) (hv : bootBuiltins x = some (.type T)) (hn : x ≠ "__name__") (hdb : (x == ("__debug__" : Str)) = false)
    (he : starEach [a, .Name x p2] X.env = (false, eval a X.env) :: starEach [.Name x p2] X.env) (he2 : starEach [.Name x p2] X.env = (false, eval (.Name x p2) X.env) :: starEach [] X.env) (hpl : (backTo pos (starEach [.Name x p2] X.env)).any (·.1) = false) :
    ME X W (.Call (.Name "isinstance" p) [a, .Name x p2] [] pos) (mIsi T ma) := by
  refine PE.imp (pe_callB call_isi hgi hmi (by decide +kernel) (pa_cons ha (pa_cons (pe_bty hg hm hv hn hdb) pa_nil he2) he) (by decide) (by decide) he hpl) fun σ H Q ⟨F, δ, s, v, h⟩ => ?_
  refine tM_bind s v h fun d y F1 H1 _ E hx h1 => ?_
  cases q : isT T d with
  | none => rw [q] at h1; exact h1.elim
  | some b =>
    rw [q] at h1
    refine ⟨y, .ty T, .type (tyD d), .type T, b, rfl, .ty T, tyx_of E.s hx (isT_nd q), ?_, h1 (.bl b) F1 H1 (Ext.refl E.s) (.bl b)⟩
    unfold isT at q
    split at q
    · cases q
    · exact kit_ty q
end MI
set_option Elab.async false
set_option linter.all false
set_option maxRecDepth 100000
set_option maxHeartbeats 4000000
/-! MI5: what the printed walks use. -/
namespace MI
open PySem PySem.Spec PyProof.Rows L2
/-- a def of the row, with what it tells; dds: the defaults that a call may leave out -/
structure DefOk (P : Program) (w : World) (K : PySem.W.Frag) (mg : Str → Option Value) (base : Heap) (k : Nat) (x : Str) (n : Nat) (f : List D → R D) (dds : List (List D)) : Prop where
  gl : mg x = some (.ref (He.ga K x))
  ex : ∃ (fd : FuncData) (ps : List Str), PySem.W.keepIn K (.ref (He.ga K x)) = true ∧ FnOk P w K mg base (L2.CX P w) k (He.ga K x) fd ps (spD K mg n f) ∧ ∀ dd ∈ dds, ∃ (dvs : List V) (ds : List Value), Vals dvs ds ∧ (∀ F, DpAll K F dvs dd) ∧ Binds K fd ps ds
theorem me_def {X : Cx} {W : WX} {j k n : Nat} {x : Str} {p pos : Pos} {e : Expr} {es : List Expr} {m : Vw → R (List D)} {fn : List D → R D} {dds : List (List D)} {dd : List D}
    (G : DefOk X.prog X.w X.K X.mg X.base k x n fn dds) (hr : Room j X.A) (tk : Takes X W) (ha : MA X W (e :: es) m) (hmem : dd ∈ dds := by first | exact List.mem_cons_self | simp) (hk : k ≤ j := by decide) (hg : Gl X x := by rfl)
    (hdb : (x == ("__debug__" : Str)) = false := by decide) (he : starEach (e :: es) X.env = (false, eval e X.env) :: starEach es X.env := by rfl) (hpl : (backTo pos (starEach es X.env)).any (·.1) = false := by rfl) :
    ME X W (.Call (.Name x p) (e :: es) [] pos) (mCall n fn dd m) := by
  obtain ⟨fd, ps, kp, F, b⟩ := G.ex
  obtain ⟨dvs, ds, h1, h2, h3⟩ := b dd hmem
  exact me_call F (hr.mono hk) hg G.gl kp h3 h1 h2 tk ha hdb he hpl
/-- the package of a def -/
theorem def_ok {P : Program} {w : World} {K : PySem.W.Frag} {mg : Str → Option Value} {base : Heap} {d : He.DefD} {k n : Nat} {f : List D → R D} {dds : List (List D)} {fd : FuncData} {ps : List Str} (gl : mg d.name = some (.ref (He.ga K d.name)))
    (F : FunD K d.name d.qual d.params d.body d.scope (d.dvs K) (d.kws K) (He.ga K d.name) fd) (G : FnOk P w K mg base (L2.CX P w) k (He.ga K d.name) fd ps (spD K mg n f))
    (b : ∀ dd ∈ dds, ∃ (dvs : List V) (ds : List Value), Vals dvs ds ∧ (∀ F, DpAll K F dvs dd) ∧ Binds K fd ps ds) : DefOk P w K mg base k d.name n f dds := ⟨gl, fd, ps, F.kp, G, b⟩
/-! short names -/
section
variable {X : Cx} {W : WX}
theorem mv (i : Nat) {x : Str} {pos : Pos} (hN : X.N[i]? = some x := by rfl) (hv : Vis X.env.scope x := by first | exact Or.inl rfl | exact Or.inr (Or.inl rfl) | exact Or.inr (Or.inr rfl)) (hd : (x == ("__debug__" : Str)) = false := by decide)
    (hcd : (x == ("__classdict__" : Str)) = false := by decide) : ME X W (.Name x pos) (mVar i) := me_var hN hv hd hcd
theorem mac {a : Expr} {ma : M} {es : List Expr} {mr : Vw → R (List D)} (ha : ME X W a ma) (hr : MA X W es mr) (hs : starEach (a :: es) X.env = (false, eval a X.env) :: starEach es X.env := by rfl) : MA X W (a :: es) (mCons ma mr) := ma_cons ha hr hs
theorem mbin {op : Operator} {f : D → D → Option D} {pos : Pos} {a b : Expr} {ma mb : M} (ho : OpR X (binaryOp op) (rD2 X.K f)) (ha : ME X W a ma) (hb : ME X W b mb) : ME X W (.BinOp a op b pos) (mBin f ma mb) := me_op ho ha hb
theorem mcmp {op : CmpOp} {f : D → D → Option D} {pos : Pos} {a b : Expr} {ma mb : M} (ho : OpR X (compareOp op) (rD2 X.K f)) (ha : ME X W a ma) (hb : ME X W b mb) (hm : behindInMarks op b = false := by rfl) : ME X W (.Compare a [op] [b] pos) (mBin f ma mb) := me_cmp ho ha hb hm
theorem tcmp {op : CmpOp} {f : D → D → Option D} {pos : Pos} {a b : Expr} {ma mb : M} (ho : OpR X (compareOp op) (rD2 X.K f)) (hf : ∀ x y d, f x y = some d → ∃ z : Bool, d = .bool z) (ha : ME X W a ma) (hb : ME X W b mb) (hm : behindInMarks op b = false := by rfl) : MT X W (.Compare a [op] [b] pos) (mTru (mBin f ma mb)) := mt_cmp ho hf ha hb hm
theorem ttru {a : Expr} {ma : M} (ha : ME X W a ma) (he : ∀ whole, isTrue a X.env whole = (do let v ← whole; standAt a.pos; holding [v] (truthy v)) := by intro _; rfl) : MT X W a (mTru ma) := mt_tru ha he
theorem mix {pos : Pos} {a b : Expr} {ma mb : M} (ha : ME X W a ma) (hb : ME X W b mb) (hs : PlainIx b := by exact fun _ _ => rfl) : ME X W (.Subscript a b pos) (mBin fIx ma mb) := me_ix ix_seq i_ix ha hb hs
theorem mcB {x : Str} {p pos : Pos} {e : Expr} {es : List Expr} {m : Vw → R (List D)} {id : String} {f : List D → Option D} (hc : CallR X (.builtin id) (rDs X.K f)) (hm : X.mg x = none) (ha : MA X W (e :: es) m) (hg : Gl X x := by rfl) (hv : bootBuiltins x = some (.builtin id) := by decide +kernel) (hn : x ≠ "__name__" := by decide) (hdb : (x == ("__debug__" : Str)) = false := by decide)
    (he : starEach (e :: es) X.env = (false, eval e X.env) :: starEach es X.env := by rfl) (hpl : (backTo pos (starEach es X.env)).any (·.1) = false := by rfl) : ME X W (.Call (.Name x p) (e :: es) [] pos) (mDs f m) := me_cB hc hg hm hv ha hn hdb he hpl
theorem mcT {x : Str} {p pos : Pos} {e : Expr} {es : List Expr} {m : Vw → R (List D)} {T : String} {f : List D → Option D} (hc : CallR X (.type T) (rDs X.K f)) (hm : X.mg x = none) (ha : MA X W (e :: es) m) (hg : Gl X x := by rfl) (hv : bootBuiltins x = some (.type T) := by decide +kernel) (hn : x ≠ "__name__" := by decide) (hdb : (x == ("__debug__" : Str)) = false := by decide)
    (he : starEach (e :: es) X.env = (false, eval e X.env) :: starEach es X.env := by rfl) (hpl : (backTo pos (starEach es X.env)).any (·.1) = false := by rfl) : ME X W (.Call (.Name x p) (e :: es) [] pos) (mDs f m) := me_cT hc hg hm hv ha hn hdb he hpl
theorem misi {a : Expr} {ma : M} {x : Str} {p p2 pos : Pos} (T : String) (hmi : X.mg "isinstance" = none) (hm : X.mg x = none) (ha : ME X W a ma) (hgi : Gl X "isinstance" := by rfl) (hg : Gl X x := by rfl) (hv : bootBuiltins x = some (.type T) := by decide +kernel) (hn : x ≠ "__name__" := by decide) (hdb : (x == ("__debug__" : Str)) = false := by decide)
    (he : starEach [a, .Name x p2] X.env = (false, eval a X.env) :: starEach [.Name x p2] X.env := by rfl) (he2 : starEach [.Name x p2] X.env = (false, eval (.Name x p2) X.env) :: starEach [] X.env := by rfl) (hpl : (backTo pos (starEach [.Name x p2] X.env)).any (·.1) = false := by rfl) :
    ME X W (.Call (.Name "isinstance" p) [a, .Name x p2] [] pos) (mIsi T ma) := me_isi hgi hmi ha hg hm hv hn hdb he he2 hpl
theorem sset (i : Nat) {pos : Pos} {x : Str} {e : Expr} {m : M} {pos' : Pos} (hN : X.N.Nodup) (he : ME X W e m) (hi : X.N[i]? = some x := by rfl) (hx : Loc X.env.scope x := by first | exact Or.inl rfl | exact Or.inr rfl) (hs : swapsWith e (some (.Name x pos')) pos.line X.env = pure false := by rfl) (hf : X.fn x = true ∨ X.env.scope.names.lookup x = some .local := by first | exact .inl rfl | exact .inr rfl) :
    MS X W (.Assign [.Name x pos'] e pos) (sSet i m) := ms_set hN hi hx he hs hf
theorem ssetF (i : Nat) {pos : Pos} {x : Str} {e : Expr} {m : M} {pos' : Pos} (hN : X.N.Nodup) (he : ME X W e m) (hi : X.N[i]? = some x := by rfl) (hx : Loc X.env.scope x := by first | exact Or.inl rfl | exact Or.inr rfl) (hs : swapsWith e (some (.Name x pos')) pos.line X.env = pure false := by rfl) (hf : X.fn x = true ∨ X.env.scope.names.lookup x = some .local := by first | exact .inl rfl | exact .inr rfl) :
    MS X W (.Assign [.Name x pos'] e pos) (sSetF i m) := ms_setF hN hi hx he hs hf
theorem snewL (i : Nat) {pos : Pos} {x : Str} {es : List Expr} {m : Vw → R (List D)} {pos' pos2 : Pos} (hN : X.N.Nodup) (he : MA X W es m) (hi : X.N[i]? = some x := by rfl) (hx : Loc X.env.scope x := by first | exact Or.inl rfl | exact Or.inr rfl) (hs : swapsWith (.List es pos2) (some (.Name x pos')) pos.line X.env = pure false := by rfl) (hf : X.fn x = true ∨ X.env.scope.names.lookup x = some .local := by first | exact .inl rfl | exact .inr rfl) :
    MS X W (.Assign [.Name x pos'] (.List es pos2) pos) (sNewL i m) := ms_newL hN hi hx he hs hf
theorem spar (i j : Nat) {pos : Pos} {x y : Str} {e f : Expr} {m : Vw → R (List D)} {px py pt : Pos} {kt k2 pt2} (hN : X.N.Nodup) (ha : MA X W [e, f] m) (hc : X.calm = true := by rfl) (hi : X.N[i]? = some x := by rfl) (hj : X.N[j]? = some y := by rfl) (hij : i ≠ j := by decide)
    (hx : X.env.scope.names.lookup x = some .local := by rfl) (hy : X.env.scope.names.lookup y = some .local := by rfl)
    (hw : swappedStores [.Tuple [.Name x px, .Name y py] kt pt] (.Tuple [e, f] k2 pt2) X.env = pure (some [x, y]) := by rfl)
    (hs : swapsWithSole [.Tuple [.Name x px, .Name y py] kt pt] (.Tuple [e, f] k2 pt2) pos.line X.env = pure false := by rfl) :
    MS X W (.Assign [.Tuple [.Name x px, .Name y py] kt pt] (.Tuple [e, f] k2 pt2) pos) (sPar i j m) := ms_par hc hN hi hj hij hx hy ha hw hs
theorem sexpr {pos : Pos} {e : Expr} {m : M} (he : ME X W e m) (hs : swapsWith e none pos.line X.env = pure false := by rfl) : MS X W (.Expr e pos) (sExpr m) := ms_expr he hs
theorem sraise {c : Str} {m : Str} {j : Nat} {p p2 pos pos2 : Pos} (hc : X.mg c = some (.ref (He.ga X.K c))) (xf : (He.Fa.exc c).ok X.K = true) (tk : Takes X W) (hcalm : X.calm = true := by rfl) (hg : Gl X c := by rfl) (hdb : (c == ("__debug__" : Str)) = false := by decide) :
    MS X W (.Raise (some (.Call (.Name c p) [.Constant (.str m) j p2] [] pos)) none pos2) (sRaise c) := by
  obtain ⟨x1, x2, x3, x4⟩ := He.exc_ok xf
  exact ms_raise hcalm tk hc (pmk_own PySem.F.excBase_ValueError x1 hc x2 (raises_own x3 x4) hg hdb)
theorem sforL {pos : Pos} {tg iter : Expr} {body : List Stmt} {m : M} {r : TG} {t : Tg} {b : S} (hp : PassesOwn (model X.prog X.w) X.A X.env X.xe) (he : ME X W iter m) (hg : PG X tg r) (ht : TgOk X.K r t) (hb : MSs X W body b) (hc : X.calm = true := by rfl)
    (hs : ∀ x, foldedSetIterable iter X.env x = pure x := by intro _; rfl) : MS X W (.For tg iter body [] pos) (sForL m t b) := ms_forL hp hc he hg ht hb hs
theorem sfor1 {pos p q : Pos} {tg a : Expr} {body : List Stmt} {m : Vw → R (List D)} {r : TG} {t : Tg} {s : S} (hm : X.mg "range" = none) (hp : PassesOwn (model X.prog X.w) X.A X.env X.xe) (ha : MA X W [a] m) (hg : PG X tg r) (ht : TgOk X.K r t) (hb : MSs X W body s) (hc : X.calm = true := by rfl) (hG : Gl X "range" := by rfl)
    (hst : starEach [a] X.env = [(false, eval a X.env)] := by rfl) (hs : ∀ x, foldedSetIterable (.Call (.Name "range" p) [a] [] q) X.env x = pure x := by intro _; rfl) : MS X W (.For tg (.Call (.Name "range" p) [a] [] q) body [] pos) (sForR rng1 m t s) := ms_for1 hp hc hG hm ha hst hg ht hb hs
theorem sfor2 {pos p q : Pos} {tg a b : Expr} {body : List Stmt} {m : Vw → R (List D)} {r : TG} {t : Tg} {s : S} (hm : X.mg "range" = none) (hp : PassesOwn (model X.prog X.w) X.A X.env X.xe) (ha : MA X W [a, b] m) (hg : PG X tg r) (ht : TgOk X.K r t) (hb : MSs X W body s) (hc : X.calm = true := by rfl) (hG : Gl X "range" := by rfl)
    (hst : starEach [a, b] X.env = [(false, eval a X.env), (false, eval b X.env)] := by rfl) (hst2 : starEach [b] X.env = [(false, eval b X.env)] := by rfl) (hs : ∀ x, foldedSetIterable (.Call (.Name "range" p) [a, b] [] q) X.env x = pure x := by intro _; rfl) : MS X W (.For tg (.Call (.Name "range" p) [a, b] [] q) body [] pos) (sForR rng2 m t s) := ms_for2 hp hc hG hm ha hst hst2 hg ht hb hs
theorem sfor3 {pos p q : Pos} {tg a b c : Expr} {body : List Stmt} {m : Vw → R (List D)} {r : TG} {t : Tg} {s : S} (hm : X.mg "range" = none) (hp : PassesOwn (model X.prog X.w) X.A X.env X.xe) (ha : MA X W [a, b, c] m) (hg : PG X tg r) (ht : TgOk X.K r t) (hb : MSs X W body s) (hc : X.calm = true := by rfl) (hG : Gl X "range" := by rfl)
    (hst : starEach [a, b, c] X.env = (false, eval a X.env) :: starEach [b, c] X.env := by rfl) (hpl : (backTo q (starEach [b, c] X.env)).any (·.1) = false := by rfl) (hs : ∀ x, foldedSetIterable (.Call (.Name "range" p) [a, b, c] [] q) X.env x = pure x := by intro _; rfl) : MS X W (.For tg (.Call (.Name "range" p) [a, b, c] [] q) body [] pos) (sForR rng3 m t s) := ms_for3 hp hc hG hm ha hst hpl hg ht hb hs
theorem gname (i : Nat) {x : Str} {pos : Pos} (hN : X.N.Nodup) (hi : X.N[i]? = some x := by rfl) (hx : Loc X.env.scope x := by first | exact Or.inl rfl | exact Or.inr rfl) (hf : X.fn x = true ∨ X.env.scope.names.lookup x = some .local := by first | exact .inl rfl | exact .inr rfl) : PG X (.Name x pos) (gName i) := pg_name hN hi hx hf
theorem sasg {pos : Pos} {tg e : Expr} {m : M} {r : TG} {t : Tg} (he : ME X W e m) (hg : PG X tg r) (ht : TgOk X.K r t) (hs : swapsWithSole [tg] e pos.line X.env = pure false := by rfl) (hw : swappedStores [tg] e X.env = pure none := by rfl) (h1 : (assignEach [tg] X.env).map (·.2) = [assign tg X.env] := by rfl) : MS X W (.Assign [tg] e pos) (sAsg t m) := ms_asg he hg ht hs hw h1
theorem stry {x : Str} {body suite : List Stmt} {b0 : Stmt} {np pos pos' : Pos} {sub : Str → Option Bool} {b u : S} (gC : X.mg x = some (.ref (He.ga X.K x))) (tk : Takes X W) (so : SubOk X.K X.mg sub (.ref (He.ga X.K x)))
    (hb : ∀ (W' : WX) (pn : List (Addr × Obj)) (xe : Value → Shared → Prop), Takes (X.tr pn xe) W' → PassesOwn (model X.prog X.w) X.A X.env xe → MSs (X.tr pn xe) W' body b)
    (hsu : ∀ (a : Addr) (oe : Obj) (cls : Value) (d : Option Addr) (pn : List (Addr × Obj)), Zc cls d oe → (∃ vs, oe.data = .fields vs) → ∀ W' : WX, MSs (X.suite a ((a, oe) :: pn)) W' (b0 :: suite) u)
    (hs : X.stack = X.env :: X.outer := by rfl) (hf : X.env.frame = some X.env.locals := by rfl) (hg : Gl X x := by rfl) (hdb : (x == ("__debug__" : Str)) = false := by decide) :
    MS X W (.Try body [.ExceptHandler (some (.Name x np)) none (b0 :: suite) pos'] [] [] pos) (sTry sub b u) := ms_try hs hf ⟨hg, hdb, .inl gC⟩ tk so hb hsu
/-- a module's int, text -/
theorem mgInt {x : Str} {i : Int} {pos : Pos} (hm : ∃ t, X.mg x = some (.int i t)) (hg : Gl X x := by rfl) (hd : (x == ("__debug__" : Str)) = false := by decide) : ME X W (.Name x pos) (mC (.int i)) := by
  obtain ⟨t, h⟩ := hm
  exact me_c (pe_glob (v := .int i) hg h ⟨t, rfl⟩ hd) fun _ => .int i
theorem mgStr {x z : Str} {pos : Pos} (hm : ∃ t, X.mg x = some (.str z t)) (hg : Gl X x := by rfl) (hd : (x == ("__debug__" : Str)) = false := by decide) : ME X W (.Name x pos) (mC (.str z)) := by
  obtain ⟨t, h⟩ := hm
  exact me_c (pe_glob (v := .str z) hg h ⟨t, rfl⟩ hd) fun _ => .str z
end
/-- which exceptions a clause takes, from a table -/
def subT (tb : List (Str × Bool)) : Str → Option Bool := fun c => tb.lookup c
theorem subT_ok {K : PySem.W.Frag} {mg : Str → Option Value} {y : Str} : ∀ (tb : List (Str × Bool)), (∀ p ∈ tb, mg p.1 = some (.ref (He.ga K p.1)) ∧ PySem.W.exmOne K (.ref (He.ga K p.1)) (.ref (He.ga K y)) = some p.2) → SubOk K mg (subT tb) (.ref (He.ga K y))
  | [], _ => fun x k C e _ => by cases e
  | p :: tb, h => fun x k C e g => by
    unfold subT at e
    rw [List.lookup_cons] at e
    cases q : (x == p.1) with
    | true =>
      rw [q] at e
      cases e
      have := beq_iff_eq.mp q
      subst this
      obtain ⟨h1, h2⟩ := h p (List.mem_cons_self ..)
      rw [h1] at g
      cases g
      exact h2
    | false =>
      rw [q] at e
      exact subT_ok tb (fun p' hp => h p' (List.mem_cons_of_mem _ hp)) x k C e g
/-! ### the end -/
theorem walk_mi {l : PySem.W.OpenLaw} {n k : Nat} {q : Program} {loose : List Str} {XP : (Str → Option Value) → Heap → Prop} {YP : World → Heap → Prop} {d : DefRec} {x : Str} {f : List D → R D}
    (hn : l.most = some n) (hn2 : n ≤ sizeLine) (hdf : d.params.defaults = []) (hr : Room k callerA)
    (G : ∀ (w : World) (mg : Str → Option Value) (fa : Addr) (h : Heap), YP w h → h.Ns mainGlobals mg → mg d.name = some (.ref fa) →
      ∃ (K : PySem.W.Frag) (fd : FuncData), K.In h ∧ (∀ (s : Shared) (u : Value), BindsTo s fd ⟨[u], []⟩ [(x, u)]) ∧
        ∀ base : Heap, K.In base → base.Ns mainGlobals mg → FnOk l.prog w K mg base (L2.CX l.prog w) k fa fd [x] (spD K mg 1 f))
    (hf : ∀ ns : List Int, ns.length ≤ n → (∀ z ∈ ns, Builtin.Int.intBits z ≤ 1048576) → f [.list (ns.map .int)] = .ok (.bool true)) :
    PySem.W.WalkO q loose XP YP l.row.toRowW d [] (fun f vs => PySem.call f vs) := by
  refine Att.attach_callB hn hdf fun w s0 s1 mg mb fa o pm cd doc a vs ns Gr Y ho hd hcd hmg hobj hints hlen hbits hg => ?_
  obtain ⟨K, fd, KX, hb, hF⟩ := G w mg fa _ Y Gr.T.g hmg
  refine law_call KX Gr.T.g Gr.T.b Gr.T.builtins Gr.T.nolimit hg hobj hints (Nat.le_trans hlen hn2) hr hF hb (fun H hO hS => spD_law hO hS (hf ns hlen hbits)) fun H e s' z => ?_
  obtain ⟨_, _, _, _, _, _, _, _, _, _, _, _, z⟩ := z
  exact z.elim
end MI
namespace MI
open PySem PySem.Spec PyProof.Rows L2
/-- further facts: an exception's class as isinstance asks it; isinstance's answer for two classes, for a class and a built-in one; a module's tuple -/
inductive Fx where
  | exc (x : Str)
  | kit (x y : Str) (b : Bool)
  | kitB (x : Str) (T : String) (b : Bool)
  | tup (x : Str) (vs : List He.Dv)
def eqB (a b : Option Bool) : Bool := decide (a = b)
def Fx.ok (K : PySem.W.Frag) : Fx → Bool
  | .exc x => He.eqO (PySem.W.findIn K (.ref (He.ga K x)) "__getattribute__") (some (some (.builtin "BaseException.__getattribute__"))) && (He.eqO (PySem.W.findIn K (.ref (He.ga K x)) "__getattr__") (some none) &&
      (eqB (PySem.W.subIn K (.ref (He.ga K x)) (.type "BaseException")) (some true) && (PySem.W.hasDictIn K (He.ga K x) && (He.eqO (PySem.W.findIn K (.ref (He.ga K x)) "__class__") (some (some (.builtin "object.__class__"))) &&
      (He.eqO (PySem.W.specialIn K (.builtin "object.__class__") "__get__") (some (some (.builtin "getset_descriptor.__get__"))) && (eqB (PySem.W.takesIn K (.builtin "object.__class__")) (some true) && eqB (PySem.W.mroIn K (He.ga K x) (.type "object")) (some true)))))))
  | .kit x y b => eqB (PySem.W.kitOne K (.ref (He.ga K x)) (.ref (He.ga K y))) (some b)
  | .kitB x T b => eqB (PySem.W.kitOne K (.ref (He.ga K x)) (.type T)) (some b)
  | .tup x vs => He.tupB K x vs
theorem fx_exc {K : PySem.W.Frag} {x : Str} (h : (Fx.exc x).ok K = true) : ExcC K (He.ga K x) := by
  obtain ⟨h1, h⟩ := He.ba h
  obtain ⟨h2, h⟩ := He.ba h
  obtain ⟨h3, h⟩ := He.ba h
  obtain ⟨h4, h⟩ := He.ba h
  obtain ⟨h5, h⟩ := He.ba h
  obtain ⟨h6, h⟩ := He.ba h
  obtain ⟨h7, h8⟩ := He.ba h
  exact ⟨He.eqO_ok h1, He.eqO_ok h2, of_decide_eq_true h3, h4, He.eqO_ok h5, He.eqO_ok h6, of_decide_eq_true h7, of_decide_eq_true h8⟩
abbrev AlM : Type := He.AlD × Bool
def obsM (n : Nat) (fa : List He.Fa) (fn : List He.DefD) (fx : List Fx) (g : Addr → Option Obj) : AlM := (He.obsDG n fa fn g, fx.all fun f => f.ok (He.frG g (He.asD g n)))
def hookM (n : Nat) (fa : List He.Fa) (fn : List He.DefD) (fx : List Fx) : PySem.W.Hook where
  α := AlM
  obs := fun s => obsM n fa fn fx s.heap.get?
  val := fun _ => (He.valD fn, true)
  says := fun _ h => ∃ K : PySem.W.Frag, K.In h ∧ He.SaysD fa fn K ∧ (fx.all fun f => f.ok K) = true
  of := fun _ _ e => ⟨_, He.frG_in, congrArg (fun z : AlM => z.1) e, congrArg (fun z : AlM => z.2) e⟩
  keeps := fun _ _ _ ⟨K, hK, c⟩ k => ⟨K, PySem.W.Frag.In.keeps hK k, c⟩
theorem obsM_eq {n : Nat} {fa : List He.Fa} {fn : List He.DefD} {fx : List Fx} {g : Addr → Option Obj} {s : Shared} (h : ∀ a, g a = s.heap.get? a) : obsM n fa fn fx g = (hookM n fa fn fx).obs s := by
  have e : g = s.heap.get? := funext h
  rw [e] <;> rfl
/-- what the row's top has left, by facts -/
structure Tx (fa : List He.Fa) (fn : List He.DefD) (fx : List Fx) (K : PySem.W.Frag) (mg : Str → Option Value) : Prop where
  says : He.SaysD fa fn K
  at_ : ∃ h : Heap, K.In h ∧ h.Ns mainGlobals mg
  more : (fx.all fun f => f.ok K) = true
section
variable {fa : List He.Fa} {fn : List He.DefD} {fx : List Fx} {K : PySem.W.Frag} {mg : Str → Option Value}
theorem Tx.glo (T : Tx fa fn fx K mg) (i : Nat) {x : Str} (h : fa[i]? = some (.glo x) := by rfl) : mg x = some (.ref (He.ga K x)) := let ⟨_, a, b⟩ := T.at_; He.glo_ok a b (T.says.fact i h)
theorem Tx.free (T : Tx fa fn fx K mg) (i : Nat) {x : Str} (h : fa[i]? = some (.free x) := by rfl) : mg x = none := let ⟨_, a, b⟩ := T.at_; He.free_ok a b (T.says.fact i h)
theorem Tx.int (T : Tx fa fn fx K mg) (i : Nat) {x : Str} {z : Int} (h : fa[i]? = some (.int x z) := by rfl) : ∃ t, mg x = some (.int z t) := let ⟨_, a, b⟩ := T.at_; He.int_ok a b (T.says.fact i h)
theorem Tx.str (T : Tx fa fn fx K mg) (i : Nat) {x z : Str} (h : fa[i]? = some (.str x z) := by rfl) : ∃ t, mg x = some (.str z t) := let ⟨_, a, b⟩ := T.at_; He.str_ok a b (T.says.fact i h)
theorem Tx.exc (T : Tx fa fn fx K mg) (i : Nat) {x : Str} (h : fa[i]? = some (.exc x) := by rfl) : (He.Fa.exc x).ok K = true := T.says.fact i h
theorem Tx.exm (T : Tx fa fn fx K mg) (i : Nat) {x y : Str} {b : Bool} (h : fa[i]? = some (.exm x y b) := by rfl) : PySem.W.exmOne K (.ref (He.ga K x)) (.ref (He.ga K y)) = some b := He.exm_ok (T.says.fact i h)
theorem Tx.mo (T : Tx fa fn fx K mg) (i : Nat) {f : Fx} (h : fx[i]? = some f := by rfl) : f.ok K = true := List.all_eq_true.mp T.more f (List.mem_of_getElem? h)
theorem Tx.excC (T : Tx fa fn fx K mg) (i : Nat) {x : Str} (h : fx[i]? = some (.exc x) := by rfl) : ExcC K (He.ga K x) := fx_exc (T.mo i h)
theorem Tx.kit (T : Tx fa fn fx K mg) (i : Nat) {x y : Str} {b : Bool} (h : fx[i]? = some (.kit x y b) := by rfl) : PySem.W.kitOne K (.ref (He.ga K x)) (.ref (He.ga K y)) = some b := of_decide_eq_true (T.mo i h)
theorem Tx.kitB (T : Tx fa fn fx K mg) (i : Nat) {x : Str} {n : String} {b : Bool} (h : fx[i]? = some (.kitB x n b) := by rfl) : PySem.W.kitOne K (.ref (He.ga K x)) (.type n) = some b := of_decide_eq_true (T.mo i h)
theorem Tx.tup (T : Tx fa fn fx K mg) (i : Nat) {x : Str} {vs : List He.Dv} (h : fx[i]? = some (.tup x vs) := by rfl) (H : Hp) : SqT K H (He.ga K x) (vs.map (He.Dv.v K)) := He.tupB_ok (T.mo i h) H
end
/-- a module's tuple -/
theorem mgTup {X : Cx} {W : WX} {x : Str} {vs : List V} {ds : List D} {pos : Pos} (hm : X.mg x = some (.ref (He.ga X.K x))) (ht : ∀ H, SqT X.K H (He.ga X.K x) vs) (hd : ∀ H, DpAll X.K H vs ds) (hg : Gl X x := by rfl) (h2 : (x == ("__debug__" : Str)) = false := by decide) : ME X W (.Name x pos) (mC (.tuple ds)) :=
  me_c (pe_glob (v := .ref (He.ga X.K x)) hg hm rfl h2) fun F => .tup (ht F) (hd F)
theorem all0 {α : Type} {P : α → Prop} : ∀ x ∈ ([] : List α), P x := fun _ h => nomatch h
theorem allC {α : Type} {P : α → Prop} {a : α} {r : List α} (h : P a) (hr : ∀ x ∈ r, P x) : ∀ x ∈ a :: r, P x := fun x hx => by
  rcases List.mem_cons.mp hx with e | e
  · rw [e]; exact h
  · exact hr x e
theorem hu65 {A : Around} {k : Nat} (hr : Room k A) : A.units + 65 < cLine := by
  have := hr.un
  omega
theorem hn_nd {CX : CXT} {P : Program} {w : World} {K : PySem.W.Frag} {mg : Str → Option Value} {base : Heap} {N ps : List Str} {sc : Scope} (S : FnScope N ps sc) : N.Nodup := S.nd
end MI
set_option Elab.async false
set_option linter.all false
set_option maxRecDepth 100000
set_option maxHeartbeats 4000000
/-! MI7: what is walked in general; comprehensions; fresh lists. -/
namespace MI
open PySem PySem.Spec PyProof.Rows L2
/-! ### slots forgotten -/
def wipeV (δ : Vw) : List Nat → Vw
  | [] => δ
  | v :: vs => (wipeV δ vs).set v none
theorem wipe_get {σ : L2.St} {j : Nat} : ∀ vs : List Nat, (wipe σ vs)[j]? = if j ∈ vs then (if j < σ.length then some none else none) else σ[j]?
  | [] => by simp [wipe]
  | v :: vs => by
    unfold wipe
    rw [List.getElem?_set, wipe_length, wipe_get vs]
    by_cases e : v = j
    · subst e
      simp
    · have e' : ¬ j = v := fun h => e h.symm
      simp [e, e']
theorem wipe_idem {σ : L2.St} {vs : List Nat} : wipe (wipe σ vs) vs = wipe σ vs := by
  apply List.ext_getElem?
  intro j
  rw [wipe_get, wipe_length, wipe_get]
  by_cases h : j ∈ vs <;> simp [h]
theorem wipe_set {σ : L2.St} {vs : List Nat} {i : Nat} {x : Option V} (h : i ∈ vs) : wipe (σ.set i x) vs = wipe σ vs := by
  apply List.ext_getElem?
  intro j
  rw [wipe_get, wipe_get, List.length_set]
  by_cases hj : j ∈ vs
  · simp [hj]
  · have : i ≠ j := fun e => hj (e ▸ h)
    simp [hj, List.getElem?_set_ne this]
theorem VwOk.wipe {K : PySem.W.Frag} {F : Hp} {σ : L2.St} {δ : Vw} (h : VwOk K F σ δ) : ∀ vs : List Nat, VwOk K F (L2.wipe σ vs) (wipeV δ vs)
  | [] => h
  | v :: vs => by
    have ih := VwOk.wipe h vs
    unfold L2.wipe wipeV
    refine ⟨by simpa using ih.1, fun i d q => ?_⟩
    rw [List.getElem?_set] at q ⊢
    by_cases e : v = i
    · subst e
      rw [if_pos rfl] at q
      split at q <;> cases q
    · rw [if_neg e] at q ⊢
      exact ih.2 i d q
theorem VwOk.set {K : PySem.W.Frag} {F : Hp} {σ : L2.St} {δ : Vw} (h : VwOk K F σ δ) {i : Nat} {v : V} {d : D} (hd : Dp K F v d) : VwOk K F (σ.set i (some v)) (δ.set i (some d)) := by
  refine ⟨by simpa using h.1, fun j e q => ?_⟩
  rw [List.getElem?_set] at q ⊢
  by_cases z : i = j
  · subst z
    rw [if_pos rfl] at q ⊢
    split at q
    · rename_i l
      cases q
      rw [if_pos (Nat.lt_of_lt_of_le l h.1)]
      exact ⟨v, rfl, hd⟩
    · cases q
  · rw [if_neg z] at q ⊢
    exact h.2 j e q
/-! targets over views -/
abbrev VTg := D → Vw → Option Vw
abbrev VTgs := List D → Vw → Option Vw
def vN (i : Nat) : VTg := fun d δ => some (δ.set i (some d))
def vsNil : VTgs := fun ds δ => match ds with
  | [] => some δ
  | _ => none
def vsCons (t : VTg) (u : VTgs) : VTgs := fun ds δ => match ds with
  | d :: r => (t d δ).bind (u r)
  | [] => none
def vT (u : VTgs) : VTg := fun d δ => match d with
  | .tuple ds => u ds δ
  | _ => none
def VTgOk (K : PySem.W.Frag) (vs : List Nat) (r : TG) (t : VTg) : Prop := ∀ (F H : Hp) (σ : L2.St) (δ δ' : Vw) (v : V) (d : D) (Q : L2.St → Hp → Prop),
  Same F H → VwOk K F σ δ → Dp K F v d → t d δ = some δ' → (∀ σ', VwOk K F σ' δ' → wipe σ' vs = wipe σ vs → Q σ' H) → r v σ H Q
def VTgsOk (K : PySem.W.Frag) (vs : List Nat) (n : Nat) (r : TGs) (t : VTgs) : Prop := (∀ ds δ δ', t ds δ = some δ' → ds.length = n) ∧ ∀ (F H : Hp) (σ : L2.St) (δ δ' : Vw) (xs : List V) (ds : List D) (Q : L2.St → Hp → Prop),
  Same F H → VwOk K F σ δ → DpAll K F xs ds → t ds δ = some δ' → (∀ σ', VwOk K F σ' δ' → wipe σ' vs = wipe σ vs → Q σ' H) → r xs σ H Q
theorem vN_ok {K : PySem.W.Frag} {vs : List Nat} {i : Nat} (h : i ∈ vs) : VTgOk K vs (gName i) (vN i) := fun F H σ δ δ' v d Q s ok hd e q => by
  cases e
  exact q _ (ok.set hd) (wipe_set h)
theorem vsNil_ok {K : PySem.W.Frag} {vs : List Nat} : VTgsOk K vs 0 gNil vsNil := by
  refine ⟨fun ds δ δ' e => ?_, fun F H σ δ δ' xs ds Q s ok hd e q => ?_⟩
  · cases ds with
    | nil => rfl
    | cons a b => cases e
  · cases hd with
    | nil =>
      cases e
      exact ⟨rfl, q _ ok rfl⟩
    | cons a b => cases e
theorem vsCons_ok {K : PySem.W.Frag} {vs : List Nat} {n : Nat} {r : TG} {rs : TGs} {t : VTg} {ts : VTgs} (h1 : VTgOk K vs r t) (h2 : VTgsOk K vs n rs ts) : VTgsOk K vs (n + 1) (gCons r rs) (vsCons t ts) := by
  refine ⟨fun ds δ δ' e => ?_, fun F H σ δ δ' xs ds Q s ok hd e Q' => ?_⟩
  · cases ds with
    | nil => cases e
    | cons d ds =>
      have e' : (t d δ).bind (ts ds) = some δ' := e
      cases q : t d δ with
      | none => rw [q] at e'; cases e'
      | some g1 =>
        rw [q] at e'
        exact congrArg Nat.succ (h2.1 ds g1 δ' e')
  · cases hd with
    | nil => cases e
    | @cons v vs' d ds a b =>
      have e' : (t d δ).bind (ts ds) = some δ' := e
      cases q : t d δ with
      | none => rw [q] at e'; cases e'
      | some g1 =>
        rw [q] at e'
        exact ⟨v, vs', rfl, h1 F H σ δ g1 v d _ s ok a q fun σ' ok' w => h2.2 F H σ' g1 δ' vs' ds Q s ok' b e' fun σ2 ok2 w2 => Q' σ2 ok2 (w2.trans w)⟩
theorem vT_ok {K : PySem.W.Frag} {vs : List Nat} {n : Nat} {r : TGs} {t : VTgs} (h : VTgsOk K vs n r t) : VTgOk K vs (gTup K n r) (vT t) := fun F H σ δ δ' v d Q s ok hd e q => by
  cases hd with
  | tup a b => exact ⟨_, _, rfl, same_t s a, (dpa_len b).trans (h.1 _ _ _ e), h.2 F H σ δ δ' _ _ Q s ok b e q⟩
  | _ => cases e
/-! ### what is walked -/
structure ItOk (K : PySem.W.Frag) (F : Hp) (J : L2.It) (ds : List D) : Prop where
  go : ∀ (i : Nat) (H : Hp) (d : D), Same F H → ds[i]? = some d → J.go i H ∧ ∀ x H' F2, Same F F2 → Same F2 H → J.yld i H x H' → ∃ F3, Ext F2 H F3 H' ∧ Dp K F3 x d
  stop : ∀ (i : Nat) (H : Hp), Same F H → ds.length ≤ i → J.stop i H
theorem it_list {K : PySem.W.Frag} {F : Hp} {a : Addr} {xs : List V} {ds : List D} (hs : SqL K F a xs) (ha : DpAll K F xs ds) : ItOk K F (Itl K a) ds := by
  refine ⟨fun i H d s e => ?_, fun i H s l => ⟨xs, s.seq hs, by rw [dpa_len ha]; exact l⟩⟩
  obtain ⟨v, h1, h2⟩ := dpa_get ha e
  refine ⟨⟨xs, v, s.seq hs, h1⟩, fun x H' F2 f2 s2 ⟨e1, y⟩ => ?_⟩
  subst e1
  have := y xs (s.seq hs)
  rw [h1] at this
  cases this
  exact ⟨F2, Ext.refl s2, dp_mono f2 d h2⟩
theorem it_tup {K : PySem.W.Frag} {F : Hp} {a : Addr} {xs : List V} {ds : List D} (hs : SqT K F a xs) (ha : DpAll K F xs ds) : ItOk K F (Itt K a) ds := by
  refine ⟨fun i H d s e => ?_, fun i H s l => ⟨xs, same_t s hs, by rw [dpa_len ha]; exact l⟩⟩
  obtain ⟨v, h1, h2⟩ := dpa_get ha e
  refine ⟨⟨xs, v, same_t s hs, h1⟩, fun x H' F2 f2 s2 ⟨e1, y⟩ => ?_⟩
  subst e1
  have := y xs (same_t s hs)
  rw [h1] at this
  cases this
  exact ⟨F2, Ext.refl s2, dp_mono f2 d h2⟩
theorem it_rng {K : PySem.W.Frag} {F : Hp} {lo : Int} {n : Nat} : ItOk K F (Itr lo n) (rngL lo 1 n) := by
  refine ⟨fun i H d s e => ?_, fun i H s l => by rw [rngL_len] at l; exact l⟩
  have hi : i < n := by
    have := (List.getElem?_eq_some_iff.mp e).1
    rwa [rngL_len] at this
  rw [rngL_get hi] at e
  cases e
  refine ⟨hi, fun x H' F2 f2 s2 ⟨e1, y⟩ => ?_⟩
  subst e1 y
  rw [Int.mul_one]
  exact ⟨F2, Ext.refl s2, .int _⟩
theorem it_rngC {K : PySem.W.Frag} {F : Hp} {lo c : Int} {n : Nat} : ItOk K F (Itc lo c n) (rngL lo c n) := by
  refine ⟨fun i H d s e => ?_, fun i H s l => by rw [rngL_len] at l; exact l⟩
  have hi : i < n := by
    have := (List.getElem?_eq_some_iff.mp e).1
    rwa [rngL_len] at this
  rw [rngL_get hi] at e
  cases e
  refine ⟨hi, fun x H' F2 f2 s2 ⟨e1, y⟩ => ?_⟩
  subst e1 y
  exact ⟨F2, Ext.refl s2, .int _⟩
def IPost (X : Cx) (W : WX) (F H : Hp) (σ : L2.St) (Q : L2.It → Hp → Prop) : R (List D) → Prop
  | .ok ds => ∀ F' H' J, Ext F H F' H' → ItOk X.K F' J ds → Q J H'
  | .exc c p => ∀ cls od F' H', Ext F H F' H' → XV X.K X.mg F' c p cls od → W cls od σ H'
  | .bad => False
def tI (X : Cx) (W : WX) (m : Vw → R (List D)) : TI := fun σ H Q => ∃ F δ, Same F H ∧ VwOk X.K F σ δ ∧ IPost X W F H σ Q (m δ)
abbrev MIt (X : Cx) (W : WX) (tg e : Expr) (m : Vw → R (List D)) : Prop := PI X tg e (tI X W m)
theorem PI.imp {X : Cx} {tg e : Expr} {t t' : TI} (h : PI X tg e t) (i : ∀ σ H Q, t' σ H Q → t σ H Q) : PI X tg e t' := ⟨fun pins s σ H Q I hw => h.run pins s σ H Q I (i _ _ _ hw)⟩
def mItems (m : M) : Vw → R (List D) := fun δ => (m δ).bind fun d => match d with
  | .list ds => .ok ds
  | .tuple ds => .ok ds
  | _ => .bad
def mRng (f : List D → Option (List D)) (m : Vw → R (List D)) : Vw → R (List D) := fun δ => (m δ).bind fun ds => R.of (f ds)
section
variable {X : Cx} {W : WX} {tg : Expr}
theorem mi_items {e : Expr} {m : M} (he : ME X W e m) : MIt X W tg e (mItems m) := by
  refine PI.imp (pi_lt he) fun σ H Q ⟨F, δ, s, v, h⟩ => ?_
  unfold mItems at h
  cases em : m δ with
  | ok d =>
    rw [em, R.bind_ok] at h
    cases d with
    | list ds =>
      refine .inl ⟨F, δ, s, v, ?_⟩
      rw [em]
      intro y F' H' E hy
      cases hy with
      | lst a b => exact ⟨_, rfl, ⟨_, E.s.seq a⟩, h F' H' _ E (it_list a b)⟩
    | tuple ds =>
      refine .inr ⟨F, δ, s, v, ?_⟩
      rw [em]
      intro y F' H' E hy
      cases hy with
      | tup a b => exact ⟨_, rfl, ⟨_, same_t E.s a⟩, h F' H' _ E (it_tup a b)⟩
    | _ => exact h.elim
  | exc c p =>
    rw [em] at h
    refine .inl ⟨F, δ, s, v, ?_⟩
    rw [em]
    exact h
  | bad => rw [em] at h; exact h.elim
theorem mi_post {F H : Hp} {σ : L2.St} {Q : L2.It → Hp → Prop} {o : Option (List D)} (h : IPost X W F H σ Q (R.of o)) : ∃ xs, o = some xs ∧ ∀ F' H' J, Ext F H F' H' → ItOk X.K F' J xs → Q J H' := by
  cases o with
  | none => exact h.elim
  | some d => exact ⟨d, rfl, h⟩
theorem tA_bindI {m : Vw → R (List D)} {f : List D → Option (List D)} {F H : Hp} {σ : L2.St} {δ : Vw} {Q : L2.It → Hp → Prop} {P : List V → Hp → Prop} (s : Same F H) (v : VwOk X.K F σ δ) (h : IPost X W F H σ Q ((m δ).bind fun ds => R.of (f ds)))
    (k : ∀ ds xs F' H' ys, Ext F H F' H' → DpAll X.K F' xs ds → f ds = some ys → (∀ J, ItOk X.K F' J ys → Q J H') → P xs H') : tA X W m σ H P := by
  refine ⟨F, δ, s, v, ?_⟩
  cases e : m δ with
  | ok ds =>
    rw [e, R.bind_ok] at h
    obtain ⟨ys, e1, q⟩ := mi_post h
    exact fun xs F' H' E hx => k ds xs F' H' ys E hx e1 fun J => q F' H' J E
  | exc c p => rw [e] at h; exact h
  | bad => rw [e] at h; exact h
theorem mi_rng1 {a : Expr} {m : Vw → R (List D)} {p pos : Pos} (hm : X.mg "range" = none) (ha : MA X W [a] m) (hG : Gl X "range" := by rfl) (hst : starEach [a] X.env = [(false, eval a X.env)] := by rfl) : MIt X W tg (.Call (.Name "range" p) [a] [] pos) (mRng rng1 m) := by
  refine PI.imp (pi_range1 hG hm ha hst) fun σ H Q ⟨F, δ, s, v, h⟩ => tA_bindI s v h fun ds xs F' H' ys E hx e q => ?_
  unfold rng1 at e
  split at e
  · split at e
    · rename_i l
      cases e
      obtain ⟨x, rfl, hv⟩ := dpa1 hx
      cases dp_int hv
      unfold lim62 at l
      rw [Bool.and_eq_true, decide_eq_true_eq, decide_eq_true_eq] at l
      exact ⟨_, rfl, l.1, l.2, q _ it_rng⟩
    · cases e
  · cases e
theorem mi_rng2 {a b : Expr} {m : Vw → R (List D)} {p pos : Pos} (hm : X.mg "range" = none) (ha : MA X W [a, b] m) (hG : Gl X "range" := by rfl) (hst : starEach [a, b] X.env = [(false, eval a X.env), (false, eval b X.env)] := by rfl) (hst2 : starEach [b] X.env = [(false, eval b X.env)] := by rfl) :
    MIt X W tg (.Call (.Name "range" p) [a, b] [] pos) (mRng rng2 m) := by
  refine PI.imp (pi_range2 hG hm ha hst hst2) fun σ H Q ⟨F, δ, s, v, h⟩ => tA_bindI s v h fun ds xs F' H' ys E hx e q => ?_
  unfold rng2 at e
  split at e
  · split at e
    · rename_i l
      cases e
      obtain ⟨x, y, rfl, hv, hw⟩ := dpa2 hx
      cases dp_int hv
      cases dp_int hw
      unfold lim62 at l
      rw [Bool.and_eq_true, Bool.and_eq_true, Bool.and_eq_true, decide_eq_true_eq, decide_eq_true_eq, decide_eq_true_eq, decide_eq_true_eq] at l
      exact ⟨_, _, rfl, ⟨l.1.1, l.1.2, l.2.1, l.2.2⟩, q _ it_rng⟩
    · cases e
  · cases e
theorem mi_rng3 {a b c : Expr} {m : Vw → R (List D)} {p pos : Pos} (hm : X.mg "range" = none) (ha : MA X W [a, b, c] m) (hG : Gl X "range" := by rfl) (hst : starEach [a, b, c] X.env = (false, eval a X.env) :: starEach [b, c] X.env := by rfl) (hpl : (backTo pos (starEach [b, c] X.env)).any (·.1) = false := by rfl) :
    MIt X W tg (.Call (.Name "range" p) [a, b, c] [] pos) (mRng rng3 m) := by
  refine PI.imp (pi_range3 hG hm ha hst hpl) fun σ H Q ⟨F, δ, s, v, h⟩ => tA_bindI s v h fun ds xs F' H' ys E hx e q => ?_
  unfold rng3 at e
  split at e
  · split at e
    · rename_i l
      cases e
      obtain ⟨x, y, z, rfl, hv, hw, hz⟩ := dpa3 hx
      cases dp_int hv
      cases dp_int hw
      cases dp_int hz
      exact ⟨_, _, _, _, rfl, ⟨l.1, l.2.1, l.2.2.1, (Int.toNat_of_nonneg l.2.2.2).symm⟩, q _ it_rngC⟩
    · cases e
  · cases e
end
/-! ### fresh lists -/
def NPost (X : Cx) (W : WX) (F H : Hp) (σ : L2.St) (Q : VK) : R (List D) → Prop
  | .ok ds => ∀ p xs F' H', Ext F H F' H' → H p = none → F' p = none → H' p = some (.lst xs) → DpAll X.K F' xs ds → Q (.ref p) H'
  | .exc c p => ∀ cls od F' H', Ext F H F' H' → XV X.K X.mg F' c p cls od → W cls od σ H'
  | .bad => False
def tN (X : Cx) (W : WX) (m : Vw → R (List D)) : TE := fun σ H Q => ∃ F δ, Same F H ∧ VwOk X.K F σ δ ∧ NPost X W F H σ Q (m δ)
/-- an expression that makes a list anew -/
abbrev MN (X : Cx) (W : WX) (e : Expr) (m : Vw → R (List D)) : Prop := PE X e (tN X W m)
def mL (m : Vw → R (List D)) : M := fun δ => (m δ).bind fun ds => .ok (.list ds)
theorem Ext.frzOne {F H F' H' : Hp} (E : Ext F H F' H') {p : Addr} {xs : List V} (h0 : H p = none) (hF : F' p = none) (hH : H' p = some (.lst xs)) : Ext F H (upd F' p (.lst xs)) H' := by
  refine ⟨fun a o e => ?_, E.h, fun a o e => ?_, fun a o e n => ?_⟩
  · have := E.f a o e
    rw [upd_ne (ne_of_none this hF)]
    exact this
  · by_cases z : a = p
    · subst z
      rw [upd_same] at e
      cases e
      exact hH
    · rw [upd_ne z] at e
      exact E.s a o e
  · by_cases z : a = p
    · subst z; exact h0
    · rw [upd_ne z] at e
      exact E.n a o e n
theorem new_read {X : Cx} {W : WX} {m : Vw → R (List D)} {σ : L2.St} {H : Hp} {Q : VK} (h : tM X W (mL m) σ H Q) : tN X W m σ H Q := by
  obtain ⟨F, δ, s, v, q⟩ := h
  refine ⟨F, δ, s, v, ?_⟩
  unfold mL at q
  cases em : m δ with
  | ok ds =>
    rw [em, R.bind_ok] at q
    intro p xs F' H' E h0 hF hH hd
    refine q _ _ _ (E.frzOne h0 hF hH) (.lst (SqL.of upd_same) (dpa_mono (fun a o w => ?_) _ hd))
    rw [upd_ne (ne_of_none w hF)]
    exact w
  | exc c p => rw [em] at q; exact q
  | bad => rw [em] at q; exact q
theorem me_new {X : Cx} {W : WX} {e : Expr} {m : Vw → R (List D)} (h : MN X W e m) : ME X W e (mL m) := PE.imp h fun σ H Q q => new_read q
def sOwn (i : Nat) (m : Vw → R (List D)) : S := fun g => (m (vd g)).to g fun ds => .nx (g.set i (.own ds))
theorem own_read {X : Cx} {W : WX} {F0 H0 F H : Hp} {σ : L2.St} {g : Ce} {D : Ends} {i : Nat} {m : Vw → R (List MI.D)} (ok : StOk X.K F0 H0 F H σ g) (h : SPost X.K X.mg W F0 H0 D (sOwn i m g)) : tN X W m σ H (fun v H1 => D.nx (σ.set i (some v)) H1) := by
  refine ⟨F, vd g, ok.e.s, ok.vd, ?_⟩
  unfold sOwn at h
  cases em : m (vd g) with
  | ok ds =>
    rw [em] at h
    intro p xs F' H' E h0 hF hH hd
    have ok' := ok.mono E
    refine h F' H' _ (ok'.setOwn hd hH hF (ok.e.h.free h0) fun j es' _ hj hs' => ?_)
    obtain ⟨b, ys, q1, q2, _⟩ := ok.own j es' hj
    rw [q1] at hs'
    cases hs'
    rw [h0] at q2
    cases q2
  | exc c p =>
    rw [em] at h
    unfold R.to at h
    dsimp only at h
    split at h
    · exact fun cls od F' H' E x => h cls od F' H' σ (ok.mono E) x
    · exact h.elim
  | bad => rw [em] at h; exact h.elim
theorem ms_own {X : Cx} {W : WX} {pos : Pos} (i : Nat) {x : Str} {e : Expr} {m : Vw → R (List D)} {pos' : Pos} (hN : X.N.Nodup) (he : MN X W e m) (hi : X.N[i]? = some x := by rfl) (hx : Loc X.env.scope x := by first | exact Or.inl rfl | exact Or.inr rfl) (hs : swapsWith e (some (.Name x pos')) pos.line X.env = pure false := by rfl) (hf : X.fn x = true ∨ X.env.scope.names.lookup x = some .local := by first | exact .inl rfl | exact .inr rfl) :
    MS X W (.Assign [.Name x pos'] e pos) (sOwn i m) := PS.imp (ps_set hN hi hx he hs hf) fun D σ H ⟨F0, H0, F, g, ok, h⟩ => own_read ok h
def nLst (m : Vw → R (List D)) : Vw → R (List D) := fun δ => (m δ).bind fun ds => if ds.length ≤ most then .ok ds else .bad
def nOf (m : M) : Vw → R (List D) := fun δ => (m δ).bind fun d => match d with
  | .list ds => .ok ds
  | .tuple ds => .ok ds
  | _ => .bad
section
variable {X : Cx} {W : WX}
theorem mn_lst {es : List Expr} {m : Vw → R (List D)} {pos : Pos} (h : MA X W es m) : MN X W (.List es pos) (nLst m) := by
  refine PE.imp (pe_lst h) fun σ H Q ⟨F, δ, s, v, h⟩ => ⟨F, δ, s, v, ?_⟩
  unfold nLst at h
  cases em : m δ with
  | ok ds =>
    rw [em, R.bind_ok] at h
    intro xs F' H' E hd
    split at h
    · rename_i l
      refine ⟨by rw [dpa_len hd]; exact most_le l, fun p hp => h p xs F' _ (E.trans (Ext.loose E.s hp)) (E.h.free hp) (E.s.free hp) upd_same hd⟩
    · exact h.elim
  | exc c p => rw [em] at h; exact h
  | bad => rw [em] at h; exact h
/-- list(e) -/
theorem mn_of {e : Expr} {m : M} {p pos : Pos} (hm : X.mg "list" = none) (he : ME X W e m) (hg : Gl X "list" := by rfl) (hs : starEach [e] X.env = (false, eval e X.env) :: starEach [] X.env := by rfl) (hpl : (backTo pos (starEach [] X.env)).any (·.1) = false := by rfl) : MN X W (.Call (.Name "list" p) [e] [] pos) (nOf m) := by
  refine PE.imp (pe_callTy call_list_of hg hm (by decide +kernel) (pa_cons he pa_nil hs) (by decide) (by decide) hs hpl) fun σ H Q ⟨F, δ, s, v, h⟩ => ⟨F, δ, s, v, ?_⟩
  unfold nOf at h
  cases em : m δ with
  | ok d =>
    rw [em, R.bind_ok] at h
    intro x F' H' E hx
    cases hx with
    | lst a b => exact ⟨_, _, rfl, .inl (E.s.seq a), fun l hl => h l _ F' _ (E.trans (Ext.loose E.s hl)) (E.h.free hl) (E.s.free hl) upd_same b⟩
    | tup a b => exact ⟨_, _, rfl, .inr (same_t E.s a), fun l hl => h l _ F' _ (E.trans (Ext.loose E.s hl)) (E.h.free hl) (E.s.free hl) upd_same b⟩
    | _ => exact h.elim
  | exc c p => rw [em] at h; exact h
  | bad => rw [em] at h; exact h
end
/-! ### list comprehensions -/
def loopC (t : VTg) (tt : Vw → R Bool) (te : M) (δ0 : Vw) : List D → List D → R (List D)
  | [], acc => .ok acc
  | d :: ds, acc => match t d δ0 with
    | none => .bad
    | some δ => match tt δ with
      | .ok true => (match te δ with
        | .ok y => if acc.length < most then loopC t tt te δ0 ds (acc ++ [y]) else .bad
        | _ => .bad)
      | .ok false => loopC t tt te δ0 ds acc
      | _ => .bad
def nLc (it : Vw → R (List D)) (vs : List Nat) (t : VTg) (tt : Vw → R Bool) (te : M) : Vw → R (List D) := fun δ => (it δ).bind fun ds => loopC t tt te (wipeV δ vs) ds []
def mYes : Vw → R Bool := fun _ => .ok true
abbrev W0 : WX := fun _ _ _ _ => False
abbrev MTs (X : Cx) (ifs : List Expr) (m : Vw → R Bool) : Prop := PTs X ifs (tT X W0 m)
theorem mts_nil {X : Cx} : MTs X [] mYes := ⟨fun pins s σ H Q I ⟨F, δ, sm, v, h⟩ => pts_nil.run pins s σ H Q I (h F H (Ext.refl sm))⟩
theorem mts_one {X : Cx} {c : Expr} {t : Vw → R Bool} (h : MT X W0 c t) : MTs X [c] t := ⟨fun pins s σ H Q I hw => (pts_one h).run pins s σ H Q I hw⟩
theorem lc_key {K : PySem.W.Frag} {mg : Str → Option Value} {vs : List Nat} {g : TG} {t : VTg} {tt : Vw → R Bool} {te : M} {ttr : TT} {ter : TE} (ht : VTgOk K vs g t)
    (htt : ∀ F H σ δ b Q, Same F H → VwOk K F σ δ → tt δ = .ok b → (∀ F' H', Ext F H F' H' → Q b H') → ttr σ H Q) (hte : ∀ F H σ δ y Q, Same F H → VwOk K F σ δ → te δ = .ok y → (∀ v F' H', Ext F H F' H' → Dp K F' v y → Q v H') → ter σ H Q)
    {F1 H1 : Hp} {σ : L2.St} {δ : Vw} {J : L2.It} {ds res : List D} {Q : VK} (s : Same F1 H1) (v : VwOk K F1 σ δ) (io : ItOk K F1 J ds) (he : loopC t tt te (wipeV δ vs) ds [] = .ok res)
    (q : ∀ p xs F' H', Ext F1 H1 F' H' → H1 p = none → F' p = none → H' p = some (.lst xs) → DpAll K F' xs res → Q (.ref p) H') :
    ∀ Dl, H1 Dl = none → ∃ W : Nat → Nat → Hp → Prop, (∃ m, W 0 m (upd H1 Dl (.lst []))) ∧ ∀ i m H, W i m H →
      (J.stop i H ∧ Q (.ref Dl) H) ∨ (J.go i H ∧ ∃ Nx : Hp → Prop, (∀ H', Nx H' → ∃ m', m' < m ∧ W (i + 1) m' H') ∧ ∀ x H', J.yld i H x H' → g x (wipe σ vs) H' fun σ2 H2 => wipe σ2 vs = wipe σ vs ∧ ttr σ2 H2 fun b H3 =>
        if b = true then ter σ2 H3 fun y H4 => ∃ acc, H4 Dl = some (.lst acc) ∧ acc.length < sizeLine ∧ Nx (upd H4 Dl (.lst (acc ++ [y]))) else Nx H3) := by
  intro Dl hD
  -- behind i items: the list at Dl holds acc
  let Pv : Nat → Hp → Prop := fun i H => ∃ F2 acc accD, Same F1 F2 ∧ Same F2 H ∧ Same H1 H ∧ (∀ a o, F2 a = some o → F1 a = none → H1 a = none) ∧ F2 Dl = none ∧ H Dl = some (.lst acc) ∧ DpAll K F2 acc accD ∧ i ≤ ds.length ∧ loopC t tt te (wipeV δ vs) (ds.drop i) accD = .ok res
  refine ⟨fun i m H => m = ds.length - i ∧ Pv i H, ⟨ds.length, by simp, F1, [], [], Same.refl _, s.trans (same_upd hD), same_upd hD, (fun a o e n => by rw [n] at e; cases e), s.free hD, upd_same, .nil, Nat.zero_le _, by simpa using he⟩, ?_⟩
  rintro i m H ⟨rfl, F2, acc, accD, f, s2, h2, hn, hF2, hHD, hacc, hi, hl⟩
  by_cases hlt : i < ds.length
  · have ed : ds[i]? = some ds[i] := List.getElem?_eq_getElem hlt
    obtain ⟨go, yl⟩ := io.go i H _ (f.trans s2) ed
    refine .inr ⟨go, Pv (i + 1), fun H' p' => ⟨ds.length - (i + 1), by omega, rfl, p'⟩, fun x H' hy => ?_⟩
    obtain ⟨F3, E3, dx⟩ := yl x H' F2 f s2 hy
    rw [drop_get ed] at hl
    unfold loopC at hl
    cases et : t ds[i] (wipeV δ vs) with
    | none => rw [et] at hl; cases hl
    | some δ1 =>
      rw [et] at hl
      refine ht F3 H' (wipe σ vs) (wipeV δ vs) δ1 x _ _ E3.s (((v.mono f).mono E3.f).wipe vs) dx et fun σ2 ok2 hw => ⟨hw.trans wipe_idem, ?_⟩
      dsimp only at hl
      cases ett : tt δ1 with
      | ok b =>
        rw [ett] at hl
        refine htt F3 H' σ2 δ1 b _ E3.s ok2 ett fun F4 H4 E4 => ?_
        have E := E3.trans E4
        have next : ∀ a o, F4 a = some o → F1 a = none → H1 a = none := fun a o e n => by
          cases w : F2 a with
          | some u => exact hn a u w n
          | none => exact h2.free (E.n a o e w)
        cases b with
        | false =>
          rw [if_neg Bool.false_ne_true]
          exact ⟨F4, acc, accD, f.trans E.f, E.s, h2.trans E.h, next, E.new_none hF2 hHD, E.h _ _ hHD, dpa_mono E.f _ hacc, hlt, hl⟩
        | true =>
          rw [if_pos rfl]
          dsimp only at hl
          cases ete : te δ1 with
          | ok y =>
            rw [ete] at hl
            dsimp only at hl
            split at hl
            · rename_i lm
              refine hte F4 H4 σ2 δ1 y _ E4.s (ok2.mono E4.f) ete fun w F5 H5 E5 dw => ?_
              have E' := E.trans E5
              refine ⟨acc, E'.h _ _ hHD, by rw [dpa_len hacc]; exact Nat.lt_of_lt_of_le lm (Nat.le_of_eq most_eq), F5, acc ++ [w], accD ++ [y], f.trans E'.f, fun a o e => ?_, fun a o e => ?_, fun a o e n => ?_, E'.new_none hF2 hHD, upd_same, dpa_append (dpa_mono E'.f _ hacc) (.cons dw .nil), hlt, hl⟩
              · rw [upd_ne (ne_of_none e (E'.new_none hF2 hHD))]
                exact E'.s a o e
              · rw [upd_ne (ne_of_none e hD)]
                exact E'.h a o (h2 a o e)
              · cases w : F2 a with
                | some u => exact hn a u w n
                | none => exact h2.free (E'.n a o e w)
            · cases hl
          | exc c p => rw [ete] at hl; cases hl
          | bad => rw [ete] at hl; cases hl
      | exc c p => rw [ett] at hl; cases hl
      | bad => rw [ett] at hl; cases hl
  · have e : i = ds.length := by omega
    subst e
    rw [List.drop_length] at hl
    cases hl
    exact .inl ⟨io.stop _ H (f.trans s2) (Nat.le_refl _), q Dl acc F2 H ⟨f, h2, s2, hn⟩ hD hF2 hHD hacc⟩
theorem lc_bad {t : VTg} {tt : Vw → R Bool} {te : M} {δ : Vw} : ∀ (ds acc : List D) (c : Str) (p : Option D), loopC t tt te δ ds acc ≠ .exc c p
  | [], acc, c, p, e => by cases e
  | d :: ds, acc, c, p, e => by
    unfold loopC at e
    split at e
    · cases e
    · split at e
      · split at e
        · split at e
          · exact lc_bad ds _ c p e
          · cases e
        · cases e
      · exact lc_bad ds _ c p e
      · cases e
theorem lc_read {X : Cx} {W : WX} {it : Vw → R (List D)} {vs : List Nat} {g : TG} {t : VTg} {tt : Vw → R Bool} {te : M} (hv : VTgOk X.K vs g t) {σ : L2.St} {H : Hp} {Q : VK} (h : tN X W (nLc it vs t tt te) σ H Q) : tLc (tI X W it) g (tT X W0 tt) (tM X W0 te) vs σ H Q := by
  obtain ⟨F, δ, s, v, h⟩ := h
  refine ⟨F, δ, s, v, ?_⟩
  unfold nLc at h
  cases ei : it δ with
  | ok ds =>
    rw [ei, R.bind_ok] at h
    intro F1 H1 J E io
    cases el : loopC t tt te (wipeV δ vs) ds [] with
    | ok res =>
      rw [el] at h
      refine lc_key (mg := X.mg) hv (fun F H σ δ b Q s v e k => ⟨F, δ, s, v, by rw [e]; exact k⟩) (fun F H σ δ y Q s v e k => ⟨F, δ, s, v, by rw [e]; exact k⟩) E.s (v.mono E.f) io el fun p xs F' H' E2 h0 hF hH hd => h p xs F' H' (E.trans E2) (E.h.free h0) hF hH hd
    | exc c p => exact absurd el (lc_bad _ _ _ _)
    | bad => rw [el] at h; exact h.elim
  | exc c p => rw [ei] at h; exact h
  | bad => rw [ei] at h; exact h
section
variable {X : Cx} {W : WX} {elt tg iter : Expr} {ifs : List Expr} {scope : Scope} {own : List (Str × Nat)} {pos : Pos} {it : Vw → R (List D)} {g : TG} {t : VTg} {tt : Vw → R Bool} {te : M} (hN : X.N.Nodup) (hi : MIt X W tg iter it) (ok : BlkOk X.N X.env.scope scope own) (hv : VTgOk X.K (own.map (·.2)) g t)
    (hg : ∀ (s : Shared) (H : Hp) (C : Addr) (cl : List (Str × Addr)) (fp : List Addr), PG (X.blk s H scope (compEnvC scope cl C X.env) fp) tg g) (ht : ∀ (s : Shared) (H : Hp) (C : Addr) (cl : List (Str × Addr)) (fp : List Addr), MTs (X.blk s H scope (compEnvC scope cl C X.env) fp) ifs tt)
    (he : ∀ (s : Shared) (H : Hp) (C : Addr) (cl : List (Str × Addr)) (fp : List Addr), ME (X.blk s H scope (compEnvC scope cl C X.env) fp) W0 elt te)
include hN hi ok hv hg ht he
theorem mn_lc (hc : X.calm = true := by rfl) (hs : ∀ x, foldedSetIterable iter X.env x = pure x := by intro _; rfl) : MN X W (.ListComp elt [⟨tg, iter, ifs, 0⟩] scope pos) (nLc it (own.map (·.2)) t tt te) :=
  PE.imp (pe_lc hc hN hi ok hg (fun s H C cl fp => ht s H C cl fp) (fun s H C cl fp => he s H C cl fp) hs) fun σ H Q h => lc_read hv h
/-- y = [..], a statement of its own in the model; y's list is this def's own -/
theorem ms_ownLc (j : Nat) {y : Str} {py spos : Pos} (hy : X.N[j]? = some y := by rfl) (hyl : X.env.scope.names.lookup y = some .local := by rfl) (hsw : swapsWith (.ListComp elt [⟨tg, iter, ifs, 0⟩] scope pos) (some (.Name y py)) spos.line X.env = pure true := by exact sw_true rfl rfl rfl (by decide +kernel)) (hc : X.calm = true := by rfl) (hs : ∀ x, foldedSetIterable iter X.env x = pure x := by intro _; rfl) :
    MS X W (.Assign [.Name y py] (.ListComp elt [⟨tg, iter, ifs, 0⟩] scope pos) spos) (sOwn j (nLc it (own.map (·.2)) t tt te)) := by
  refine PS.imp (ps_setLc hc hN hy hyl hsw hi ok hg (fun s H C cl fp => ht s H C cl fp) (fun s H C cl fp => he s H C cl fp) hs) fun D σ H ⟨F0, H0, F, g, ok, h⟩ => lc_read hv (own_read ok h)
/-- the same, its list data at once -/
theorem ms_setLc (j : Nat) {y : Str} {py spos : Pos} (hy : X.N[j]? = some y := by rfl) (hyl : X.env.scope.names.lookup y = some .local := by rfl) (hsw : swapsWith (.ListComp elt [⟨tg, iter, ifs, 0⟩] scope pos) (some (.Name y py)) spos.line X.env = pure true := by exact sw_true rfl rfl rfl (by decide +kernel)) (hc : X.calm = true := by rfl) (hs : ∀ x, foldedSetIterable iter X.env x = pure x := by intro _; rfl) :
    MS X W (.Assign [.Name y py] (.ListComp elt [⟨tg, iter, ifs, 0⟩] scope pos) spos) (sSet j (mL (nLc it (own.map (·.2)) t tt te))) := by
  refine PS.imp (ps_setLc hc hN hy hyl hsw hi ok hg (fun s H C cl fp => ht s H C cl fp) (fun s H C cl fp => he s H C cl fp) hs) fun D σ H ⟨F0, H0, F, g, ok, h⟩ => lc_read hv (new_read (ev_vd (Q := fun v H1 => D.nx (σ.set j (some v)) H1) ok h fun d v F' H' e ok' hd h' => h' F' H' _ (ok'.set hd)))
end
end MI
set_option Elab.async false
set_option linter.all false
set_option maxRecDepth 100000
set_option maxHeartbeats 4000000
/-! MI8: more operations: lists put together, sums, methods, stores, try .. as. -/
namespace MI
open PySem PySem.Spec PyProof.Rows L2
section
variable {X : Cx}
theorem op_catL : OpR X (binaryOp .Add) (fun x y H Q => ∃ l b xs zs, x = .ref l ∧ y = .ref b ∧ SqL X.K H l xs ∧ SqL X.K H b zs ∧ xs.length + zs.length ≤ sizeLine ∧ ∀ p, H p = none → Q (.ref p) (upd H p (.lst (xs ++ zs)))) := by
  intro pins s σ H x y v u Q I rx ry h
  obtain ⟨l, b, xs, zs, rfl, rfl, hl, hb, hz, q⟩ := h
  cases rx
  cases ry
  obtain ⟨i1, r1, ⟨⟨c1, d1, t1, s1⟩, n1, o1, h1, _, g1⟩, z1⟩ := I.list hl
  obtain ⟨i2, r2, ⟨⟨c2, d2, t2, s2⟩, n2, o2, h2, _, g2⟩, z2⟩ := I.list hb
  simp only at h1 g1 h2 g2
  subst h1 g1 h2 g2
  have l1 := r1.length
  have l2 := r2.length
  refine PySem.concat_meets ⟨_, o1, rfl⟩ ⟨_, o2, rfl⟩ noFill_list_add seq_list_add PySem.F.slot_list_add PySem.F.entry_list_add (PySem.F.args_list_add_2 _ _) (list_addW l b i1.toArray i2.toArray n1 n2 d1 d2 s1 s2 (by rw [List.size_toArray, List.size_toArray]; omega)) ⟨o1, o2, ?_⟩
  rw [show i1.toArray ++ i2.toArray = (i1 ++ i2).toArray by simp]
  exact ⟨.ref _, _, I.lnew (t' := s.toks) (r1.append r2) (by rw [List.length_append]; omega), rfl, q _ I.fresh⟩
end
def fAddL : D → D → Option D
  | .list a, .list b => if a.length + b.length ≤ most then some (.list (a ++ b)) else none
  | x, y => fAdd x y
section
variable {X : Cx}
theorem o_addL : OpR X (binaryOp .Add) (rD2 X.K fAddL) := opr_of fun x y H Q ⟨F, d1, d2, d, s, h1, h2, e, q⟩ => by
  unfold fAddL at e
  split at e
  · split at e
    · rename_i l
      cases e
      cases h1 with
      | lst a b =>
        cases h2 with
        | lst a2 b2 =>
          exact ⟨_, op_catL, _, _, _, _, rfl, rfl, s.seq a, s.seq a2, by rw [dpa_len b, dpa_len b2]; exact most_le l, fun p hp => q _ _ _ (Ext.new s hp) (.lst (SqL.of upd_same) (dpa_mono (Ext.new (o := .lst _) s hp).f _ (dpa_append b b2)))⟩
    · cases e
  · exact ⟨_, o_add, F, d1, d2, d, s, h1, h2, e, q⟩
end
def intsD : List D → Option (List Int)
  | [] => some []
  | .int i :: ds => (intsD ds).map fun r => i :: r
  | _ => none
theorem dpa_ints {K : PySem.W.Frag} {F : Hp} : ∀ {ds : List D} {xs : List V} {ns : List Int}, DpAll K F xs ds → intsD ds = some ns → xs = ns.map V.int
  | [], _, ns, h, e => by
    cases e
    cases h
    rfl
  | .int i :: ds, _, ns, h, e => by
    cases h with
    | cons a b =>
      unfold intsD at e
      cases q : intsD ds with
      | none => rw [q] at e; cases e
      | some r =>
        rw [q] at e
        cases e
        cases dp_int a
        rw [dpa_ints b q]
        rfl
  | .none :: _, _, _, _, e => by cases e
  | .bool _ :: _, _, _, _, e => by cases e
  | .str _ :: _, _, _, _, e => by cases e
  | .list _ :: _, _, _, _, e => by cases e
  | .tuple _ :: _, _, _, _, e => by cases e
  | .dict _ :: _, _, _, _, e => by cases e
def fSum : List D → Option D
  | [.list ds] => (intsD ds).map fun ns => .int ns.sum
  | _ => none
section
variable {X : Cx}
theorem c_sum (hc : X.calm = true) : CallR X (.builtin "sum") (rDs X.K fSum) := callr_of fun xs H Q ⟨F, ds, d, s, h, e, q⟩ => by
  unfold fSum at e
  split at e
  · rename_i ds
    cases z : intsD ds with
    | none => rw [z] at e; cases e
    | some ns =>
      rw [z] at e
      cases e
      obtain ⟨v, rfl, hv⟩ := dpa1 h
      cases hv with
      | lst a b =>
        have w := dpa_ints b z
        subst w
        exact ⟨_, cr_sum hc, _, _, rfl, s.seq a, q _ F H (Ext.refl s) (.int _)⟩
  · cases e
end
/-! methods of texts and lists that change nothing -/
def rM (K : PySem.W.Frag) (f : D → List D → Option D) : V → List V → Hp → VK → Prop := fun x xs H Q => ∃ F d ds r, Same F H ∧ Dp K F x d ∧ DpAll K F xs ds ∧ f d ds = some r ∧ ∀ v F' H', Ext F H F' H' → Dp K F' v r → Q v H'
def mMt (T : String) (f : D → List D → Option D) (o : M) (a : Vw → R (List D)) : M := fun δ => (o δ).bind fun d => if tyD d = T ∧ (T = "str" ∨ T = "list") then (a δ).bind fun ds => R.of (f d ds) else .bad
theorem tyV_of {K : PySem.W.Frag} {F H : Hp} {x : V} {d : D} {T : String} (s : Same F H) (h : Dp K F x d) (e : tyD d = T ∧ (T = "str" ∨ T = "list")) : tyV K T x H := by
  obtain ⟨e1, e2⟩ := e
  cases h with
  | str z => exact e1.symm
  | lst a b => exact .inl ⟨e1.symm, _, s.seq a⟩
  | non => subst e1; rcases e2 with e2 | e2 <;> exact absurd (show ("NoneType" : String) = _ from e2) (by decide)
  | bl _ => subst e1; rcases e2 with e2 | e2 <;> exact absurd (show ("bool" : String) = _ from e2) (by decide)
  | int _ => subst e1; rcases e2 with e2 | e2 <;> exact absurd (show ("int" : String) = _ from e2) (by decide)
  | tup _ _ => subst e1; rcases e2 with e2 | e2 <;> exact absurd (show ("tuple" : String) = _ from e2) (by decide)
  | exc _ _ => subst e1; rcases e2 with e2 | e2 <;> exact absurd (show ("dict" : String) = _ from e2) (by decide)
  | excF _ _ _ _ _ => subst e1; rcases e2 with e2 | e2 <;> exact absurd (show ("dict" : String) = _ from e2) (by decide)
  | dct0 _ => subst e1; rcases e2 with e2 | e2 <;> exact absurd (show ("dict" : String) = _ from e2) (by decide)
theorem me_mt {X : Cx} {W : WX} {T name id : String} {f : D → List D → Option D} {o e : Expr} {es : List Expr} {mo : M} {ma : Vw → R (List D)} {apos cpos : Pos} (pa : PlainAttrs T) (slot : Slot T name id) (hty : typeOf (.builtin id) = pure (.type "method_descriptor")) (hm : MtR X id (rM X.K f)) (ho : ME X W o mo) (ha : MA X W (e :: es) ma)
    (hbase : attributeBase o name X.env (eval o X.env) = eval o X.env := by rfl)
    (hfew : ((backTo cpos (starEach (e :: es) X.env)).all (fun x => !x.1) && (backToKw cpos (keywordEach [] X.env)).all (fun x => x.1.isSome)
      && decide ((e :: es).length + ([] : List Keyword).length + (if ([] : List Keyword).isEmpty then 0 else 1) < 30)) = true := by rfl)
    (hline : (apos.endLine == cpos.line) = true := by rfl) (hs : starEach (e :: es) X.env = (false, eval e X.env) :: starEach es X.env := by rfl) (hplain : (backTo cpos (starEach es X.env)).any (·.1) = false := by rfl) :
    ME X W (.Call (.Attribute o name apos) (e :: es) [] cpos) (mMt T f mo ma) := by
  refine PE.imp (pe_bm pa slot hty hm ho ha hbase hfew hline hs hplain) fun σ H Q ⟨F, δ, s, v, h⟩ => ?_
  refine tM_bind s v h fun d x F1 H1 _ E hx h1 => ?_
  split at h1
  · rename_i c
    refine ⟨tyV_of E.s hx c, ?_⟩
    refine tA_bind E.s (v.mono E.f) h1 fun ds xs F2 H2 _ E2 hxs h2 => ?_
    obtain ⟨r, e, q⟩ := of_post h2
    exact ⟨F2, d, ds, r, E2.s, dp_mono E2.f d hx, hxs, e, q⟩
  · exact h1.elim
/-- the first place of an equal item -/
def firstIx (d : D) : List D → Nat → Option Nat
  | [], _ => none
  | z :: zs, n => if PyData.eqv z d = true then some n else firstIx d zs (n + 1)
theorem firstIx_ok {d : D} : ∀ {ds : List D} {n j : Nat}, firstIx d ds n = some j → ∃ (i : Nat) (z : D), j = n + i ∧ ds[i]? = some z ∧ PyData.eqv z d = true ∧ ∀ (m : Nat) (z' : D), m < i → ds[m]? = some z' → PyData.eqv z' d = false
  | [], _, _, e => by cases e
  | z :: zs, n, j, e => by
    unfold firstIx at e
    split at e
    · rename_i h
      cases e
      exact ⟨0, z, rfl, rfl, h, fun m _ hm => absurd hm (Nat.not_lt_zero m)⟩
    · rename_i h
      obtain ⟨i, z', h1, h2, h3, h4⟩ := firstIx_ok e
      refine ⟨i + 1, z', by omega, by simpa using h2, h3, fun m z2 hm hz => ?_⟩
      cases m with
      | zero =>
        simp at hz
        subst hz
        exact Bool.eq_false_iff.mpr h
      | succ m => exact h4 m z2 (Nat.lt_of_succ_lt_succ hm) (by simpa using hz)
def fIndex : D → List D → Option D
  | .list ds, [d] => if (SeqAt.shaped (.list ds) && SeqAt.shaped d) = true then (firstIx d ds 0).map fun j => .int (j : Nat) else none
  | _, _ => none
def fPartition : D → List D → Option D
  | .str a, [.str b] => if (b.length == 0) = false ∧ a.length ≤ most then some (.tuple [.str (Txt.partition a b).1, .str (Txt.partition a b).2.1, .str (Txt.partition a b).2.2]) else none
  | _, _ => none
def fZfill : D → List D → Option D
  | .str a, [.int i] => if PadOk i = true then some (.str (Txt.zfill a i)) else none
  | _, _ => none
section
variable {X : Cx}
theorem m_index (hu : X.A.units + 65 < cLine) : MtR X "list.index" (rM X.K fIndex) := mtr_of fun x xs H Q ⟨F, d, ds, r, s, h1, h2, e, q⟩ => by
  unfold fIndex at e
  split at e
  · rename_i ds d
    split at e
    · rename_i l
      rw [Bool.and_eq_true] at l
      cases z : firstIx d ds 0 with
      | none => rw [z] at e; cases e
      | some j =>
        rw [z] at e
        cases e
        obtain ⟨i, y, e1, e2, e3, e4⟩ := firstIx_ok z
        obtain ⟨v, rfl, hv⟩ := dpa1 h2
        have hji : j = i := by omega
        subst hji
        have h1' := dp_mono s _ h1
        cases h1 with
        | lst a b => exact ⟨_, mt_indexD hu, _, _, d, ds, j, y, rfl, rfl, dp_shaped h1' l.1, dp_shaped (dp_mono s _ hv) l.2, l.1, l.2, e2, e3, e4, q _ F H (Ext.refl s) (.int _)⟩
    · cases e
  · cases e
theorem m_partition : MtR X "str.partition" (rM X.K fPartition) := mtr_of fun x xs H Q ⟨F, d, ds, r, s, h1, h2, e, q⟩ => by
  unfold fPartition at e
  split at e
  · split at e
    · rename_i l
      cases e
      obtain ⟨v, rfl, hv⟩ := dpa1 h2
      cases dp_str h1
      cases dp_str hv
      refine ⟨_, mt_partition, _, _, rfl, rfl, l.1, most_le l.2, fun p hp => q _ _ _ (Ext.new s hp) (.tup (SqT.of upd_same) (.cons (.str _) (.cons (.str _) (.cons (.str _) .nil))))⟩
    · cases e
  · cases e
theorem m_zfill : MtR X "str.zfill" (rM X.K fZfill) := mtr_of fun x xs H Q ⟨F, d, ds, r, s, h1, h2, e, q⟩ => by
  unfold fZfill at e
  split at e
  · split at e
    · rename_i l
      cases e
      obtain ⟨v, rfl, hv⟩ := dpa1 h2
      cases dp_str h1
      cases dp_int hv
      exact ⟨_, mt_zfill, _, _, rfl, rfl, l, q _ F H (Ext.refl s) (.str _)⟩
    · cases e
  · cases e
end
def fIntT : List D → Option D
  | [.str a] => if a.length ≤ 640 then (intText? a).map .int else none
  | ds => fInt ds
theorem c_intT {X : Cx} : CallR X (.type "int") (rDs X.K fIntT) := callr_of fun xs H Q ⟨F, ds, d, s, h, e, q⟩ => by
  unfold fIntT at e
  split at e
  · rename_i a
    split at e
    · rename_i l
      cases z : intText? a with
      | none => rw [z] at e; cases e
      | some n =>
        rw [z] at e
        cases e
        obtain ⟨v, rfl, hv⟩ := dpa1 h
        cases dp_str hv
        exact ⟨_, call_int_str, _, _, rfl, z, l, q _ F H (Ext.refl s) (.int _)⟩
    · cases e
  · exact ⟨_, c_int, F, ds, d, s, h, e, q⟩
/-! a text's signs -/
def mSigns (m : M) : Vw → R (List D) := fun δ => (m δ).bind fun d => match d with
  | .str z => .ok (z.cps.toList.map fun c => .str ⟨#[c]⟩)
  | _ => .bad
/-! ### stores -/
/-- xs[i] = e, xs this def's own -/
def sPut (j : Nat) (mi m : M) : S := fun g => match g[j]? with
  | some (.own ds) => (m (vd g)).to g fun d => (mi (vd g)).to g fun i => match i with
    | .int i => (match ixN ds.length i with
      | some k => .nx (g.set j (.own (ds.set k d)))
      | none => .bad)
    | _ => .bad
  | _ => .bad
theorem dpa_set {K : PySem.W.Frag} {F : Hp} {v : V} {d : D} (h : Dp K F v d) : ∀ {xs : List V} {ds : List D} (k : Nat), DpAll K F xs ds → DpAll K F (xs.set k v) (ds.set k d)
  | _, _, _, .nil => .nil
  | _, _, 0, .cons a b => .cons h b
  | _, _, k + 1, .cons a b => .cons a (dpa_set h k b)
/-- an own list changed in its place -/
theorem StOk.write {K : PySem.W.Frag} {F0 H0 F H : Hp} {σ : L2.St} {g : Ce} (ok : StOk K F0 H0 F H σ g) {j : Nat} {ds ds' : List D} {a : Addr} {xs xs' : List V} (hj : g[j]? = some (.own ds)) (hs : σ[j]? = some (some (.ref a))) (hF : F a = none) (h0 : H0 a = none) (hH : H a = some (.lst xs)) (hd : DpAll K F xs' ds') :
    StOk K F0 H0 F (upd H a (.lst xs')) σ (g.set j (.own ds')) := by
  have jl : j < g.length := (List.getElem?_eq_some_iff.mp hj).1
  refine ⟨⟨ok.e.f, fun b o e => ?_, fun b o e => ?_, ok.e.n⟩, by simpa using ok.len, fun i d q => ?_, fun i es q => ?_, fun i k es es' b q1 q2 q3 q4 => ?_⟩
  · rw [upd_ne (ne_of_none e h0)]
    exact ok.e.h b o e
  · rw [upd_ne (ne_of_none e hF)]
    exact ok.e.s b o e
  · rw [List.getElem?_set] at q
    by_cases z : j = i
    · subst z
      rw [if_pos rfl] at q
      split at q <;> cases q
    · rw [if_neg z] at q
      exact ok.dat i d q
  · rw [List.getElem?_set] at q
    by_cases z : j = i
    · subst z
      rw [if_pos rfl, if_pos jl] at q
      cases q
      exact ⟨a, xs', hs, upd_same, hF, h0, hd⟩
    · rw [if_neg z] at q
      obtain ⟨b, ys, h1, h2, h3, h4, h5⟩ := ok.own i es q
      have : b ≠ a := fun e => by
        subst e
        exact z (ok.inj j i ds es b hj q hs h1)
      exact ⟨b, ys, h1, by rw [upd_ne this]; exact h2, h3, h4, h5⟩
  · have un : ∀ (i : Nat) (es : List D), (g.set j (.own ds'))[i]? = some (.own es) → ∃ fs, g[i]? = some (.own fs) := fun i es q => by
      rw [List.getElem?_set] at q
      by_cases z : j = i
      · subst z; exact ⟨ds, hj⟩
      · rw [if_neg z] at q; exact ⟨es, q⟩
    obtain ⟨f1, w1⟩ := un i es q1
    obtain ⟨f2, w2⟩ := un k es' q2
    exact ok.inj i k f1 f2 b w1 w2 q3 q4
end MI
set_option Elab.async false
set_option linter.all false
set_option maxRecDepth 100000
set_option maxHeartbeats 4000000
/-! MI9: stores, appends, loops over anything, try .. as, the head's look with a test of one's own. -/
namespace MI
open PySem PySem.Spec PyProof.Rows L2
section
variable {X : Cx} {W : WX}
theorem ms_put (j : Nat) {x : Str} {ei e : Expr} {mi m : M} {px pt pos : Pos} (he : ME X W e m) (hi : ME X W ei mi) (hg : PG X (.Subscript (.Name x px) ei pt) (gSub (tVar j) (tM X W mi) rSetL))
    (hs : swapsWithSole [.Subscript (.Name x px) ei pt] e pos.line X.env = pure false := by rfl) (hw : swappedStores [.Subscript (.Name x px) ei pt] e X.env = pure none := by rfl) (h1 : (assignEach [.Subscript (.Name x px) ei pt] X.env).map (·.2) = [assign (.Subscript (.Name x px) ei pt) X.env] := by rfl) :
    MS X W (.Assign [.Subscript (.Name x px) ei pt] e pos) (sPut j mi m) := by
  refine PS.imp (ps_asg he hg hs hw h1) fun D σ H ⟨F0, H0, F, g, ok, h⟩ => ?_
  unfold sPut at h
  split at h
  · rename_i ds ej
    refine ev_vd (Q := fun v H1 => gSub (tVar j) (tM X W mi) rSetL v σ H1 D.nx) ok h fun d v F1 H1 e1 ok1 hd h1 => ?_
    obtain ⟨a, _, hσ, _, _, _, _⟩ := ok1.own j ds ej
    refine ⟨_, hσ, ?_⟩
    refine ev_vd (D := D) ok1.base (h1.base ok1.e) fun i y F2 H2 e2 ok2 hi2 h2 => ?_
    split at h2
    · rename_i i
      split at h2
      · rename_i k hk
        cases dp_int hi2
        obtain ⟨a', xs, q1, q2, q3, q4, q5⟩ := ok2.own j ds ej
        rw [hσ] at q1
        cases q1
        refine ⟨a, xs, i, k, rfl, rfl, q2, by rw [dpa_len q5]; exact hk, ?_⟩
        exact h2 F2 _ σ (ok2.write ej hσ q3 q4 q2 (dpa_set (dp_mono ok2.e.f d hd) k q5))
      · exact h2.elim
    · exact h2.elim
  · exact h.elim
theorem ms_app (j : Nat) {x : Str} {e : Expr} {m : M} {px apos cpos pos : Pos} (he : ME X W e m) (hx : PE X (.Name x px) (tVar j))
    (hbase : attributeBase (.Name x px) "append" X.env (eval (.Name x px) X.env) = eval (.Name x px) X.env := by rfl)
    (hfew : ((backTo cpos (starEach (e :: []) X.env)).all (fun x => !x.1) && (backToKw cpos (keywordEach [] X.env)).all (fun x => x.1.isSome)
      && decide ((e :: []).length + ([] : List Keyword).length + (if ([] : List Keyword).isEmpty then 0 else 1) < 30)) = true := by rfl)
    (hline : (apos.endLine == cpos.line) = true := by rfl) (hs : starEach (e :: []) X.env = (false, eval e X.env) :: starEach [] X.env := by rfl) (hplain : (backTo cpos (starEach [] X.env)).any (·.1) = false := by rfl)
    (hw : swapsWith (.Call (.Attribute (.Name x px) "append" apos) [e] [] cpos) none pos.line X.env = pure false := by rfl) :
    MS X W (.Expr (.Call (.Attribute (.Name x px) "append" apos) [e] [] cpos) pos) (sApp j m) := by
  refine PS.imp (ps_expr (pe_bm PySem.F.plainAttrs_list PySem.F.slot_list_append PySem.F.type_list_append mt_append hx (pa_cons he pa_nil hs) hbase hfew hline hs hplain) hw) fun D σ H ⟨F0, H0, F, g, ok, h⟩ => ?_
  unfold sApp at h
  split at h
  · rename_i ds ej
    obtain ⟨a, xs0, hσ, hH0, _, _, _⟩ := ok.own j ds ej
    refine ⟨_, hσ, .inl ⟨rfl, xs0, SqL.of hH0⟩, ?_⟩
    refine ev_vd (Q := fun y H1 => rAppend (.ref a) [y] H1 fun _ H2 => D.nx σ H2) ok h fun d v F1 H1 e1 ok1 hd h1 => ?_
    split at h1
    · rename_i l
      obtain ⟨a', xs, q1, q2, q3, q4, q5⟩ := ok1.own j ds ej
      rw [hσ] at q1
      cases q1
      exact ⟨a, xs, v, rfl, rfl, q2, by rw [dpa_len q5]; exact Nat.lt_of_lt_of_le l (Nat.le_of_eq most_eq), h1 F1 _ σ (ok1.write ej hσ q3 q4 q2 (dpa_append q5 (.cons hd .nil)))⟩
    · exact h1.elim
  · exact h.elim
end
/-! ### for over anything -/
def sFor (it : Vw → R (List D)) (t : Tg) (b : S) : S := fun g => (it (vd g)).to g fun ds => loopF t b ds g
theorem ms_for {X : Cx} {W : WX} {pos : Pos} {tg iter : Expr} {body : List Stmt} {it : Vw → R (List D)} {r : TG} {t : Tg} {b : S} (hp : PassesOwn (model X.prog X.w) X.A X.env X.xe) (hi : MIt X W tg iter it) (hg : PG X tg r) (ht : TgOk X.K r t) (hb : MSs X W body b) (hc : X.calm = true := by rfl)
    (hs : ∀ x, foldedSetIterable iter X.env x = pure x := by intro _; rfl) : MS X W (.For tg iter body [] pos) (sFor it t b) := by
  refine PS.imp (ps_for hp hc hi hg hb hs) fun D σ H ⟨F0, H0, F, g, ok, h⟩ => ⟨F, vd g, ok.e.s, ok.vd, ?_⟩
  unfold sFor at h
  cases ei : it (vd g) with
  | exc c p =>
    rw [ei] at h
    unfold R.to at h
    dsimp only at h
    split at h
    · exact fun cls od F' H' E x => h cls od F' H' σ (ok.mono E) x
    · exact h.elim
  | bad => rw [ei] at h; exact h.elim
  | ok ds =>
    rw [ei] at h
    have h : SPost X.K X.mg W F0 H0 D (loopF t b ds g) := h
    intro F1 H1 J E io
    have ok1 := ok.mono E
    refine ⟨fun i m σ H => m = ds.length - i ∧ i ≤ ds.length ∧ ∃ F2 g2, Ext F1 H0 F2 H ∧ StOk X.K F0 H0 F2 H σ g2 ∧ SPost X.K X.mg W F0 H0 D (loopF t b (ds.drop i) g2), ⟨ds.length, by simp, Nat.zero_le _, F1, g, ok1.base.e, ok1, by simpa using h⟩, ?_⟩
    rintro i m σ H ⟨rfl, hi, F2, g2, E2, ok2, h2⟩
    by_cases hlt : i < ds.length
    · have ed : ds[i]? = some ds[i] := List.getElem?_eq_getElem hlt
      obtain ⟨go, yl⟩ := io.go i H _ (E2.f.trans E2.s) ed
      refine .inr ⟨go, fun σ' H' => ∃ F2 g2, Ext F1 H0 F2 H' ∧ StOk X.K F0 H0 F2 H' σ' g2 ∧ SPost X.K X.mg W F0 H0 D (loopF t b (ds.drop (i + 1)) g2), fun σ' H' q => ⟨ds.length - (i + 1), by omega, rfl, hlt, q⟩, fun x H' hy => ?_⟩
      obtain ⟨F3, E3, dx⟩ := yl x H' F2 E2.f E2.s hy
      rw [drop_get ed] at h2
      have ok3 := ok2.mono E3
      exact loopF_turn ht ok3 dx h2 fun F4 H4 σ4 g4 ok4 h4 => ⟨F4, g4, ((E2.trans E3).back ok4.e), ok4.back ok3.e, h4⟩
    · have e : i = ds.length := by omega
      subst e
      rw [List.drop_length] at h2
      exact .inl ⟨io.stop _ H (E2.f.trans E2.s) (Nat.le_refl _), h2 F2 H σ ok2⟩
theorem mi_signs {X : Cx} {W : WX} {tg e : Expr} {m : M} (he : ME X W e m) : MIt X W tg e (mSigns m) := by
  refine PI.imp (pi_str he) fun σ H Q ⟨F, δ, s, v, h⟩ => ⟨F, δ, s, v, ?_⟩
  unfold mSigns at h
  cases em : m δ with
  | ok d =>
    rw [em, R.bind_ok] at h
    cases d with
    | str z =>
      intro y F' H' E hy
      cases hy
      refine ⟨z, rfl, h F' H' _ E ⟨fun i H d s e => ?_, fun i H s l => ?_⟩⟩
      · rw [List.getElem?_map] at e
        cases q : z.cps.toList[i]? with
        | none => rw [q] at e; cases e
        | some c =>
          rw [q] at e
          cases e
          have q' : z.cps[i]? = some c := by simpa using q
          refine ⟨(Array.getElem?_eq_some_iff.mp q').1, fun x H' F2 f2 s2 ⟨e1, c', e2, e3⟩ => ?_⟩
          rw [q'] at e2
          cases e2
          subst e1 e3
          exact ⟨F2, Ext.refl s2, .str _⟩
      · rw [List.length_map] at l
        exact (show z.cps.size ≤ i by simpa using l)
    | _ => exact h.elim
  | exc c p => rw [em] at h; exact h
  | bad => rw [em] at h; exact h
/-! ### try: .. except C as n: .. -/
theorem StOk.unset {K : PySem.W.Frag} {F0 H0 F H : Hp} {σ : L2.St} {g : Ce} (ok : StOk K F0 H0 F H σ g) (i : Nat) (x : Option V) : StOk K F0 H0 F H (σ.set i x) (g.set i .un) := by
  refine ⟨ok.e, by simpa using ok.len, fun j d q => ?_, fun j ds q => ?_, fun j k ds es a q1 q2 q3 q4 => ?_⟩
  · rw [List.getElem?_set] at q ⊢
    by_cases e : i = j
    · subst e
      rw [if_pos rfl] at q
      split at q <;> cases q
    · rw [if_neg e] at q ⊢
      exact ok.dat j d q
  · rw [List.getElem?_set] at q ⊢
    by_cases e : i = j
    · subst e
      rw [if_pos rfl] at q
      split at q <;> cases q
    · rw [if_neg e] at q ⊢
      exact ok.own j ds q
  · rw [List.getElem?_set] at q1 q2 q3 q4
    by_cases e : i = j
    · subst e
      rw [if_pos rfl] at q1
      split at q1 <;> cases q1
    · by_cases e2 : i = k
      · subst e2
        rw [if_pos rfl] at q2
        split at q2 <;> cases q2
      · rw [if_neg e] at q1 q3
        rw [if_neg e2] at q2 q4
        exact ok.inj j k ds es a q1 q2 q3 q4
/-- u: the suite, by the class of what was raised; i: the exception's name -/
def sTryAs (sub : Str → Option Bool) (i : Nat) (b : S) (u : Str → S) : S := fun g => match b g with
  | .ex c p g' => (match sub c with
    | some true => if p.isNone = true ∧ i < g'.length then (match u c (g'.set i .un) with
      | .nx g2 => .nx (g2.set i .un)
      | .bk g2 => .bk (g2.set i .un)
      | .ct g2 => .ct (g2.set i .un)
      | .rt d => .rt d
      | _ => .bad) else .bad
    | some false => .ex c p g'
    | none => .bad)
  | o => o
theorem ms_tryAs {X : Cx} {W : WX} {x n : Str} {i : Nat} {body suite : List Stmt} {b0 : Stmt} {np pos pos' : Pos} {sub : Str → Option Bool} {b : S} {u : Str → S} (hN : X.N.Nodup) (gC : X.mg x = some (.ref (He.ga X.K x))) (tk : Takes X W) (so : SubOk X.K X.mg sub (.ref (He.ga X.K x)))
    (hb : ∀ (W' : WX) (pn : List (Addr × Obj)) (xe : Value → Shared → Prop), Takes (X.tr pn xe) W' → PassesOwn (model X.prog X.w) X.A X.env xe → MSs (X.tr pn xe) W' body b)
    (hsu : ∀ (c : Str), sub c = some true → ∀ (C a : Addr) (oe : Obj) (d : Option Addr) (pn : List (Addr × Obj)), X.mg c = some (.ref C) → Zc (.ref C) d oe → (∃ vs, oe.data = .fields vs) → d = none → ∀ W' : WX, PSs (X.suite a ((a, oe) :: pn)) (b0 :: suite) (fun D σ H => σ[i]? = some (some (.ref a)) ∧ tS X.K X.mg W' (u c) D σ H))
    (hi : X.N[i]? = some n := by rfl) (hln : X.env.kindOf n = some .local := by rfl) (hs : X.stack = X.env :: X.outer := by rfl) (hf : X.env.frame = some X.env.locals := by rfl) (hg : Gl X x := by rfl) (hdb : (x == ("__debug__" : Str)) = false := by decide) :
    MS X W (.Try body [.ExceptHandler (some (.Name x np)) (some n) (b0 :: suite) pos'] [] [] pos) (sTryAs sub i b u) := by
  refine PS.imp (ps_try_as (i := i) (tb := fun W' => tS X.K X.mg W' b) (ts := fun a cls d => fun D σ H => ∃ c C, sub c = some true ∧ X.mg c = some (.ref C) ∧ cls = .ref C ∧ d = none ∧ σ[i]? = some (some (.ref a)) ∧ tS X.K X.mg (fun _ _ _ _ => False) (u c) D σ H) hs hf hN hi hln ⟨hg, hdb, .inl gC⟩ tk hb
    fun a oe cls d pn z f => ⟨fun pins s σ H D I ⟨c, C, h1, h2, h3, h5, h4⟩ => by
      subst h3
      exact (hsu c h1 C a oe d pn h2 z f h5 _).run pins s σ H D I h4⟩) fun D σ H ⟨F0, H0, F, g, ok, h⟩ => ⟨F0, H0, F, g, ok, ?_⟩
  unfold sTryAs at h
  cases e : b g with
  | nx g' => rw [e] at h; exact h
  | rt d => rw [e] at h; exact h
  | bk g' => rw [e] at h; exact h
  | ct g' => rw [e] at h; exact h
  | bad => rw [e] at h; exact h
  | ex cx p g' =>
    rw [e] at h
    dsimp only at h
    intro cls od F' H' σ' ok' xv
    obtain ⟨C, gC', rfl, xr⟩ := id xv
    cases q : sub cx with
    | none => rw [q] at h; exact h.elim
    | some k =>
      rw [q] at h
      refine ⟨k, so _ _ _ q gC', fun ek a ha => ?_, fun ek => ?_⟩
      · subst ek
        dsimp only at h
        cases p with
        | some d =>
          rw [if_neg (by intro z; exact absurd z.1 (by simp))] at h
          exact h.elim
        | none =>
        by_cases hl0 : i < g'.length
        rotate_left
        · rw [if_neg (by intro z; exact hl0 z.2)] at h
          exact h.elim
        rw [if_pos ⟨rfl, hl0⟩] at h
        have hl : i < σ'.length := by
          rw [ok'.len]
          exact hl0
        refine ⟨cx, C, q, gC', rfl, xr, by rw [List.getElem?_set_self hl], F0, H0, F', _, ok'.unset i _, ?_⟩
        cases e2 : u cx (g'.set i .un) with
        | ex c2 p2 g2 => rw [e2] at h; exact h.elim
        | nx g2 => rw [e2] at h; exact fun F2 H2 σ2 ok2 => h F2 H2 _ (ok2.unset i none)
        | rt d => rw [e2] at h; exact h
        | bk g2 => rw [e2] at h; exact fun F2 H2 σ2 ok2 => h F2 H2 _ (ok2.unset i none)
        | ct g2 => rw [e2] at h; exact fun F2 H2 σ2 ok2 => h F2 H2 _ (ok2.unset i none)
        | bad => rw [e2] at h; exact h
      · subst ek
        exact h (.ref C) od F' H' σ' ok' xv
/-! what a suite asks of its exception -/
/-- e tells k, where slot i holds the exception at a -/
abbrev XB (X : Cx) (i : Nat) (a : Addr) (e : Expr) (k : Bool) : Prop := PE X e (fun σ H Q => σ[i]? = some (some (.ref a)) ∧ Q (.bl k) H)
section
variable {X : Cx} {i : Nat} {a : Addr} {C : Addr} {oe : Obj} {d : Option Addr} {pn : List (Addr × Obj)} {pos : Pos}
theorem xb_own {n y : Str} {p p1 p2 pos : Pos} {b : Bool} (E : ExcC X.K C) (hz : Zc (.ref C) d oe) (hf : ∃ vs, oe.data = .fields vs) (hd : d = none) (hmi : X.mg "isinstance" = none) (gy : X.mg y = some (.ref (He.ga X.K y))) (hk : PySem.W.kitOne X.K (.ref C) (.ref (He.ga X.K y)) = some b)
    (hx : PE (X.suite a ((a, oe) :: pn)) (.Name n p1) (tVar i)) (hgi : Gl X "isinstance" := by rfl) (hg : Gl X y := by rfl) (hdb : (y == ("__debug__" : Str)) = false := by decide)
    (he : starEach [.Name n p1, .Name y p2] (X.suite a ((a, oe) :: pn)).env = (false, eval (.Name n p1) (X.suite a ((a, oe) :: pn)).env) :: starEach [.Name y p2] (X.suite a ((a, oe) :: pn)).env := by rfl) (he2 : starEach [.Name y p2] (X.suite a ((a, oe) :: pn)).env = (false, eval (.Name y p2) (X.suite a ((a, oe) :: pn)).env) :: starEach [] (X.suite a ((a, oe) :: pn)).env := by rfl)
    (hpl : (backTo pos (starEach [.Name y p2] (X.suite a ((a, oe) :: pn)).env)).any (·.1) = false := by rfl) : XB (X.suite a ((a, oe) :: pn)) i a (.Call (.Name "isinstance" p) [.Name n p1, .Name y p2] [] pos) b := by
  subst hd
  refine PE.imp (pe_callB (call_isE E hz hf) hgi hmi (by decide +kernel) (pa_cons hx (pa_cons (pe_glob (v := .ref (He.ga X.K y)) hg gy rfl hdb) pa_nil he2) he) (by decide) (by decide) he hpl) fun σ H Q ⟨h1, h2⟩ => ?_
  exact ⟨_, h1, _, .ref (He.ga X.K y), b, rfl, fun u r => r, hk, h2⟩
theorem xb_blt {n y : Str} {T : String} {p p1 p2 pos : Pos} {b : Bool} (E : ExcC X.K C) (hz : Zc (.ref C) d oe) (hf : ∃ vs, oe.data = .fields vs) (hd : d = none) (hmi : X.mg "isinstance" = none) (hm : X.mg y = none) (hk : PySem.W.kitOne X.K (.ref C) (.type T) = some b)
    (hx : PE (X.suite a ((a, oe) :: pn)) (.Name n p1) (tVar i)) (hgi : Gl X "isinstance" := by rfl) (hg : Gl X y := by rfl) (hv : bootBuiltins y = some (.type T) := by decide +kernel) (hn : y ≠ "__name__" := by decide) (hdb : (y == ("__debug__" : Str)) = false := by decide)
    (he : starEach [.Name n p1, .Name y p2] (X.suite a ((a, oe) :: pn)).env = (false, eval (.Name n p1) (X.suite a ((a, oe) :: pn)).env) :: starEach [.Name y p2] (X.suite a ((a, oe) :: pn)).env := by rfl) (he2 : starEach [.Name y p2] (X.suite a ((a, oe) :: pn)).env = (false, eval (.Name y p2) (X.suite a ((a, oe) :: pn)).env) :: starEach [] (X.suite a ((a, oe) :: pn)).env := by rfl)
    (hpl : (backTo pos (starEach [.Name y p2] (X.suite a ((a, oe) :: pn)).env)).any (·.1) = false := by rfl) : XB (X.suite a ((a, oe) :: pn)) i a (.Call (.Name "isinstance" p) [.Name n p1, .Name y p2] [] pos) b := by
  subst hd
  refine PE.imp (pe_callB (call_isE E hz hf) hgi hmi (by decide +kernel) (pa_cons hx (pa_cons (pe_bty (X := X.suite a ((a, oe) :: pn)) hg hm hv hn hdb) pa_nil he2) he) (by decide) (by decide) he hpl) fun σ H Q ⟨h1, h2⟩ => ?_
  exact ⟨_, h1, _, .type T, b, rfl, fun u r => r, hk, h2⟩
end
section
variable {X : Cx} {i : Nat} {a : Addr} {pos : Pos}
theorem xb_not {e : Expr} {k : Bool} (h : XB X i a e k) : XB X i a (.UnaryOp .Not e pos) (!k) := PE.imp (pe_notT h) fun σ H Q ⟨h1, h2⟩ => ⟨h1, k, rfl, h2⟩
theorem xb_one {op} {e : Expr} {k : Bool} (h : XB X i a e k) : XB X i a (.BoolOp op [e] pos) k := pe_one h
theorem xb_and {e b : Expr} {rest : List Expr} {k l : Bool} (h : XB X i a e k) (h2 : XB X i a (.BoolOp .And (b :: rest) pos) l) : XB X i a (.BoolOp .And (e :: b :: rest) pos) (k && l) := PE.imp (pe_andT h h2) fun σ H Q ⟨h1, h2⟩ => ⟨h1, k, rfl, by
  cases k with
  | true => exact ⟨h1, h2⟩
  | false => exact h2⟩
theorem xb_set (j : Nat) {x : Str} {e : Expr} {k : Bool} {pos' : Pos} {W : WX} (hN : X.N.Nodup) (h : XB X i a e k) (hi : X.N[j]? = some x := by rfl) (hx : Loc X.env.scope x := by first | exact Or.inl rfl | exact Or.inr rfl) (hs : swapsWith e (some (.Name x pos')) pos.line X.env = pure false := by rfl) (hf : X.fn x = true ∨ X.env.scope.names.lookup x = some .local := by first | exact .inl rfl | exact .inr rfl) :
    PSs X [.Assign [.Name x pos'] e pos] (fun D σ H => σ[i]? = some (some (.ref a)) ∧ tS X.K X.mg W (sSet j (mC (.bool k))) D σ H) := by
  refine pss_one (PS.imp (ps_set hN hi hx h hs hf) fun D σ H ⟨h1, F0, H0, F, g, ok, q⟩ => ⟨h1, ?_⟩)
  exact q F H _ (ok.set (.bl k))
theorem xb_ret {e : Expr} {k : Bool} {W : WX} (h : XB X i a e k) : PSs X [.Return (some e) pos] (fun D σ H => σ[i]? = some (some (.ref a)) ∧ tS X.K X.mg W (sRet (mC (.bool k))) D σ H) := by
  refine pss_one (PS.imp (ps_ret h) fun D σ H ⟨h1, F0, H0, F, g, ok, q⟩ => ⟨h1, ?_⟩)
  exact q (.bl k) F H ok.e (.bl k)
end
end MI
namespace MI
open PySem
theorem sub_one {c x : Str} {tb : List (Str × Bool)} (h : subT ((x, true) :: tb) c = some true) (h0 : subT tb c ≠ some true := by intro z; cases z) : c = x := by
  unfold subT at h
  rw [List.lookup_cons] at h
  cases q : (c == x) with
  | true => exact beq_iff_eq.mp q
  | false =>
    rw [q] at h
    exact absurd h h0
end MI
set_option Elab.async false
set_option linter.all false
set_option maxRecDepth 100000
set_option maxHeartbeats 4000000
/-! MI10: flat values that are reckoned with own lists in sight: taken apart, put. -/
namespace MI
open PySem PySem.Spec PyProof.Rows L2
def sAsgF (t : Tg) (m : M) : S := fun g => (m (va g)).to g fun d => if flat d = true then (match t d g with
  | some g' => .nx g'
  | none => .bad) else .bad
def sPutF (j : Nat) (mi m : M) : S := fun g => match g[j]? with
  | some (.own ds) => (m (va g)).to g fun d => if flat d = true then (mi (vd g)).to g fun i => (match i with
    | .int i => (match L2.ixN ds.length i with
      | some k => .nx (g.set j (.own (ds.set k d)))
      | none => .bad)
    | _ => .bad) else .bad
  | _ => .bad
/-- a, b, .. = a list -/
def gL (u : Tgs) : Tg := fun d g => match d with
  | .list ds => u ds g
  | _ => none
theorem gL_ok {K : PySem.W.Frag} {n : Nat} {r : TGs} {t : Tgs} (h : TgsOk K n r t) : TgOk K (gLst K n r) (gL t) := fun F0 H0 F H σ g g' v d Q ok hd e q => by
  cases hd with
  | lst a b =>
    exact ⟨_, _, rfl, ok.e.s.seq a, (dpa_len b).trans (h.1 _ _ _ e), h.2 F0 H0 F H σ g g' _ _ Q ok b e q⟩
  | _ => cases e
def sAppF (i : Nat) (m : M) : S := fun g => match g[i]? with
  | some (.own ds) => (m (va g)).to g fun d => if flat d = true ∧ ds.length < most then .nx (g.set i (.own (ds ++ [d]))) else .bad
  | _ => .bad
section
variable {X : Cx} {W : WX}
theorem ms_asgF {pos : Pos} {tg e : Expr} {m : M} {r : TG} {t : Tg} (he : ME X W e m) (hg : PG X tg r) (ht : TgOk X.K r t) (hs : swapsWithSole [tg] e pos.line X.env = pure false := by rfl) (hw : swappedStores [tg] e X.env = pure none := by rfl) (h1 : (assignEach [tg] X.env).map (·.2) = [assign tg X.env] := by rfl) : MS X W (.Assign [tg] e pos) (sAsgF t m) := by
  refine PS.imp (ps_asg he hg hs hw h1) fun D σ H ⟨F0, H0, F, g, ok, h⟩ => ?_
  refine ev_va (Q := fun v H1 => r v σ H1 D.nx) ok h fun d v F' H' e ok' hd h' => ?_
  split at h'
  · rename_i f
    cases q : t d g with
    | none => rw [q] at h'; exact h'.elim
    | some g' =>
      rw [q] at h'
      exact ht F0 H0 F' H' σ g g' v d D.nx ok' (hd f) q fun σ' ok2 => h' F' H' σ' ok2
  · exact h'.elim
theorem ms_putF (j : Nat) {x : Str} {ei e : Expr} {mi m : M} {px pt pos : Pos} (he : ME X W e m) (hi : ME X W ei mi) (hg : PG X (.Subscript (.Name x px) ei pt) (gSub (tVar j) (tM X W mi) rSetL))
    (hs : swapsWithSole [.Subscript (.Name x px) ei pt] e pos.line X.env = pure false := by rfl) (hw : swappedStores [.Subscript (.Name x px) ei pt] e X.env = pure none := by rfl) (h1 : (assignEach [.Subscript (.Name x px) ei pt] X.env).map (·.2) = [assign (.Subscript (.Name x px) ei pt) X.env] := by rfl) :
    MS X W (.Assign [.Subscript (.Name x px) ei pt] e pos) (sPutF j mi m) := by
  refine PS.imp (ps_asg he hg hs hw h1) fun D σ H ⟨F0, H0, F, g, ok, h⟩ => ?_
  unfold sPutF at h
  split at h
  · rename_i ds ej
    refine ev_va (Q := fun v H1 => gSub (tVar j) (tM X W mi) rSetL v σ H1 D.nx) ok h fun d v F1 H1 e1 ok1 hd0 h1 => ?_
    split at h1
    · rename_i f
      have hd := hd0 f
      obtain ⟨a, _, hσ, _, _, _, _⟩ := ok1.own j ds ej
      refine ⟨_, hσ, ?_⟩
      refine ev_vd (D := D) ok1.base (h1.base ok1.e) fun i y F2 H2 e2 ok2 hi2 h2 => ?_
      split at h2
      · rename_i i
        split at h2
        · rename_i k hk
          cases dp_int hi2
          obtain ⟨a', xs, q1, q2, q3, q4, q5⟩ := ok2.own j ds ej
          rw [hσ] at q1
          cases q1
          refine ⟨a, xs, i, k, rfl, rfl, q2, by rw [dpa_len q5]; exact hk, ?_⟩
          exact h2 F2 _ σ (ok2.write ej hσ q3 q4 q2 (dpa_set (dp_mono ok2.e.f d hd) k q5))
        · exact h2.elim
      · exact h2.elim
    · exact h1.elim
  · exact h.elim
theorem ms_appF (j : Nat) {x : Str} {e : Expr} {m : M} {px apos cpos pos : Pos} (he : ME X W e m) (hx : PE X (.Name x px) (tVar j))
    (hbase : attributeBase (.Name x px) "append" X.env (eval (.Name x px) X.env) = eval (.Name x px) X.env := by rfl)
    (hfew : ((backTo cpos (starEach (e :: []) X.env)).all (fun x => !x.1) && (backToKw cpos (keywordEach [] X.env)).all (fun x => x.1.isSome)
      && decide ((e :: []).length + ([] : List Keyword).length + (if ([] : List Keyword).isEmpty then 0 else 1) < 30)) = true := by rfl)
    (hline : (apos.endLine == cpos.line) = true := by rfl) (hs : starEach (e :: []) X.env = (false, eval e X.env) :: starEach [] X.env := by rfl) (hplain : (backTo cpos (starEach [] X.env)).any (·.1) = false := by rfl)
    (hw : swapsWith (.Call (.Attribute (.Name x px) "append" apos) [e] [] cpos) none pos.line X.env = pure false := by rfl) :
    MS X W (.Expr (.Call (.Attribute (.Name x px) "append" apos) [e] [] cpos) pos) (sAppF j m) := by
  refine PS.imp (ps_expr (pe_bm PySem.F.plainAttrs_list PySem.F.slot_list_append PySem.F.type_list_append mt_append hx (pa_cons he pa_nil hs) hbase hfew hline hs hplain) hw) fun D σ H ⟨F0, H0, F, g, ok, h⟩ => ?_
  unfold sAppF at h
  split at h
  · rename_i ds ej
    obtain ⟨a, xs0, hσ, hH0, _, _, _⟩ := ok.own j ds ej
    refine ⟨_, hσ, .inl ⟨rfl, xs0, SqL.of hH0⟩, ?_⟩
    refine ev_va (Q := fun y H1 => rAppend (.ref a) [y] H1 fun _ H2 => D.nx σ H2) ok h fun d v F1 H1 e1 ok1 hd0 h1 => ?_
    split at h1
    · rename_i l
      have hd := hd0 l.1
      obtain ⟨a', xs, q1, q2, q3, q4, q5⟩ := ok1.own j ds ej
      rw [hσ] at q1
      cases q1
      exact ⟨a, xs, v, rfl, rfl, q2, by rw [dpa_len q5]; exact Nat.lt_of_lt_of_le l.2 (Nat.le_of_eq most_eq), h1 F1 _ σ (ok1.write ej hσ q3 q4 q2 (dpa_append q5 (.cons hd .nil)))⟩
    · exact h1.elim
  · exact h.elim
end
end MI
set_option Elab.async false
set_option linter.all false
set_option maxRecDepth 100000
set_option maxHeartbeats 4000000
/-! MI11: from here on own lists are data. -/
namespace MI
open PySem PySem.Spec PyProof.Rows L2
def frzA (g : Ce) : Ce := g.map fun c => match c with
  | .own ds => .dat (.list ds)
  | c => c
def sFz (m : S) : S := fun g => m (frzA g)
theorem frzA_va {g : Ce} {i : Nat} {d : D} (h : (frzA g)[i]? = some (.dat d)) : (va g)[i]? = some (some d) := by
  unfold frzA at h
  unfold va
  rw [List.getElem?_map] at h ⊢
  cases e : g[i]? with
  | none => rw [e] at h; cases h
  | some c =>
    rw [e] at h
    cases c with
    | un => cases h
    | dat d' => cases h; rfl
    | own ds => cases h; rfl
theorem frzA_own {g : Ce} {i : Nat} {ds : List D} (h : (frzA g)[i]? = some (.own ds)) : False := by
  unfold frzA at h
  rw [List.getElem?_map] at h
  cases e : g[i]? with
  | none => rw [e] at h; cases h
  | some c =>
    rw [e] at h
    cases c <;> cases h
theorem StOk.frzAll {K : PySem.W.Frag} {F0 H0 F H : Hp} {σ : L2.St} {g : Ce} (ok : StOk K F0 H0 F H σ g) : StOk K F0 H0 (frz F H σ g) H σ (frzA g) := by
  refine ⟨⟨ok.e.f.trans ok.frzF, ok.e.h, ok.frzH, fun a o e n => ?_⟩, by unfold frzA; rw [List.length_map]; exact ok.len, fun i d h => ok.va.2 i d (frzA_va h), fun i ds h => (frzA_own h).elim, fun i j ds es a h => (frzA_own h).elim⟩
  by_cases w : Own σ g a
  · obtain ⟨_, _, _, q⟩ := ok.ownAt w
    exact q
  · rw [frz_not w] at e
    exact ok.e.n a o e n
theorem mss_fz {X : Cx} {W : WX} {ss : List Stmt} {b : S} (h : MSs X W ss b) : MSs X W ss (sFz b) :=
  PSs.imp h fun D σ H ⟨F0, H0, F, g, ok, q⟩ => ⟨F0, H0, frz F H σ g, frzA g, ok.frzAll, q⟩
@[simp] theorem sFz_ap (m : S) (g : Ce) : sFz m g = m (frzA g) := Eq.trans rfl rfl
@[simp] theorem frzA_nil : frzA [] = [] := Eq.trans rfl rfl
@[simp] theorem frzA_un (g : Ce) : frzA (.un :: g) = .un :: frzA g := Eq.trans rfl rfl
@[simp] theorem frzA_dat (d : D) (g : Ce) : frzA (.dat d :: g) = .dat d :: frzA g := Eq.trans rfl rfl
@[simp] theorem frzA_ow (ds : List D) (g : Ce) : frzA (.own ds :: g) = .dat (.list ds) :: frzA g := Eq.trans rfl rfl
end MI
set_option Elab.async false
set_option linter.all false
set_option maxRecDepth 100000
set_option maxHeartbeats 4000000
/-! MI12: further constructs. -/
namespace MI
open PySem PySem.Spec PyProof.Rows L2
/-! ### a, b, .. = a tuple or a list -/
def gX (u : Tgs) : Tg := fun d g => match d with
  | .list ds => u ds g
  | .tuple ds => u ds g
  | _ => none
def gSeq (K : PySem.W.Frag) (n : Nat) (t : TGs) : TG := fun v σ H Q => gTup K n t v σ H Q ∨ gLst K n t v σ H Q
theorem pg_seq {X : Cx} {pos : Pos} {es : List Expr} {k : Nat} {t : TGs} {n : Nat} (hc : X.calm = true) (h : PGs X es t)
    (hn : (assignEach es X.env).length = n := by rfl) (hst : (assignEach es X.env).findIdx? (·.1) = none := by rfl) : PG X (.Tuple es k pos) (gSeq X.K n t) :=
  ⟨fun pins s σ H v u Q I r hw => by
    rcases hw with hw | hw
    · exact (pg_tup (pos := pos) (k := k) hc h hn hst).run pins s σ H v u Q I r hw
    · exact (pg_lst (pos := pos) (k := k) hc h hn hst).run pins s σ H v u Q I r hw⟩
theorem gX_ok {K : PySem.W.Frag} {n : Nat} {r : TGs} {t : Tgs} (h : TgsOk K n r t) : TgOk K (gSeq K n r) (gX t) := fun F0 H0 F H σ g g' v d Q ok hd e q => by
  cases hd with
  | lst a b => exact .inr ⟨_, _, rfl, ok.e.s.seq a, (dpa_len b).trans (h.1 _ _ _ e), h.2 F0 H0 F H σ g g' _ _ Q ok b e q⟩
  | tup a b => exact .inl ⟨_, _, rfl, same_t ok.e.s a, (dpa_len b).trans (h.1 _ _ _ e), h.2 F0 H0 F H σ g g' _ _ Q ok b e q⟩
  | _ => cases e
end MI
set_option Elab.async false
set_option linter.all false
set_option maxRecDepth 100000
set_option maxHeartbeats 4000000
/-! MI13: try with any clauses; caught exceptions as data. -/
namespace MI
open PySem PySem.Spec PyProof.Rows L2
section
variable {X : Cx} {pins : List (Addr × Obj)} {σ : L2.St} {H : Hp} {sI s' : Shared} {B : Heap}
theorem extT_ok {P : Program} {w : World} {h : Heap} {a C : Addr} {d : Option Addr} {oe : Obj} {vs : Array Value} (e : h.get? a = some oe) (z : oe.cls = .ref C ∧ oe.dict = d) (f : oe.data = .fields vs) : ObjOk P w H h a (ExT a C d) :=
  ⟨⟨oe, vs, e, z, f⟩, ⟨oe, e⟩, fun _ _ ⟨o, v, q, r⟩ k => ⟨o, v, k o q, r⟩⟩
/-- a caught exception is tracked from here on -/
theorem trackX {a C : Addr} {d : Option Addr} {oe : Obj} {vs : Array Value} (J : Inv X pins σ H sI) (nb : ∀ b o, sI.heap.get? b = some o → b ∉ frs X.stack → B.get? b = some o) (st : B.StaysIn s'.heap) (hB : B.get? a = none) (up : sI.heap.UpToSlots s'.heap) (os : s'.os = sI.os) (ag : AllBare s'.gens)
    (nfr : a ∉ frs X.stack) (he : s'.heap.get? a = some oe) (hz : oe.cls = .ref C ∧ oe.dict = d) (hd : oe.data = .fields vs) (na : H a = none) : Inv X pins σ (upd H a (ExT a C d)) s' := by
  have sa : sI.heap.get? a = none := by
    cases e : sI.heap.get? a with
    | none => rfl
    | some o =>
      have := nb a o e nfr
      rw [hB] at this
      cases this
  obtain ⟨G, g1, g2⟩ := restrict s'.heap fun b => decide (b ≠ a)
  have gk : ∀ b o, b ≠ a → s'.heap.get? b = some o → G.get? b = some o := fun b o hb e => by
    rw [g1 b (decide_eq_true hb)]
    exact e
  have ga : G.get? a = none := g2 a (decide_eq_false fun z => z rfl)
  have gs : ∀ b o, G.get? b = some o → s'.heap.get? b = some o := fun b o e => by
    by_cases hb : b = a
    · rw [hb, ga] at e
      cases e
    · rw [← g1 b (decide_eq_true hb)]
      exact e
  have stG : B.StaysIn G := fun b o e => gk b o (fun z => by rw [z, hB] at e; cases e) (st b o e)
  have upG : sI.heap.UpToSlots G := fun b o e hn => by
    obtain ⟨sl, q⟩ := up b o e hn
    exact ⟨sl, gk b _ (fun z => by rw [z, sa] at e; cases e) q⟩
  have JG : Inv X pins σ H { s' with heap := G } := J.landed nb stG upG os ag
  exact JG.laidN (h' := s'.heap) (t' := s'.toks) gs ga na (extT_ok he hz hd)
/-- the context of a suite, nothing pinned -/
theorem suite0 (I : Inv X pins σ H s') (a : Addr) : Inv (X.suite a (X.pn ++ pins)) [] σ H s' :=
  ⟨I.ok.suite _ _, I.os, I.bare, I.base, I.loc, I.cell, I.free, I.freeC, fun p hp => I.pin p (by rw [List.append_nil] at hp; exact hp), I.hok, I.len⟩
theorem unsuite0 {a : Addr} {pn' : List (Addr × Obj)} (I : Inv (X.suite a (X.pn ++ pins)) pn' σ H s') (ok : X.Ok) : Inv X pins σ H s' :=
  ⟨ok, I.os, I.bare, I.base, I.loc, I.cell, I.free, I.freeC, fun p hp => I.pin p (List.mem_append_left _ hp), I.hok, I.len⟩
end
/-- what a clause names: m tells by an exception's class whether it is meant -/
def TestAt (X : Cx) (ty : Expr) (m : Value → Option Bool) : Prop := ∀ (a : Addr) (pn pins : List (Addr × Obj)) (σ : L2.St) (H : Hp) (s : Shared) (oe : Obj) (b : Bool) (Q : Bool → Shared → Prop) (E : Value → Shared → Prop),
  Inv (X.suite a pn) pins σ H s → s.heap.get? a = some oe → m oe.cls = some b → (∀ h' t', (∀ c o, s.heap.get? c = some o → h'.get? c = some o) → Q b { s with heap := h', toks := t' }) →
  wpAny (model X.prog X.w) (X.A.mark (some (.ref a))) (eval ty X.env) (fun c s1 => wpAny (model X.prog X.w) (X.A.mark (some (.ref a))) (excMatches (.ref a) c) Q E s1) E s
theorem test_name {X : Cx} {x : Str} {c : Value} {p : Pos} (hc : Names X x c) : TestAt X (.Name x p) (fun cls => PySem.W.exmOne X.K cls c) := by
  intro a pn pins σ H s oe b Q E I he hm k
  have LT : PySem.W.Looks (model X.prog X.w) s.heap (typeOf (.ref a)) oe.cls := fun A Q E s k q => wpAny_typeOf_ref (k _ _ he) q
  have LM := PySem.W.exm_one (M := model X.prog X.w) I.kIn LT hm
  have fin := LM.here (A := X.A.mark (some (.ref a))) (E := E) (s := s) (Q := Q) (k s.heap s.toks fun _ _ z => z)
  obtain ⟨hg, hdbg, hm | ⟨hm, hv, hnn⟩⟩ := hc
  · exact ld_glob (X := X.suite a pn) I hg hm fin hdbg
  · exact ld_blt (X := X.suite a pn) I hg hm hv fin hnn hdbg
theorem test_two {X : Cx} {x y : Str} {c d : Value} {p p2 p3 : Pos} {ctx} (h1 : Names X x c) (h2 : Names X y d) : TestAt X (.Tuple [.Name x p, .Name y p2] ctx p3) (fun cls => PySem.W.exmAny X.K cls [c, d]) := by
  intro a pn pins σ H s oe b Q E I he hm k
  have nm : ∀ {x : Str} {c : Value} {p : Pos} {Q : Value → Shared → Prop}, Names X x c → Q c s → wpAny (model X.prog X.w) (X.A.mark (some (.ref a))) (eval (.Name x p) X.env) Q E s := fun {x c p Q} hc q => by
    obtain ⟨hg, hdbg, hm | ⟨hm, hv, hnn⟩⟩ := hc
    · exact ld_glob (X := X.suite a pn) I hg hm q hdbg
    · exact ld_blt (X := X.suite a pn) I hg hm hv q hnn hdbg
  refine wpAny_Tuple_spliced ?_
  show wpAny _ _ (spliced ((false, eval (.Name x p) X.env) :: (false, eval (.Name y p2) X.env) :: [])) _ _ s
  refine Calls.spliced_cons (nm h1 (Calls.spliced_cons (nm h2 (Calls.spliced_nil ⟨by show 2 ≤ sizeLine; rw [sizeLine_eq]; omega, ?_⟩))))
  have gp : (s.heap.push { cls := .type "tuple", data := .seq [c, d].toArray }).get? s.heap.objs.size = some { cls := .type "tuple", data := .seq [c, d].toArray } := Heap.get?_push_size _ rfl
  have kk : ∀ b o, s.heap.get? b = some o → (s.heap.push { cls := .type "tuple", data := .seq [c, d].toArray }).get? b = some o := fun b o e => Heap.get?_push_of_some _ e
  have LT : PySem.W.Looks (model X.prog X.w) (s.heap.push { cls := .type "tuple", data := .seq [c, d].toArray }) (typeOf (.ref a)) oe.cls := fun A Q E s k q => wpAny_typeOf_ref (k _ _ (kk _ _ he)) q
  have LM := PySem.W.exm_tup2 (M := model X.prog X.w) (I.kIn.keeps kk) LT gp hm
  exact LM.here (k _ s.toks kk)
/-- one clause: whom it takes, the slot of its name, its suite -/
abbrev Hdl := (Value → Option Bool) × Option Nat × TS
def goneD (i : Nat) (D : Ends) : Ends := { nx := fun σ H => D.nx (σ.set i none) H, rt := D.rt, bk := fun σ H => D.bk (σ.set i none) H, ct := fun σ H => D.ct (σ.set i none) H }
def wG (Wout : WX) (D : Ends) : List Hdl → WX
  | [] => Wout
  | (m, oi, ts) :: r => fun cls d σ H => ∃ C b, cls = .ref C ∧ m cls = some b ∧ (b = true → match oi with
      | none => ts D σ H
      | some i => ∀ a, H a = none → ts (goneD i D) (σ.set i (some (.ref a))) (upd H a (ExT a C d))) ∧ (b = false → wG Wout D r cls d σ H)
inductive HdsG (X : Cx) : List ExceptHandler → List Hdl → Prop
  | nil : HdsG X [] []
  | anon {ty : Expr} {m : Value → Option Bool} {ts : TS} {b₀ : Stmt} {suite : List Stmt} {pos' : Pos} {hds : List ExceptHandler} {l : List Hdl} (hc : TestAt X ty m)
      (hsu : ∀ (a : Addr) (pn : List (Addr × Obj)), PSs (X.suite a pn) (b₀ :: suite) ts) (r : HdsG X hds l) : HdsG X (.ExceptHandler (some ty) none (b₀ :: suite) pos' :: hds) ((m, none, ts) :: l)
  | named {ty : Expr} {m : Value → Option Bool} {ts : TS} {b₀ : Stmt} {suite : List Stmt} {pos' : Pos} {hds : List ExceptHandler} {l : List Hdl} {n : Str} {i : Nat} (hc : TestAt X ty m) (hi : X.N[i]? = some n) (hln : X.env.kindOf n = some .local)
      (hsu : ∀ (a : Addr) (pn : List (Addr × Obj)), PSs (X.suite a pn) (b₀ :: suite) ts) (r : HdsG X hds l) : HdsG X (.ExceptHandler (some ty) (some n) (b₀ :: suite) pos' :: hds) ((m, some i, ts) :: l)
section
variable {X : Cx} {body orelse : List Stmt} {h₀ : ExceptHandler} {hds : List ExceptHandler} {l : List Hdl} {pos : Pos} {tb : WX → TS} {u : TS} {Wout : WX}
theorem ps_tryG (ho : PSs X orelse u) (hs : X.stack = X.env :: X.outer) (hf : X.env.frame = some X.env.locals) (hN : X.N.Nodup) (tk : Takes X Wout)
    (hb : ∀ (W : WX) (pn : List (Addr × Obj)) (xe : Value → Shared → Prop), Takes (X.tr pn xe) W → PassesOwn (model X.prog X.w) X.A X.env xe → PSs (X.tr pn xe) body (tb W))
    (hh : HdsG X (h₀ :: hds) l) : PS X (.Try body (h₀ :: hds) orelse [] pos) (fun D σ H => tb (wG Wout D l) { D with nx := u D } σ H) := by
  refine ⟨fun pins s σ H D I h => ?_⟩
  have ok := I.ok
  have hfr : X.A.frames = some (X.env :: X.outer) := by rw [ok.frames, hs]
  refine wpAny_Try_except ?_
  refine wpAny_mono ((hb (wG Wout D l) (X.pn ++ pins) (fun e s₁ => wpAny (model X.prog X.w) X.A (noteFrame e X.env) (fun _ s₂ => wpAny (model X.prog X.w) X.A (setFlight e none) (fun _ s₃ =>
    wpAny (model X.prog X.w) X.A (handleBy e X.env (h₀ :: hds)) (SP X pins D) X.xe s₃) X.xe s₂) X.xe s₁) (fun u s' xx => ?_) PassesOwn.looking).run [] s σ H { D with nx := u D } (I.toTry _) h) (fun f s1 hsp => ?_) (fun e s1 he => he)
  · -- the catch
    obtain ⟨a, B, sI, pins', σ', H', cls, d, rfl, J', nb, up, sky, na, os, ag, w⟩ := xx
    have J : Inv X pins σ' H' sI := J'.ofTry ok
    have sky' : Sky B (X.env :: X.outer) a (Zc cls d) X.env.locals s'.heap := by rw [← hs]; exact sky
    show wpAny (model X.prog X.w) X.A (noteFrame (.ref a) X.env) _ _ _
    refine Sky.land Zc.steady hfr hf sky' fun h3 fl3 up3 => ?_
    have notFr : ∀ {h : Heap} {o : Obj} {vs : Array Value}, h.FunFrames B (X.env :: X.outer) → h.get? a = some o → o.data = .fields vs → a ∉ frs (X.env :: X.outer) := fun {h o vs} ff e dd hm => by
      obtain ⟨_, o', e', hnf⟩ := ff.mem hm
      rw [e] at e'; cases e'
      exact hnf _ dd
    have nfr : a ∉ frs X.stack := by
      obtain ⟨oe3, vs3, he3, hz3, hd3⟩ := fl3.there
      rw [hs]
      exact notFr fl3.2.2.1 he3 hd3
    have nL : a ≠ X.env.locals := fun z => nfr (by rw [hs]; exact List.mem_filterMap.mpr ⟨X.env, List.mem_cons_self, by rw [hf, z]⟩)
    have nF : a ∉ X.fs := fun hm => by
      obtain ⟨e, he, q⟩ := List.mem_filterMap.mp hm
      exact nfr (by rw [hs]; exact List.mem_filterMap.mpr ⟨e, List.mem_cons_of_mem _ he, q⟩)
    have go : ∀ {hds' : List ExceptHandler} {l' : List Hdl}, HdsG X hds' l' → wG Wout D l' cls d σ' H' → ∀ (h : Heap) (t : Nat), HandSPX.FlyingZ B (X.env :: X.outer) a (Zc cls d) h → sI.heap.UpToSlots h →
        wpAny (model X.prog X.w) X.A (handleBy (.ref a) X.env hds') (SP X pins D) X.xe { s' with heap := h, toks := t } := by
      intro hds' l' hk
      induction hk with
      | nil =>
        intro w h t fl uph
        refine wpAny_handleBy_nil ?_
        obtain ⟨k1, k2, k3, oe, vs, T, oT, ts', he, hz, hd, h1, hr⟩ := id fl
        unfold PySem.passOn
        refine wpAny_bind (wpAny_field he hd h1 ?_)
        rw [if_neg (show ¬ ((Value.ref T == Value.none) = true) from by simp)]
        have fin : wpAny (model X.prog X.w) X.A (setFlight (.ref a) X.env.frame) (fun _ s4 => wpAny (model X.prog X.w) X.A (throw (.ref a) : Sem Flow) (SP X pins D) X.xe s4) X.xe { s' with heap := h, toks := t } := by
          rw [hf]
          refine HandSPX.setFlight_upZ fl fun h4 hh4 up4 => wpAny_throw (tk _ _ ?_)
          exact ⟨a, B, sI, pins, σ', H', cls, d, rfl, J, nb, uph.trans up4, .inr (.inr (by rw [hs]; exact hh4)), na, os, ag, w⟩
        first
          | exact wpAny_bind (wpAny_pure (wpAny_bind fin))
          | exact wpAny_bind fin
      | @anon ty m ts b₀ suite pos' hds2 l2 hc hsu r ih =>
        intro w h t fl uph
        obtain ⟨C, b, rfl, hb1, hyes, hno⟩ := w
        obtain ⟨oe, vs, he, hz, hd⟩ := fl.there
        have J3 : Inv X pins σ' H' { s' with heap := h, toks := t } := J.landed nb fl.1 uph os ag
        have S3 := J3.suite he hd na nL nF
        refine wpAny_handleBy_cons (codeAny_handlers_test ?_) (by intro q; cases q)
        refine hc a _ [] σ' H' _ oe b _ _ S3 he (by rw [hz.1]; exact hb1) fun h' t' kk => ?_
        have fl' : HandSPX.FlyingZ B (X.env :: X.outer) a (Zc (.ref C) d) h' := by
          obtain ⟨k1, k2, k3, oe, vs, T, oT, ts', q1, q2, q3, q4, q5, q6, q7, q8⟩ := id fl
          exact ⟨fun b o e => kk _ _ (k1 b o e), k2, k3.of_keeps fun b o e n => ⟨o, kk _ _ e, rfl⟩, oe, vs, T, oT, ts', kk _ _ q1, q2, q3, q4, q5, q6, kk _ _ q7, q8⟩
        have up' : sI.heap.UpToSlots h' := uph.trans (Heap.UpToSlots.of_keeps kk)
        cases b with
        | true =>
          refine codeAny_handlers_suite ?_
          refine HandSPX.lands_againZ fl' fun h4 fl4 up4 => ?_
          have J4 : Inv X pins σ' H' { s' with heap := h4, toks := t' } := J.landed nb fl4.1 (up'.trans up4) os ag
          obtain ⟨oe4, vs4, he4, hz4, hd4⟩ := fl4.there
          have S4 := J4.suite he4 hd4 na nL nF
          refine wpAny_mono ((hsu a _).run [] _ _ H' _ S4 (hyes rfl)) (fun f s6 hsp => ?_) (fun _ _ z => False.elim z)
          cases f with
          | next =>
            obtain ⟨σ6, H6, S6, q6⟩ := hsp
            exact ⟨_, _, S6.unsuite ok, q6⟩
          | brk =>
            obtain ⟨σ6, H6, S6, q6⟩ := hsp
            exact ⟨_, _, S6.unsuite ok, q6⟩
          | cont =>
            obtain ⟨σ6, H6, S6, q6⟩ := hsp
            exact ⟨_, _, S6.unsuite ok, q6⟩
          | ret u =>
            obtain ⟨v6, σ6, H6, S6, r6, q6⟩ := hsp
            exact ⟨_, _, _, S6.unsuite ok, r6, q6⟩
        | false => exact ih (hno rfl) h' t' fl' up'
      | @named ty m ts b₀ suite pos' hds2 l2 n i hc hi hln hsu r ih =>
        intro w h t fl uph
        obtain ⟨C, b, rfl, hb1, hyes, hno⟩ := w
        obtain ⟨oe, vs, he, hz, hd⟩ := fl.there
        have hloc : Loc X.env.scope n := .inl hln
        have J3 : Inv X pins σ' H' { s' with heap := h, toks := t } := J.landed nb fl.1 uph os ag
        have S3 := J3.suite he hd na nL nF
        refine wpAny_handleBy_cons (codeAny_handlers_test ?_) (by intro q; cases q)
        refine hc a _ [] σ' H' _ oe b _ _ S3 he (by rw [hz.1]; exact hb1) fun h' t' kk => ?_
        have fl' : HandSPX.FlyingZ B (X.env :: X.outer) a (Zc (.ref C) d) h' := by
          obtain ⟨k1, k2, k3, oe, vs, T, oT, ts', q1, q2, q3, q4, q5, q6, q7, q8⟩ := id fl
          exact ⟨fun b o e => kk _ _ (k1 b o e), k2, k3.of_keeps fun b o e n => ⟨o, kk _ _ e, rfl⟩, oe, vs, T, oT, ts', kk _ _ q1, q2, q3, q4, q5, q6, kk _ _ q7, q8⟩
        have up' : sI.heap.UpToSlots h' := uph.trans (Heap.UpToSlots.of_keeps kk)
        cases b with
        | true =>
          refine codeAny_handlers_suite_as ?_
          refine HandSPX.lands_againZ fl' fun h4 fl4 up4 => ?_
          obtain ⟨oe4, vs4, he4, hz4, hd4⟩ := fl4.there
          have J4 : Inv X pins σ' (upd H' a (ExT a C d)) { s' with heap := h4, toks := t' } := trackX J nb fl4.1 fl4.2.1 (up'.trans up4) os ag nfr he4 hz4 hd4 na
          have S4 := suite0 J4 a
          refine store_ok (X := X.suite a (X.pn ++ pins)) (v := .ref a) S4 hN hi hloc rfl (fun s5 S5 => ?_) (.inr hln)
          refine wpAny_mono ((hsu a _).run [] s5 _ _ (goneD i D) S5 (hyes rfl a na)) (fun f s6 hsp => ?_) (fun _ _ z => False.elim z)
          have end_ : ∀ {σ6 : L2.St} {H6 : Hp} {Q : Shared → Prop}, Inv (X.suite a (X.pn ++ pins)) [] σ6 H6 s6 → (∀ s7, Inv X pins (σ6.set i none) H6 s7 → Q s7) →
              wpAny (model X.prog X.w) X.A (do bindName X.env n .none; unbindBehindTheSuite X.env n pos') (fun _ s7 => Q s7) X.xe s6 := fun {σ6 H6 Q} S6 hq => gone_ok (unsuite0 S6 ok) hN hi hln hq
          cases f with
          | next =>
            obtain ⟨σ6, H6, S6, q6⟩ := hsp
            exact end_ S6 fun s7 J7 => ⟨_, _, J7, q6⟩
          | brk =>
            obtain ⟨σ6, H6, S6, q6⟩ := hsp
            exact end_ S6 fun s7 J7 => ⟨_, _, J7, q6⟩
          | cont =>
            obtain ⟨σ6, H6, S6, q6⟩ := hsp
            exact end_ S6 fun s7 J7 => ⟨_, _, J7, q6⟩
          | ret u =>
            obtain ⟨v6, σ6, H6, S6, r6, q6⟩ := hsp
            exact end_ S6 fun s7 J7 => ⟨_, _, _, J7, r6, q6⟩
        | false => exact ih (hno rfl) h' t' fl' up'
    exact go hh w h3 s'.toks fl3 (up.trans up3)
  · cases f with
    | next =>
      obtain ⟨σ', H', J', q⟩ := hsp
      exact ho.run pins _ σ' H' D (J'.ofTry ok) q
    | brk =>
      obtain ⟨σ', H', J', q⟩ := hsp
      exact ⟨σ', H', J'.ofTry ok, q⟩
    | cont =>
      obtain ⟨σ', H', J', q⟩ := hsp
      exact ⟨σ', H', J'.ofTry ok, q⟩
    | ret u =>
      obtain ⟨v, σ', H', J', r, q⟩ := hsp
      exact ⟨v, σ', H', J'.ofTry ok, r, q⟩
end
/-! ### as meanings -/
abbrev Hd := (Str → Option Bool) × Option Nat × S
def isV : D → Bool
  | .none => true
  | .bool _ => true
  | .int _ => true
  | .str _ => true
  | _ => false
theorem dp_isV {K : PySem.W.Frag} {F : Hp} {v : V} {d : D} (h : Dp K F v d) (i : isV d = true) : vD v = some d := by
  cases h with
  | non => rfl
  | bl _ => rfl
  | int _ => rfl
  | str _ => rfl
  | _ => cases i
def isVO : Option D → Bool
  | none => true
  | some d => isV d
def noExO : Out → Out
  | .ex _ _ _ => .bad
  | o => o
def goneO (i : Nat) : Out → Out
  | .nx g => .nx (g.set i .un)
  | .bk g => .bk (g.set i .un)
  | .ct g => .ct (g.set i .un)
  | .rt d => .rt d
  | .ex _ _ _ => .bad
  | .bad => .bad
def hdlG (c : Str) (p : Option D) : List Hd → S
  | [] => fun g => .ex c p g
  | (sub, oi, s) :: r => fun g => match sub c with
    | some true => (match oi with
      | none => noExO (s g)
      | some i => if i < g.length ∧ isVO p = true then goneO i (s (g.set i (.dat (excD c p)))) else .bad)
    | some false => hdlG c p r g
    | none => .bad
def sTryG (l : List Hd) (b u : S) : S := fun g => match b g with
  | .nx g' => u g'
  | .ex c p g' => hdlG c p l g'
  | o => o
def SubG (K : PySem.W.Frag) (mg : Str → Option Value) (sub : Str → Option Bool) (m : Value → Option Bool) : Prop := ∀ x k, sub x = some k → mg x = some (.ref (He.ga K x)) ∧ m (.ref (He.ga K x)) = some k
/-- the clauses tell what their meanings say -/
inductive HdsM (X : Cx) : List ExceptHandler → List Hd → Prop
  | nil : HdsM X [] []
  | anon {ty : Expr} {m : Value → Option Bool} {sub : Str → Option Bool} {s : S} {b₀ : Stmt} {suite : List Stmt} {pos' : Pos} {hds : List ExceptHandler} {l : List Hd} (hc : TestAt X ty m) (so : SubG X.K X.mg sub m)
      (hsu : ∀ (a : Addr) (pn : List (Addr × Obj)), MSs (X.suite a pn) (fun _ _ _ _ => False) (b₀ :: suite) s) (r : HdsM X hds l) : HdsM X (.ExceptHandler (some ty) none (b₀ :: suite) pos' :: hds) ((sub, none, s) :: l)
  | named {ty : Expr} {m : Value → Option Bool} {sub : Str → Option Bool} {s : S} {b₀ : Stmt} {suite : List Stmt} {pos' : Pos} {hds : List ExceptHandler} {l : List Hd} {n : Str} {i : Nat} (hc : TestAt X ty m) (so : SubG X.K X.mg sub m) (hi : X.N[i]? = some n) (hln : X.env.kindOf n = some .local)
      (hsu : ∀ (a : Addr) (pn : List (Addr × Obj)), MSs (X.suite a pn) (fun _ _ _ _ => False) (b₀ :: suite) s) (r : HdsM X hds l) : HdsM X (.ExceptHandler (some ty) (some n) (b₀ :: suite) pos' :: hds) ((sub, some i, s) :: l)
/-- what the kit's rule asks, by our meanings -/
theorem hds_read {X : Cx} {W : WX} {D : Ends} {F0 H0 : Hp} : ∀ {hds : List ExceptHandler} {l : List Hd}, HdsM X hds l → ∃ l2 : List Hdl, HdsG X hds l2 ∧
    ∀ {c : Str} {p : Option MI.D} {g : Ce}, SPost X.K X.mg W F0 H0 D (hdlG c p l g) → ∀ cls od F H σ, StOk X.K F0 H0 F H σ g → XV X.K X.mg F c p cls od → wG W D l2 cls od σ H
  | _, _, .nil => ⟨[], .nil, fun h cls od F H σ ok xv => h cls od F H σ ok xv⟩
  | _, _, .anon (m := m) (sub := sub) (s := s) hc so hsu r => by
    obtain ⟨l2, q1, q2⟩ := hds_read (W := W) (D := D) (F0 := F0) (H0 := H0) r
    refine ⟨_, .anon (ts := tS X.K X.mg (fun _ _ _ _ => False) s) hc hsu q1, fun {c p g} h cls od F H σ ok xv => ?_⟩
    obtain ⟨C, gC, rfl, xr⟩ := id xv
    unfold hdlG at h
    cases e : sub c with
    | none => rw [e] at h; exact h.elim
    | some k =>
      rw [e] at h
      obtain ⟨g1, g2⟩ := so c k e
      have : C = He.ga X.K c := by
        rw [g1] at gC
        cases gC
        rfl
      subst this
      refine ⟨_, k, rfl, g2, fun ek => ?_, fun ek => ?_⟩
      · subst ek
        refine ⟨F0, H0, F, g, ok, ?_⟩
        dsimp only at h
        cases e2 : s g with
        | ex c2 p2 g2 => rw [e2] at h; exact h.elim
        | nx g2 => rw [e2] at h; exact h
        | rt d => rw [e2] at h; exact h
        | bk g2 => rw [e2] at h; exact h
        | ct g2 => rw [e2] at h; exact h
        | bad => rw [e2] at h; exact h
      · subst ek
        exact q2 h _ _ _ _ _ ok xv
  | _, _, .named (m := m) (sub := sub) (s := s) (i := i) hc so hi hln hsu r => by
    obtain ⟨l2, q1, q2⟩ := hds_read (W := W) (D := D) (F0 := F0) (H0 := H0) r
    refine ⟨_, .named (ts := tS X.K X.mg (fun _ _ _ _ => False) s) hc hi hln hsu q1, fun {c p g} h cls od F H σ ok xv => ?_⟩
    obtain ⟨C, gC, rfl, xr⟩ := id xv
    unfold hdlG at h
    cases e : sub c with
    | none => rw [e] at h; exact h.elim
    | some k =>
      rw [e] at h
      obtain ⟨g1, g2⟩ := so c k e
      have : C = He.ga X.K c := by
        rw [g1] at gC
        cases gC
        rfl
      subst this
      refine ⟨_, k, rfl, g2, fun ek a ha => ?_, fun ek => ?_⟩
      · subst ek
        dsimp only at h
        split at h
        rotate_left
        · exact h.elim
        rename_i hv
        have E : Ext F H (upd F a (ExT a (He.ga X.K c) od)) (upd H a (ExT a (He.ga X.K c) od)) := Ext.new ok.e.s ha
        have dp : Dp X.K (upd F a (ExT a (He.ga X.K c) od)) (.ref a) (excD c p) := by
          cases p with
          | none =>
            have xr' : od = none := xr
            subst xr'
            exact .exc c upd_same
          | some d =>
            obtain ⟨dx, f, v, rfl, h1, h2, h3⟩ := xr
            exact .excF c upd_same (E.f _ _ h1) h2 (dp_isV h3 hv.2)
        refine ⟨F0, H0, _, _, (ok.mono E).set (i := i) dp, ?_⟩
        cases e2 : s (g.set i (.dat (excD c p))) with
        | ex c2 p2 g2 => rw [e2] at h; exact h.elim
        | nx g2 => rw [e2] at h; exact fun F2 H2 σ2 ok2 => h F2 H2 _ (ok2.unset i none)
        | rt d => rw [e2] at h; exact h
        | bk g2 => rw [e2] at h; exact fun F2 H2 σ2 ok2 => h F2 H2 _ (ok2.unset i none)
        | ct g2 => rw [e2] at h; exact fun F2 H2 σ2 ok2 => h F2 H2 _ (ok2.unset i none)
        | bad => rw [e2] at h; exact h
      · subst ek
        exact q2 h _ _ _ _ _ ok xv
theorem ms_tryG {X : Cx} {W : WX} {body orelse : List Stmt} {h₀ : ExceptHandler} {hds : List ExceptHandler} {l : List Hd} {pos : Pos} {b u : S} (hN : X.N.Nodup) (tk : Takes X W) (ho : MSs X W orelse u)
    (hb : ∀ (W' : WX) (pn : List (Addr × Obj)) (xe : Value → Shared → Prop), Takes (X.tr pn xe) W' → PassesOwn (model X.prog X.w) X.A X.env xe → MSs (X.tr pn xe) W' body b)
    (hh : HdsM X (h₀ :: hds) l) (hs : X.stack = X.env :: X.outer := by rfl) (hf : X.env.frame = some X.env.locals := by rfl) : MS X W (.Try body (h₀ :: hds) orelse [] pos) (sTryG l b u) := by
  refine ⟨fun pins s σ H D I ⟨F0, H0, F, g, ok, h⟩ => ?_⟩
  obtain ⟨l2, q1, q2⟩ := hds_read (W := W) (D := D) (F0 := F0) (H0 := H0) hh
  refine (ps_tryG (u := tS X.K X.mg W u) (tb := fun W' => tS X.K X.mg W' b) ho hs hf hN tk hb q1).run pins s σ H D I ⟨F0, H0, F, g, ok, ?_⟩
  unfold sTryG at h
  cases e : b g with
  | nx g' =>
    rw [e] at h
    exact fun F1 H1 σ1 ok1 => ⟨F0, H0, F1, g', ok1, h⟩
  | rt d => rw [e] at h; exact h
  | bk g' => rw [e] at h; exact h
  | ct g' => rw [e] at h; exact h
  | bad => rw [e] at h; exact h
  | ex c p g' =>
    rw [e] at h
    exact fun cls od F1 H1 σ1 ok1 xv => q2 h cls od F1 H1 σ1 ok1 xv
/-! ### is True, is False -/
def fIsB : D → D → Option D
  | .bool a, .bool b => some (.bool (decide (a = b)))
  | _, _ => none
def fNotB : D → D → Option D
  | .bool a, .bool b => some (.bool (!decide (a = b)))
  | _, _ => none
section
variable {X : Cx}
theorem o_isB : OpR X (compareOp .Is) (rD2 X.K fIsB) := opr_of fun x y H Q ⟨F, d1, d2, d, s, h1, h2, e, q⟩ => by
  unfold fIsB at e
  split at e
  · cases e
    cases dp_bl h1
    cases dp_bl h2
    exact ⟨_, op_isBl, _, _, rfl, rfl, q _ F H (Ext.refl s) (.bl _)⟩
  · cases e
theorem o_notB : OpR X (compareOp .IsNot) (rD2 X.K fNotB) := opr_of fun x y H Q ⟨F, d1, d2, d, s, h1, h2, e, q⟩ => by
  unfold fNotB at e
  split at e
  · cases e
    cases dp_bl h1
    cases dp_bl h2
    exact ⟨_, op_notBl, _, _, rfl, rfl, q _ F H (Ext.refl s) (.bl _)⟩
  · cases e
end
theorem bl_isB : ∀ x y d, fIsB x y = some d → ∃ z : Bool, d = .bool z := fun x y d e => by
  unfold fIsB at e
  split at e
  · cases e; exact ⟨_, rfl⟩
  · cases e
theorem bl_notB : ∀ x y d, fNotB x y = some d → ∃ z : Bool, d = .bool z := fun x y d e => by
  unfold fNotB at e
  split at e
  · cases e; exact ⟨_, rfl⟩
  · cases e
@[simp] theorem fIsB_b (a b : Bool) : fIsB (.bool a) (.bool b) = some (.bool (decide (a = b))) := Eq.trans rfl rfl
@[simp] theorem fNotB_b (a b : Bool) : fNotB (.bool a) (.bool b) = some (.bool (!decide (a = b))) := Eq.trans rfl rfl
end MI
set_option Elab.async false
set_option linter.all false
set_option maxRecDepth 100000
set_option maxHeartbeats 4000000
namespace Pg
open PySem MI
/- p_is_whole: 0 thing -/
def s_p_is_whole (fu : Nat) : S := sRet (mAndV (mIsi "int" (mVar 0)) (mNotV (mIsi "bool" (mVar 0))))
def f_p_is_whole (fu : Nat) : List MI.D → R MI.D := run 1 1 (s_p_is_whole fu)
/- p_divisor: 0 one, 1 other -/
def b_p_divisor_1 (fu : Nat) : S := sPar 0 1 (mCons (mVar 1) (mCons (mBin fMod (mVar 0) (mVar 1)) (mNil)))
def s_p_divisor (fu : Nat) : S := sSeq (loopW (mTru (mBin fNe (mVar 1) (mC (.int 0)))) (b_p_divisor_1 fu) fu) (sRet (mDs fAbs (mCons (mVar 0) (mNil))))
def f_p_divisor (fu : Nat) : List MI.D → R MI.D := run 2 2 (s_p_divisor fu)
/- p_lowest: 0 top, 1 bottom, 2 by -/
def s_p_lowest (fu : Nat) : S := sSeq (sSet 2 (mCall 2 (Pg.f_p_divisor fu) [] (mCons (mVar 0) (mCons (mVar 1) (mNil))))) (sSeq (sIf (mTru (mBin fLt (mVar 1) (mC (.int 0)))) (sSet 2 (mBin fSub (mC (.int 0)) (mVar 2))) (sNop)) (sRet (mDs dTup (mCons (mBin fFdv (mVar 0) (mVar 2)) (mCons (mBin fFdv (mVar 1) (mVar 2)) (mNil))))))
def f_p_lowest (fu : Nat) : List MI.D → R MI.D := run 2 3 (s_p_lowest fu)
/- p_number: 0 top, 1 bottom -/
def s_p_number (fu : Nat) : S := sSeq (sIf (mOrT (mNot (mTru (mCall 1 (Pg.f_p_is_whole fu) [] (mCons (mVar 0) (mNil))))) (mOrT (mNot (mTru (mCall 1 (Pg.f_p_is_whole fu) [] (mCons (mVar 1) (mNil))))) (mTru (mBin fEq (mVar 1) (mC (.int 0)))))) (sRaise "NoNumber") (sNop)) (sRet (mCall 2 (Pg.f_p_lowest fu) [] (mCons (mVar 0) (mCons (mVar 1) (mNil)))))
def f_p_number (fu : Nat) : List MI.D → R MI.D := run 2 2 (s_p_number fu)
/- law_cell_at: 0 _law_script, 1 _law_k -/
def s_law_cell_at (fu : Nat) : S := sSeq (sIf (mTru (mBin fLt (mVar 1) (mDs fLen (mCons (mVar 0) (mNil))))) (sRet (mBin fIx (mVar 0) (mVar 1))) (sNop)) (sRet (mC (.int 0)))
def f_law_cell_at (fu : Nat) : List MI.D → R MI.D := run 2 2 (s_law_cell_at fu)
/- law_signed: 0 _law_cell, 1 _law_most, 2 _law_size -/
def s_law_signed (fu : Nat) : S := sSeq (sSet 2 (mBin fMod (mBin fFdv (mVar 0) (mC (.int 2))) (mVar 1))) (sSeq (sIf (mTru (mBin fEq (mBin fMod (mVar 0) (mC (.int 2))) (mC (.int 1)))) (sRet (mBin fSub (mC (.int 0)) (mVar 2))) (sNop)) (sRet (mVar 2)))
def f_law_signed (fu : Nat) : List MI.D → R MI.D := run 2 3 (s_law_signed fu)
/- p_plus: 0 one, 1 other -/
def s_p_plus (fu : Nat) : S := sRet (mCall 2 (Pg.f_p_lowest fu) [] (mCons (mBin fAddL (mBin fMul (mBin fIx (mVar 0) (mC (.int 0))) (mBin fIx (mVar 1) (mC (.int 1)))) (mBin fMul (mBin fIx (mVar 1) (mC (.int 0))) (mBin fIx (mVar 0) (mC (.int 1))))) (mCons (mBin fMul (mBin fIx (mVar 0) (mC (.int 1))) (mBin fIx (mVar 1) (mC (.int 1)))) (mNil))))
def f_p_plus (fu : Nat) : List MI.D → R MI.D := run 2 2 (s_p_plus fu)
/- p_minus: 0 one, 1 other -/
def s_p_minus (fu : Nat) : S := sRet (mCall 2 (Pg.f_p_lowest fu) [] (mCons (mBin fSub (mBin fMul (mBin fIx (mVar 0) (mC (.int 0))) (mBin fIx (mVar 1) (mC (.int 1)))) (mBin fMul (mBin fIx (mVar 1) (mC (.int 0))) (mBin fIx (mVar 0) (mC (.int 1))))) (mCons (mBin fMul (mBin fIx (mVar 0) (mC (.int 1))) (mBin fIx (mVar 1) (mC (.int 1)))) (mNil))))
def f_p_minus (fu : Nat) : List MI.D → R MI.D := run 2 2 (s_p_minus fu)
/- p_times: 0 one, 1 other -/
def s_p_times (fu : Nat) : S := sRet (mCall 2 (Pg.f_p_lowest fu) [] (mCons (mBin fMul (mBin fIx (mVar 0) (mC (.int 0))) (mBin fIx (mVar 1) (mC (.int 0)))) (mCons (mBin fMul (mBin fIx (mVar 0) (mC (.int 1))) (mBin fIx (mVar 1) (mC (.int 1)))) (mNil))))
def f_p_times (fu : Nat) : List MI.D → R MI.D := run 2 2 (s_p_times fu)
/- p_over: 0 one, 1 other -/
def s_p_over (fu : Nat) : S := sSeq (sIf (mTru (mBin fEq (mBin fIx (mVar 1) (mC (.int 0))) (mC (.int 0)))) (sRaise "NoNumber") (sNop)) (sRet (mCall 2 (Pg.f_p_lowest fu) [] (mCons (mBin fMul (mBin fIx (mVar 0) (mC (.int 0))) (mBin fIx (mVar 1) (mC (.int 1)))) (mCons (mBin fMul (mBin fIx (mVar 0) (mC (.int 1))) (mBin fIx (mVar 1) (mC (.int 0)))) (mNil)))))
def f_p_over (fu : Nat) : List MI.D → R MI.D := run 2 2 (s_p_over fu)
/- p_under: 0 one, 1 other -/
def s_p_under (fu : Nat) : S := sRet (mBin fLt (mBin fMul (mBin fIx (mVar 0) (mC (.int 0))) (mBin fIx (mVar 1) (mC (.int 1)))) (mBin fMul (mBin fIx (mVar 1) (mC (.int 0))) (mBin fIx (mVar 0) (mC (.int 1)))))
def f_p_under (fu : Nat) : List MI.D → R MI.D := run 2 2 (s_p_under fu)
/- law_number: 0 _law_above, 1 _law_below, 2 _law_top, 3 _law_bottom, 4 _law_share -/
def s_law_number (fu : Nat) : S := sSeq (sSet 2 (mBin fMod (mBin fFdv (mVar 0) (mC (.int 2))) (mBin fPow (mC (.int 10)) (mC (.int 60))))) (sSeq (sIf (mTru (mBin fEq (mBin fMod (mVar 0) (mC (.int 2))) (mC (.int 1)))) (sSet 2 (mBin fSub (mC (.int 0)) (mVar 2))) (sNop)) (sSeq (sSet 3 (mBin fAddL (mC (.int 1)) (mBin fMod (mVar 1) (mBin fSub (mBin fPow (mC (.int 10)) (mC (.int 60))) (mC (.int 1)))))) (sSeq (sSet 4 (mCall 2 (Pg.f_p_divisor fu) [] (mCons (mVar 2) (mCons (mVar 3) (mNil))))) (sRet (mDs dTup (mCons (mBin fFdv (mVar 2) (mVar 4)) (mCons (mBin fFdv (mVar 3) (mVar 4)) (mNil))))))))
def f_law_number (fu : Nat) : List MI.D → R MI.D := run 2 5 (s_law_number fu)
/- law_made: 0 _law_found, 1 _law_top, 2 _law_bottom -/
def s_law_made (fu : Nat) : S := sSeq (sIf (mOrT (mNot (mTru (mIsi "tuple" (mVar 0)))) (mTru (mBin fNe (mDs fLen (mCons (mVar 0) (mNil))) (mC (.int 2))))) (sRet (mC (.bool false))) (sNop)) (sSeq (sIf (mOrT (mNot (mTru (mCall 1 (Pg.f_p_is_whole fu) [] (mCons (mBin fIx (mVar 0) (mC (.int 0))) (mNil))))) (mOrT (mNot (mTru (mCall 1 (Pg.f_p_is_whole fu) [] (mCons (mBin fIx (mVar 0) (mC (.int 1))) (mNil))))) (mTru (mBin fLt (mBin fIx (mVar 0) (mC (.int 1))) (mC (.int 1)))))) (sRet (mC (.bool false))) (sNop)) (sRet (mAndV (mBin fEq (mCall 2 (Pg.f_p_divisor fu) [] (mCons (mBin fIx (mVar 0) (mC (.int 0))) (mCons (mBin fIx (mVar 0) (mC (.int 1))) (mNil)))) (mC (.int 1))) (mBin fEq (mBin fMul (mBin fIx (mVar 0) (mC (.int 0))) (mVar 2)) (mBin fMul (mVar 1) (mBin fIx (mVar 0) (mC (.int 1))))))))
def f_law_made (fu : Nat) : List MI.D → R MI.D := run 3 3 (s_law_made fu)
/- law_under: 0 _law_one, 1 _law_other, 2 _law_found -/
def s_law_under (fu : Nat) : S := sSeq (sSet 2 (mCall 2 (Pg.f_p_under fu) [] (mCons (mVar 0) (mCons (mVar 1) (mNil))))) (sRet (mAndV (mIsi "bool" (mVar 2)) (mBin fEq (mVar 2) (mBin fLt (mBin fMul (mBin fIx (mVar 0) (mC (.int 0))) (mBin fIx (mVar 1) (mC (.int 1)))) (mBin fMul (mBin fIx (mVar 1) (mC (.int 0))) (mBin fIx (mVar 0) (mC (.int 1))))))))
def f_law_under (fu : Nat) : List MI.D → R MI.D := run 2 3 (s_law_under fu)
/- law_over: 0 _law_one, 1 _law_other, 2 _law_found, 3 _law_refused -/
def s_law_over (fu : Nat) : S := sSeq (sSet 2 (mC .none)) (sSeq (sSet 3 (mC (.bool false))) (sSeq (sTry (subT [("NoNumber", true)]) (sSet 2 (mCall 2 (Pg.f_p_over fu) [] (mCons (mVar 0) (mCons (mVar 1) (mNil))))) (sSet 3 (mC (.bool true)))) (sSeq (sIf (mTru (mBin fEq (mBin fIx (mVar 1) (mC (.int 0))) (mC (.int 0)))) (sRet (mVar 3)) (sNop)) (sRet (mAndV (mNotV (mVar 3)) (mCall 3 (Pg.f_law_made fu) [] (mCons (mVar 2) (mCons (mBin fMul (mBin fIx (mVar 0) (mC (.int 0))) (mBin fIx (mVar 1) (mC (.int 1)))) (mCons (mBin fMul (mBin fIx (mVar 0) (mC (.int 1))) (mBin fIx (mVar 1) (mC (.int 0)))) (mNil))))))))))
def f_law_over (fu : Nat) : List MI.D → R MI.D := run 2 4 (s_law_over fu)
/- p_floor_of: 0 one -/
def s_p_floor_of (fu : Nat) : S := sRet (mBin fFdv (mBin fIx (mVar 0) (mC (.int 0))) (mBin fIx (mVar 0) (mC (.int 1))))
def f_p_floor_of (fu : Nat) : List MI.D → R MI.D := run 1 1 (s_p_floor_of fu)
/- p_rounded: 0 one -/
def s_p_rounded (fu : Nat) : S := sRet (mBin fFdv (mBin fAddL (mBin fMul (mC (.int 2)) (mBin fIx (mVar 0) (mC (.int 0)))) (mBin fIx (mVar 0) (mC (.int 1)))) (mBin fMul (mC (.int 2)) (mBin fIx (mVar 0) (mC (.int 1)))))
def f_p_rounded (fu : Nat) : List MI.D → R MI.D := run 1 1 (s_p_rounded fu)
/- p_is_leap: 0 year -/
def s_p_is_leap (fu : Nat) : S := sSeq (sIf (mTru (mBin fEq (mBin fMod (mVar 0) (mC (.int 400))) (mC (.int 0)))) (sRet (mC (.bool true))) (sNop)) (sRet (mAndV (mBin fEq (mBin fMod (mVar 0) (mC (.int 4))) (mC (.int 0))) (mBin fNe (mBin fMod (mVar 0) (mC (.int 100))) (mC (.int 0)))))
def f_p_is_leap (fu : Nat) : List MI.D → R MI.D := run 1 1 (s_p_is_leap fu)
/- p_length_of: 0 year, 1 month -/
def s_p_length_of (fu : Nat) : S := sSeq (sIf (mTru (mBin fEq (mVar 1) (mC (.int 2)))) (sRet (mBin fAddL (mC (.int 28)) (mDs fIntT (mCons (mCall 1 (Pg.f_p_is_leap fu) [] (mCons (mVar 0) (mNil))) (mNil))))) (sNop)) (sSeq (sIf (mOrT (mTru (mBin fEq (mVar 1) (mC (.int 4)))) (mOrT (mTru (mBin fEq (mVar 1) (mC (.int 6)))) (mOrT (mTru (mBin fEq (mVar 1) (mC (.int 9)))) (mTru (mBin fEq (mVar 1) (mC (.int 11))))))) (sRet (mC (.int 30))) (sNop)) (sRet (mC (.int 31))))
def f_p_length_of (fu : Nat) : List MI.D → R MI.D := run 2 2 (s_p_length_of fu)
/- p_ahead_of: 0 year, 1 gone -/
def s_p_ahead_of (fu : Nat) : S := sSeq (sSet 1 (mBin fSub (mVar 0) (mC (.int 1)))) (sRet (mBin fAddL (mBin fSub (mBin fAddL (mBin fMul (mC (.int 365)) (mVar 1)) (mBin fFdv (mVar 1) (mC (.int 4)))) (mBin fFdv (mVar 1) (mC (.int 100)))) (mBin fFdv (mVar 1) (mC (.int 400)))))
def f_p_ahead_of (fu : Nat) : List MI.D → R MI.D := run 1 2 (s_p_ahead_of fu)
/- p_day_of: 0 year, 1 month, 2 day, 3 found, 4 k -/
def b_p_day_of_1 (fu : Nat) : S := sSet 3 (mBin fAddL (mVar 3) (mCall 2 (Pg.f_p_length_of fu) [] (mCons (mVar 0) (mCons (mVar 4) (mNil)))))
def s_p_day_of (fu : Nat) : S := sSeq (sIf (mOrT (mNot (mTru (mCall 1 (Pg.f_p_is_whole fu) [] (mCons (mVar 0) (mNil))))) (mOrT (mNot (mTru (mCall 1 (Pg.f_p_is_whole fu) [] (mCons (mVar 1) (mNil))))) (mNot (mTru (mCall 1 (Pg.f_p_is_whole fu) [] (mCons (mVar 2) (mNil))))))) (sRaise "NoDay") (sNop)) (sSeq (sIf (mOrT (mTru (mBin fLt (mVar 0) (mC (.int 1)))) (mOrT (mTru (mBin fGt (mVar 0) (mC (.int 9999)))) (mOrT (mTru (mBin fLt (mVar 1) (mC (.int 1)))) (mTru (mBin fGt (mVar 1) (mC (.int 12))))))) (sRaise "NoDay") (sNop)) (sSeq (sIf (mOrT (mTru (mBin fLt (mVar 2) (mC (.int 1)))) (mTru (mBin fGt (mVar 2) (mCall 2 (Pg.f_p_length_of fu) [] (mCons (mVar 0) (mCons (mVar 1) (mNil))))))) (sRaise "NoDay") (sNop)) (sSeq (sSet 3 (mBin fSub (mBin fAddL (mCall 1 (Pg.f_p_ahead_of fu) [] (mCons (mVar 0) (mNil))) (mVar 2)) (mC (.int 1)))) (sSeq (sFor (mRng rng2 (mCons (mC (.int 1)) (mCons (mVar 1) (mNil)))) (gN 4) (b_p_day_of_1 fu)) (sRet (mVar 3))))))
def f_p_day_of (fu : Nat) : List MI.D → R MI.D := run 3 5 (s_p_day_of fu)
/- law_mixed: 0 _law_cell -/
def s_law_mixed (fu : Nat) : S := sSeq (sIf (mTru (mBin fGe (mVar 0) (mBin fPow (mC (.int 10)) (mC (.int 18))))) (sRet (mVar 0)) (sNop)) (sRet (mBin fMod (mBin fAddL (mBin fMul (mBin fMod (mVar 0) (mC (.int 2147483647))) (mC (.int 48271))) (mC (.int 11))) (mC (.int 2147483647))))
def f_law_mixed (fu : Nat) : List MI.D → R MI.D := run 1 1 (s_law_mixed fu)
/- law_leap: 0 _law_year -/
def s_law_leap (fu : Nat) : S := sRet (mAndV (mBin fEq (mBin fMod (mVar 0) (mC (.int 4))) (mC (.int 0))) (mOrV (mBin fNe (mBin fMod (mVar 0) (mC (.int 100))) (mC (.int 0))) (mBin fEq (mBin fMod (mVar 0) (mC (.int 400))) (mC (.int 0)))))
def f_law_leap (fu : Nat) : List MI.D → R MI.D := run 1 1 (s_law_leap fu)
/- law_long: 0 _law_year, 1 _law_month -/
def s_law_long (fu : Nat) : S := sSeq (sIf (mTru (mBin fEq (mVar 1) (mC (.int 2)))) (sRet (mBin fAddL (mC (.int 28)) (mDs fIntT (mCons (mCall 1 (Pg.f_law_leap fu) [] (mCons (mVar 0) (mNil))) (mNil))))) (sNop)) (sRet (mBin fIx (mDs dLst (mCons (mC (.int 31)) (mCons (mC (.int 28)) (mCons (mC (.int 31)) (mCons (mC (.int 30)) (mCons (mC (.int 31)) (mCons (mC (.int 30)) (mCons (mC (.int 31)) (mCons (mC (.int 31)) (mCons (mC (.int 30)) (mCons (mC (.int 31)) (mCons (mC (.int 30)) (mCons (mC (.int 31)) (mNil)))))))))))))) (mBin fSub (mVar 1) (mC (.int 1)))))
def f_law_long (fu : Nat) : List MI.D → R MI.D := run 2 2 (s_law_long fu)
/- law_count: 0 _law_year, 1 _law_month, 2 _law_day, 3 _law_gone, 4 _law_found, 5 _law_k -/
def s_law_count (fu : Nat) : S := sSeq (sSet 3 (mBin fSub (mVar 0) (mC (.int 1)))) (sSeq (sSet 4 (mBin fAddL (mBin fSub (mBin fAddL (mBin fMul (mC (.int 365)) (mVar 3)) (mBin fFdv (mVar 3) (mC (.int 4)))) (mBin fFdv (mVar 3) (mC (.int 100)))) (mBin fFdv (mVar 3) (mC (.int 400))))) (sRet (mBin fSub (mBin fAddL (mBin fAddL (mVar 4) (mDs fSum (mCons (mL (nLc (mRng rng2 (mCons (mC (.int 1)) (mCons (mVar 1) (mNil)))) [5] (vN 5) (mYes) (mCall 2 (Pg.f_law_long fu) [] (mCons (mVar 0) (mCons (mVar 5) (mNil)))))) (mNil)))) (mVar 2)) (mC (.int 1)))))
def f_law_count (fu : Nat) : List MI.D → R MI.D := run 3 6 (s_law_count fu)
/- p_parts_of: 0 day, 1 year, 2 left, 3 month -/
def b_p_parts_of_1 (fu : Nat) : S := sSet 1 (mBin fAddL (mVar 1) (mC (.int 1)))
def b_p_parts_of_2 (fu : Nat) : S := sSeq (sSet 2 (mBin fSub (mVar 2) (mCall 2 (Pg.f_p_length_of fu) [] (mCons (mVar 1) (mCons (mVar 3) (mNil)))))) (sSet 3 (mBin fAddL (mVar 3) (mC (.int 1))))
def s_p_parts_of (fu : Nat) : S := sSeq (sSet 1 (mBin fAddL (mBin fFdv (mVar 0) (mC (.int 366))) (mC (.int 1)))) (sSeq (loopW (mTru (mBin fLe (mCall 1 (Pg.f_p_ahead_of fu) [] (mCons (mBin fAddL (mVar 1) (mC (.int 1))) (mNil))) (mVar 0))) (b_p_parts_of_1 fu) fu) (sSeq (sSet 2 (mBin fSub (mVar 0) (mCall 1 (Pg.f_p_ahead_of fu) [] (mCons (mVar 1) (mNil))))) (sSeq (sSet 3 (mC (.int 1))) (sSeq (loopW (mTru (mBin fGe (mVar 2) (mCall 2 (Pg.f_p_length_of fu) [] (mCons (mVar 1) (mCons (mVar 3) (mNil)))))) (b_p_parts_of_2 fu) fu) (sRet (mDs dTup (mCons (mVar 1) (mCons (mVar 3) (mCons (mBin fAddL (mVar 2) (mC (.int 1))) (mNil))))))))))
def f_p_parts_of (fu : Nat) : List MI.D → R MI.D := run 1 4 (s_p_parts_of fu)
/- p_along_straight: 0 lo, 1 hi, 2 cell, 3 long -/
def s_p_along_straight (fu : Nat) : S := sSeq (sIf (mOrT (mTru (mCall 2 (Pg.f_p_under fu) [] (mCons (mVar 2) (mCons (mVar 0) (mNil))))) (mTru (mCall 2 (Pg.f_p_under fu) [] (mCons (mVar 1) (mCons (mVar 2) (mNil)))))) (sRet (mC .none)) (sNop)) (sRet (mCall 2 (Pg.f_p_over fu) [] (mCons (mCall 2 (Pg.f_p_times fu) [] (mCons (mCall 2 (Pg.f_p_minus fu) [] (mCons (mVar 2) (mCons (mVar 0) (mNil)))) (mCons (mDs dTup (mCons (mVar 3) (mCons (mC (.int 1)) (mNil)))) (mNil)))) (mCons (mCall 2 (Pg.f_p_minus fu) [] (mCons (mVar 1) (mCons (mVar 0) (mNil)))) (mNil)))))
def f_p_along_straight (fu : Nat) : List MI.D → R MI.D := run 4 4 (s_p_along_straight fu)
/- p_back_straight: 0 lo, 1 hi, 2 place, 3 long -/
def s_p_back_straight (fu : Nat) : S := sRet (mCall 2 (Pg.f_p_plus fu) [] (mCons (mVar 0) (mCons (mCall 2 (Pg.f_p_over fu) [] (mCons (mCall 2 (Pg.f_p_times fu) [] (mCons (mVar 2) (mCons (mCall 2 (Pg.f_p_minus fu) [] (mCons (mVar 1) (mCons (mVar 0) (mNil)))) (mNil)))) (mCons (mDs dTup (mCons (mVar 3) (mCons (mC (.int 1)) (mNil)))) (mNil)))) (mNil))))
def f_p_back_straight (fu : Nat) : List MI.D → R MI.D := run 4 4 (s_p_back_straight fu)
/- p_power_of: 0 base, 1 many, 2 found, 3 k -/
def b_p_power_of_1 (fu : Nat) : S := sSet 2 (mBin fMul (mVar 2) (mVar 0))
def s_p_power_of (fu : Nat) : S := sSeq (sSet 2 (mC (.int 1))) (sSeq (sFor (mRng rng1 (mCons (mVar 1) (mNil))) (gN 3) (b_p_power_of_1 fu)) (sRet (mVar 2)))
def f_p_power_of (fu : Nat) : List MI.D → R MI.D := run 2 4 (s_p_power_of fu)
/- p_along_turns: 0 scale, 1 cell, 2 name, 3 base, 4 low, 5 many, 6 length, 7 top, 8 bottom, 9 turn, 10 rest -/
def b_p_along_turns_1 (fu : Nat) : S := sSeq (sSet 8 (mBin fMul (mVar 8) (mVar 3))) (sSet 9 (mBin fAddL (mVar 9) (mC (.int 1))))
def s_p_along_turns (fu : Nat) : S := sSeq (sAsg (gT (gsCons (gN 2) (gsCons (gN 3) (gsCons (gN 4) (gsCons (gN 5) (gsCons (gN 6) (gsNil))))))) (mVar 0)) (sSeq (sIf (mTru (mBin fLe (mBin fIx (mVar 1) (mC (.int 0))) (mC (.int 0)))) (sRet (mC (.str "nought"))) (sNop)) (sSeq (sSet 7 (mBin fMul (mBin fIx (mVar 1) (mC (.int 0))) (mCall 2 (Pg.f_p_power_of fu) [] (mCons (mVar 3) (mCons (mBin fSub (mC (.int 0)) (mVar 4)) (mNil)))))) (sSeq (sSet 8 (mBin fMul (mBin fIx (mVar 1) (mC (.int 1))) (mCall 2 (Pg.f_p_power_of fu) [] (mCons (mVar 3) (mCons (mVar 4) (mNil)))))) (sSeq (sIf (mTru (mBin fLt (mVar 7) (mVar 8))) (sRet (mC (.str "outside"))) (sNop)) (sSeq (sSet 9 (mC (.int 0))) (sSeq (loopW (mAndT (mTru (mBin fLt (mVar 9) (mVar 5))) (mTru (mBin fLe (mBin fMul (mVar 8) (mVar 3)) (mVar 7)))) (b_p_along_turns_1 fu) fu) (sSeq (sIf (mTru (mBin fEq (mVar 9) (mVar 5))) (sSeq (sIf (mTru (mBin fGt (mVar 7) (mVar 8))) (sRet (mC (.str "outside"))) (sNop)) (sRet (mDs dTup (mCons (mVar 6) (mCons (mC (.int 1)) (mNil)))))) (sNop)) (sSeq (sSet 10 (mCall 2 (Pg.f_p_lowest fu) [] (mCons (mBin fSub (mVar 7) (mVar 8)) (mCons (mBin fMul (mVar 8) (mBin fSub (mVar 3) (mC (.int 1)))) (mNil))))) (sRet (mCall 2 (Pg.f_p_times fu) [] (mCons (mCall 2 (Pg.f_p_plus fu) [] (mCons (mDs dTup (mCons (mVar 9) (mCons (mC (.int 1)) (mNil)))) (mCons (mVar 10) (mNil)))) (mCons (mCall 2 (Pg.f_p_lowest fu) [] (mCons (mVar 6) (mCons (mVar 5) (mNil)))) (mNil)))))))))))))
def f_p_along_turns (fu : Nat) : List MI.D → R MI.D := run 2 11 (s_p_along_turns fu)
/- p_back_turns: 0 scale, 1 place, 2 name, 3 base, 4 low, 5 many, 6 length, 7 turns, 8 turn, 9 rest, 10 power -/
def s_p_back_turns (fu : Nat) : S := sSeq (sAsg (gT (gsCons (gN 2) (gsCons (gN 3) (gsCons (gN 4) (gsCons (gN 5) (gsCons (gN 6) (gsNil))))))) (mVar 0)) (sSeq (sSet 7 (mCall 2 (Pg.f_p_times fu) [] (mCons (mVar 1) (mCons (mCall 2 (Pg.f_p_lowest fu) [] (mCons (mVar 5) (mCons (mVar 6) (mNil)))) (mNil))))) (sSeq (sSet 8 (mBin fFdv (mBin fIx (mVar 7) (mC (.int 0))) (mBin fIx (mVar 7) (mC (.int 1))))) (sSeq (sSet 9 (mCall 2 (Pg.f_p_minus fu) [] (mCons (mVar 7) (mCons (mDs dTup (mCons (mVar 8) (mCons (mC (.int 1)) (mNil)))) (mNil))))) (sSeq (sSet 10 (mCall 2 (Pg.f_p_lowest fu) [] (mCons (mCall 2 (Pg.f_p_power_of fu) [] (mCons (mVar 3) (mCons (mBin fAddL (mVar 4) (mVar 8)) (mNil)))) (mCons (mCall 2 (Pg.f_p_power_of fu) [] (mCons (mVar 3) (mCons (mBin fSub (mBin fSub (mC (.int 0)) (mVar 4)) (mVar 8)) (mNil)))) (mNil))))) (sRet (mCall 2 (Pg.f_p_times fu) [] (mCons (mVar 10) (mCons (mCall 2 (Pg.f_p_plus fu) [] (mCons (mDs dTup (mCons (mC (.int 1)) (mCons (mC (.int 1)) (mNil)))) (mCons (mCall 2 (Pg.f_p_times fu) [] (mCons (mVar 9) (mCons (mDs dTup (mCons (mBin fSub (mVar 3) (mC (.int 1))) (mCons (mC (.int 1)) (mNil)))) (mNil)))) (mNil)))) (mNil)))))))))
def f_p_back_turns (fu : Nat) : List MI.D → R MI.D := run 2 11 (s_p_back_turns fu)
/- p_along_pieces: 0 pieces, 1 cell, 2 lo, 3 hi, 4 begin, 5 end, 6 found -/
def b_p_along_pieces_1 (fu : Nat) : S := sSeq (sSet 6 (mCall 4 (Pg.f_p_along_straight fu) [] (mCons (mVar 2) (mCons (mVar 3) (mCons (mVar 1) (mCons (mBin fSub (mVar 5) (mVar 4)) (mNil))))))) (sIf (mTru (mBin fIsN (mVar 6) (mC .none))) (sRet (mCall 2 (Pg.f_p_plus fu) [] (mCons (mDs dTup (mCons (mVar 4) (mCons (mC (.int 1)) (mNil)))) (mCons (mVar 6) (mNil))))) (sNop))
def s_p_along_pieces (fu : Nat) : S := sSeq (sIf (mOrT (mTru (mCall 2 (Pg.f_p_under fu) [] (mCons (mVar 1) (mCons (mBin fIx (mBin fIx (mVar 0) (mC (.int 0))) (mC (.int 0))) (mNil))))) (mTru (mCall 2 (Pg.f_p_under fu) [] (mCons (mBin fIx (mBin fIx (mVar 0) (mUn fNeg (mC (.int 1)))) (mC (.int 1))) (mCons (mVar 1) (mNil)))))) (sRet (mC (.str "outside"))) (sNop)) (sSeq (sFor (mItems (mVar 0)) (gT (gsCons (gN 2) (gsCons (gN 3) (gsCons (gN 4) (gsCons (gN 5) (gsNil)))))) (b_p_along_pieces_1 fu)) (sRet (mC (.str "gap"))))
def f_p_along_pieces (fu : Nat) : List MI.D → R MI.D := run 2 7 (s_p_along_pieces fu)
/- p_back_pieces: 0 pieces, 1 place, 2 lo, 3 hi, 4 begin, 5 end -/
def b_p_back_pieces_1 (fu : Nat) : S := sIf (mAndT (mNot (mTru (mCall 2 (Pg.f_p_under fu) [] (mCons (mVar 1) (mCons (mDs dTup (mCons (mVar 4) (mCons (mC (.int 1)) (mNil)))) (mNil)))))) (mNot (mTru (mCall 2 (Pg.f_p_under fu) [] (mCons (mDs dTup (mCons (mVar 5) (mCons (mC (.int 1)) (mNil)))) (mCons (mVar 1) (mNil))))))) (sRet (mCall 4 (Pg.f_p_back_straight fu) [] (mCons (mVar 2) (mCons (mVar 3) (mCons (mCall 2 (Pg.f_p_minus fu) [] (mCons (mVar 1) (mCons (mDs dTup (mCons (mVar 4) (mCons (mC (.int 1)) (mNil)))) (mNil)))) (mCons (mBin fSub (mVar 5) (mVar 4)) (mNil))))))) (sNop)
def s_p_back_pieces (fu : Nat) : S := sSeq (sFor (mItems (mVar 0)) (gT (gsCons (gN 2) (gsCons (gN 3) (gsCons (gN 4) (gsCons (gN 5) (gsNil)))))) (b_p_back_pieces_1 fu)) (sRet (mC .none))
def f_p_back_pieces (fu : Nat) : List MI.D → R MI.D := run 2 6 (s_p_back_pieces fu)
/- p_stretch_on: 0 scale, 1 word, 2 words, 3 at -/
def s_p_stretch_on (fu : Nat) : S := sSeq (sSet 2 (mBin fIx (mVar 0) (mC (.int 1)))) (sSeq (sSet 3 (mMt "list" fIndex (mVar 2) (mCons (mVar 1) (mNil)))) (sRet (mDs dTup (mCons (mCall 2 (Pg.f_p_lowest fu) [] (mCons (mBin fMul (mVar 3) (mBin fIx (mVar 0) (mC (.int 2)))) (mCons (mDs fLen (mCons (mVar 2) (mNil))) (mNil)))) (mCons (mCall 2 (Pg.f_p_lowest fu) [] (mCons (mBin fMul (mBin fAddL (mVar 3) (mC (.int 1))) (mBin fIx (mVar 0) (mC (.int 2)))) (mCons (mDs fLen (mCons (mVar 2) (mNil))) (mNil)))) (mNil))))))
def f_p_stretch_on (fu : Nat) : List MI.D → R MI.D := run 2 4 (s_p_stretch_on fu)
/- p_amid: 0 stretch -/
def s_p_amid (fu : Nat) : S := sRet (mCall 2 (Pg.f_p_times fu) [] (mCons (mCall 2 (Pg.f_p_plus fu) [] (mCons (mBin fIx (mVar 0) (mC (.int 0))) (mCons (mBin fIx (mVar 0) (mC (.int 1))) (mNil)))) (mCons (mDs dTup (mCons (mC (.int 1)) (mCons (mC (.int 2)) (mNil)))) (mNil))))
def f_p_amid (fu : Nat) : List MI.D → R MI.D := run 1 1 (s_p_amid fu)
/- p_along_order: 0 scale, 1 cell -/
def s_p_along_order (fu : Nat) : S := sSeq (sIf (mTru (mBin (fIn true) (mVar 1) (mBin fIx (mVar 0) (mC (.int 1))))) (sRet (mC (.str "unknown"))) (sNop)) (sRet (mCall 1 (Pg.f_p_amid fu) [] (mCons (mCall 2 (Pg.f_p_stretch_on fu) [] (mCons (mVar 0) (mCons (mVar 1) (mNil)))) (mNil))))
def f_p_along_order (fu : Nat) : List MI.D → R MI.D := run 2 2 (s_p_along_order fu)
/- p_place_on: 0 scale, 1 cell, 2 found -/
def s_p_place_on (fu : Nat) : S := sSeq (sIf (mTru (mBin fIs (mVar 1) (mC .none))) (sRet (mC (.str "nothing"))) (sNop)) (sSeq (sIf (mTru (mBin fEq (mBin fIx (mVar 0) (mC (.int 0))) (mC (.str "turns")))) (sRet (mCall 2 (Pg.f_p_along_turns fu) [] (mCons (mVar 0) (mCons (mVar 1) (mNil))))) (sNop)) (sSeq (sIf (mTru (mBin fEq (mBin fIx (mVar 0) (mC (.int 0))) (mC (.str "broken")))) (sRet (mCall 2 (Pg.f_p_along_pieces fu) [] (mCons (mBin fIx (mVar 0) (mC (.int 1))) (mCons (mVar 1) (mNil))))) (sNop)) (sSeq (sIf (mTru (mBin fEq (mBin fIx (mVar 0) (mC (.int 0))) (mC (.str "order")))) (sRet (mCall 2 (Pg.f_p_along_order fu) [] (mCons (mVar 0) (mCons (mVar 1) (mNil))))) (sNop)) (sSeq (sIf (mTru (mBin fEq (mBin fIx (mVar 0) (mC (.int 0))) (mC (.str "days")))) (sSet 2 (mCall 4 (Pg.f_p_along_straight fu) [] (mCons (mDs dTup (mCons (mBin fIx (mVar 0) (mC (.int 1))) (mCons (mC (.int 1)) (mNil)))) (mCons (mDs dTup (mCons (mBin fIx (mVar 0) (mC (.int 2))) (mCons (mC (.int 1)) (mNil)))) (mCons (mDs dTup (mCons (mVar 1) (mCons (mC (.int 1)) (mNil)))) (mCons (mBin fIx (mVar 0) (mC (.int 3))) (mNil))))))) (sSet 2 (mCall 4 (Pg.f_p_along_straight fu) [] (mCons (mBin fIx (mVar 0) (mC (.int 1))) (mCons (mBin fIx (mVar 0) (mC (.int 2))) (mCons (mVar 1) (mCons (mBin fIx (mVar 0) (mC (.int 3))) (mNil)))))))) (sSeq (sIf (mTru (mBin fIs (mVar 2) (mC .none))) (sRet (mC (.str "outside"))) (sNop)) (sRet (mVar 2)))))))
def f_p_place_on (fu : Nat) : List MI.D → R MI.D := run 2 3 (s_p_place_on fu)
/- p_read_on: 0 scale, 1 place -/
def s_p_read_on (fu : Nat) : S := sSeq (sIf (mTru (mBin fEq (mBin fIx (mVar 0) (mC (.int 0))) (mC (.str "turns")))) (sRet (mCall 2 (Pg.f_p_back_turns fu) [] (mCons (mVar 0) (mCons (mVar 1) (mNil))))) (sNop)) (sSeq (sIf (mTru (mBin fEq (mBin fIx (mVar 0) (mC (.int 0))) (mC (.str "broken")))) (sRet (mCall 2 (Pg.f_p_back_pieces fu) [] (mCons (mBin fIx (mVar 0) (mC (.int 1))) (mCons (mVar 1) (mNil))))) (sNop)) (sSeq (sIf (mTru (mBin fEq (mBin fIx (mVar 0) (mC (.int 0))) (mC (.str "order")))) (sRet (mC .none)) (sNop)) (sSeq (sIf (mTru (mBin fEq (mBin fIx (mVar 0) (mC (.int 0))) (mC (.str "days")))) (sRet (mCall 4 (Pg.f_p_back_straight fu) [] (mCons (mDs dTup (mCons (mBin fIx (mVar 0) (mC (.int 1))) (mCons (mC (.int 1)) (mNil)))) (mCons (mDs dTup (mCons (mBin fIx (mVar 0) (mC (.int 2))) (mCons (mC (.int 1)) (mNil)))) (mCons (mVar 1) (mCons (mBin fIx (mVar 0) (mC (.int 3))) (mNil))))))) (sNop)) (sRet (mCall 4 (Pg.f_p_back_straight fu) [] (mCons (mBin fIx (mVar 0) (mC (.int 1))) (mCons (mBin fIx (mVar 0) (mC (.int 2))) (mCons (mVar 1) (mCons (mBin fIx (mVar 0) (mC (.int 3))) (mNil))))))))))
def f_p_read_on (fu : Nat) : List MI.D → R MI.D := run 2 2 (s_p_read_on fu)
/- law_lowest: 0 _law_top, 1 _law_bottom, 2 _law_share -/
def s_law_lowest (fu : Nat) : S := sSeq (sSet 2 (mCall 2 (Pg.f_p_divisor fu) [] (mCons (mVar 0) (mCons (mVar 1) (mNil))))) (sRet (mDs dTup (mCons (mBin fFdv (mVar 0) (mVar 2)) (mCons (mBin fFdv (mVar 1) (mVar 2)) (mNil)))))
def f_law_lowest (fu : Nat) : List MI.D → R MI.D := run 2 3 (s_law_lowest fu)
/- law_is_number: 0 _law_thing, 1 _law_part -/
def b_law_is_number_1 (fu : Nat) : S := sIf (mOrT (mNot (mTru (mIsi "int" (mVar 1)))) (mTru (mIsi "bool" (mVar 1)))) (sRet (mC (.bool false))) (sNop)
def s_law_is_number (fu : Nat) : S := sSeq (sIf (mOrT (mNot (mTru (mIsi "tuple" (mVar 0)))) (mTru (mBin fNe (mDs fLen (mCons (mVar 0) (mNil))) (mC (.int 2))))) (sRet (mC (.bool false))) (sNop)) (sSeq (sFor (mItems (mVar 0)) (gN 1) (b_law_is_number_1 fu)) (sRet (mAndV (mBin fGt (mBin fIx (mVar 0) (mC (.int 1))) (mC (.int 0))) (mBin fEq (mCall 2 (Pg.f_p_divisor fu) [] (mCons (mBin fIx (mVar 0) (mC (.int 0))) (mCons (mBin fIx (mVar 0) (mC (.int 1))) (mNil)))) (mC (.int 1))))))
def f_law_is_number (fu : Nat) : List MI.D → R MI.D := run 1 2 (s_law_is_number fu)
/- law_ends: 0 _law_script, 1 _law_many, 2 _law_top, 3 _law_ends_here, 4 _law_k, 5 _law_cell_here, 6 _law_step -/
def b_law_ends_1 (fu : Nat) : S := sSeq (sSet 5 (mCall 2 (Pg.f_law_cell_at fu) [] (mCons (mVar 0) (mCons (mBin fAddL (mC (.int 2)) (mVar 4)) (mNil))))) (sSeq (sSet 6 (mBin fAddL (mC (.int 1)) (mBin fMod (mVar 5) (mC (.int 60))))) (sSeq (sIf (mTru (mBin fGe (mVar 5) (mBin fPow (mC (.int 10)) (mC (.int 18))))) (sSet 6 (mBin fAddL (mC (.int 1)) (mBin fMod (mVar 5) (mBin fPow (mC (.int 10)) (mC (.int 29)))))) (sNop)) (sAppF 3 (mBin fAddL (mBin fIx (mVar 3) (mUn fNeg (mC (.int 1)))) (mVar 6)))))
def s_law_ends (fu : Nat) : S := sSeq (sSet 2 (mBin fMod (mBin fFdv (mCall 2 (Pg.f_law_cell_at fu) [] (mCons (mVar 0) (mCons (mC (.int 1)) (mNil)))) (mC (.int 2))) (mBin fPow (mC (.int 10)) (mC (.int 24))))) (sSeq (sIf (mTru (mBin fEq (mBin fMod (mCall 2 (Pg.f_law_cell_at fu) [] (mCons (mVar 0) (mCons (mC (.int 1)) (mNil)))) (mC (.int 2))) (mC (.int 1)))) (sSet 2 (mBin fSub (mC (.int 0)) (mVar 2))) (sNop)) (sSeq (sOwn 3 (nLst (mCons (mVar 2) (mNil)))) (sSeq (sFor (mRng rng1 (mCons (mVar 1) (mNil))) (gN 4) (b_law_ends_1 fu)) (sFz (sRet (mVar 3))))))
def f_law_ends (fu : Nat) : List MI.D → R MI.D := run 2 7 (s_law_ends fu)
/- law_pieces: 0 _law_ends_here, 1 _law_bottom, 2 _law_cell_here, 3 _law_pieces_here, 4 _law_begin, 5 _law_k, 6 _law_end -/
def b_law_pieces_1 (fu : Nat) : S := sSeq (sSet 6 (mBin fAddL (mBin fAddL (mVar 4) (mC (.int 1))) (mBin fMod (mBin fMod (mBin fMul (mBin fAddL (mVar 2) (mVar 5)) (mBin fAddL (mVar 2) (mBin fMul (mC (.int 7919)) (mVar 5)))) (mC (.int 2147483629))) (mC (.int 500))))) (sSeq (sApp 3 (mDs dTup (mCons (mCall 2 (Pg.f_law_lowest fu) [] (mCons (mBin fIx (mVar 0) (mVar 5)) (mCons (mVar 1) (mNil)))) (mCons (mCall 2 (Pg.f_law_lowest fu) [] (mCons (mBin fIx (mVar 0) (mBin fAddL (mVar 5) (mC (.int 1)))) (mCons (mVar 1) (mNil)))) (mCons (mVar 4) (mCons (mVar 6) (mNil))))))) (sSet 4 (mBin fAddL (mBin fAddL (mVar 6) (mC (.int 1))) (mBin fMod (mBin fMod (mBin fMul (mBin fAddL (mVar 2) (mVar 5)) (mBin fAddL (mVar 2) (mBin fMul (mC (.int 104729)) (mVar 5)))) (mC (.int 2147483587))) (mC (.int 500))))))
def s_law_pieces (fu : Nat) : S := sSeq (sOwn 3 (nLst (mNil))) (sSeq (sSet 4 (mC (.int 0))) (sSeq (sFor (mRng rng3 (mCons (mC (.int 0)) (mCons (mDs fLen (mCons (mVar 0) (mNil))) (mCons (mC (.int 2)) (mNil))))) (gN 5) (b_law_pieces_1 fu)) (sFz (sRet (mVar 3)))))
def f_law_pieces (fu : Nat) : List MI.D → R MI.D := run 3 7 (s_law_pieces fu)
/- law_scale: 0 _law_script, 1 _law_ends_here, 2 _law_bottom, 3 _law_kind, 4 _law_cell_here, 5 _law_base, 6 _law_pieces_here, 7 _law_lo, 8 _law_hi -/
def s_law_scale (fu : Nat) : S := sSeq (sSet 3 (mBin fMod (mCall 2 (Pg.f_law_cell_at fu) [] (mCons (mVar 0) (mCons (mC (.int 0)) (mNil)))) (mC (.int 4)))) (sSeq (sSet 4 (mBin fFdv (mCall 1 (Pg.f_law_mixed fu) [] (mCons (mCall 2 (Pg.f_law_cell_at fu) [] (mCons (mVar 0) (mCons (mC (.int 0)) (mNil)))) (mNil))) (mC (.int 4)))) (sSeq (sIf (mTru (mBin fEq (mVar 3) (mC (.int 1)))) (sSeq (sSet 5 (mBin fIx (mDs dLst (mCons (mC (.int 2)) (mCons (mC (.int 10)) (mNil)))) (mBin fMod (mBin fFdv (mVar 4) (mC (.int 4000))) (mC (.int 2))))) (sRet (mDs dTup (mCons (mC (.str "turns")) (mCons (mVar 5) (mCons (mBin fSub (mBin fMod (mBin fFdv (mVar 4) (mC (.int 8000))) (mC (.int 31))) (mC (.int 15))) (mCons (mBin fAddL (mC (.int 1)) (mBin fMod (mBin fFdv (mVar 4) (mC (.int 248000))) (mC (.int 25)))) (mCons (mBin fAddL (mC (.int 1)) (mBin fMod (mVar 4) (mC (.int 4000)))) (mNil))))))))) (sNop)) (sSeq (sIf (mTru (mBin fEq (mVar 3) (mC (.int 2)))) (sSeq (sSet 6 (mCall 3 (Pg.f_law_pieces fu) [] (mCons (mVar 1) (mCons (mVar 2) (mCons (mVar 4) (mNil)))))) (sRet (mDs dTup (mCons (mC (.str "broken")) (mCons (mVar 6) (mCons (mBin fIx (mBin fIx (mVar 6) (mUn fNeg (mC (.int 1)))) (mC (.int 3))) (mNil))))))) (sNop)) (sSeq (sIf (mTru (mBin fEq (mVar 3) (mC (.int 3)))) (sSeq (sSet 7 (mBin fMod (mCall 2 (Pg.f_law_cell_at fu) [] (mCons (mVar 0) (mCons (mC (.int 1)) (mNil)))) (mC (.int 3652058)))) (sSeq (sSet 8 (mBin fAddL (mBin fAddL (mVar 7) (mC (.int 1))) (mBin fMod (mCall 2 (Pg.f_law_cell_at fu) [] (mCons (mVar 0) (mCons (mC (.int 2)) (mNil)))) (mBin fSub (mC (.int 3652058)) (mVar 7))))) (sRet (mDs dTup (mCons (mC (.str "days")) (mCons (mVar 7) (mCons (mVar 8) (mCons (mBin fAddL (mC (.int 1)) (mBin fMod (mVar 4) (mC (.int 4000)))) (mNil))))))))) (sNop)) (sRet (mDs dTup (mCons (mC (.str "straight")) (mCons (mCall 2 (Pg.f_law_lowest fu) [] (mCons (mBin fIx (mVar 1) (mC (.int 0))) (mCons (mVar 2) (mNil)))) (mCons (mCall 2 (Pg.f_law_lowest fu) [] (mCons (mBin fIx (mVar 1) (mC (.int 1))) (mCons (mVar 2) (mNil)))) (mCons (mBin fAddL (mC (.int 1)) (mBin fMod (mVar 4) (mC (.int 4000)))) (mNil)))))))))))
def f_law_scale (fu : Nat) : List MI.D → R MI.D := run 3 9 (s_law_scale fu)
/- law_turned: 0 _law_scale_here, 1 _law_cell_here, 2 _law_far, 3 _law_name, 4 _law_base, 5 _law_low, 6 _law_many, 7 _law_length, 8 _law_at, 9 _law_part -/
def s_law_turned (fu : Nat) : S := sSeq (sAsg (gT (gsCons (gN 3) (gsCons (gN 4) (gsCons (gN 5) (gsCons (gN 6) (gsCons (gN 7) (gsNil))))))) (mVar 0)) (sSeq (sSet 8 (mBin fAddL (mBin fSub (mVar 5) (mC (.int 1))) (mBin fMod (mBin fFdv (mVar 1) (mC (.int 4))) (mBin fAddL (mVar 6) (mC (.int 2)))))) (sSeq (sSet 9 (mBin fAddL (mC (.int 16)) (mBin fMod (mVar 2) (mBin fSub (mBin fMul (mC (.int 16)) (mVar 4)) (mC (.int 15)))))) (sSeq (sIf (mTru (mBin fEq (mBin fMod (mVar 1) (mC (.int 4))) (mC (.int 1)))) (sRet (mDs dTup (mCons (mBin fSub (mBin fMod (mBin fFdv (mVar 1) (mC (.int 4))) (mC (.int 5))) (mC (.int 3))) (mCons (mC (.int 1)) (mNil))))) (sNop)) (sRet (mCall 2 (Pg.f_law_lowest fu) [] (mCons (mBin fMul (mVar 9) (mCall 2 (Pg.f_p_power_of fu) [] (mCons (mVar 4) (mCons (mVar 8) (mNil))))) (mCons (mBin fMul (mC (.int 16)) (mCall 2 (Pg.f_p_power_of fu) [] (mCons (mVar 4) (mCons (mBin fSub (mC (.int 0)) (mVar 8)) (mNil))))) (mNil))))))))
def f_law_turned (fu : Nat) : List MI.D → R MI.D := run 3 10 (s_law_turned fu)
/- law_cell: 0 _law_scale_here, 1 _law_ends_here, 2 _law_bottom, 3 _law_cell_here, 4 _law_far, 5 _law_last, 6 _law_share, 7 _law_wide -/
def s_law_cell (fu : Nat) : S := sSeq (sSet 4 (mBin fMod (mBin fMul (mVar 3) (mC (.int 48271))) (mC (.int 2147483647)))) (sSeq (sIf (mTru (mBin fGe (mVar 3) (mBin fPow (mC (.int 10)) (mC (.int 18))))) (sSet 4 (mBin fFdv (mVar 3) (mC (.int 36)))) (sNop)) (sSeq (sIf (mTru (mBin fEq (mBin fIx (mVar 0) (mC (.int 0))) (mC (.str "turns")))) (sRet (mCall 3 (Pg.f_law_turned fu) [] (mCons (mVar 0) (mCons (mVar 3) (mCons (mVar 4) (mNil)))))) (sNop)) (sSeq (sIf (mTru (mBin fEq (mBin fIx (mVar 0) (mC (.int 0))) (mC (.str "days")))) (sSeq (sIf (mTru (mBin fEq (mBin fMod (mVar 3) (mC (.int 4))) (mC (.int 1)))) (sRet (mDs dTup (mCons (mBin fMod (mBin fFdv (mVar 3) (mC (.int 4))) (mC (.int 3652059))) (mCons (mC (.int 1)) (mNil))))) (sNop)) (sRet (mDs dTup (mCons (mBin fAddL (mBin fIx (mVar 0) (mC (.int 1))) (mBin fMod (mVar 4) (mBin fAddL (mBin fSub (mBin fIx (mVar 0) (mC (.int 2))) (mBin fIx (mVar 0) (mC (.int 1)))) (mC (.int 1))))) (mCons (mC (.int 1)) (mNil)))))) (sNop)) (sSeq (sSet 5 (mBin fIx (mVar 1) (mC (.int 1)))) (sSeq (sIf (mTru (mBin fEq (mBin fIx (mVar 0) (mC (.int 0))) (mC (.str "broken")))) (sSet 5 (mBin fIx (mVar 1) (mUn fNeg (mC (.int 1))))) (sNop)) (sSeq (sSet 6 (mBin fAddL (mC (.int 1)) (mBin fMod (mBin fFdv (mVar 3) (mC (.int 4))) (mC (.int 9))))) (sSeq (sSet 7 (mBin fMul (mBin fSub (mVar 5) (mBin fIx (mVar 1) (mC (.int 0)))) (mVar 6))) (sSeq (sIf (mTru (mBin fEq (mBin fMod (mVar 3) (mC (.int 4))) (mC (.int 1)))) (sRet (mCall 2 (Pg.f_law_lowest fu) [] (mCons (mBin fAddL (mBin fSub (mBin fMul (mBin fIx (mVar 1) (mC (.int 0))) (mVar 6)) (mVar 7)) (mBin fMod (mVar 4) (mBin fAddL (mBin fMul (mC (.int 3)) (mVar 7)) (mC (.int 1))))) (mCons (mBin fMul (mVar 2) (mVar 6)) (mNil))))) (sNop)) (sRet (mCall 2 (Pg.f_law_lowest fu) [] (mCons (mBin fAddL (mBin fMul (mBin fIx (mVar 1) (mC (.int 0))) (mVar 6)) (mBin fMod (mVar 4) (mBin fAddL (mVar 7) (mC (.int 1))))) (mCons (mBin fMul (mVar 2) (mVar 6)) (mNil)))))))))))))
def f_law_cell (fu : Nat) : List MI.D → R MI.D := run 4 8 (s_law_cell fu)
/- law_handed: 0 _law_scale_here, 1 _law_cell_here -/
def s_law_handed (fu : Nat) : S := sSeq (sIf (mTru (mBin fEq (mBin fIx (mVar 0) (mC (.int 0))) (mC (.str "days")))) (sRet (mBin fIx (mVar 1) (mC (.int 0)))) (sNop)) (sRet (mVar 1))
def f_law_handed (fu : Nat) : List MI.D → R MI.D := run 2 2 (s_law_handed fu)
/- p_count_of: 0 text, 1 sign -/
def b_p_count_of_1 (fu : Nat) : S := sIf (mTru (mBin (fIn true) (mVar 1) (mC (.str "0123456789")))) (sRaise "NoNumber") (sNop)
def s_p_count_of (fu : Nat) : S := sSeq (sIf (mOrT (mTru (mBin fEq (mVar 0) (mC (.str "")))) (mTru (mBin fGt (mDs fLen (mCons (mVar 0) (mNil))) (mC (.int 60))))) (sRaise "NoNumber") (sNop)) (sSeq (sFor (mSigns (mVar 0)) (gN 1) (b_p_count_of_1 fu)) (sSeq (sIf (mAndT (mTru (mBin fEq (mBin fIx (mVar 0) (mC (.int 0))) (mC (.str "0")))) (mTru (mBin fNe (mVar 0) (mC (.str "0"))))) (sRaise "NoNumber") (sNop)) (sRet (mDs fIntT (mCons (mVar 0) (mNil))))))
def f_p_count_of (fu : Nat) : List MI.D → R MI.D := run 1 2 (s_p_count_of fu)
/- p_top_of: 0 text, 1 size -/
def s_p_top_of (fu : Nat) : S := sSeq (sIf (mTru (mBin fNe (mSl (mVar 0) (mNoPart) (mPart (mC (.int 1)))) (mC (.str "-")))) (sRet (mCall 1 (Pg.f_p_count_of fu) [] (mCons (mVar 0) (mNil)))) (sNop)) (sSeq (sSet 1 (mCall 1 (Pg.f_p_count_of fu) [] (mCons (mSl (mVar 0) (mPart (mC (.int 1))) (mNoPart)) (mNil)))) (sSeq (sIf (mTru (mBin fEq (mVar 1) (mC (.int 0)))) (sRaise "NoNumber") (sNop)) (sRet (mBin fSub (mC (.int 0)) (mVar 1)))))
def f_p_top_of (fu : Nat) : List MI.D → R MI.D := run 1 2 (s_p_top_of fu)
/- p_read_number: 0 text, 1 above, 2 stroke, 3 below, 4 top, 5 bottom -/
def s_p_read_number (fu : Nat) : S := sSeq (sIf (mNot (mTru (mIsi "str" (mVar 0)))) (sRaise "NoNumber") (sNop)) (sSeq (sAsg (gT (gsCons (gN 1) (gsCons (gN 2) (gsCons (gN 3) (gsNil))))) (mMt "str" fPartition (mVar 0) (mCons (mC (.str "/")) (mNil)))) (sSeq (sSet 4 (mCall 1 (Pg.f_p_top_of fu) [] (mCons (mVar 1) (mNil)))) (sSeq (sIf (mTru (mBin fEq (mVar 2) (mC (.str "")))) (sRet (mDs dTup (mCons (mVar 4) (mCons (mC (.int 1)) (mNil))))) (sNop)) (sSeq (sSet 5 (mCall 1 (Pg.f_p_count_of fu) [] (mCons (mVar 3) (mNil)))) (sSeq (sIf (mOrT (mTru (mBin fLt (mVar 5) (mC (.int 2)))) (mTru (mBin fNe (mCall 2 (Pg.f_p_divisor fu) [] (mCons (mVar 4) (mCons (mVar 5) (mNil)))) (mC (.int 1))))) (sRaise "NoNumber") (sNop)) (sRet (mDs dTup (mCons (mVar 4) (mCons (mVar 5) (mNil))))))))))
def f_p_read_number (fu : Nat) : List MI.D → R MI.D := run 1 6 (s_p_read_number fu)
/- law_plain: 0 _law_signs, 1 _law_sign -/
def b_law_plain_1 (fu : Nat) : S := sIf (mTru (mBin (fIn true) (mVar 1) (mC (.str "0123456789")))) (sRet (mC (.bool false))) (sNop)
def s_law_plain (fu : Nat) : S := sSeq (sIf (mOrT (mTru (mBin fEq (mVar 0) (mC (.str "")))) (mOrT (mTru (mBin fGt (mDs fLen (mCons (mVar 0) (mNil))) (mC (.int 60)))) (mAndT (mTru (mBin fEq (mBin fIx (mVar 0) (mC (.int 0))) (mC (.str "0")))) (mTru (mBin fNe (mVar 0) (mC (.str "0"))))))) (sRet (mC (.bool false))) (sNop)) (sSeq (sFor (mSigns (mVar 0)) (gN 1) (b_law_plain_1 fu)) (sRet (mC (.bool true))))
def f_law_plain (fu : Nat) : List MI.D → R MI.D := run 1 2 (s_law_plain fu)
/- law_due: 0 _law_text, 1 _law_above, 2 _law_stroke, 3 _law_below, 4 _law_head, 5 _law_top -/
def s_law_due (fu : Nat) : S := sSeq (sAsg (gT (gsCons (gN 1) (gsCons (gN 2) (gsCons (gN 3) (gsNil))))) (mMt "str" fPartition (mVar 0) (mCons (mC (.str "/")) (mNil)))) (sSeq (sSet 4 (mVar 1)) (sSeq (sIf (mTru (mBin fEq (mSl (mVar 1) (mNoPart) (mPart (mC (.int 1)))) (mC (.str "-")))) (sSet 4 (mSl (mVar 1) (mPart (mC (.int 1))) (mNoPart))) (sNop)) (sSeq (sIf (mOrT (mNot (mTru (mCall 1 (Pg.f_law_plain fu) [] (mCons (mVar 4) (mNil))))) (mTru (mBin fEq (mVar 1) (mC (.str "-0"))))) (sRet (mC .none)) (sNop)) (sSeq (sSet 5 (mDs fIntT (mCons (mVar 4) (mNil)))) (sSeq (sIf (mTru (mBin fEq (mSl (mVar 1) (mNoPart) (mPart (mC (.int 1)))) (mC (.str "-")))) (sSet 5 (mBin fSub (mC (.int 0)) (mVar 5))) (sNop)) (sSeq (sIf (mTru (mBin fEq (mVar 2) (mC (.str "")))) (sRet (mDs dTup (mCons (mVar 5) (mCons (mC (.int 1)) (mNil))))) (sNop)) (sSeq (sIf (mOrT (mNot (mTru (mCall 1 (Pg.f_law_plain fu) [] (mCons (mVar 3) (mNil))))) (mOrT (mTru (mBin fLt (mDs fIntT (mCons (mVar 3) (mNil))) (mC (.int 2)))) (mTru (mBin fNe (mCall 2 (Pg.f_p_divisor fu) [] (mCons (mVar 5) (mCons (mDs fIntT (mCons (mVar 3) (mNil))) (mNil)))) (mC (.int 1)))))) (sRet (mC .none)) (sNop)) (sRet (mDs dTup (mCons (mVar 5) (mCons (mDs fIntT (mCons (mVar 3) (mNil))) (mNil))))))))))))
def f_law_due (fu : Nat) : List MI.D → R MI.D := run 1 6 (s_law_due fu)
end Pg
set_option Elab.async false
set_option linter.all false
set_option maxRecDepth 100000
set_option maxHeartbeats 4000000
namespace K08
open PySem MI
/- p_is_day: 0 thing -/
def s_p_is_day (fu : Nat) : S := sRet (mAndV (mCall 1 (Pg.f_p_is_whole fu) [] (mCons (mVar 0) (mNil))) (mAndV (mBin fLe (mC (.int 0)) (mVar 0)) (mBin fLe (mVar 0) (mC (.int 3652058)))))
def f_p_is_day (fu : Nat) : List MI.D → R MI.D := run 1 1 (s_p_is_day fu)
/- p_is_told_day: 0 thing -/
def s_p_is_told_day (fu : Nat) : S := sRet (mAndV (mCall 1 (f_p_is_day fu) [] (mCons (mVar 0) (mNil))) (mAndV (mBin fLe (mCall 1 (Pg.f_p_ahead_of fu) [] (mCons (mC (.int 1000)) (mNil))) (mVar 0)) (mBin fLt (mVar 0) (mCall 1 (Pg.f_p_ahead_of fu) [] (mCons (mC (.int 9000)) (mNil))))))
def f_p_is_told_day (fu : Nat) : List MI.D → R MI.D := run 1 1 (s_p_is_told_day fu)
/- p_show_day: 0 day, 1 year, 2 month, 3 left -/
def s_p_show_day (fu : Nat) : S := sSeq (sAsg (gT (gsCons (gN 1) (gsCons (gN 2) (gsCons (gN 3) (gsNil))))) (mCall 1 (Pg.f_p_parts_of fu) [] (mCons (mVar 0) (mNil)))) (sRet (mBin fAddL (mBin fAddL (mBin fAddL (mBin fAddL (mMt "str" fZfill (mDs fStr (mCons (mVar 1) (mNil))) (mCons (mC (.int 4)) (mNil))) (mC (.str "-"))) (mMt "str" fZfill (mDs fStr (mCons (mVar 2) (mNil))) (mCons (mC (.int 2)) (mNil)))) (mC (.str "-"))) (mMt "str" fZfill (mDs fStr (mCons (mVar 3) (mNil))) (mCons (mC (.int 2)) (mNil)))))
def f_p_show_day (fu : Nat) : List MI.D → R MI.D := run 1 4 (s_p_show_day fu)
/- p_read_day: 0 text, 1 sign -/
def b_p_read_day_1 (fu : Nat) : S := sIf (mTru (mBin (fIn true) (mVar 1) (mC (.str "0123456789")))) (sRaise "NoDay") (sNop)
def s_p_read_day (fu : Nat) : S := sSeq (sIf (mOrT (mNot (mTru (mIsi "str" (mVar 0)))) (mOrT (mTru (mBin fNe (mDs fLen (mCons (mVar 0) (mNil))) (mC (.int 10)))) (mOrT (mTru (mBin fNe (mBin fIx (mVar 0) (mC (.int 4))) (mC (.str "-")))) (mTru (mBin fNe (mBin fIx (mVar 0) (mC (.int 7))) (mC (.str "-"))))))) (sRaise "NoDay") (sNop)) (sSeq (sFor (mSigns (mBin fAddL (mBin fAddL (mSl (mVar 0) (mNoPart) (mPart (mC (.int 4)))) (mSl (mVar 0) (mPart (mC (.int 5))) (mPart (mC (.int 7))))) (mSl (mVar 0) (mPart (mC (.int 8))) (mNoPart)))) (gN 1) (b_p_read_day_1 fu)) (sRet (mCall 3 (Pg.f_p_day_of fu) [] (mCons (mDs fIntT (mCons (mSl (mVar 0) (mNoPart) (mPart (mC (.int 4)))) (mNil))) (mCons (mDs fIntT (mCons (mSl (mVar 0) (mPart (mC (.int 5))) (mPart (mC (.int 7)))) (mNil))) (mCons (mDs fIntT (mCons (mSl (mVar 0) (mPart (mC (.int 8))) (mNoPart)) (mNil))) (mNil)))))))
def f_p_read_day (fu : Nat) : List MI.D → R MI.D := run 1 2 (s_p_read_day fu)
/- p_month_of: 0 day, 1 year, 2 month, 3 left -/
def s_p_month_of (fu : Nat) : S := sSeq (sAsg (gT (gsCons (gN 1) (gsCons (gN 2) (gsCons (gN 3) (gsNil))))) (mCall 1 (Pg.f_p_parts_of fu) [] (mCons (mVar 0) (mNil)))) (sRet (mBin fSub (mBin fAddL (mBin fMul (mC (.int 12)) (mVar 1)) (mVar 2)) (mC (.int 1))))
def f_p_month_of (fu : Nat) : List MI.D → R MI.D := run 1 4 (s_p_month_of fu)
/- p_month_begin: 0 month -/
def s_p_month_begin (fu : Nat) : S := sRet (mCall 3 (Pg.f_p_day_of fu) [] (mCons (mBin fFdv (mVar 0) (mC (.int 12))) (mCons (mBin fAddL (mBin fMod (mVar 0) (mC (.int 12))) (mC (.int 1))) (mCons (mC (.int 1)) (mNil)))))
def f_p_month_begin (fu : Nat) : List MI.D → R MI.D := run 1 1 (s_p_month_begin fu)
/- law_parts: 0 _law_one, 1 _law_other, 2 _law_year, 3 _law_month, 4 _law_day -/
def s_law_parts (fu : Nat) : S := sSeq (sSet 2 (mBin fAddL (mC (.int 1)) (mBin fMod (mVar 0) (mC (.int 9999))))) (sSeq (sIf (mTru (mBin fEq (mBin fMod (mBin fFdv (mVar 0) (mC (.int 9999))) (mC (.int 4))) (mC (.int 1)))) (sSet 2 (mBin fIx (mDs dLst (mCons (mC (.int 999)) (mCons (mC (.int 1000)) (mCons (mC (.int 8999)) (mCons (mC (.int 9000)) (mNil)))))) (mBin fMod (mBin fFdv (mVar 0) (mC (.int 39996))) (mC (.int 4))))) (sNop)) (sSeq (sSet 3 (mBin fAddL (mC (.int 1)) (mBin fMod (mVar 1) (mC (.int 12))))) (sSeq (sSet 4 (mBin fAddL (mC (.int 1)) (mBin fMod (mBin fFdv (mVar 1) (mC (.int 12))) (mCall 2 (Pg.f_law_long fu) [] (mCons (mVar 2) (mCons (mVar 3) (mNil))))))) (sSeq (sIf (mTru (mBin fEq (mBin fMod (mBin fFdv (mVar 1) (mC (.int 372))) (mC (.int 4))) (mC (.int 1)))) (sSet 4 (mCall 2 (Pg.f_law_long fu) [] (mCons (mVar 2) (mCons (mVar 3) (mNil))))) (sNop)) (sRet (mDs dTup (mCons (mVar 2) (mCons (mVar 3) (mCons (mVar 4) (mNil))))))))))
def f_law_parts (fu : Nat) : List MI.D → R MI.D := run 2 5 (s_law_parts fu)
/- law_bent: 0 _law_text, 1 _law_cell, 2 _law_sign, 3 _law_at -/
def s_law_bent (fu : Nat) : S := sSeq (sSet 2 (mBin fIx (mC (.str "0123456789-/+ \na_")) (mBin fMod (mVar 1) (mC (.int 17))))) (sSeq (sSet 3 (mBin fMod (mBin fFdv (mVar 1) (mC (.int 51))) (mDs fLen (mCons (mVar 0) (mNil))))) (sSeq (sIf (mTru (mBin fEq (mBin fMod (mBin fFdv (mVar 1) (mC (.int 17))) (mC (.int 3))) (mC (.int 0)))) (sRet (mBin fAddL (mBin fAddL (mSl (mVar 0) (mNoPart) (mPart (mVar 3))) (mVar 2)) (mSl (mVar 0) (mPart (mBin fAddL (mVar 3) (mC (.int 1)))) (mNoPart)))) (sNop)) (sSeq (sIf (mTru (mBin fEq (mBin fMod (mBin fFdv (mVar 1) (mC (.int 17))) (mC (.int 3))) (mC (.int 1)))) (sRet (mBin fAddL (mSl (mVar 0) (mNoPart) (mPart (mVar 3))) (mSl (mVar 0) (mPart (mBin fAddL (mVar 3) (mC (.int 1)))) (mNoPart)))) (sNop)) (sSeq (sSet 3 (mBin fMod (mBin fFdv (mVar 1) (mC (.int 51))) (mBin fAddL (mDs fLen (mCons (mVar 0) (mNil))) (mC (.int 1))))) (sRet (mBin fAddL (mBin fAddL (mSl (mVar 0) (mNoPart) (mPart (mVar 3))) (mVar 2)) (mSl (mVar 0) (mPart (mVar 3)) (mNoPart))))))))
def f_law_bent (fu : Nat) : List MI.D → R MI.D := run 2 4 (s_law_bent fu)
/- law_due: 0 _law_text, 1 _law_sign, 2 _law_year, 3 _law_month, 4 _law_day -/
def b_law_due_1 (fu : Nat) : S := sIf (mTru (mBin (fIn true) (mVar 1) (mC (.str "0123456789")))) (sRet (mC .none)) (sNop)
def s_law_due (fu : Nat) : S := sSeq (sIf (mOrT (mTru (mBin fNe (mDs fLen (mCons (mVar 0) (mNil))) (mC (.int 10)))) (mOrT (mTru (mBin fNe (mBin fIx (mVar 0) (mC (.int 4))) (mC (.str "-")))) (mTru (mBin fNe (mBin fIx (mVar 0) (mC (.int 7))) (mC (.str "-")))))) (sRet (mC .none)) (sNop)) (sSeq (sFor (mSigns (mBin fAddL (mBin fAddL (mSl (mVar 0) (mNoPart) (mPart (mC (.int 4)))) (mSl (mVar 0) (mPart (mC (.int 5))) (mPart (mC (.int 7))))) (mSl (mVar 0) (mPart (mC (.int 8))) (mNoPart)))) (gN 1) (b_law_due_1 fu)) (sSeq (sSet 2 (mDs fIntT (mCons (mSl (mVar 0) (mNoPart) (mPart (mC (.int 4)))) (mNil)))) (sSeq (sSet 3 (mDs fIntT (mCons (mSl (mVar 0) (mPart (mC (.int 5))) (mPart (mC (.int 7)))) (mNil)))) (sSeq (sSet 4 (mDs fIntT (mCons (mSl (mVar 0) (mPart (mC (.int 8))) (mNoPart)) (mNil)))) (sSeq (sIf (mOrT (mTru (mBin fLt (mVar 2) (mC (.int 1)))) (mOrT (mTru (mBin fLt (mVar 3) (mC (.int 1)))) (mOrT (mTru (mBin fGt (mVar 3) (mC (.int 12)))) (mOrT (mTru (mBin fLt (mVar 4) (mC (.int 1)))) (mTru (mBin fGt (mVar 4) (mCall 2 (Pg.f_law_long fu) [] (mCons (mVar 2) (mCons (mVar 3) (mNil)))))))))) (sRet (mC .none)) (sNop)) (sRet (mCall 3 (Pg.f_law_count fu) [] (mCons (mVar 2) (mCons (mVar 3) (mCons (mVar 4) (mNil)))))))))))
def f_law_due (fu : Nat) : List MI.D → R MI.D := run 1 5 (s_law_due fu)
/- law_read: 0 _law_text, 1 _law_due_here, 2 _law_found, 3 _law_refused -/
def s_law_read (fu : Nat) : S := sSeq (sSet 2 (mC .none)) (sSeq (sSet 3 (mC (.bool false))) (sSeq (sTry (subT [("NoDay", true)]) (sSet 2 (mCall 1 (f_p_read_day fu) [] (mCons (mVar 0) (mNil)))) (sSet 3 (mC (.bool true)))) (sSeq (sIf (mTru (mBin fIs (mVar 1) (mC .none))) (sRet (mVar 3)) (sNop)) (sRet (mAndV (mNotV (mVar 3)) (mAndV (mCall 1 (Pg.f_p_is_whole fu) [] (mCons (mVar 2) (mNil))) (mBin fEq (mVar 2) (mVar 1))))))))
def f_law_read (fu : Nat) : List MI.D → R MI.D := run 2 4 (s_law_read fu)
/- law_months: 0 _law_parts_here, 1 _law_day, 2 _law_month, 3 _law_begin -/
def s_law_months (fu : Nat) : S := sSeq (sSet 2 (mCall 1 (f_p_month_of fu) [] (mCons (mVar 1) (mNil)))) (sSeq (sIf (mOrT (mNot (mTru (mCall 1 (Pg.f_p_is_whole fu) [] (mCons (mVar 2) (mNil))))) (mTru (mBin fNe (mVar 2) (mBin fSub (mBin fAddL (mBin fMul (mC (.int 12)) (mBin fIx (mVar 0) (mC (.int 0)))) (mBin fIx (mVar 0) (mC (.int 1)))) (mC (.int 1)))))) (sRet (mC (.bool false))) (sNop)) (sSeq (sSet 3 (mCall 1 (f_p_month_begin fu) [] (mCons (mVar 2) (mNil)))) (sRet (mAndV (mCall 1 (Pg.f_p_is_whole fu) [] (mCons (mVar 3) (mNil))) (mBin fEq (mVar 3) (mCall 3 (Pg.f_law_count fu) [] (mCons (mBin fIx (mVar 0) (mC (.int 0))) (mCons (mBin fIx (mVar 0) (mC (.int 1))) (mCons (mC (.int 1)) (mNil))))))))))
def f_law_months (fu : Nat) : List MI.D → R MI.D := run 2 4 (s_law_months fu)
/- law_no_day: 0 _law_cell, 1 _law_far, 2 _law_thing -/
def s_law_no_day (fu : Nat) : S := sSeq (sSet 1 (mBin fMod (mBin fFdv (mVar 0) (mC (.int 8))) (mBin fPow (mC (.int 10)) (mC (.int 60))))) (sSeq (sSet 2 (mBin fIx (mDs dLst (mCons (mBin fSub (mUn fNeg (mC (.int 1))) (mBin fFdv (mVar 1) (mC (.int 10)))) (mCons (mBin fAddL (mC (.int 3652059)) (mBin fFdv (mVar 1) (mC (.int 10)))) (mCons (mC (.bool true)) (mCons (mC (.bool false)) (mCons (mC .none) (mCons (mC (.str "2000-01-01")) (mCons (mDs dLst (mCons (mC (.int 1)) (mNil))) (mCons (mDs dTup (mCons (mC (.int 1)) (mCons (mC (.int 1)) (mNil)))) (mNil)))))))))) (mBin fMod (mVar 0) (mC (.int 8))))) (sSeq (sIf (mOrT (mTru (mBin fNotB (mCall 1 (f_p_is_day fu) [] (mCons (mVar 2) (mNil))) (mC (.bool false)))) (mTru (mBin fNotB (mCall 1 (f_p_is_told_day fu) [] (mCons (mVar 2) (mNil))) (mC (.bool false))))) (sRet (mC (.bool false))) (sNop)) (sRet (mOrV (mIsi "str" (mVar 2)) (mCall 2 (f_law_read fu) [] (mCons (mVar 2) (mCons (mC .none) (mNil))))))))
def f_law_no_day (fu : Nat) : List MI.D → R MI.D := run 1 3 (s_law_no_day fu)
/- p_law: 0 _law_script, 1 _law_cells, 2 _law_k, 3 _law_one, 4 _law_other, 5 _law_parts_here, 6 _law_day, 7 _law_due_here, 8 _law_found, 9 _law_bent_here, 10 _law_told, 11 _law_among -/
def b_p_law_1 (fu : Nat) : S := sSeq (sSet 3 (mCall 1 (Pg.f_law_mixed fu) [] (mCons (mCall 2 (Pg.f_law_cell_at fu) [] (mCons (mVar 1) (mCons (mVar 2) (mNil)))) (mNil)))) (sSeq (sSet 4 (mCall 1 (Pg.f_law_mixed fu) [] (mCons (mCall 2 (Pg.f_law_cell_at fu) [] (mCons (mVar 1) (mCons (mBin fAddL (mVar 2) (mC (.int 1))) (mNil)))) (mNil)))) (sSeq (sSet 5 (mCall 2 (f_law_parts fu) [] (mCons (mVar 3) (mCons (mVar 4) (mNil))))) (sSeq (sSet 6 (mCall 3 (Pg.f_law_count fu) [] (mCons (mBin fIx (mVar 5) (mC (.int 0))) (mCons (mBin fIx (mVar 5) (mC (.int 1))) (mCons (mBin fIx (mVar 5) (mC (.int 2))) (mNil)))))) (sSeq (sSet 7 (mBin fAddL (mSl (mDs fStr (mCons (mBin fAddL (mC (.int 10000)) (mBin fIx (mVar 5) (mC (.int 0)))) (mNil))) (mPart (mC (.int 1))) (mNoPart)) (mC (.str "-")))) (sSeq (sSet 7 (mBin fAddL (mBin fAddL (mBin fAddL (mVar 7) (mSl (mDs fStr (mCons (mBin fAddL (mC (.int 100)) (mBin fIx (mVar 5) (mC (.int 1)))) (mNil))) (mPart (mC (.int 1))) (mNoPart))) (mC (.str "-"))) (mSl (mDs fStr (mCons (mBin fAddL (mC (.int 100)) (mBin fIx (mVar 5) (mC (.int 2)))) (mNil))) (mPart (mC (.int 1))) (mNoPart)))) (sSeq (sSet 8 (mCall 1 (f_p_show_day fu) [] (mCons (mVar 6) (mNil)))) (sSeq (sIf (mOrT (mNot (mTru (mIsi "str" (mVar 8)))) (mOrT (mTru (mBin fNe (mVar 8) (mVar 7))) (mNot (mTru (mCall 2 (f_law_read fu) [] (mCons (mVar 7) (mCons (mVar 6) (mNil)))))))) (sRet (mC (.bool false))) (sNop)) (sSeq (sSet 9 (mCall 2 (f_law_bent fu) [] (mCons (mVar 7) (mCons (mBin fAddL (mBin fFdv (mVar 3) (mC (.int 159984))) (mBin fFdv (mVar 4) (mC (.int 1488)))) (mNil))))) (sSeq (sIf (mOrT (mNot (mTru (mCall 2 (f_law_read fu) [] (mCons (mSl (mVar 7) (mNoPart) (mPart (mBin fMod (mVar 3) (mC (.int 10))))) (mCons (mC .none) (mNil)))))) (mNot (mTru (mCall 2 (f_law_read fu) [] (mCons (mBin fAddL (mVar 7) (mVar 7)) (mCons (mC .none) (mNil))))))) (sRet (mC (.bool false))) (sNop)) (sSeq (sIf (mNot (mTru (mCall 2 (f_law_read fu) [] (mCons (mBin fAddL (mBin fAddL (mSl (mVar 7) (mPart (mC (.int 1))) (mPart (mC (.int 5)))) (mSl (mVar 7) (mNoPart) (mPart (mC (.int 1))))) (mSl (mVar 7) (mPart (mC (.int 5))) (mNoPart))) (mCons (mC .none) (mNil)))))) (sRet (mC (.bool false))) (sNop)) (sSeq (sIf (mOrT (mNot (mTru (mCall 2 (f_law_read fu) [] (mCons (mVar 9) (mCons (mCall 1 (f_law_due fu) [] (mCons (mVar 9) (mNil))) (mNil)))))) (mNot (mTru (mCall 2 (f_law_months fu) [] (mCons (mVar 5) (mCons (mVar 6) (mNil))))))) (sRet (mC (.bool false))) (sNop)) (sSeq (sSet 10 (mCall 1 (f_p_is_told_day fu) [] (mCons (mVar 6) (mNil)))) (sSeq (sSet 11 (mAndV (mBin fLe (mC (.int 1000)) (mBin fIx (mVar 5) (mC (.int 0)))) (mBin fLe (mBin fIx (mVar 5) (mC (.int 0))) (mC (.int 8999))))) (sSeq (sIf (mOrT (mTru (mBin fNotB (mCall 1 (f_p_is_day fu) [] (mCons (mVar 6) (mNil))) (mC (.bool true)))) (mOrT (mNot (mTru (mIsi "bool" (mVar 10)))) (mTru (mBin fNe (mVar 10) (mVar 11))))) (sRet (mC (.bool false))) (sNop)) (sIf (mNot (mTru (mCall 1 (f_law_no_day fu) [] (mCons (mBin fFdv (mVar 4) (mC (.int 1488))) (mNil))))) (sRet (mC (.bool false))) (sNop))))))))))))))))
def s_p_law (fu : Nat) : S := sSeq (sSet 1 (mSl (mVar 0) (mNoPart) (mPart (mC (.int 62))))) (sSeq (sFor (mRng rng3 (mCons (mC (.int 0)) (mCons (mBin fAddL (mDs fLen (mCons (mVar 1) (mNil))) (mC (.int 1))) (mCons (mC (.int 2)) (mNil))))) (gN 2) (b_p_law_1 fu)) (sRet (mC (.bool true))))
def f_p_law (fu : Nat) : List MI.D → R MI.D := run 1 12 (s_p_law fu)
end K08
set_option Elab.async false
set_option linter.all false
set_option maxRecDepth 100000
set_option maxHeartbeats 4000000
/-! MI6: reckoning with what is told (plain Lean). -/
namespace MI
open PySem
/-! applied forms -/
@[simp] theorem to_ok {α : Type} (a : α) (g : Ce) (k : α → Out) : (R.ok a).to g k = k a := Eq.trans rfl rfl
@[simp] theorem to_exc {α : Type} (c : Str) (g : Ce) (k : α → Out) : (R.exc c none : R α).to g k = .ex c none g := Eq.trans rfl rfl
@[simp] theorem to_bad {α : Type} (g : Ce) (k : α → Out) : (R.bad : R α).to g k = .bad := Eq.trans rfl rfl
@[simp] theorem vd_cons (c : Cell) (g : Ce) : vd (c :: g) = c.vd :: vd g := Eq.trans rfl rfl
@[simp] theorem vd_nil : vd [] = [] := Eq.trans rfl rfl
@[simp] theorem va_cons (c : Cell) (g : Ce) : va (c :: g) = c.va :: va g := Eq.trans rfl rfl
@[simp] theorem va_nil : va [] = [] := Eq.trans rfl rfl
@[simp] theorem vd_dat (d : D) : (Cell.dat d).vd = some d := Eq.trans rfl rfl
@[simp] theorem vd_un : Cell.un.vd = none := Eq.trans rfl rfl
@[simp] theorem vd_own (ds : List D) : (Cell.own ds).vd = none := Eq.trans rfl rfl
@[simp] theorem va_dat (d : D) : (Cell.dat d).va = some d := Eq.trans rfl rfl
@[simp] theorem va_un : Cell.un.va = none := Eq.trans rfl rfl
@[simp] theorem va_own (ds : List D) : (Cell.own ds).va = some (.list ds) := Eq.trans rfl rfl
@[simp] theorem sNop_ap (g : Ce) : sNop g = .nx g := Eq.trans rfl rfl
@[simp] theorem sSeq_ap (a b : S) (g : Ce) : sSeq a b g = match a g with
  | .nx g' => b g'
  | o => o := Eq.trans rfl rfl
@[simp] theorem sIf_ap (t : Vw → R Bool) (a b : S) (g : Ce) : sIf t a b g = (t (va g)).to g fun k => if k = true then a g else b g := Eq.trans rfl rfl
@[simp] theorem sRet_ap (m : M) (g : Ce) : sRet m g = match m (va g) with
  | .ok d => .rt d
  | .exc c p => if flatO p = true then .ex c p g else .bad
  | .bad => .bad := Eq.trans rfl rfl
@[simp] theorem sRetN_ap (g : Ce) : sRetN g = .rt .none := Eq.trans rfl rfl
@[simp] theorem sBreak_ap (g : Ce) : sBreak g = .bk g := Eq.trans rfl rfl
@[simp] theorem sCont_ap (g : Ce) : sCont g = .ct g := Eq.trans rfl rfl
@[simp] theorem sExpr_ap (m : M) (g : Ce) : sExpr m g = (m (va g)).to g fun _ => .nx g := Eq.trans rfl rfl
@[simp] theorem sSet_ap (i : Nat) (m : M) (g : Ce) : sSet i m g = (m (vd g)).to g fun d => .nx (g.set i (.dat d)) := Eq.trans rfl rfl
@[simp] theorem sSetF_ap (i : Nat) (m : M) (g : Ce) : sSetF i m g = (m (va g)).to g fun d => if flat d = true then .nx (g.set i (.dat d)) else .bad := Eq.trans rfl rfl
@[simp] theorem sPar_ap (i j : Nat) (m : Vw → R (List D)) (g : Ce) : sPar i j m g = (m (vd g)).to g fun ds => match ds with
  | [x, y] => .nx ((g.set i (.dat x)).set j (.dat y))
  | _ => .bad := Eq.trans rfl rfl
@[simp] theorem sRaise_ap (c : Str) (g : Ce) : sRaise c g = .ex c none g := Eq.trans rfl rfl
@[simp] theorem sAsg_ap (t : Tg) (m : M) (g : Ce) : sAsg t m g = (m (vd g)).to g fun d => match t d g with
  | some g' => .nx g'
  | none => .bad := Eq.trans rfl rfl
@[simp] theorem sTry_ap (sub : Str → Option Bool) (b u : S) (g : Ce) : sTry sub b u g = match b g with
  | .ex c p g' => (match sub c with
    | some true => (match u g' with
      | .ex _ _ _ => .bad
      | o => o)
    | some false => .ex c p g'
    | none => .bad)
  | o => o := Eq.trans rfl rfl
theorem sForL_ap (m : M) (t : Tg) (b : S) (g : Ce) : sForL m t b g = (m (vd g)).to g fun d => match d with
  | .list ds => loopF t b ds g
  | .tuple ds => loopF t b ds g
  | _ => .bad := rfl
theorem sForR_ap (f : List D → Option (List D)) (m : Vw → R (List D)) (t : Tg) (b : S) (g : Ce) : sForR f m t b g = (m (vd g)).to g fun ds => match f ds with
  | some xs => loopF t b xs g
  | none => .bad := rfl
@[simp] theorem gN_ap (i : Nat) (d : D) (g : Ce) : gN i d g = some (g.set i (.dat d)) := Eq.trans rfl rfl
@[simp] theorem gT_ap (u : Tgs) (ds : List D) (g : Ce) : gT u (.tuple ds) g = u ds g := Eq.trans rfl rfl
@[simp] theorem gL_ap (u : Tgs) (ds : List D) (g : Ce) : gL u (.list ds) g = u ds g := Eq.trans rfl rfl
@[simp] theorem gX_l (u : Tgs) (ds : List D) (g : Ce) : gX u (.list ds) g = u ds g := Eq.trans rfl rfl
@[simp] theorem gX_t (u : Tgs) (ds : List D) (g : Ce) : gX u (.tuple ds) g = u ds g := Eq.trans rfl rfl
@[simp] theorem gsNil_ap (g : Ce) : gsNil [] g = some g := Eq.trans rfl rfl
@[simp] theorem gsCons_ap (t : Tg) (u : Tgs) (d : D) (r : List D) (g : Ce) : gsCons t u (d :: r) g = (t d g).bind (u r) := Eq.trans rfl rfl
@[simp] theorem mVar_ap (i : Nat) (δ : Vw) : mVar i δ = match δ[i]? with
  | some (some d) => .ok d
  | _ => .bad := Eq.trans rfl rfl
@[simp] theorem mC_ap (d : D) (δ : Vw) : mC d δ = .ok d := Eq.trans rfl rfl
@[simp] theorem mBin_ap (f : D → D → Option D) (a b : M) (δ : Vw) : mBin f a b δ = (a δ).bind fun x => (b δ).bind fun y => R.of (f x y) := Eq.trans rfl rfl
@[simp] theorem mUn_ap (f : D → Option D) (a : M) (δ : Vw) : mUn f a δ = (a δ).bind fun x => R.of (f x) := Eq.trans rfl rfl
@[simp] theorem mDs_ap (f : List D → Option D) (a : Vw → R (List D)) (δ : Vw) : mDs f a δ = (a δ).bind fun x => R.of (f x) := Eq.trans rfl rfl
@[simp] theorem mNil_ap (δ : Vw) : mNil δ = .ok [] := Eq.trans rfl rfl
@[simp] theorem mCons_ap (a : M) (r : Vw → R (List D)) (δ : Vw) : mCons a r δ = (a δ).bind fun x => (r δ).bind fun y => .ok (x :: y) := Eq.trans rfl rfl
@[simp] theorem mTru_ap (m : M) (δ : Vw) : mTru m δ = (m δ).bind fun d => R.of (truthD d) := Eq.trans rfl rfl
@[simp] theorem mNot_ap (t : Vw → R Bool) (δ : Vw) : mNot t δ = (t δ).bind fun b => .ok (!b) := Eq.trans rfl rfl
@[simp] theorem mAndT_ap (t u : Vw → R Bool) (δ : Vw) : mAndT t u δ = (t δ).bind fun b => if b = true then u δ else .ok false := Eq.trans rfl rfl
@[simp] theorem mOrT_ap (t u : Vw → R Bool) (δ : Vw) : mOrT t u δ = (t δ).bind fun b => if b = true then .ok true else u δ := Eq.trans rfl rfl
@[simp] theorem mAndV_ap (a b : M) (δ : Vw) : mAndV a b δ = (a δ).bind fun x => (R.of (truthD x)).bind fun k => if k = true then b δ else .ok x := Eq.trans rfl rfl
@[simp] theorem mOrV_ap (a b : M) (δ : Vw) : mOrV a b δ = (a δ).bind fun x => (R.of (truthD x)).bind fun k => if k = true then .ok x else b δ := Eq.trans rfl rfl
@[simp] theorem mIf_ap (t : Vw → R Bool) (a b : M) (δ : Vw) : mIf t a b δ = (t δ).bind fun k => if k = true then a δ else b δ := Eq.trans rfl rfl
@[simp] theorem mNotV_ap (a : M) (δ : Vw) : mNotV a δ = (a δ).bind fun x => (R.of (truthD x)).bind fun k => .ok (.bool (!k)) := Eq.trans rfl rfl
@[simp] theorem mCall_ap (n : Nat) (f : List D → R D) (dds : List D) (m : Vw → R (List D)) (δ : Vw) : mCall n f dds m δ = (m δ).bind fun ds => if (ds ++ dds).length = n then f (ds ++ dds) else .bad := Eq.trans rfl rfl
@[simp] theorem mIsi_ap (T : String) (a : M) (δ : Vw) : mIsi T a δ = (a δ).bind fun d => R.of ((isT T d).map .bool) := Eq.trans rfl rfl
@[simp] theorem mNoPart_ap (δ : Vw) : mNoPart δ = .ok none := Eq.trans rfl rfl
@[simp] theorem mPart_ap (m : M) (δ : Vw) : mPart m δ = (m δ).bind fun d => match d with
  | .int i => .ok (some i)
  | _ => .bad := Eq.trans rfl rfl
@[simp] theorem mSl_ap (m : M) (lo hi : Vw → R (Option Int)) (δ : Vw) : mSl m lo hi δ = (m δ).bind fun d => (lo δ).bind fun l => (hi δ).bind fun h => R.of (fSl d l h) := Eq.trans rfl rfl
theorem forR {f : List D → Option (List D)} {m : Vw → R (List D)} {t : Tg} {b : S} {g : Ce} {ds xs : List D} (h1 : m (vd g) = .ok ds) (h2 : f ds = some xs) : sForR f m t b g = loopF t b xs g := by
  rw [sForR_ap, h1, to_ok, h2]
theorem forG {it : Vw → R (List D)} {t : Tg} {b : S} {g : Ce} {ds : List D} (h1 : it (vd g) = .ok ds) : sFor it t b g = loopF t b ds g := by
  show (it (vd g)).to g (fun ds => loopF t b ds g) = _
  rw [h1, to_ok]
theorem forL {m : M} {t : Tg} {b : S} {g : Ce} {ds : List D} (h1 : m (vd g) = .ok (.list ds)) : sForL m t b g = loopF t b ds g := by
  rw [sForL_ap, h1, to_ok]
theorem forT {m : M} {t : Tg} {b : S} {g : Ce} {ds : List D} (h1 : m (vd g) = .ok (.tuple ds)) : sForL m t b g = loopF t b ds g := by
  rw [sForL_ap, h1, to_ok]
theorem run_eq (n N : Nat) (m : S) (ds : List D) (h : ds.length = n) : run n N m ds = match m (ds.map Cell.dat ++ List.replicate (N - n) Cell.un) with
  | .nx _ => .ok .none
  | .rt d => .ok d
  | .ex c p _ => .exc c p
  | _ => .bad := by
  unfold run
  refine (if_pos h).trans ?_
  cases m (ds.map Cell.dat ++ List.replicate (N - n) Cell.un) <;> rfl
@[simp] theorem mItems_ap (m : M) (δ : Vw) : mItems m δ = (m δ).bind fun d => match d with
  | .list ds => .ok ds
  | .tuple ds => .ok ds
  | _ => .bad := Eq.trans rfl rfl
@[simp] theorem mRng_ap (f : List D → Option (List D)) (m : Vw → R (List D)) (δ : Vw) : mRng f m δ = (m δ).bind fun ds => R.of (f ds) := Eq.trans rfl rfl
@[simp] theorem mL_ap (m : Vw → R (List D)) (δ : Vw) : mL m δ = (m δ).bind fun ds => .ok (.list ds) := Eq.trans rfl rfl
@[simp] theorem nLst_ap (m : Vw → R (List D)) (δ : Vw) : nLst m δ = (m δ).bind fun ds => if ds.length ≤ most then .ok ds else .bad := Eq.trans rfl rfl
@[simp] theorem nOf_ap (m : M) (δ : Vw) : nOf m δ = (m δ).bind fun d => match d with
  | .list ds => .ok ds
  | .tuple ds => .ok ds
  | _ => .bad := Eq.trans rfl rfl
@[simp] theorem sOwn_ap (i : Nat) (m : Vw → R (List D)) (g : Ce) : sOwn i m g = (m (vd g)).to g fun ds => .nx (g.set i (.own ds)) := Eq.trans rfl rfl
@[simp] theorem sPut_ap (j : Nat) (mi m : M) (g : Ce) : sPut j mi m g = match g[j]? with
  | some (.own ds) => (m (vd g)).to g fun d => (mi (vd g)).to g fun i => match i with
    | .int i => (match L2.ixN ds.length i with
      | some k => .nx (g.set j (.own (ds.set k d)))
      | none => .bad)
    | _ => .bad
  | _ => .bad := Eq.trans rfl rfl
@[simp] theorem sApp_ap (i : Nat) (m : M) (g : Ce) : sApp i m g = match g[i]? with
  | some (.own ds) => (m (vd g)).to g fun d => if ds.length < most then .nx (g.set i (.own (ds ++ [d]))) else .bad
  | _ => .bad := Eq.trans rfl rfl
@[simp] theorem sPutF_ap (j : Nat) (mi m : M) (g : Ce) : sPutF j mi m g = match g[j]? with
  | some (.own ds) => (m (va g)).to g fun d => if flat d = true then (mi (vd g)).to g fun i => (match i with
    | .int i => (match L2.ixN ds.length i with
      | some k => .nx (g.set j (.own (ds.set k d)))
      | none => .bad)
    | _ => .bad) else .bad
  | _ => .bad := Eq.trans rfl rfl
@[simp] theorem sAsgF_ap (t : Tg) (m : M) (g : Ce) : sAsgF t m g = (m (va g)).to g fun d => if flat d = true then (match t d g with
  | some g' => .nx g'
  | none => .bad) else .bad := Eq.trans rfl rfl
@[simp] theorem sAppF_ap (i : Nat) (m : M) (g : Ce) : sAppF i m g = match g[i]? with
  | some (.own ds) => (m (va g)).to g fun d => if flat d = true ∧ ds.length < most then .nx (g.set i (.own (ds ++ [d]))) else .bad
  | _ => .bad := Eq.trans rfl rfl
theorem dLst_ok {ds : List D} (h : ds.length ≤ most) : dLst ds = some (.list ds) := by
  show (if ds.length ≤ most then some (PyData.list ds) else none) = _
  rw [if_pos h]
@[simp] theorem most_val : most = 16777216 := Eq.trans rfl rfl
@[simp] theorem sTryAs_ap (sub : Str → Option Bool) (i : Nat) (b : S) (u : Str → S) (g : Ce) : sTryAs sub i b u g = match b g with
  | .ex c p g' => (match sub c with
    | some true => if p.isNone = true ∧ i < g'.length then (match u c (g'.set i .un) with
      | .nx g2 => .nx (g2.set i .un)
      | .bk g2 => .bk (g2.set i .un)
      | .ct g2 => .ct (g2.set i .un)
      | .rt d => .rt d
      | _ => .bad) else .bad
    | some false => .ex c p g'
    | none => .bad)
  | o => o := Eq.trans rfl rfl
/-! operations -/
@[simp] theorem fAdd_ii (i j : Int) : fAdd (.int i) (.int j) = some (.int (i + j)) := Eq.trans rfl rfl
@[simp] theorem fAddL_ii (i j : Int) : fAddL (.int i) (.int j) = some (.int (i + j)) := Eq.trans rfl rfl
@[simp] theorem fAddL_ss (a b : Str) : fAddL (.str a) (.str b) = fAdd (.str a) (.str b) := Eq.trans rfl rfl
@[simp] theorem fIntT_i (i : Int) : fIntT [.int i] = some (.int i) := Eq.trans rfl rfl
@[simp] theorem fIntT_b (b : Bool) : fIntT [.bool b] = some (.int (if b then 1 else 0)) := Eq.trans rfl rfl
@[simp] theorem fSub_ii (i j : Int) : fSub (.int i) (.int j) = some (.int (i - j)) := Eq.trans rfl rfl
theorem fMul_ii {i j : Int} (h : okMul i j = true) : fMul (.int i) (.int j) = some (.int (i * j)) := by
  show (if okMul i j = true then some (PyData.int (i * j)) else none) = _
  rw [if_pos h]
theorem fFdv_ii {i j : Int} (h : okDiv j = true) : fFdv (.int i) (.int j) = some (.int (i.fdiv j)) := by
  show (if okDiv j = true then some (PyData.int (i.fdiv j)) else none) = _
  rw [if_pos h]
theorem fFdv_pos {i j : Int} (h : 0 < j) (l : j.natAbs.log2 < 9000) : fFdv (.int i) (.int j) = some (.int (i / j)) := by
  rw [fFdv_ii, Int.fdiv_eq_ediv_of_nonneg i (by omega)]
  unfold okDiv
  rw [Bool.and_eq_true, decide_eq_true_eq, decide_eq_true_eq]
  exact ⟨by omega, l⟩
theorem fMod_ii {i j : Int} (h : j ≠ 0) : fMod (.int i) (.int j) = some (.int (i.fmod j)) := by
  show (if j ≠ 0 then some (PyData.int (i.fmod j)) else none) = _
  rw [if_pos h]
theorem fMod_pos {i j : Int} (h : 0 < j) : fMod (.int i) (.int j) = some (.int (i % j)) := by
  rw [fMod_ii (by omega), Int.fmod_eq_emod_of_nonneg i (by omega)]
theorem fPow_ii {i j : Int} (h : 0 ≤ j ∧ j ≤ 1000000 ∧ i.natAbs < 2 ^ 64) : fPow (.int i) (.int j) = some (.int (i ^ j.toNat)) := by
  show (if 0 ≤ j ∧ j ≤ 1000000 ∧ i.natAbs < 2 ^ 64 then some (PyData.int (i ^ j.toNat)) else none) = _
  rw [if_pos h]
@[simp] theorem fNeg_i (i : Int) : fNeg (.int i) = some (.int (-i)) := Eq.trans rfl rfl
@[simp] theorem fLt_ii (i j : Int) : fLt (.int i) (.int j) = some (.bool (decide (i < j))) := Eq.trans rfl rfl
@[simp] theorem fLe_ii (i j : Int) : fLe (.int i) (.int j) = some (.bool (decide (i ≤ j))) := Eq.trans rfl rfl
@[simp] theorem fGt_ii (i j : Int) : fGt (.int i) (.int j) = some (.bool (decide (j < i))) := Eq.trans rfl rfl
@[simp] theorem fGe_ii (i j : Int) : fGe (.int i) (.int j) = some (.bool (decide (j ≤ i))) := Eq.trans rfl rfl
@[simp] theorem fEq_ii (i j : Int) : fEq (.int i) (.int j) = some (.bool (decide (i = j))) := Eq.trans rfl rfl
@[simp] theorem fEq_ss (i j : Str) : fEq (.str i) (.str j) = some (.bool (decide (i = j))) := Eq.trans rfl rfl
@[simp] theorem fEq_bb (i j : Bool) : fEq (.bool i) (.bool j) = some (.bool (decide (i = j))) := Eq.trans rfl rfl
@[simp] theorem fNe_ii (i j : Int) : fNe (.int i) (.int j) = some (.bool (!decide (i = j))) := Eq.trans rfl rfl
@[simp] theorem fNe_ss (i j : Str) : fNe (.str i) (.str j) = some (.bool (!decide (i = j))) := Eq.trans rfl rfl
@[simp] theorem fNe_bb (i j : Bool) : fNe (.bool i) (.bool j) = some (.bool (!decide (i = j))) := Eq.trans rfl rfl
@[simp] theorem truth_b (b : Bool) : truthD (.bool b) = some b := Eq.trans rfl rfl
@[simp] theorem fAbs_i (i : Int) : fAbs [.int i] = some (.int (if i < 0 then -i else i)) := Eq.trans rfl rfl
@[simp] theorem fLen_l (ds : List D) : fLen [.list ds] = some (.int ds.length) := Eq.trans rfl rfl
@[simp] theorem fLen_t (ds : List D) : fLen [.tuple ds] = some (.int ds.length) := Eq.trans rfl rfl
@[simp] theorem fMax_ii (i j : Int) : fMax [.int i, .int j] = some (.int (if j > i then j else i)) := Eq.trans rfl rfl
@[simp] theorem fMin_ii (i j : Int) : fMin [.int i, .int j] = some (.int (if j < i then j else i)) := Eq.trans rfl rfl
@[simp] theorem fInt_i (i : Int) : fInt [.int i] = some (.int i) := Eq.trans rfl rfl
@[simp] theorem fInt_b (b : Bool) : fInt [.bool b] = some (.int (if b then 1 else 0)) := Eq.trans rfl rfl
theorem fIx_t {ds : List D} {j : Nat} {d : D} (h : ds[j]? = some d) : fIx (.tuple ds) (.int (j : Int)) = some d := L2.atI_nat h
theorem fIx_l {ds : List D} {j : Nat} {d : D} (h : ds[j]? = some d) : fIx (.list ds) (.int (j : Int)) = some d := L2.atI_nat h
@[simp] theorem fIx_t0 (a : D) (r : List D) : fIx (.tuple (a :: r)) (.int 0) = some a := fIx_t (j := 0) rfl
@[simp] theorem fIx_t1 (a b : D) (r : List D) : fIx (.tuple (a :: b :: r)) (.int 1) = some b := fIx_t (j := 1) rfl
@[simp] theorem fIx_t2 (a b c : D) (r : List D) : fIx (.tuple (a :: b :: c :: r)) (.int 2) = some c := fIx_t (j := 2) rfl
@[simp] theorem dTup_1 (a : D) : dTup [a] = some (.tuple [a]) := Eq.trans rfl rfl
@[simp] theorem dTup_2 (a b : D) : dTup [a, b] = some (.tuple [a, b]) := Eq.trans rfl rfl
@[simp] theorem dTup_3 (a b c : D) : dTup [a, b, c] = some (.tuple [a, b, c]) := Eq.trans rfl rfl
@[simp] theorem isT_int_none  : isT "int" (.none) = some false := show L2.kitB "NoneType" "int" = some false by decide +kernel
@[simp] theorem isT_int_bool (b : Bool) : isT "int" (.bool b) = some true := show L2.kitB "bool" "int" = some true by decide +kernel
@[simp] theorem isT_int_int (i : Int) : isT "int" (.int i) = some true := show L2.kitB "int" "int" = some true by decide +kernel
@[simp] theorem isT_int_str (z : Str) : isT "int" (.str z) = some false := show L2.kitB "str" "int" = some false by decide +kernel
@[simp] theorem isT_int_list (ds : List D) : isT "int" (.list ds) = some false := show L2.kitB "list" "int" = some false by decide +kernel
@[simp] theorem isT_int_tuple (ds : List D) : isT "int" (.tuple ds) = some false := show L2.kitB "tuple" "int" = some false by decide +kernel
@[simp] theorem isT_bool_none  : isT "bool" (.none) = some false := show L2.kitB "NoneType" "bool" = some false by decide +kernel
@[simp] theorem isT_bool_bool (b : Bool) : isT "bool" (.bool b) = some true := show L2.kitB "bool" "bool" = some true by decide +kernel
@[simp] theorem isT_bool_int (i : Int) : isT "bool" (.int i) = some false := show L2.kitB "int" "bool" = some false by decide +kernel
@[simp] theorem isT_bool_str (z : Str) : isT "bool" (.str z) = some false := show L2.kitB "str" "bool" = some false by decide +kernel
@[simp] theorem isT_bool_list (ds : List D) : isT "bool" (.list ds) = some false := show L2.kitB "list" "bool" = some false by decide +kernel
@[simp] theorem isT_bool_tuple (ds : List D) : isT "bool" (.tuple ds) = some false := show L2.kitB "tuple" "bool" = some false by decide +kernel
@[simp] theorem isT_tuple_none  : isT "tuple" (.none) = some false := show L2.kitB "NoneType" "tuple" = some false by decide +kernel
@[simp] theorem isT_tuple_bool (b : Bool) : isT "tuple" (.bool b) = some false := show L2.kitB "bool" "tuple" = some false by decide +kernel
@[simp] theorem isT_tuple_int (i : Int) : isT "tuple" (.int i) = some false := show L2.kitB "int" "tuple" = some false by decide +kernel
@[simp] theorem isT_tuple_str (z : Str) : isT "tuple" (.str z) = some false := show L2.kitB "str" "tuple" = some false by decide +kernel
@[simp] theorem isT_tuple_list (ds : List D) : isT "tuple" (.list ds) = some false := show L2.kitB "list" "tuple" = some false by decide +kernel
@[simp] theorem isT_tuple_tuple (ds : List D) : isT "tuple" (.tuple ds) = some true := show L2.kitB "tuple" "tuple" = some true by decide +kernel
@[simp] theorem isT_str_none  : isT "str" (.none) = some false := show L2.kitB "NoneType" "str" = some false by decide +kernel
@[simp] theorem isT_str_bool (b : Bool) : isT "str" (.bool b) = some false := show L2.kitB "bool" "str" = some false by decide +kernel
@[simp] theorem isT_str_int (i : Int) : isT "str" (.int i) = some false := show L2.kitB "int" "str" = some false by decide +kernel
@[simp] theorem isT_str_str (z : Str) : isT "str" (.str z) = some true := show L2.kitB "str" "str" = some true by decide +kernel
@[simp] theorem isT_str_list (ds : List D) : isT "str" (.list ds) = some false := show L2.kitB "list" "str" = some false by decide +kernel
@[simp] theorem isT_str_tuple (ds : List D) : isT "str" (.tuple ds) = some false := show L2.kitB "tuple" "str" = some false by decide +kernel
@[simp] theorem isT_list_none  : isT "list" (.none) = some false := show L2.kitB "NoneType" "list" = some false by decide +kernel
@[simp] theorem isT_list_bool (b : Bool) : isT "list" (.bool b) = some false := show L2.kitB "bool" "list" = some false by decide +kernel
@[simp] theorem isT_list_int (i : Int) : isT "list" (.int i) = some false := show L2.kitB "int" "list" = some false by decide +kernel
@[simp] theorem isT_list_str (z : Str) : isT "list" (.str z) = some false := show L2.kitB "str" "list" = some false by decide +kernel
@[simp] theorem isT_list_list (ds : List D) : isT "list" (.list ds) = some true := show L2.kitB "list" "list" = some true by decide +kernel
@[simp] theorem isT_list_tuple (ds : List D) : isT "list" (.tuple ds) = some false := show L2.kitB "tuple" "list" = some false by decide +kernel
/-! loops -/
theorem loopF_inv {t : Tg} {b : S} (P : Ce → Prop) : ∀ (ds : List D) (g : Ce), P g → (∀ d ∈ ds, ∀ g, P g → ∃ g1 g2, t d g = some g1 ∧ (b g1 = .nx g2 ∨ b g1 = .ct g2) ∧ P g2) → ∃ g', loopF t b ds g = .nx g' ∧ P g'
  | [], g, p, _ => ⟨g, rfl, p⟩
  | d :: ds, g, p, h => by
    obtain ⟨g1, g2, e1, e2, p2⟩ := h d (List.mem_cons_self ..) g p
    obtain ⟨g', e3, p3⟩ := loopF_inv P ds g2 p2 fun d' hd => h d' (List.mem_cons_of_mem _ hd)
    refine ⟨g', ?_, p3⟩
    unfold loopF
    rw [e1]
    dsimp only
    rcases e2 with e2 | e2 <;> rw [e2] <;> exact e3
/-- the same with what is gone through -/
theorem loopF_ix {t : Tg} {b : S} (P : Nat → Ce → Prop) : ∀ (ds : List D) (k : Nat) (g : Ce), P k g → (∀ i d, ds[i]? = some d → ∀ g, P (k + i) g → ∃ g1 g2, t d g = some g1 ∧ (b g1 = .nx g2 ∨ b g1 = .ct g2) ∧ P (k + i + 1) g2) → ∃ g', loopF t b ds g = .nx g' ∧ P (k + ds.length) g'
  | [], k, g, p, _ => ⟨g, rfl, p⟩
  | d :: ds, k, g, p, h => by
    obtain ⟨g1, g2, e1, e2, p2⟩ := h 0 d (by simp) g p
    obtain ⟨g', e3, p3⟩ := loopF_ix P ds (k + 1) g2 p2 fun i d' hd g q => by
      have := h (i + 1) d' (by simpa using hd) g (by rw [show k + (i + 1) = k + 1 + i by omega]; exact q)
      rw [show k + (i + 1) + 1 = k + 1 + i + 1 by omega] at this
      exact this
    refine ⟨g', ?_, by rw [List.length_cons, show k + (ds.length + 1) = k + 1 + ds.length by omega]; exact p3⟩
    unfold loopF
    rw [e1]
    dsimp only
    rcases e2 with e2 | e2 <;> rw [e2] <;> exact e3
theorem loopF_cons {t : Tg} {b : S} {d : D} {ds : List D} {g g1 g2 : Ce} (ht : t d g = some g1) (hb : b g1 = .nx g2) : loopF t b (d :: ds) g = loopF t b ds g2 := by
  rw [loopF, ht]
  dsimp only
  rw [hb]
theorem loopF_ret {t : Tg} {b : S} {d : D} {ds : List D} {g g1 : Ce} {v : D} (ht : t d g = some g1) (hb : b g1 = .rt v) : loopF t b (d :: ds) g = .rt v := by
  rw [loopF, ht]
  dsimp only
  rw [hb]
theorem loopF_nil {t : Tg} {b : S} {g : Ce} : loopF t b [] g = .nx g := Eq.trans rfl rfl
theorem loopW_ap (t : Vw → R Bool) (b : S) (n : Nat) (g : Ce) : loopW t b (n + 1) g = (t (va g)).to g fun k => if k = true then (match b g with
      | .nx g2 => loopW t b n g2
      | .ct g2 => loopW t b n g2
      | .bk g2 => .nx g2
      | o => o) else .nx g := rfl
theorem mem_rngL {lo c : Int} {n : Nat} {d : D} (h : d ∈ rngL lo c n) : ∃ i : Nat, i < n ∧ d = .int (lo + (i : Int) * c) := by
  unfold rngL at h
  obtain ⟨i, hi, e⟩ := List.mem_map.mp h
  exact ⟨i, List.mem_range.mp hi, e.symm⟩
/-! a script's cut, a range by steps -/
theorem cut_all (ds : List D) (n : Nat) (h : ds.length ≤ n) : fSl (.list ds) none (some (n : Int)) = some (.list ds) := by
  have : cutD ds none (some (n : Int)) = ds := by
    unfold cutD
    rw [HT.sIx_nat, HT.sIx_none, Nat.min_eq_right h]
    simp
  show some (PyData.list (cutD ds none (some (n : Int)))) = _
  rw [this]
theorem cut_take (ds : List D) (n : Nat) : fSl (.list ds) none (some (n : Int)) = some (.list (ds.take n)) := by
  have : cutD ds none (some (n : Int)) = ds.take n := by
    unfold cutD
    rw [HT.sIx_nat, HT.sIx_none]
    simp
  show some (PyData.list (cutD ds none (some (n : Int)))) = _
  rw [this]
theorem rng3_0 (c : Int) (m : Nat) (hc : c ≠ 0 ∧ c.natAbs < 1073741824) (h : Builtin.Range.small 0 ((m : Int) + 1) c = true ∧ 0 ≤ Builtin.Range.rangeSize 0 ((m : Int) + 1) c) (h0 : 0 ≤ c) :
    ∃ xs, rng3 [.int 0, .int ((m : Int) + 1), .int c] = some xs ∧ ∀ d ∈ xs, ∃ k : Nat, d = .int (k : Int) := by
  refine ⟨rngL 0 c (Builtin.Range.rangeSize 0 ((m : Int) + 1) c).toNat, ?_, fun d hd => ?_⟩
  · show (if c ≠ 0 ∧ c.natAbs < 1073741824 ∧ Builtin.Range.small 0 ((m : Int) + 1) c = true ∧ 0 ≤ Builtin.Range.rangeSize 0 ((m : Int) + 1) c then some (rngL 0 c (Builtin.Range.rangeSize 0 ((m : Int) + 1) c).toNat) else none) = _
    rw [if_pos ⟨hc.1, hc.2, h.1, h.2⟩]
  · obtain ⟨i, _, e⟩ := mem_rngL hd
    exact ⟨i * c.toNat, by rw [e]; simp [Int.toNat_of_nonneg h0]⟩
theorem rng3_3 (m : Nat) (h : m ≤ 64) : ∃ xs, rng3 [.int 0, .int ((m : Int) + 1), .int 3] = some xs ∧ ∀ d ∈ xs, ∃ k : Nat, d = .int (k : Int) :=
  rng3_0 3 m (by decide) ((by decide +kernel : ∀ m : Nat, m ≤ 64 → Builtin.Range.small 0 ((m : Int) + 1) 3 = true ∧ 0 ≤ Builtin.Range.rangeSize 0 ((m : Int) + 1) 3) m h) (by decide)
theorem rng3_5 (m : Nat) (h : m ≤ 64) : ∃ xs, rng3 [.int 0, .int ((m : Int) + 1), .int 5] = some xs ∧ ∀ d ∈ xs, ∃ k : Nat, d = .int (k : Int) :=
  rng3_0 5 m (by decide) ((by decide +kernel : ∀ m : Nat, m ≤ 64 → Builtin.Range.small 0 ((m : Int) + 1) 5 = true ∧ 0 ≤ Builtin.Range.rangeSize 0 ((m : Int) + 1) 5) m h) (by decide)
theorem rng3_2 (m : Nat) (h : m ≤ 64) : ∃ xs, rng3 [.int 0, .int ((m : Int) + 1), .int 2] = some xs ∧ ∀ d ∈ xs, ∃ k : Nat, d = .int (k : Int) :=
  rng3_0 2 m (by decide) ((by decide +kernel : ∀ m : Nat, m ≤ 64 → Builtin.Range.small 0 ((m : Int) + 1) 2 = true ∧ 0 ≤ Builtin.Range.rangeSize 0 ((m : Int) + 1) 2) m h) (by decide)
theorem rng3_4 (m : Nat) (h : m ≤ 64) : ∃ xs, rng3 [.int 0, .int ((m : Int) + 1), .int 4] = some xs ∧ ∀ d ∈ xs, ∃ k : Nat, d = .int (k : Int) :=
  rng3_0 4 m (by decide) ((by decide +kernel : ∀ m : Nat, m ≤ 64 → Builtin.Range.small 0 ((m : Int) + 1) 4 = true ∧ 0 ≤ Builtin.Range.rangeSize 0 ((m : Int) + 1) 4) m h) (by decide)
/-! sizes -/
theorem log2_lt {i : Int} {a : Nat} (h : i.natAbs < 2 ^ a) (h0 : 0 < a) : i.natAbs.log2 < a := PySem.Flt.log2_lt_of h0 h
theorem okMul_bd {i j : Int} (a b : Nat) (ha : i.natAbs < 2 ^ a) (hb : j.natAbs < 2 ^ b) (h0 : 0 < a) (h1 : 0 < b) (h : a + b ≤ 100000000) : okMul i j = true := by
  have x := log2_lt ha h0
  have y := log2_lt hb h1
  unfold okMul
  rw [decide_eq_true_eq]
  omega
theorem okDiv_bd {j : Int} (a : Nat) (hj : j ≠ 0) (ha : j.natAbs < 2 ^ a) (h0 : 0 < a) (h : a ≤ 9000) : okDiv j = true := by
  have x := log2_lt ha h0
  unfold okDiv
  rw [Bool.and_eq_true, decide_eq_true_eq, decide_eq_true_eq]
  exact ⟨hj, by omega⟩
theorem natAbs_mul_lt {i j : Int} {a b : Nat} (ha : i.natAbs < a) (hb : j.natAbs < b) : (i * j).natAbs < a * b := by
  rw [Int.natAbs_mul]
  exact Nat.mul_lt_mul'' ha hb
end MI
set_option Elab.async false
set_option linter.all false
set_option maxRecDepth 100000
set_option maxHeartbeats 4000000
/-! Tx: texts as lists of signs. -/
namespace Tx
open PySem MI PySem.NumText
/-- a text by its signs -/
def S (cs : List Nat) : Str := ⟨cs.toArray⟩
theorem eta (x : Str) : x = S x.cps.toList := by cases x; simp [S]
theorem has (x : Str) : ∃ cs, x = S cs := ⟨_, eta x⟩
@[simp] theorem S_cps (cs : List Nat) : (S cs).cps.toList = cs := by simp [S]
@[simp] theorem S_len (cs : List Nat) : (S cs).length = cs.length := by simp [S, Str.length]
@[simp] theorem S_inj {a b : List Nat} : S a = S b ↔ a = b := ⟨fun h => by rw [← S_cps a, h, S_cps], fun h => by rw [h]⟩
@[simp] theorem S_app (a b : List Nat) : S a ++ S b = S (a ++ b) := Str.ext' (by show a.toArray ++ b.toArray = (a ++ b).toArray; simp)
theorem S_one (c : Nat) : (⟨#[c]⟩ : Str) = S [c] := rfl
@[simp] theorem l_empty : ("" : Str) = S [] := by decide +kernel
@[simp] theorem l_minus : ("-" : Str) = S [45] := by decide +kernel
@[simp] theorem l_slash : ("/" : Str) = S [47] := by decide +kernel
@[simp] theorem l_zero : ("0" : Str) = S [48] := by decide +kernel
@[simp] theorem l_m0 : ("-0" : Str) = S [45, 48] := by decide +kernel
@[simp] theorem l_figs : ("0123456789" : Str) = S [48, 49, 50, 51, 52, 53, 54, 55, 56, 57] := by decide +kernel
theorem add_ss {a b : List Nat} (h : a.length + b.length ≤ most) : fAdd (.str (S a)) (.str (S b)) = some (.str (S (a ++ b))) := by
  show (if (S a).length + (S b).length ≤ most then some (PyData.str (S a ++ S b)) else none) = _
  rw [if_pos (by simpa using h), S_app]
theorem len_s {a : List Nat} (h : a.length ≤ most) : fLen [.str (S a)] = some (.int a.length) := by
  show (if (S a).length ≤ most then some (PyData.int (S a).length) else none) = _
  rw [S_len, if_pos h]
theorem ix_s {a : List Nat} (h : a.length ≤ most) {k c : Nat} (hc : a[k]? = some c) : fIx (.str (S a)) (.int (k : Int)) = some (.str (S [c])) := by
  show (if (S a).length ≤ most then (L2.atI (S a).cps.toList (k : Int)).map fun c => PyData.str ⟨#[c]⟩ else none) = _
  rw [S_len, if_pos h, S_cps, L2.atI_nat hc]
  rfl
theorem ix_0 {c : Nat} {a : List Nat} (h : (c :: a).length ≤ most) : fIx (.str (S (c :: a))) (.int 0) = some (.str (S [c])) := ix_s (k := 0) h rfl
theorem sl_to (a : List Nat) (n : Nat) : Txt.slice (S a) none (some (n : Int)) = S (a.take n) := by
  by_cases h : n ≤ a.length
  · show StrLaws.sliceText (S a) none (some (n : Int)) = _
    rw [StrLaws.sliceText_to ⟨by omega, by simp; omega⟩]
    simp [S]
  · rw [PyProof.Rows.slice_to_beyond (by simp; omega)]
    show StrLaws.sliceText (S a) none (some ((S a).length : Int)) = _
    rw [StrLaws.sliceText_to ⟨by omega, by simp⟩]
    rw [S_cps, S_len, List.drop_zero, Int.sub_zero, Int.toNat_natCast, List.take_length, List.take_of_length_le (by omega)]
    rfl
theorem sl_from (a : List Nat) (n : Nat) : Txt.slice (S a) (some (n : Int)) none = S (a.drop n) := by
  by_cases h : n ≤ a.length
  · show StrLaws.sliceText (S a) (some (n : Int)) none = _
    rw [StrLaws.sliceText_from ⟨by omega, by rw [S_cps]; omega⟩]
    rw [S_cps, Int.toNat_natCast, List.take_of_length_le (by rw [List.length_drop]; omega)]
    rfl
  · rw [PyProof.Rows.slice_from_beyond (by simp; omega), List.drop_eq_nil_of_le (by omega)]
    rfl
theorem sl_mid (a : List Nat) (n m : Nat) (h : n ≤ m) (h2 : m ≤ a.length) : Txt.slice (S a) (some (n : Int)) (some (m : Int)) = S ((a.drop n).take (m - n)) := by
  show StrLaws.sliceText (S a) (some (n : Int)) (some (m : Int)) = _
  rw [StrLaws.sliceText_nat _ h (by simpa using h2), S_cps]
  rfl
theorem fsl_to {a : List Nat} (h : a.length ≤ most) (n : Nat) : fSl (.str (S a)) none (some (n : Int)) = some (.str (S (a.take n))) := by
  show (if (S a).length ≤ most then some (PyData.str (Txt.slice (S a) none (some (n : Int)))) else none) = _
  rw [S_len, if_pos h, sl_to]
theorem fsl_from {a : List Nat} (h : a.length ≤ most) (n : Nat) : fSl (.str (S a)) (some (n : Int)) none = some (.str (S (a.drop n))) := by
  show (if (S a).length ≤ most then some (PyData.str (Txt.slice (S a) (some (n : Int)) none)) else none) = _
  rw [S_len, if_pos h, sl_from]
theorem fsl_mid {a : List Nat} (h : a.length ≤ most) (n m : Nat) (h1 : n ≤ m) (h2 : m ≤ a.length) : fSl (.str (S a)) (some (n : Int)) (some (m : Int)) = some (.str (S ((a.drop n).take (m - n)))) := by
  show (if (S a).length ≤ most then some (PyData.str (Txt.slice (S a) (some (n : Int)) (some (m : Int)))) else none) = _
  rw [S_len, if_pos h, sl_mid a n m h1 h2]
theorem fsl_to1 {a : List Nat} (h : a.length ≤ most) : fSl (.str (S a)) none (some 1) = some (.str (S (a.take 1))) := fsl_to h 1
theorem fsl_from1 {a : List Nat} (h : a.length ≤ most) : fSl (.str (S a)) (some 1) none = some (.str (S (a.drop 1))) := fsl_from h 1
/-! one sign among others -/
theorem at_one (a : List Nat) (c i : Nat) : StrLaws.At (S a) (S [c]) (S a).length i ↔ a[i]? = some c := by
  unfold StrLaws.At
  rw [StrLaws.subAt_eq]
  simp only [S_len, S_cps, List.length_singleton, beq_iff_eq]
  constructor
  · rintro ⟨h1, h2⟩
    have := congrArg (fun l => l[0]?) h2
    simpa using this
  · intro h
    have hl := (List.getElem?_eq_some_iff.mp h)
    obtain ⟨l, e⟩ := hl
    refine ⟨by omega, ?_⟩
    rw [List.drop_eq_getElem_cons l, e]
    rfl
theorem found_one (a : List Nat) (c : Nat) : (!(Builtin.Str.occurrences (S a) (S [c]) 0 (S a).length 1).isEmpty) = decide (c ∈ a) := by
  rw [Bool.eq_iff_iff, StrLaws.found_iff, decide_eq_true_eq]
  constructor
  · rintro ⟨i, h⟩
    have := (at_one a c i).mp h
    exact List.mem_of_getElem? this
  · intro h
    obtain ⟨i, hi⟩ := List.getElem?_of_mem h
    exact ⟨i, (at_one a c i).mpr hi⟩
theorem in_one (neg : Bool) (a : List Nat) (c : Nat) : fIn neg (.str (S [c])) (.str (S a)) = some (.bool (if neg = true then !decide (c ∈ a) else decide (c ∈ a))) := by
  rw [← found_one]
  rfl
def dig (c : Nat) : Bool := decide (48 ≤ c) && decide (c ≤ 57)
theorem in_figs (c : Nat) : fIn true (.str (S [c])) (.str (S [48, 49, 50, 51, 52, 53, 54, 55, 56, 57])) = some (.bool (!dig c)) := by
  rw [in_one, if_pos rfl]
  have : (c ∈ [48, 49, 50, 51, 52, 53, 54, 55, 56, 57]) ↔ (48 ≤ c ∧ c ≤ 57) := by simp; omega
  unfold dig
  rw [decide_eq_decide.mpr this, Bool.decide_and]
/-! what is ahead of a sign, and behind -/
def cut (c : Nat) : List Nat → List Nat × Option (List Nat)
  | [] => ([], none)
  | d :: r => if d = c then ([], some r) else (d :: (cut c r).1, (cut c r).2)
theorem cut_none {c : Nat} : ∀ {a : List Nat}, c ∉ a → cut c a = (a, none)
  | [], _ => rfl
  | d :: r, h => by
    simp only [List.mem_cons, not_or] at h
    unfold cut
    rw [if_neg (fun e => h.1 e.symm), cut_none h.2]
theorem cut_at {c : Nat} : ∀ {a : List Nat} {i : Nat}, a[i]? = some c → (∀ k, k < i → a[k]? ≠ some c) → cut c a = (a.take i, some (a.drop (i + 1)))
  | [], i, h, _ => by simp at h
  | d :: r, 0, h, _ => by
    simp at h
    unfold cut
    rw [if_pos h]
    rfl
  | d :: r, i + 1, h, q => by
    have d0 : d ≠ c := fun e => q 0 (by omega) (by simp [e])
    unfold cut
    rw [if_neg d0, cut_at (a := r) (i := i) (by simpa using h) fun k hk => by have := q (k + 1) (by omega); simpa using this]
    rfl
theorem cut_app {c : Nat} {a b : List Nat} (h : c ∉ a) : cut c (a ++ c :: b) = (a, some b) := by
  induction a with
  | nil => show cut c (c :: b) = _; unfold cut; rw [if_pos rfl]
  | cons d r ih =>
    simp only [List.mem_cons, not_or] at h
    show cut c (d :: (r ++ c :: b)) = _
    unfold cut
    rw [if_neg (fun e => h.1 e.symm), ih h.2]
theorem cut_len {c : Nat} : ∀ (a : List Nat), (cut c a).1.length ≤ a.length ∧ ∀ b, (cut c a).2 = some b → (cut c a).1.length + b.length + 1 = a.length
  | [] => ⟨Nat.le_refl _, fun b h => by cases h⟩
  | d :: r => by
    have ih := cut_len (c := c) r
    unfold cut
    split
    · exact ⟨Nat.zero_le _, fun b h => by cases h; simp⟩
    · refine ⟨by simp; exact ih.1, fun b h => ?_⟩
      have := ih.2 b h
      simp only [List.length_cons]
      omega
theorem part_one (a : List Nat) (c : Nat) : Txt.partition (S a) (S [c]) = (S (cut c a).1, match (cut c a).2 with
    | some b => (S [c], S b)
    | none => (S [], S [])) := by
  unfold Txt.partition
  rcases StrLaws.occ_head (S a) (S [c]) 1 (Nat.le_refl 1) with ⟨h0, hn⟩ | ⟨i, r, h0, hi, hn⟩
  · have : c ∉ a := fun m => by
      obtain ⟨i, q⟩ := List.getElem?_of_mem m
      exact hn i ((at_one a c i).mpr q)
    rw [h0, cut_none this]
    rfl
  · have ai := (at_one a c i).mp hi
    rw [h0, cut_at ai fun k hk q => hn k hk ((at_one a c k).mpr q)]
    have e (x y : Nat) : Builtin.Str.strSub (S a) x y = S ((a.drop x).take (y - x)) := by
      rw [eta (Builtin.Str.strSub (S a) x y), StrLaws.strSub_toList, S_cps]
    show (Builtin.Str.strSub (S a) 0 i, S [c], Builtin.Str.strSub (S a) (i + (S [c]).length) (S a).length) = _
    rw [e, e]
    simp
    rw [List.take_of_length_le (by simp)]
theorem f_part {a : List Nat} (h : a.length ≤ most) (c : Nat) : fPartition (.str (S a)) [.str (S [c])] = some (.tuple [.str (S (cut c a).1), .str (S (match (cut c a).2 with
    | some _ => [c]
    | none => [])), .str (S (match (cut c a).2 with
    | some b => b
    | none => []))]) := by
  show (if ((S [c]).length == 0) = false ∧ (S a).length ≤ most then some (PyData.tuple [.str (Txt.partition (S a) (S [c])).1, .str (Txt.partition (S a) (S [c])).2.1, .str (Txt.partition (S a) (S [c])).2.2]) else none) = _
  rw [if_pos ⟨by simp, by simpa using h⟩, part_one]
  cases (cut c a).2 <;> rfl
/-! figures -/
theorem dig_iff {c : Nat} : dig c = true ↔ 48 ≤ c ∧ c ≤ 57 := by unfold dig; simp
theorem allD {a : List Nat} (h : a.all dig = true) : AllDigits a := fun c hc => dig_iff.mp (List.all_eq_true.mp h c hc)
theorem int_of {a : List Nat} (h : a.all dig = true) (h1 : a ≠ []) (h2 : a.length ≤ 640) : fIntT [.str (S a)] = some (.int (digitsVal a : Nat)) := by
  show (if (S a).length ≤ 640 then (intText? (S a)).map PyData.int else none) = _
  rw [S_len, if_pos h2, intText_digits (by rw [S_cps]; exact allD h) (by rw [S_cps]; exact h1) (by simp; omega), S_cps]
  rfl
/-- a whole number's figures -/
def dg (n : Nat) : List Nat := (Nat.toDigits 10 n).map Char.toNat
theorem dgc : ∀ d : Nat, d < 10 → (Nat.digitChar d).toNat = 48 + d := by decide
theorem dg_lt {n : Nat} (h : n < 10) : dg n = [48 + n] := by
  unfold dg
  rw [Nat.toDigits_of_lt_base h, List.map_singleton, dgc n h]
theorem dg_snoc {n d : Nat} (h : 0 < n) (hd : d < 10) : dg (10 * n + d) = dg n ++ [48 + d] := by
  unfold dg
  rw [← Nat.toDigits_append_toDigits (by decide) h hd, List.map_append, Nat.toDigits_of_lt_base hd, List.map_singleton, dgc d hd]
theorem dg_ind {P : Nat → Prop} (h0 : ∀ n, n < 10 → P n) (h1 : ∀ n d, 0 < n → d < 10 → P n → P (10 * n + d)) (n : Nat) : P n := by
  induction n using Nat.strongRecOn with
  | _ n ih =>
    by_cases c : n < 10
    · exact h0 n c
    · have := h1 (n / 10) (n % 10) (by omega) (by omega) (ih (n / 10) (by omega))
      rwa [show 10 * (n / 10) + n % 10 = n by omega] at this
theorem dg_all (n : Nat) : (dg n).all dig = true := dg_ind (P := fun n => (dg n).all dig = true) (fun n h => by rw [dg_lt h]; simp [dig]; omega) (fun n d h hd ih => by rw [dg_snoc h hd, List.all_append, ih]; simp [dig]; omega) n
theorem dg_val (n : Nat) : digitsVal (dg n) = n := dg_ind (P := fun n => digitsVal (dg n) = n) (fun n h => by rw [dg_lt h]; simp [digitsVal]) (fun n d h hd ih => by rw [dg_snoc h hd, digitsVal_snoc, ih]; omega) n
theorem dg_ne (n : Nat) : dg n ≠ [] := dg_ind (P := fun n => dg n ≠ []) (fun n h => by rw [dg_lt h]; simp) (fun n d h hd ih => by rw [dg_snoc h hd]; simp) n
theorem dg_head {n : Nat} (h : 0 < n) : ∃ c r, dg n = c :: r ∧ 49 ≤ c ∧ c ≤ 57 := dg_ind (P := fun n => 0 < n → ∃ c r, dg n = c :: r ∧ 49 ≤ c ∧ c ≤ 57) (fun n h z => ⟨48 + n, [], dg_lt h, by omega, by omega⟩) (fun n d h hd ih _ => by
  obtain ⟨c, r, e, q⟩ := ih h
  exact ⟨c, r ++ [48 + d], by rw [dg_snoc h hd, e]; rfl, q⟩) n h
theorem dg_len {n k : Nat} (h : n < 10 ^ (k + 1)) : (dg n).length ≤ k + 1 := by
  induction k generalizing n with
  | zero => rw [dg_lt (by simpa using h)]; simp
  | succ k ih =>
    by_cases c : n < 10
    · rw [dg_lt c]; simp
    · have e : n = 10 * (n / 10) + n % 10 := by omega
      rw [e, dg_snoc (by omega) (by omega), List.length_append, List.length_singleton]
      have := ih (n := n / 10) (by rw [Nat.pow_succ] at h; omega)
      omega
theorem val_lt0 : ∀ (a : List Nat) (x : Nat), a.all dig = true → a.foldl (fun acc c => acc * 10 + (c - 48)) x < (x + 1) * 10 ^ a.length
  | [], x, _ => by simp
  | c :: a, x, h => by
    simp only [List.all_cons, Bool.and_eq_true, dig_iff] at h
    have := val_lt0 a (x * 10 + (c - 48)) h.2
    rw [List.foldl_cons, List.length_cons, Nat.pow_succ]
    refine Nat.lt_of_lt_of_le this ?_
    rw [Nat.mul_comm (10 ^ a.length) 10, ← Nat.mul_assoc]
    exact Nat.mul_le_mul_right _ (by omega)
theorem val_lt (a : List Nat) (h : a.all dig = true) : digitsVal a < 10 ^ a.length := by
  have := val_lt0 a 0 h
  simp only [Nat.zero_add, Nat.one_mul] at this
  exact this
theorem str_nat (n : Nat) : (Str.ofString (toString (n : Int))) = S (dg n) := by
  rw [Str.ofString_eq_toList]
  show Str.mk (((Nat.repr n).toList.map Char.toNat).toArray) = _
  unfold Nat.repr
  rw [String.toList_ofList]
  rfl
end Tx
set_option Elab.async false
set_option linter.all false
set_option maxRecDepth 100000
set_option maxHeartbeats 4000000
/-! Num: what the defs about numbers tell. -/
namespace Num
open PySem MI
@[simp] theorem whole_int (fu : Nat) (i : Int) : Pg.f_p_is_whole fu [.int i] = .ok (.bool true) := by
  simp [Pg.f_p_is_whole, Pg.s_p_is_whole, run_eq]
@[simp] theorem whole_bool (fu : Nat) (i : Bool) : Pg.f_p_is_whole fu [.bool i] = .ok (.bool false) := by
  simp [Pg.f_p_is_whole, Pg.s_p_is_whole, run_eq]
@[simp] theorem whole_none (fu : Nat) : Pg.f_p_is_whole fu [.none] = .ok (.bool false) := by
  simp [Pg.f_p_is_whole, Pg.s_p_is_whole, run_eq]
@[simp] theorem whole_str (fu : Nat) (z : Str) : Pg.f_p_is_whole fu [.str z] = .ok (.bool false) := by
  simp [Pg.f_p_is_whole, Pg.s_p_is_whole, run_eq]
@[simp] theorem whole_list (fu : Nat) (z : List MI.D) : Pg.f_p_is_whole fu [.list z] = .ok (.bool false) := by
  simp [Pg.f_p_is_whole, Pg.s_p_is_whole, run_eq]
@[simp] theorem whole_tuple (fu : Nat) (z : List MI.D) : Pg.f_p_is_whole fu [.tuple z] = .ok (.bool false) := by
  simp [Pg.f_p_is_whole, Pg.s_p_is_whole, run_eq]
theorem natAbs_fmod_lt (a b : Int) (h : b ≠ 0) : (a.fmod b).natAbs < b.natAbs := by
  rw [Int.fmod_eq_emod]
  have h1 := Int.emod_nonneg a h
  have h2 := Int.emod_lt a h
  split
  · omega
  · rename_i hn
    have h3 : a % b ≠ 0 := fun e => hn (.inr (Int.dvd_of_emod_eq_zero e))
    omega
theorem gcd_fmod (a b : Int) : Int.gcd b (a.fmod b) = Int.gcd a b := by
  have e : a.fmod b = a - b * (a.fdiv b) := by
    have := Int.mul_fdiv_add_fmod a b
    omega
  rw [e, Int.gcd_comm a b]
  apply Nat.dvd_antisymm
  · apply Int.dvd_gcd
    · exact Int.gcd_dvd_left _ _
    · have h1 : (Int.gcd b (a - b * a.fdiv b) : Int) ∣ a - b * a.fdiv b := Int.gcd_dvd_right _ _
      have h2 : (Int.gcd b (a - b * a.fdiv b) : Int) ∣ b * a.fdiv b := Int.dvd_trans (Int.gcd_dvd_left _ _) (Int.dvd_mul_right ..)
      have := Int.dvd_add h1 h2
      rwa [Int.sub_add_cancel] at this
  · apply Int.dvd_gcd
    · exact Int.gcd_dvd_left _ _
    · exact Int.dvd_sub (Int.gcd_dvd_right _ _) (Int.dvd_trans (Int.gcd_dvd_left _ _) (Int.dvd_mul_right ..))
theorem div_loop (fu : Nat) : ∀ (n : Nat) (a b : Int), b.natAbs < n → ∃ a' : Int, loopW (mTru (mBin fNe (mVar 1) (mC (.int 0)))) (Pg.b_p_divisor_1 fu) n [.dat (.int a), .dat (.int b)] = .nx [.dat (.int a'), .dat (.int 0)] ∧ a'.natAbs = Int.gcd a b
  | 0, a, b, h => by omega
  | n + 1, a, b, h => by
    rw [loopW_ap]
    by_cases e : b = 0
    · subst e
      refine ⟨a, by simp, by simp⟩
    · obtain ⟨a', h1, h2⟩ := div_loop fu n b (a.fmod b) (by have := natAbs_fmod_lt a b e; omega)
      refine ⟨a', ?_, by rw [h2, gcd_fmod]⟩
      simp [Pg.b_p_divisor_1, e, fMod_ii e]
      exact h1
theorem divisor (fu : Nat) (a b : Int) (h : b.natAbs < fu) : Pg.f_p_divisor fu [.int a, .int b] = .ok (.int (Int.gcd a b)) := by
  obtain ⟨a', h1, h2⟩ := div_loop fu fu a b h
  simp [Pg.f_p_divisor, Pg.s_p_divisor, run_eq, h1]
  omega
/-- both within so many bits -/
def FU : Nat := 2 ^ 4000
theorem fu_lt {a b : Nat} (h : a < 2 ^ b) (hb : b ≤ 4000) : a < FU := Nat.lt_of_lt_of_le h (Nat.pow_le_pow_right (by decide) hb)
def Sm (i : Int) : Prop := i.natAbs < FU
theorem sm_gcd {a b : Int} (h : Sm b) (hb : b ≠ 0) : Int.gcd a b ≠ 0 ∧ ((Int.gcd a b : Nat) : Int).natAbs < FU := by
  refine ⟨fun e => hb (Int.gcd_eq_zero_iff.mp e).2, ?_⟩
  have : Int.gcd a b ≤ b.natAbs := Nat.le_of_dvd (by omega) (Int.natAbs_dvd_natAbs.mpr (Int.gcd_dvd_right a b) |> fun x => by simpa using x)
  unfold Sm at h
  simp
  omega
theorem lowest (fu : Nat) (top bottom : Int) (hb : bottom ≠ 0) (h2 : Sm bottom) (hfu : FU ≤ fu) :
    ∃ t b : Int, Pg.f_p_lowest fu [.int top, .int bottom] = .ok (.tuple [.int t, .int b]) ∧ 0 < b ∧ Int.gcd t b = 1 ∧ t * bottom = top * b ∧ b.natAbs ≤ bottom.natAbs ∧ t.natAbs ≤ top.natAbs := by
  obtain ⟨g0, gs⟩ := sm_gcd (a := top) h2 hb
  have hd := divisor fu top bottom (Nat.lt_of_lt_of_le h2 hfu)
  obtain ⟨q, hq⟩ : ((Int.gcd top bottom : Nat) : Int) ∣ top := Int.gcd_dvd_left _ _
  obtain ⟨r, hr⟩ : ((Int.gcd top bottom : Nat) : Int) ∣ bottom := Int.gcd_dvd_right _ _
  have g1 : 0 < ((Int.gcd top bottom : Nat) : Int) := by omega
  have hco : Int.gcd q r = 1 := by
    have e : Int.gcd (((Int.gcd top bottom : Nat) : Int) * q) (((Int.gcd top bottom : Nat) : Int) * r) = Int.gcd top bottom := by rw [← hq, ← hr]
    rw [Int.gcd_mul_left, Int.natAbs_natCast] at e
    exact Nat.eq_of_mul_eq_mul_left (Nat.pos_of_ne_zero g0) (e.trans (Nat.mul_one _).symm)
  generalize hg : ((Int.gcd top bottom : Nat) : Int) = g at *
  have rle : r.natAbs ≤ bottom.natAbs := by
    rw [hr, Int.natAbs_mul]
    exact Nat.le_mul_of_pos_left _ (by omega)
  have qle : q.natAbs ≤ top.natAbs := by
    rw [hq, Int.natAbs_mul]
    exact Nat.le_mul_of_pos_left _ (by omega)
  by_cases c : bottom < 0
  · have r0 : r < 0 := by
      rcases (by omega : r < 0 ∨ 0 ≤ r) with h | h
      · exact h
      · have := Int.mul_nonneg (Int.le_of_lt g1) h
        omega
    have ok : okDiv (0 - g) = true := okDiv_bd 4000 (by omega) (by show _ < FU; omega) (by decide) (by decide)
    have e1 : top.fdiv (0 - g) = -q := by
      rw [show top = (0 - g) * (-q) by rw [hq, Int.zero_sub, Int.neg_mul_neg], Int.mul_fdiv_cancel_left _ (by omega)]
    have e2 : bottom.fdiv (0 - g) = -r := by
      rw [show bottom = (0 - g) * (-r) by rw [hr, Int.zero_sub, Int.neg_mul_neg], Int.mul_fdiv_cancel_left _ (by omega)]
    refine ⟨-q, -r, ?_, by omega, by simpa using hco, ?_, by simpa using rle, by simpa using qle⟩
    · have m1 := fFdv_ii (i := top) ok
      have m2 := fFdv_ii (i := bottom) ok
      rw [e1] at m1
      rw [e2] at m2
      rw [Int.zero_sub] at m1 m2
      simp [Pg.f_p_lowest, Pg.s_p_lowest, run_eq, hd, hg, c, m1, m2]
    · rw [hq, hr, Int.neg_mul, Int.mul_neg]
      congr 1
      ac_rfl
  · have r0 : 0 < r := by
      rcases (by omega : 0 < r ∨ r ≤ 0) with h | h
      · exact h
      · have := Int.mul_nonpos_of_nonneg_of_nonpos (Int.le_of_lt g1) h
        omega
    have ok : okDiv g = true := okDiv_bd 4000 (by omega) (by show _ < FU; omega) (by decide) (by decide)
    have e1 : top.fdiv g = q := by
      rw [show top = g * q from hq, Int.mul_fdiv_cancel_left _ (by omega)]
    have e2 : bottom.fdiv g = r := by
      rw [show bottom = g * r from hr, Int.mul_fdiv_cancel_left _ (by omega)]
    refine ⟨q, r, ?_, r0, hco, ?_, rle, qle⟩
    · have m1 := fFdv_ii (i := top) ok
      have m2 := fFdv_ii (i := bottom) ok
      rw [e1] at m1
      rw [e2] at m2
      simp [Pg.f_p_lowest, Pg.s_p_lowest, run_eq, hd, hg, c, m1, m2]
    · rw [hq, hr]
      ac_rfl
theorem number (fu : Nat) (top bottom : Int) (hb : bottom ≠ 0) (h2 : Sm bottom) (hfu : FU ≤ fu) :
    ∃ t b : Int, Pg.f_p_number fu [.int top, .int bottom] = .ok (.tuple [.int t, .int b]) ∧ 0 < b ∧ Int.gcd t b = 1 ∧ t * bottom = top * b ∧ b.natAbs ≤ bottom.natAbs ∧ t.natAbs ≤ top.natAbs := by
  obtain ⟨t, b, e, h⟩ := lowest fu top bottom hb h2 hfu
  exact ⟨t, b, by simp [Pg.f_p_number, Pg.s_p_number, run_eq, hb, e], h⟩
theorem number_0 (fu : Nat) (top : Int) : Pg.f_p_number fu [.int top, .int 0] = .exc "NoNumber" none := by
  simp [Pg.f_p_number, Pg.s_p_number, run_eq, flatO]
theorem made (fu : Nat) (t b top bottom : Int) (hb : 0 < b) (h2 : b.natAbs < fu) (hg : Int.gcd t b = 1) (e : t * bottom = top * b) (m1 : okMul t bottom = true) (m2 : okMul top b = true) :
    Pg.f_law_made fu [.tuple [.int t, .int b], .int top, .int bottom] = .ok (.bool true) := by
  have hd := divisor fu t b h2
  have hb' : ¬ b < 1 := by omega
  simp [Pg.f_law_made, Pg.s_law_made, run_eq, hd, hg, hb', fMul_ii m1, fMul_ii m2, e]
theorem lowest_made (fu : Nat) (hfu : FU ≤ fu) {top bottom : Int} (hb : bottom ≠ 0) (h1 : top.natAbs < 2 ^ 1000) (h2 : bottom.natAbs < 2 ^ 1000) :
    ∃ d, Pg.f_p_lowest fu [.int top, .int bottom] = .ok d ∧ Pg.f_law_made fu [d, .int top, .int bottom] = .ok (.bool true) := by
  obtain ⟨t, d, q1, q2, q3, q4, q5, q6⟩ := lowest fu top bottom hb (fu_lt h2 (by decide)) hfu
  have td : d.natAbs < 2 ^ 1000 := Nat.lt_of_le_of_lt q5 h2
  have tt : t.natAbs < 2 ^ 1000 := Nat.lt_of_le_of_lt q6 h1
  exact ⟨_, q1, made fu t d _ _ q2 (Nat.lt_of_lt_of_le (fu_lt td (by decide)) hfu) q3 q4 (okMul_bd 1000 1000 tt h2 (by decide) (by decide) (by decide)) (okMul_bd 1000 1000 h1 td (by decide) (by decide) (by decide))⟩
theorem number_made (fu : Nat) (hfu : FU ≤ fu) {top bottom : Int} (hb : bottom ≠ 0) (h1 : top.natAbs < 2 ^ 1000) (h2 : bottom.natAbs < 2 ^ 1000) :
    ∃ d, Pg.f_p_number fu [.int top, .int bottom] = .ok d ∧ Pg.f_law_made fu [d, .int top, .int bottom] = .ok (.bool true) := by
  obtain ⟨t, d, q1, q2, q3, q4, q5, q6⟩ := number fu top bottom hb (fu_lt h2 (by decide)) hfu
  have td : d.natAbs < 2 ^ 1000 := Nat.lt_of_le_of_lt q5 h2
  have tt : t.natAbs < 2 ^ 1000 := Nat.lt_of_le_of_lt q6 h1
  exact ⟨_, q1, made fu t d _ _ q2 (Nat.lt_of_lt_of_le (fu_lt td (by decide)) hfu) q3 q4 (okMul_bd 1000 1000 tt h2 (by decide) (by decide) (by decide)) (okMul_bd 1000 1000 h1 td (by decide) (by decide) (by decide))⟩
theorem cell_at (fu : Nat) (ns : List Int) (k : Nat) : Pg.f_law_cell_at fu [.list (ns.map .int), .int (k : Int)] = .ok (.int (ns.getD k 0)) := by
  by_cases h : k < ns.length
  · have e : (ns.map PyData.int)[k]? = some (.int (ns.getD k 0)) := by
      rw [List.getElem?_map, List.getElem?_eq_getElem h]
      simp [List.getD, List.getElem?_eq_getElem h]
    simp [Pg.f_law_cell_at, Pg.s_law_cell_at, run_eq, h, fIx_l e]
  · simp [Pg.f_law_cell_at, Pg.s_law_cell_at, run_eq, h, List.getD, List.getElem?_eq_none (show ns.length ≤ k by omega)]
theorem cell_at' (fu : Nat) (ns : List Int) {z : Int} (h : 0 ≤ z) : Pg.f_law_cell_at fu [.list (ns.map .int), .int z] = .ok (.int (ns.getD z.toNat 0)) := by
  have := cell_at fu ns z.toNat
  rwa [Int.toNat_of_nonneg h] at this
theorem mod2 (i : Int) : i % 2 = 0 ∨ i % 2 = 1 := by omega
/-- a number of either sign, below a bound -/
theorem signed (fu : Nat) (cell most : Int) (hm : 0 < most) : ∃ r : Int, Pg.f_law_signed fu [.int cell, .int most] = .ok (.int r) ∧ r.natAbs < most.natAbs := by
  have h1 := fFdv_pos (i := cell) (j := 2) (by decide) (by decide +kernel)
  have h2 := fMod_pos (i := cell / 2) hm
  have h3 := fMod_pos (i := cell) (j := 2) (by decide)
  have b1 := Int.emod_nonneg (cell / 2) (show most ≠ 0 by omega)
  have b2 := Int.emod_lt_of_pos (cell / 2) hm
  rcases mod2 cell with c | c
  · exact ⟨cell / 2 % most, by simp [Pg.f_law_signed, Pg.s_law_signed, run_eq, h1, h2, h3, c], by omega⟩
  · exact ⟨-(cell / 2 % most), by simp [Pg.f_law_signed, Pg.s_law_signed, run_eq, h1, h2, h3, c], by omega⟩
/-- a drawn number in lowest terms -/
theorem law_number (fu : Nat) (hfu : FU ≤ fu) (above below : Int) : ∃ t b : Int, Pg.f_law_number fu [.int above, .int below] = .ok (.tuple [.int t, .int b]) ∧ 0 < b ∧ Int.gcd t b = 1 ∧ t.natAbs < 2 ^ 200 ∧ b.natAbs < 2 ^ 200 := by
  have p60 : fPow (.int 10) (.int 60) = some (.int 1000000000000000000000000000000000000000000000000000000000000) := fPow_ii (by decide)
  have d2 := fFdv_pos (i := above) (j := 2) (by decide) (by decide +kernel)
  have m2 := fMod_pos (i := above) (j := 2) (by decide)
  have m60 := fMod_pos (i := above / 2) (j := 1000000000000000000000000000000000000000000000000000000000000) (by decide)
  have m61 := fMod_pos (i := below) (j := 999999999999999999999999999999999999999999999999999999999999) (by decide)
  have u1 := Int.emod_nonneg (above / 2) (b := 1000000000000000000000000000000000000000000000000000000000000) (by decide)
  have u2 := Int.emod_lt_of_pos (above / 2) (b := 1000000000000000000000000000000000000000000000000000000000000) (by decide)
  have v1 := Int.emod_nonneg below (b := 999999999999999999999999999999999999999999999999999999999999) (by decide)
  have v2 := Int.emod_lt_of_pos below (b := 999999999999999999999999999999999999999999999999999999999999) (by decide)
  have key : ∀ top bottom : Int, 0 < bottom → top.natAbs < 2 ^ 200 → bottom.natAbs < 2 ^ 200 → ∃ g t b : Int, Pg.f_p_divisor fu [.int top, .int bottom] = .ok (.int g) ∧ fFdv (.int top) (.int g) = some (.int t) ∧ fFdv (.int bottom) (.int g) = some (.int b) ∧ 0 < b ∧ Int.gcd t b = 1 ∧ t.natAbs < 2 ^ 200 ∧ b.natAbs < 2 ^ 200 := by
    intro top bottom hb h1 h2
    obtain ⟨g0, gs⟩ := sm_gcd (a := top) (fu_lt h2 (by decide)) (show bottom ≠ 0 by omega)
    have hd := divisor fu top bottom (Nat.lt_of_lt_of_le (fu_lt h2 (by decide)) hfu)
    obtain ⟨q, hq⟩ : ((Int.gcd top bottom : Nat) : Int) ∣ top := Int.gcd_dvd_left _ _
    obtain ⟨r, hr⟩ : ((Int.gcd top bottom : Nat) : Int) ∣ bottom := Int.gcd_dvd_right _ _
    have g1 : 0 < ((Int.gcd top bottom : Nat) : Int) := by omega
    have hco : Int.gcd q r = 1 := by
      have e : Int.gcd (((Int.gcd top bottom : Nat) : Int) * q) (((Int.gcd top bottom : Nat) : Int) * r) = Int.gcd top bottom := by rw [← hq, ← hr]
      rw [Int.gcd_mul_left, Int.natAbs_natCast] at e
      exact Nat.eq_of_mul_eq_mul_left (Nat.pos_of_ne_zero g0) (e.trans (Nat.mul_one _).symm)
    generalize hg : ((Int.gcd top bottom : Nat) : Int) = g at *
    have r0 : 0 < r := by
      rcases (by omega : 0 < r ∨ r ≤ 0) with h | h
      · exact h
      · have := Int.mul_nonpos_of_nonneg_of_nonpos (Int.le_of_lt g1) h
        omega
    have ok : okDiv g = true := okDiv_bd 4000 (by omega) (by show _ < FU; omega) (by decide) (by decide)
    have e1 : top.fdiv g = q := by
      rw [show top = g * q from hq, Int.mul_fdiv_cancel_left _ (by omega)]
    have e2 : bottom.fdiv g = r := by
      rw [show bottom = g * r from hr, Int.mul_fdiv_cancel_left _ (by omega)]
    have rle : r.natAbs ≤ bottom.natAbs := by
      rw [hr, Int.natAbs_mul]
      exact Nat.le_mul_of_pos_left _ (by omega)
    have qle : q.natAbs ≤ top.natAbs := by
      rw [hq, Int.natAbs_mul]
      exact Nat.le_mul_of_pos_left _ (by omega)
    exact ⟨g, q, r, hd, by rw [fFdv_ii ok, e1], by rw [fFdv_ii ok, e2], r0, hco, Nat.lt_of_le_of_lt qle h1, Nat.lt_of_le_of_lt rle h2⟩
  rcases mod2 above with c | c
  · obtain ⟨g, t, b, e1, e2, e3, h⟩ := key (above / 2 % 1000000000000000000000000000000000000000000000000000000000000) (1 + below % 999999999999999999999999999999999999999999999999999999999999) (by omega) (by omega) (by omega)
    refine ⟨t, b, ?_, h⟩
    rw [Pg.f_law_number, Pg.s_law_number]
    simp [run_eq, p60, d2, m2, m60, m61, c, e1, e2, e3]
  · obtain ⟨g, t, b, e1, e2, e3, h⟩ := key (-(above / 2 % 1000000000000000000000000000000000000000000000000000000000000)) (1 + below % 999999999999999999999999999999999999999999999999999999999999) (by omega) (by omega) (by omega)
    refine ⟨t, b, ?_, h⟩
    rw [Pg.f_law_number, Pg.s_law_number]
    simp [run_eq, p60, d2, m2, m60, m61, c, e1, e2, e3]
theorem mul_bd {i j : Int} (a b c : Nat) (ha : i.natAbs < 2 ^ a) (hb : j.natAbs < 2 ^ b) (h : a + b ≤ c) : (i * j).natAbs < 2 ^ c := by
  have := natAbs_mul_lt ha hb
  rw [← Nat.pow_add] at this
  exact Nat.lt_of_lt_of_le this (Nat.pow_le_pow_right (by decide) h)
theorem add_bd {i j : Int} (a b : Nat) (ha : i.natAbs < 2 ^ a) (hb : j.natAbs < 2 ^ a) (h : a < b) : (i + j).natAbs < 2 ^ b := by
  have h2 : 2 ^ (a + 1) ≤ 2 ^ b := Nat.pow_le_pow_right (by decide) h
  rw [Nat.pow_succ] at h2
  omega
theorem sub_bd {i j : Int} (a b : Nat) (ha : i.natAbs < 2 ^ a) (hb : j.natAbs < 2 ^ a) (h : a < b) : (i - j).natAbs < 2 ^ b := by
  have h2 : 2 ^ (a + 1) ≤ 2 ^ b := Nat.pow_le_pow_right (by decide) h
  rw [Nat.pow_succ] at h2
  omega
/-! of two numbers within 2 ^ 200 -/
section
variable {fu : Nat} {a b c d : Int} (ha : a.natAbs < 2 ^ 200) (hb : b.natAbs < 2 ^ 200) (hc : c.natAbs < 2 ^ 200) (hd : d.natAbs < 2 ^ 200)
theorem mul2 {i j : Int} (hi : i.natAbs < 2 ^ 200) (hj : j.natAbs < 2 ^ 200) : fMul (.int i) (.int j) = some (.int (i * j)) := fMul_ii (okMul_bd 200 200 hi hj (by decide) (by decide) (by decide))
include ha hb hc hd
theorem plus {r : MI.D} (h : Pg.f_p_lowest fu [.int (a * d + c * b), .int (b * d)] = .ok r) : Pg.f_p_plus fu [.tuple [.int a, .int b], .tuple [.int c, .int d]] = .ok r := by
  have m1 := mul2 ha hd
  have m2 := mul2 hc hb
  have m3 := mul2 hb hd
  rw [Pg.f_p_plus, Pg.s_p_plus]
  simp [run_eq, m1, m2, m3, h]
theorem minus {r : MI.D} (h : Pg.f_p_lowest fu [.int (a * d - c * b), .int (b * d)] = .ok r) : Pg.f_p_minus fu [.tuple [.int a, .int b], .tuple [.int c, .int d]] = .ok r := by
  have m1 := mul2 ha hd
  have m2 := mul2 hc hb
  have m3 := mul2 hb hd
  rw [Pg.f_p_minus, Pg.s_p_minus]
  simp [run_eq, m1, m2, m3, h]
theorem times {r : MI.D} (h : Pg.f_p_lowest fu [.int (a * c), .int (b * d)] = .ok r) : Pg.f_p_times fu [.tuple [.int a, .int b], .tuple [.int c, .int d]] = .ok r := by
  have m1 := mul2 ha hc
  have m3 := mul2 hb hd
  rw [Pg.f_p_times, Pg.s_p_times]
  simp [run_eq, m1, m3, h]
theorem over {r : MI.D} (hc0 : c ≠ 0) (h : Pg.f_p_lowest fu [.int (a * d), .int (b * c)] = .ok r) : Pg.f_p_over fu [.tuple [.int a, .int b], .tuple [.int c, .int d]] = .ok r := by
  have m1 := mul2 ha hd
  have m3 := mul2 hb hc
  rw [Pg.f_p_over, Pg.s_p_over]
  simp [run_eq, m1, m3, h, hc0]
theorem under : Pg.f_p_under fu [.tuple [.int a, .int b], .tuple [.int c, .int d]] = .ok (.bool (decide (a * d < c * b))) := by
  have m1 := mul2 ha hd
  have m2 := mul2 hc hb
  rw [Pg.f_p_under, Pg.s_p_under]
  simp [run_eq, m1, m2]
theorem law_under : Pg.f_law_under fu [.tuple [.int a, .int b], .tuple [.int c, .int d]] = .ok (.bool true) := by
  have m1 := mul2 ha hd
  have m2 := mul2 hc hb
  have u := under (fu := fu) ha hb hc hd
  rw [Pg.f_law_under, Pg.s_law_under]
  simp [run_eq, m1, m2, u]
theorem law_over (hfu : FU ≤ fu) (b0 : 0 < b) : Pg.f_law_over fu [.tuple [.int a, .int b], .tuple [.int c, .int d]] = .ok (.bool true) := by
  have m1 := mul2 ha hd
  have m2 := mul2 hb hc
  have ff : flatO none = true := rfl
  by_cases e : c = 0
  · subst e
    have o : Pg.f_p_over fu [.tuple [.int a, .int b], .tuple [.int 0, .int d]] = .exc "NoNumber" none := by
      rw [Pg.f_p_over, Pg.s_p_over]
      simp [run_eq]
    rw [Pg.f_law_over, Pg.s_law_over]
    simp [run_eq, o, subT]
  · have z : b * c ≠ 0 := Int.mul_ne_zero (by omega) e
    obtain ⟨r, e1, e2⟩ := lowest_made fu hfu z (mul_bd 200 200 1000 ha hd (by decide)) (mul_bd 200 200 1000 hb hc (by decide))
    have o := over ha hb hc hd e e1
    rw [Pg.f_law_over, Pg.s_law_over]
    simp [run_eq, o, subT, m1, m2, e, e2]
end
theorem floor_of {fu : Nat} {a b : Int} (hb : 0 < b) (h2 : b.natAbs < 2 ^ 200) : Pg.f_p_floor_of fu [.tuple [.int a, .int b]] = .ok (.int (a / b)) := by
  have m := fFdv_pos (i := a) hb (Nat.lt_trans (log2_lt h2 (by decide)) (by decide))
  rw [Pg.f_p_floor_of, Pg.s_p_floor_of]
  simp [run_eq, m]
theorem rounded {fu : Nat} {a b : Int} (hb : 0 < b) (h1 : a.natAbs < 2 ^ 200) (h2 : b.natAbs < 2 ^ 200) : Pg.f_p_rounded fu [.tuple [.int a, .int b]] = .ok (.int ((2 * a + b) / (2 * b))) := by
  have m1 := mul2 (i := 2) (by decide) h1
  have m2 := mul2 (i := 2) (by decide) h2
  have m := fFdv_pos (i := 2 * a + b) (j := 2 * b) (by omega) (Nat.lt_trans (log2_lt (mul_bd 2 200 202 (by decide) h2 (by decide)) (by decide)) (by decide))
  rw [Pg.f_p_rounded, Pg.s_p_rounded]
  simp [run_eq, m, m1, m2]
end Num
set_option Elab.async false
set_option linter.all false
set_option maxRecDepth 100000
set_option maxHeartbeats 4000000
/-! Fg: numbers as texts: what is read. -/
namespace Fg
open PySem MI Tx Num PySem.NumText
def plain (cs : List Nat) : Bool := decide (cs ≠ []) && (decide (cs.length ≤ 60) && (!(decide (cs.head? = some 48) && decide (cs ≠ [48])) && cs.all dig))
theorem signs_ap (cs : List Nat) (δ : Vw) (m : M) (h : m δ = .ok (.str (S cs))) : mSigns m δ = .ok (cs.map fun c => .str (S [c])) := by
  show (m δ).bind _ = _
  rw [h, R.bind_ok]
  show R.ok ((S cs).cps.toList.map _) = _
  rw [S_cps]
  rfl
theorem mMt_ap (T : String) (f : MI.D → List MI.D → Option MI.D) (o : M) (a : Vw → R (List MI.D)) (δ : Vw) : mMt T f o a δ = (o δ).bind fun d => if tyD d = T ∧ (T = "str" ∨ T = "list") then (a δ).bind fun ds => R.of (f d ds) else .bad := Eq.trans rfl rfl
theorem ty_s (z : Str) : tyD (.str z) = "str" := Eq.trans rfl rfl
theorem for_signs {m : M} {t : Tg} {b : MI.S} {g : Ce} {cs : List Nat} (h : m (vd g) = .ok (.str (Tx.S cs))) : sFor (mSigns m) t b g = loopF t b (cs.map fun c => .str (Tx.S [c])) g := forG (signs_ap cs _ _ h)
theorem loop_plain (fu : Nat) : ∀ (cs : List Nat) (t : Cell) (x : Cell), (cs.all dig = true → ∃ x', loopF (gN 1) (Pg.b_law_plain_1 fu) (cs.map fun c => .str (S [c])) [t, x] = .nx [t, x']) ∧ (cs.all dig = false → loopF (gN 1) (Pg.b_law_plain_1 fu) (cs.map fun c => .str (S [c])) [t, x] = .rt (.bool false))
  | [], t, x => ⟨fun _ => ⟨x, rfl⟩, fun h => by cases h⟩
  | c :: cs, t, x => by
    cases hd : dig c with
    | true =>
      obtain ⟨i1, i2⟩ := loop_plain fu cs t (.dat (.str (S [c])))
      have e : loopF (gN 1) (Pg.b_law_plain_1 fu) ((c :: cs).map fun c => PyData.str (S [c])) [t, x] = loopF (gN 1) (Pg.b_law_plain_1 fu) (cs.map fun c => PyData.str (S [c])) [t, .dat (.str (S [c]))] := by
        rw [List.map_cons]
        refine loopF_cons (g1 := [t, .dat (.str (S [c]))]) (by simp) ?_
        simp [Pg.b_law_plain_1, in_figs, hd]
      rw [e, List.all_cons, hd, Bool.true_and]
      exact ⟨i1, i2⟩
    | false =>
      rw [List.all_cons, hd, Bool.false_and]
      refine ⟨fun h => (by cases h), fun _ => ?_⟩
      rw [List.map_cons]
      refine loopF_ret (g1 := [t, .dat (.str (S [c]))]) (by simp) ?_
      simp [Pg.b_law_plain_1, in_figs, hd]
theorem loop_count (fu : Nat) : ∀ (cs : List Nat) (t : Cell) (x : Cell), (cs.all dig = true → ∃ x', loopF (gN 1) (Pg.b_p_count_of_1 fu) (cs.map fun c => .str (S [c])) [t, x] = .nx [t, x']) ∧ (cs.all dig = false → ∃ g, loopF (gN 1) (Pg.b_p_count_of_1 fu) (cs.map fun c => .str (S [c])) [t, x] = .ex "NoNumber" none g)
  | [], t, x => ⟨fun _ => ⟨x, rfl⟩, fun h => by cases h⟩
  | c :: cs, t, x => by
    cases hd : dig c with
    | true =>
      obtain ⟨i1, i2⟩ := loop_count fu cs t (.dat (.str (S [c])))
      have e : loopF (gN 1) (Pg.b_p_count_of_1 fu) ((c :: cs).map fun c => PyData.str (S [c])) [t, x] = loopF (gN 1) (Pg.b_p_count_of_1 fu) (cs.map fun c => PyData.str (S [c])) [t, .dat (.str (S [c]))] := by
        rw [List.map_cons]
        refine loopF_cons (g1 := [t, .dat (.str (S [c]))]) (by simp) ?_
        simp [Pg.b_p_count_of_1, in_figs, hd]
      rw [e, List.all_cons, hd, Bool.true_and]
      exact ⟨i1, i2⟩
    | false =>
      rw [List.all_cons, hd, Bool.false_and]
      refine ⟨fun h => (by cases h), fun _ => ⟨[t, .dat (.str (Tx.S [c]))], ?_⟩⟩
      rw [List.map_cons, loopF]
      simp [Pg.b_p_count_of_1, in_figs, hd]
theorem plain_ok (fu : Nat) (cs : List Nat) (h : cs.length ≤ most) : Pg.f_law_plain fu [.str (S cs)] = .ok (.bool (plain cs)) := by
  cases cs with
  | nil => simp [Pg.f_law_plain, Pg.s_law_plain, run_eq, plain]
  | cons c r =>
    obtain ⟨l1, l2⟩ := loop_plain fu (c :: r) (.dat (.str (S (c :: r)))) .un
    have hs := for_signs (m := mVar 0) (t := gN 1) (b := Pg.b_law_plain_1 fu) (g := [.dat (.str (Tx.S (c :: r))), .un]) (cs := c :: r) (by simp)
    have i0 := ix_0 h
    have ln := len_s h
    by_cases c1 : (c :: r).length ≤ 60
    · have c1' : ¬ 60 < ((r.length : Int) + 1) := by simp at c1; omega
      have c1'' : r.length + 1 ≤ 60 := by simpa using c1
      by_cases c2 : c = 48
      · subst c2
        by_cases c3 : r = []
        · subst c3
          obtain ⟨x', q⟩ := l1 (by decide)
          simp [Pg.f_law_plain, Pg.s_law_plain, run_eq, plain, ln, i0]
          rw [hs, q]
          rfl
        · simp [Pg.f_law_plain, Pg.s_law_plain, run_eq, plain, ln, i0, c1', c3]
      · cases hd : (c :: r).all dig with
        | true =>
          obtain ⟨x', q⟩ := l1 hd
          simp only [plain, hd]
          simp [Pg.f_law_plain, Pg.s_law_plain, run_eq, ln, i0, c1', c1'', c2]
          rw [hs, q]
        | false =>
          have q := l2 hd
          simp only [plain, hd]
          simp [Pg.f_law_plain, Pg.s_law_plain, run_eq, ln, i0, c1', c1'', c2]
          rw [hs, q]
    · have c1' : 60 < ((r.length : Int) + 1) := by simp at c1; omega
      have c1'' : ¬ r.length + 1 ≤ 60 := by simpa using c1
      simp [Pg.f_law_plain, Pg.s_law_plain, run_eq, plain, ln, i0, c1', c1'']
theorem count_ok (fu : Nat) (cs : List Nat) (h : cs.length ≤ most) : Pg.f_p_count_of fu [.str (S cs)] = if plain cs = true then .ok (.int (digitsVal cs : Nat)) else .exc "NoNumber" none := by
  cases cs with
  | nil => simp [Pg.f_p_count_of, Pg.s_p_count_of, run_eq, plain]
  | cons c r =>
    obtain ⟨l1, l2⟩ := loop_count fu (c :: r) (.dat (.str (Tx.S (c :: r)))) .un
    have hs := for_signs (m := mVar 0) (t := gN 1) (b := Pg.b_p_count_of_1 fu) (g := [.dat (.str (Tx.S (c :: r))), .un]) (cs := c :: r) (by simp)
    have i0 := ix_0 h
    have ln := len_s h
    by_cases c1 : (c :: r).length ≤ 60
    · have c1' : ¬ 60 < ((r.length : Int) + 1) := by simp at c1; omega
      have c1'' : r.length + 1 ≤ 60 := by simpa using c1
      cases hd : (c :: r).all dig with
      | true =>
        have io := int_of hd (by simp) (by omega)
        obtain ⟨x', q⟩ := l1 hd
        by_cases c2 : c = 48
        · subst c2
          by_cases c3 : r = []
          · subst c3
            simp only [plain, hd]
            simp [Pg.f_p_count_of, Pg.s_p_count_of, run_eq, ln, i0]
            rw [hs, q]
            simp [i0, io]
          · simp only [plain, hd]
            simp [Pg.f_p_count_of, Pg.s_p_count_of, run_eq, ln, i0, c1', c1'', c3]
            rw [hs, q]
            simp [i0, c3]
        · simp only [plain, hd]
          simp [Pg.f_p_count_of, Pg.s_p_count_of, run_eq, ln, i0, c1', c1'', c2]
          rw [hs, q]
          simp [i0, c2, io]
      | false =>
        obtain ⟨g, q⟩ := l2 hd
        simp only [plain, hd]
        simp [Pg.f_p_count_of, Pg.s_p_count_of, run_eq, ln, i0, c1', c1'']
        rw [hs, q]
    · have c1' : 60 < ((r.length : Int) + 1) := by simp at c1; omega
      have c1'' : ¬ r.length + 1 ≤ 60 := by simpa using c1
      simp [Pg.f_p_count_of, Pg.s_p_count_of, run_eq, plain, ln, i0, c1', c1'']
theorem plain_all {cs : List Nat} (h : plain cs = true) : cs.all dig = true ∧ cs ≠ [] ∧ cs.length ≤ 60 ∧ (cs.head? = some 48 → cs = [48]) := by
  unfold plain at h
  simp only [Bool.and_eq_true, decide_eq_true_eq, Bool.not_eq_true'] at h
  obtain ⟨h1, h2, h3, h4⟩ := h
  refine ⟨h4, h1, h2, fun e => ?_⟩
  rw [e] at h3
  simpa using h3
theorem plain_zero {cs : List Nat} (h : plain cs = true) : digitsVal cs = 0 ↔ cs = [48] := by
  obtain ⟨h1, h2, h3, h4⟩ := plain_all h
  constructor
  · intro e
    cases cs with
    | nil => exact absurd rfl h2
    | cons c r =>
      by_cases c0 : c = 48
      · exact h4 (by rw [c0]; rfl)
      · have := dig_iff.mp (List.all_eq_true.mp h1 c (List.mem_cons_self ..))
        have := digitsVal_pos (c := c) (cs := r) (by omega)
        omega
  · intro e
    rw [e]
    rfl
theorem plain_lt {cs : List Nat} (h : plain cs = true) : digitsVal cs < 10 ^ 60 := by
  obtain ⟨h1, h2, h3, h4⟩ := plain_all h
  exact Nat.lt_of_lt_of_le (val_lt cs h1) (Nat.pow_le_pow_right (by decide) h3)
theorem plain_dg {n : Nat} (h : n < 10 ^ 60) : plain (dg n) = true := by
  have h1 := dg_all n
  have h2 := dg_ne n
  have h3 := dg_len (n := n) (k := 59) h
  unfold plain
  simp only [Bool.and_eq_true, decide_eq_true_eq, Bool.not_eq_true']
  refine ⟨h2, by omega, ?_, h1⟩
  by_cases n0 : n = 0
  · subst n0
    rw [dg_lt (by decide)]
    rfl
  · obtain ⟨c, r, e, q⟩ := dg_head (n := n) (by omega)
    rw [e]
    have : ¬ c = 48 := by omega
    simp [this]
/-- the top that signs write -/
def top? (a : List Nat) : Option Int := if a.take 1 = [45] then (if plain a.tail = true ∧ a ≠ [45, 48] then some (0 - (digitsVal a.tail : Nat)) else none) else if plain a = true then some (digitsVal a : Nat) else none
/-- the number that signs write -/
def num? (cs : List Nat) : Option (Int × Int) := (top? (cut 47 cs).1).bind fun top => match (cut 47 cs).2 with
  | none => some (top, 1)
  | some b => if plain b = true ∧ 2 ≤ digitsVal b ∧ Int.gcd top (digitsVal b : Nat) = 1 then some (top, (digitsVal b : Nat)) else none
theorem top_ok (fu : Nat) (a : List Nat) (h : a.length ≤ most) : Pg.f_p_top_of fu [.str (S a)] = match top? a with
    | some t => .ok (.int t)
    | none => .exc "NoNumber" none := by
  have s1 := fsl_to1 h
  have s2 := fsl_from1 h
  rw [List.drop_one] at s2
  have c1 := count_ok fu a h
  have c2 := count_ok fu a.tail (by rw [List.length_tail]; omega)
  unfold top?
  by_cases e : a.take 1 = [45]
  · rw [if_pos e]
    have ed : a = 45 :: a.tail := by
      have := List.take_append_drop 1 a
      rw [e, List.drop_one] at this
      exact this.symm
    by_cases p : plain a.tail = true
    · rw [if_pos p] at c2
      have pz := plain_zero p
      by_cases z : a.tail = [48]
      · have a0 : a = [45, 48] := by rw [ed, z]
        have z0 := pz.mpr z
        rw [if_neg (fun k => k.2 a0)]
        rw [z0] at c2
        simp [Pg.f_p_top_of, Pg.s_p_top_of, run_eq, s1, s2, e, c2]
      · have a0 : a ≠ [45, 48] := fun k => z (by rw [k]; rfl)
        have z0 : ¬ digitsVal a.tail = 0 := fun k => z (pz.mp k)
        rw [if_pos ⟨p, a0⟩]
        simp [Pg.f_p_top_of, Pg.s_p_top_of, run_eq, s1, s2, e, c2, z0]
    · rw [if_neg p] at c2
      rw [if_neg (fun k => p k.1)]
      simp [Pg.f_p_top_of, Pg.s_p_top_of, run_eq, s1, s2, e, c2, flatO]
  · rw [if_neg e]
    by_cases p : plain a = true
    · rw [if_pos p] at c1
      rw [if_pos p]
      simp [Pg.f_p_top_of, Pg.s_p_top_of, run_eq, s1, s2, e, c1]
    · rw [if_neg p] at c1
      rw [if_neg p]
      simp [Pg.f_p_top_of, Pg.s_p_top_of, run_eq, s1, s2, e, c1, flatO]
theorem fu60 {n : Nat} (h : n < 10 ^ 60) : n < FU := fu_lt (b := 200) (Nat.lt_trans h (by decide)) (by decide)
theorem read_ok (fu : Nat) (hfu : FU ≤ fu) (cs : List Nat) (h : cs.length ≤ most) : Pg.f_p_read_number fu [.str (S cs)] = match num? cs with
    | some (t, b) => .ok (.tuple [.int t, .int b])
    | none => .exc "NoNumber" none := by
  obtain ⟨k1, k2⟩ := cut_len (c := 47) cs
  have ft := top_ok fu (cut 47 cs).1 (by omega)
  have fp := f_part h 47
  unfold num?
  cases e2 : (cut 47 cs).2 with
  | none =>
    rw [e2] at fp
    dsimp only at fp
    cases e1 : top? (cut 47 cs).1 with
    | none =>
      rw [e1] at ft
      simp [Pg.f_p_read_number, Pg.s_p_read_number, run_eq, fp, ft, mMt_ap, ty_s]
    | some t =>
      rw [e1] at ft
      simp [Pg.f_p_read_number, Pg.s_p_read_number, run_eq, fp, ft, mMt_ap, ty_s]
  | some b =>
    rw [e2] at fp
    dsimp only at fp
    have lb := k2 b e2
    have fc := count_ok fu b (by omega)
    cases e1 : top? (cut 47 cs).1 with
    | none =>
      rw [e1] at ft
      simp [Pg.f_p_read_number, Pg.s_p_read_number, run_eq, fp, ft, mMt_ap, ty_s]
    | some t =>
      rw [e1] at ft
      by_cases p : plain b = true
      · rw [if_pos p] at fc
        have dv := divisor fu t (digitsVal b : Nat) (Nat.lt_of_lt_of_le (by simpa using fu60 (plain_lt p)) hfu)
        by_cases c2 : 2 ≤ digitsVal b
        · have c2' : ¬ ((digitsVal b : Nat) : Int) < 2 := by omega
          generalize hgg : Int.gcd t (digitsVal b : Nat) = gg at *
          by_cases c3 : gg = 1
          · subst c3
            simp [Pg.f_p_read_number, Pg.s_p_read_number, run_eq, fp, ft, mMt_ap, ty_s, fc, dv, c2, c2', hgg, p]
          · have c3' : ¬ (gg : Int) = 1 := by omega
            simp [Pg.f_p_read_number, Pg.s_p_read_number, run_eq, fp, ft, mMt_ap, ty_s, fc, dv, c2, c2', hgg, c3, c3', p]
        · have c2' : ((digitsVal b : Nat) : Int) < 2 := by omega
          simp [Pg.f_p_read_number, Pg.s_p_read_number, run_eq, fp, ft, mMt_ap, ty_s, fc, dv, c2, c2', p]
      · rw [if_neg p] at fc
        simp [Pg.f_p_read_number, Pg.s_p_read_number, run_eq, fp, ft, mMt_ap, ty_s, fc, p]
theorem due_ok (fu : Nat) (hfu : FU ≤ fu) (cs : List Nat) (h : cs.length ≤ most) : Pg.f_law_due fu [.str (S cs)] = .ok (match num? cs with
    | some (t, b) => .tuple [.int t, .int b]
    | none => .none) := by
  obtain ⟨k1, k2⟩ := cut_len (c := 47) cs
  have fp := f_part h 47
  have la : (cut 47 cs).1.length ≤ most := by omega
  have s1 := fsl_to1 la
  have s2 := fsl_from1 la
  rw [List.drop_one] at s2
  have pa := plain_ok fu (cut 47 cs).1 la
  have pd := plain_ok fu ((cut 47 cs).1.tail) (by rw [List.length_tail]; omega)
  unfold num? top?
  generalize hA : (cut 47 cs).1 = a at *
  generalize hB : (cut 47 cs).2 = o at *
  have key : ∀ (t : Int) (hd : List Nat), plain hd = true → (a.take 1 = [45] ∧ hd = a.tail ∧ t = 0 - (digitsVal hd : Nat) ∧ a ≠ [45, 48] ∨ ¬ a.take 1 = [45] ∧ hd = a ∧ t = (digitsVal hd : Nat) ∧ a ≠ [45, 48]) → Pg.f_law_due fu [.str (S cs)] = .ok (match (match o with
      | none => some (t, 1)
      | some b => if plain b = true ∧ 2 ≤ digitsVal b ∧ Int.gcd t (digitsVal b : Nat) = 1 then some (t, ((digitsVal b : Nat) : Int)) else none) with
      | some (t, b) => .tuple [.int t, .int b]
      | none => .none) := by
    intro t hd ph hh
    obtain ⟨q1, q2, q3, q4⟩ := plain_all ph
    have io := int_of q1 q2 (by omega)
    cases o with
    | none =>
      dsimp only at fp
      rcases hh with ⟨w1, w2, w3, w4⟩ | ⟨w1, w2, w3, w4⟩
      · subst w2 w3
        simp [Pg.f_law_due, Pg.s_law_due, run_eq, fp, mMt_ap, ty_s, s1, s2, w1, w4, pd, ph, io]
      · subst w2 w3
        simp [Pg.f_law_due, Pg.s_law_due, run_eq, fp, mMt_ap, ty_s, s1, s2, w1, w4, pa, ph, io]
    | some b =>
      dsimp only at fp
      have lb := k2 b rfl
      have pb := plain_ok fu b (by omega)
      by_cases p : plain b = true
      · obtain ⟨r1, r2, r3, r4⟩ := plain_all p
        have ib := int_of r1 r2 (by omega)
        have dv := divisor fu t (digitsVal b : Nat) (Nat.lt_of_lt_of_le (by simpa using fu60 (plain_lt p)) hfu)
        by_cases c2 : 2 ≤ digitsVal b
        · have c2' : ¬ ((digitsVal b : Nat) : Int) < 2 := by omega
          generalize hgg : Int.gcd t (digitsVal b : Nat) = gg at *
          by_cases c3 : gg = 1
          · subst c3
            rcases hh with ⟨w1, w2, w3, w4⟩ | ⟨w1, w2, w3, w4⟩
            · subst w2 w3
              have hg2 := hgg
              simp at hg2
              simp only [Int.zero_sub] at dv
              simp [Pg.f_law_due, Pg.s_law_due, run_eq, fp, mMt_ap, ty_s, s1, s2, w1, w4, pd, ph, io, pb, p, ib, c2, c2', dv, hg2]
            · subst w2 w3
              have hg2 := hgg
              simp at hg2
              simp [Pg.f_law_due, Pg.s_law_due, run_eq, fp, mMt_ap, ty_s, s1, s2, w1, w4, pa, ph, io, pb, p, ib, c2, c2', dv, hg2]
          · have c3' : ¬ (gg : Int) = 1 := by omega
            rcases hh with ⟨w1, w2, w3, w4⟩ | ⟨w1, w2, w3, w4⟩
            · subst w2 w3
              have hg2 := hgg
              simp at hg2
              simp only [Int.zero_sub] at dv
              simp [Pg.f_law_due, Pg.s_law_due, run_eq, fp, mMt_ap, ty_s, s1, s2, w1, w4, pd, ph, io, pb, p, ib, c2, c2', dv, hg2, c3, c3']
            · subst w2 w3
              have hg2 := hgg
              simp at hg2
              simp [Pg.f_law_due, Pg.s_law_due, run_eq, fp, mMt_ap, ty_s, s1, s2, w1, w4, pa, ph, io, pb, p, ib, c2, c2', dv, hg2, c3, c3']
        · have c2' : ((digitsVal b : Nat) : Int) < 2 := by omega
          rcases hh with ⟨w1, w2, w3, w4⟩ | ⟨w1, w2, w3, w4⟩
          · subst w2 w3
            simp [Pg.f_law_due, Pg.s_law_due, run_eq, fp, mMt_ap, ty_s, s1, s2, w1, w4, pd, ph, io, pb, p, ib, c2, c2', dv]
          · subst w2 w3
            simp [Pg.f_law_due, Pg.s_law_due, run_eq, fp, mMt_ap, ty_s, s1, s2, w1, w4, pa, ph, io, pb, p, ib, c2, c2', dv]
      · rcases hh with ⟨w1, w2, w3, w4⟩ | ⟨w1, w2, w3, w4⟩
        · subst w2 w3
          simp [Pg.f_law_due, Pg.s_law_due, run_eq, fp, mMt_ap, ty_s, s1, s2, w1, w4, pd, ph, io, pb, p]
        · subst w2 w3
          simp [Pg.f_law_due, Pg.s_law_due, run_eq, fp, mMt_ap, ty_s, s1, s2, w1, w4, pa, ph, io, pb, p]
  by_cases e : a.take 1 = [45]
  · rw [if_pos e]
    by_cases p : plain a.tail = true
    · by_cases z : a = [45, 48]
      · rw [if_neg (fun k => k.2 z)]
        subst z
        have p : plain [48] = true := p
        have pd : Pg.f_law_plain fu [.str (Tx.S [48])] = .ok (.bool (plain [48])) := pd
        rw [p] at pd
        simp [Pg.f_law_due, Pg.s_law_due, run_eq, fp, mMt_ap, ty_s, s1, s2, pd]
      · rw [if_pos ⟨p, z⟩]
        exact key _ _ p (.inl ⟨e, rfl, rfl, z⟩)
    · rw [if_neg (fun k => p k.1)]
      simp [Pg.f_law_due, Pg.s_law_due, run_eq, fp, mMt_ap, ty_s, s1, s2, e, pd, p]
  · rw [if_neg e]
    by_cases p : plain a = true
    · rw [if_pos p]
      refine key _ _ p (.inr ⟨e, rfl, rfl, fun z => ?_⟩)
      subst z
      exact e rfl
    · rw [if_neg p]
      simp [Pg.f_law_due, Pg.s_law_due, run_eq, fp, mMt_ap, ty_s, s1, s2, e, pa, p]
end Fg
set_option Elab.async false
set_option linter.all false
set_option maxRecDepth 100000
set_option maxHeartbeats 4000000
/-! Cal: what the defs about days tell. -/
namespace Cal
open PySem MI Num
def leap (y : Int) : Bool := decide (y % 400 = 0) || (decide (y % 4 = 0) && !decide (y % 100 = 0))
def len (y m : Int) : Int := if m = 2 then 28 + (if leap y = true then 1 else 0) else if m = 4 ∨ m = 6 ∨ m = 9 ∨ m = 11 then 30 else 31
def ahead (y : Int) : Int := 365 * (y - 1) + (y - 1) / 4 - (y - 1) / 100 + (y - 1) / 400
def months (y : Int) : Int → Nat → Int
  | _, 0 => 0
  | lo, n + 1 => len y lo + months y (lo + 1) n
theorem fdv_n (i : Int) (n : Nat) (h : 0 < n) (h2 : n < 2 ^ 40) : fFdv (.int i) (.int (n : Int)) = some (.int (i / (n : Int))) :=
  fFdv_pos (by omega) (Nat.lt_trans (log2_lt (a := 40) (by simpa using h2) (by decide)) (by decide))
theorem mod_n (i : Int) (n : Nat) (h : 0 < n) : fMod (.int i) (.int (n : Int)) = some (.int (i % (n : Int))) := fMod_pos (by omega)
theorem mul_s {i j : Int} (hi : i.natAbs < 2 ^ 300) (hj : j.natAbs < 2 ^ 300) : fMul (.int i) (.int j) = some (.int (i * j)) := fMul_ii (okMul_bd 300 300 hi hj (by decide) (by decide) (by decide))
theorem is_leap (fu : Nat) (y : Int) : Pg.f_p_is_leap fu [.int y] = .ok (.bool (leap y)) := by
  have m1 := mod_n y 400 (by decide)
  have m2 := mod_n y 4 (by decide)
  have m3 := mod_n y 100 (by decide)
  simp at m1 m2 m3
  rw [Pg.f_p_is_leap, Pg.s_p_is_leap]
  unfold leap
  by_cases a : y % 400 = 0 <;> by_cases b : y % 4 = 0 <;> by_cases c : y % 100 = 0 <;> simp [run_eq, m1, m2, m3, a, b, c]
theorem law_leap (fu : Nat) (y : Int) : Pg.f_law_leap fu [.int y] = .ok (.bool (leap y)) := by
  have m1 := mod_n y 400 (by decide)
  have m2 := mod_n y 4 (by decide)
  have m3 := mod_n y 100 (by decide)
  simp at m1 m2 m3
  rw [Pg.f_law_leap, Pg.s_law_leap]
  unfold leap
  by_cases a : y % 400 = 0 <;> by_cases b : y % 4 = 0 <;> by_cases c : y % 100 = 0 <;> first | (simp [run_eq, m1, m2, m3, a, b, c]; done) | (exfalso; omega)
theorem length_of (fu : Nat) (y m : Int) : Pg.f_p_length_of fu [.int y, .int m] = .ok (.int (len y m)) := by
  have l := is_leap fu y
  rw [Pg.f_p_length_of, Pg.s_p_length_of]
  unfold len
  by_cases a : m = 2
  · simp [run_eq, l, a]
  · by_cases b : m = 4
    · simp [run_eq, b]
    · by_cases c : m = 6
      · simp [run_eq, c]
      · by_cases d : m = 9
        · simp [run_eq, d]
        · by_cases e : m = 11
          · simp [run_eq, e]
          · simp [run_eq, a, b, c, d, e]
theorem law_long (fu : Nat) (y m : Int) (h1 : 1 ≤ m) (h2 : m ≤ 12) : Pg.f_law_long fu [.int y, .int m] = .ok (.int (len y m)) := by
  have l := law_leap fu y
  have ix : ∀ (ds : List MI.D) (j : Nat) (d : MI.D), ds[j]? = some d → fIx (.list ds) (.int (j : Int)) = some d := fun ds j d h => fIx_l h
  have dl : ∀ ds : List MI.D, ds.length ≤ most → dLst ds = some (.list ds) := fun ds h => by
    show (if ds.length ≤ most then some (PyData.list ds) else none) = _
    rw [if_pos h]
  have tab := dl [.int 31, .int 28, .int 31, .int 30, .int 31, .int 30, .int 31, .int 31, .int 30, .int 31, .int 30, .int 31] (by decide)
  rw [Pg.f_law_long, Pg.s_law_long]
  unfold len
  rcases (by omega : m = 1 ∨ m = 2 ∨ m = 3 ∨ m = 4 ∨ m = 5 ∨ m = 6 ∨ m = 7 ∨ m = 8 ∨ m = 9 ∨ m = 10 ∨ m = 11 ∨ m = 12) with h | h | h | h | h | h | h | h | h | h | h | h <;> subst h
  · have i := ix [.int 31, .int 28, .int 31, .int 30, .int 31, .int 30, .int 31, .int 31, .int 30, .int 31, .int 30, .int 31] 0 _ rfl
    simp at i
    simp [run_eq, tab, i]
  · simp [run_eq, l]
  · have i := ix [.int 31, .int 28, .int 31, .int 30, .int 31, .int 30, .int 31, .int 31, .int 30, .int 31, .int 30, .int 31] 2 _ rfl
    simp at i
    simp [run_eq, tab, i]
  · have i := ix [.int 31, .int 28, .int 31, .int 30, .int 31, .int 30, .int 31, .int 31, .int 30, .int 31, .int 30, .int 31] 3 _ rfl
    simp at i
    simp [run_eq, tab, i]
  · have i := ix [.int 31, .int 28, .int 31, .int 30, .int 31, .int 30, .int 31, .int 31, .int 30, .int 31, .int 30, .int 31] 4 _ rfl
    simp at i
    simp [run_eq, tab, i]
  · have i := ix [.int 31, .int 28, .int 31, .int 30, .int 31, .int 30, .int 31, .int 31, .int 30, .int 31, .int 30, .int 31] 5 _ rfl
    simp at i
    simp [run_eq, tab, i]
  · have i := ix [.int 31, .int 28, .int 31, .int 30, .int 31, .int 30, .int 31, .int 31, .int 30, .int 31, .int 30, .int 31] 6 _ rfl
    simp at i
    simp [run_eq, tab, i]
  · have i := ix [.int 31, .int 28, .int 31, .int 30, .int 31, .int 30, .int 31, .int 31, .int 30, .int 31, .int 30, .int 31] 7 _ rfl
    simp at i
    simp [run_eq, tab, i]
  · have i := ix [.int 31, .int 28, .int 31, .int 30, .int 31, .int 30, .int 31, .int 31, .int 30, .int 31, .int 30, .int 31] 8 _ rfl
    simp at i
    simp [run_eq, tab, i]
  · have i := ix [.int 31, .int 28, .int 31, .int 30, .int 31, .int 30, .int 31, .int 31, .int 30, .int 31, .int 30, .int 31] 9 _ rfl
    simp at i
    simp [run_eq, tab, i]
  · have i := ix [.int 31, .int 28, .int 31, .int 30, .int 31, .int 30, .int 31, .int 31, .int 30, .int 31, .int 30, .int 31] 10 _ rfl
    simp at i
    simp [run_eq, tab, i]
  · have i := ix [.int 31, .int 28, .int 31, .int 30, .int 31, .int 30, .int 31, .int 31, .int 30, .int 31, .int 30, .int 31] 11 _ rfl
    simp at i
    simp [run_eq, tab, i]
theorem ahead_of (fu : Nat) (y : Int) (h : y.natAbs < 2 ^ 100) : Pg.f_p_ahead_of fu [.int y] = .ok (.int (ahead y)) := by
  have m := mul_s (i := 365) (j := y - 1) (by decide) (by omega)
  have d1 := fdv_n (y - 1) 4 (by decide) (by decide)
  have d2 := fdv_n (y - 1) 100 (by decide) (by decide)
  have d3 := fdv_n (y - 1) 400 (by decide) (by decide)
  simp at d1 d2 d3
  rw [Pg.f_p_ahead_of, Pg.s_p_ahead_of]
  unfold ahead
  simp [run_eq, m, d1, d2, d3]
theorem rngL_succ (lo : Int) (n : Nat) : rngL lo 1 (n + 1) = .int lo :: rngL (lo + 1) 1 n := by
  unfold rngL
  rw [List.range_succ_eq_map, List.map_cons, List.map_map]
  congr 1
  · simp
  · apply List.map_congr_left
    intro i _
    simp
    omega
theorem day_loop (fu : Nat) (y m d : MI.D) (yi : Int) (hy : y = .int yi) : ∀ (n : Nat) (lo found : Int) (c : Cell), ∃ c', loopF (gN 4) (Pg.b_p_day_of_1 fu) (rngL lo 1 n) [.dat y, .dat m, .dat d, .dat (.int found), c] = .nx [.dat y, .dat m, .dat d, .dat (.int (found + months yi lo n)), c']
  | 0, lo, found, c => ⟨c, by simp [rngL, loopF, months]⟩
  | n + 1, lo, found, c => by
    subst hy
    obtain ⟨c', h⟩ := day_loop fu (.int yi) m d yi rfl n (lo + 1) (found + len yi lo) (.dat (.int lo))
    refine ⟨c', ?_⟩
    have l := length_of fu yi lo
    rw [rngL_succ, loopF_cons (g2 := [.dat (.int yi), .dat m, .dat d, .dat (.int (found + len yi lo)), .dat (.int lo)]) rfl (by rw [Pg.b_p_day_of_1]; simp [l]), h]
    rw [months, Int.add_assoc]
def lens (y : Int) : Int → Nat → List Int
  | _, 0 => []
  | lo, n + 1 => len y lo :: lens y (lo + 1) n
theorem lens_sum (y : Int) : ∀ (n : Nat) (lo : Int), (lens y lo n).sum = months y lo n
  | 0, _ => rfl
  | n + 1, lo => by
    unfold lens months
    rw [List.sum_cons, lens_sum y n]
theorem lens_len (y : Int) : ∀ (n : Nat) (lo : Int), (lens y lo n).length = n
  | 0, _ => rfl
  | n + 1, lo => congrArg Nat.succ (lens_len y n (lo + 1))
theorem ints_map : ∀ ns : List Int, intsD (ns.map PyData.int) = some ns
  | [] => rfl
  | n :: ns => by
    rw [List.map_cons]
    unfold intsD
    rw [ints_map ns]
    rfl
theorem comp_loop (fu : Nat) (y : Int) (a b c e : Option MI.D) : ∀ (n : Nat) (lo : Int) (acc : List Int), 1 ≤ lo → lo + n ≤ 13 → acc.length + n ≤ 20 →
    loopC (vN 5) mYes (mCall 2 (Pg.f_law_long fu) [] (mCons (mVar 0) (mCons (mVar 5) mNil))) [some (.int y), a, b, c, e, none] (rngL lo 1 n) (acc.map .int) = .ok ((acc ++ lens y lo n).map .int)
  | 0, lo, acc, _, _, _ => by simp [rngL, loopC, lens]
  | n + 1, lo, acc, h1, h2, h3 => by
    have l := law_long fu y lo h1 (by omega)
    have ih := comp_loop fu y a b c e n (lo + 1) (acc ++ [len y lo]) (by omega) (by omega) (by simp; omega)
    have hm : acc.length < 16777216 := by omega
    rw [rngL_succ, loopC]
    simp [vN, mYes, l, hm]
    simp at ih
    rw [ih, lens]
    simp
theorem rng2_1 (m : Int) (h1 : 1 ≤ m) (h2 : m ≤ 13) : rng2 [.int 1, .int m] = some (rngL 1 1 (m - 1).toNat) := by
  show (if (lim62 1 && lim62 m) = true then some (rngL 1 1 (m - 1).toNat) else none) = _
  rw [if_pos]
  unfold lim62
  simp
  omega
theorem law_count (fu : Nat) (y m d : Int) (hy : y.natAbs < 2 ^ 100) (h1 : 1 ≤ m) (h2 : m ≤ 12) : Pg.f_law_count fu [.int y, .int m, .int d] = .ok (.int (ahead y + months y 1 (m - 1).toNat + d - 1)) := by
  have mu := mul_s (i := 365) (j := y - 1) (by decide) (by omega)
  have d1 := fdv_n (y - 1) 4 (by decide) (by decide)
  have d2 := fdv_n (y - 1) 100 (by decide) (by decide)
  have d3 := fdv_n (y - 1) 400 (by decide) (by decide)
  simp at d1 d2 d3
  have r := rng2_1 m h1 (by omega)
  obtain ⟨n, hn⟩ : ∃ n : Nat, (m - 1).toNat = n := ⟨_, rfl⟩
  have hn2 : n ≤ 11 := by omega
  rw [hn] at r ⊢
  have cl := comp_loop fu y (some (.int m)) (some (.int d)) (some (.int (y - 1))) (some (.int (ahead y))) n 1 [] (by decide) (by omega) (by simp; omega)
  rw [List.map_nil, List.nil_append] at cl
  have sm : fSum [.list ((lens y 1 n).map .int)] = some (.int (months y 1 n)) := by
    show (intsD ((lens y 1 n).map .int)).map (fun ns => PyData.int ns.sum) = _
    rw [ints_map, Option.map_some, lens_sum]
  have nl : nLc (mRng rng2 (mCons (mC (.int 1)) (mCons (mVar 1) (mNil)))) [5] (vN 5) (mYes) (mCall 2 (Pg.f_law_long fu) [] (mCons (mVar 0) (mCons (mVar 5) (mNil)))) [some (.int y), some (.int m), some (.int d), some (.int (y - 1)), some (.int (ahead y)), none] = .ok ((lens y 1 n).map .int) := by
    unfold nLc
    simp [r, wipeV, cl]
  rw [Pg.f_law_count, Pg.s_law_count]
  have ea : 365 * (y - 1) + (y - 1) / 4 - (y - 1) / 100 + (y - 1) / 400 = ahead y := rfl
  simp [run_eq, mu, d1, d2, d3, ea, nl, sm]
/-- a day that there is -/
theorem day_of (fu : Nat) (y m d : Int) (hy : 1 ≤ y ∧ y ≤ 9999) (hm : 1 ≤ m ∧ m ≤ 12) (hd : 1 ≤ d ∧ d ≤ len y m) : Pg.f_p_day_of fu [.int y, .int m, .int d] = .ok (.int (ahead y + months y 1 (m - 1).toNat + d - 1)) := by
  have r := rng2_1 m hm.1 (by omega)
  obtain ⟨n, hn⟩ : ∃ n : Nat, (m - 1).toNat = n := ⟨_, rfl⟩
  rw [hn] at r ⊢
  have l := length_of fu y m
  have a := ahead_of fu y (by omega)
  obtain ⟨c', h⟩ := day_loop fu (.int y) (.int m) (.int d) y rfl n 1 (ahead y + d - 1) .un
  have h1 : mRng rng2 (mCons (mC (.int 1)) (mCons (mVar 1) (mNil))) (vd [.dat (.int y), .dat (.int m), .dat (.int d), .dat (.int (ahead y + d - 1)), .un]) = .ok (rngL 1 1 n) := by simp [r]
  have hf := (forG (t := gN 4) (b := Pg.b_p_day_of_1 fu) h1).trans h
  rw [Pg.f_p_day_of, Pg.s_p_day_of]
  simp [run_eq, l, a, hf, Int.not_lt.mpr hy.1, Int.not_lt.mpr hy.2, Int.not_lt.mpr hm.1, Int.not_lt.mpr hm.2, Int.not_lt.mpr hd.1, Int.not_lt.mpr hd.2]
  omega
theorem day_of_bad (fu : Nat) (y m d : Int) (h : ¬ ((1 ≤ y ∧ y ≤ 9999) ∧ (1 ≤ m ∧ m ≤ 12) ∧ 1 ≤ d ∧ d ≤ len y m)) : Pg.f_p_day_of fu [.int y, .int m, .int d] = .exc "NoDay" none := by
  have l := length_of fu y m
  have ff : flatO none = true := rfl
  rw [Pg.f_p_day_of, Pg.s_p_day_of]
  by_cases a : y < 1
  · simp [run_eq, a]
  · by_cases b : 9999 < y
    · simp [run_eq, a, b]
    · by_cases c : m < 1
      · simp [run_eq, a, b, c]
      · by_cases e : 12 < m
        · simp [run_eq, a, b, c, e]
        · by_cases f : d < 1
          · simp [run_eq, a, b, c, e, f]
          · by_cases g : len y m < d
            · simp [run_eq, a, b, c, e, f, l, g]
            · exact absurd ⟨⟨by omega, by omega⟩, ⟨by omega, by omega⟩, by omega, by omega⟩ h
end Cal
set_option Elab.async false
set_option linter.all false
set_option maxRecDepth 100000
set_option maxHeartbeats 4000000
/-! Days: a day's count taken apart. -/
namespace Cal
open PySem MI Num
theorem ahead_succ (y : Int) : ahead (y + 1) = ahead y + (if leap y = true then 366 else 365) := by
  unfold ahead leap
  by_cases a : y % 400 = 0
  · simp [a]; omega
  · by_cases b : y % 4 = 0
    · by_cases c : y % 100 = 0
      · simp [a, b, c]; omega
      · simp [a, b, c]; omega
    · simp [a, b]; omega
theorem ahead_le {a b : Int} (h : a ≤ b) : ahead a ≤ ahead b := by
  unfold ahead
  omega
theorem months_snoc (y : Int) : ∀ (n : Nat) (lo : Int), months y lo (n + 1) = months y lo n + len y (lo + n)
  | 0, lo => by simp [months]
  | n + 1, lo => by
    rw [months, months_snoc y n (lo + 1), months, show lo + 1 + (n : Int) = lo + ((n + 1 : Nat) : Int) by omega]
    omega
theorem len_ge (y m : Int) : 28 ≤ len y m := by
  unfold len
  split
  · split <;> omega
  · split <;> omega
theorem months_le (y : Int) {a b : Nat} (h : a ≤ b) : months y 1 a ≤ months y 1 b := by
  induction b with
  | zero => rw [show a = 0 by omega]; exact Int.le_refl _
  | succ b ih =>
    by_cases e : a = b + 1
    · subst e; exact Int.le_refl _
    · have := ih (by omega)
      have l := len_ge y (1 + b)
      rw [months_snoc]
      omega
theorem months_12 (y : Int) : months y 1 12 = (if leap y = true then 366 else 365) := by
  unfold months months months months months months months months months months months months months
  unfold len
  by_cases h : leap y = true <;> simp [h]
/-- a day that there is -/
def Good (y m d : Int) : Prop := (1 ≤ y ∧ y ≤ 9999) ∧ (1 ≤ m ∧ m ≤ 12) ∧ 1 ≤ d ∧ d ≤ len y m
def count (y m d : Int) : Int := ahead y + months y 1 (m - 1).toNat + d - 1
theorem count_lt {y m d : Int} (h : Good y m d) : ahead y ≤ count y m d ∧ count y m d < ahead (y + 1) := by
  obtain ⟨hy, hm, hd⟩ := h
  unfold count
  obtain ⟨n, rfl⟩ : ∃ n : Nat, m = 1 + n := ⟨(m - 1).toNat, by omega⟩
  have e : (1 + (n : Int) - 1).toNat = n := by omega
  have s := months_snoc y n 1
  have t := months_le y (a := n + 1) (b := 12) (by omega)
  have z := months_le y (a := 0) (b := n) (by omega)
  rw [months_12, ← Int.add_sub_cancel (if leap y = true then (366 : Int) else 365) (ahead y), Int.add_comm, ] at t
  have a := ahead_succ y
  have z0 : months y 1 0 = 0 := rfl
  rw [e]
  omega
theorem good_one {y m d y' m' d' : Int} (h : Good y m d) (h' : Good y' m' d') (e : count y m d = count y' m' d') : y = y' ∧ m = m' ∧ d = d' := by
  have c := count_lt h
  have c' := count_lt h'
  have hy : y = y' := by
    rcases Int.lt_trichotomy y y' with q | q | q
    · have := ahead_le (a := y + 1) (b := y') (by omega)
      omega
    · exact q
    · have := ahead_le (a := y' + 1) (b := y) (by omega)
      omega
  subst hy
  obtain ⟨_, hm, hd⟩ := h
  obtain ⟨_, hm', hd'⟩ := h'
  unfold count at e
  obtain ⟨n, rfl⟩ : ∃ n : Nat, m = 1 + n := ⟨(m - 1).toNat, by omega⟩
  obtain ⟨n', rfl⟩ : ∃ n : Nat, m' = 1 + n := ⟨(m' - 1).toNat, by omega⟩
  rw [show (1 + (n : Int) - 1).toNat = n by omega, show (1 + (n' : Int) - 1).toNat = n' by omega] at e
  have s := months_snoc y n 1
  have s' := months_snoc y n' 1
  rcases Nat.lt_trichotomy n n' with q | q | q
  · have := months_le y (a := n + 1) (b := n') (by omega)
    omega
  · subst q
    omega
  · have := months_le y (a := n' + 1) (b := n) (by omega)
    omega
theorem year_loop (fu : Nat) (D : Int) (h1 : D ≤ 3652058) (c2 c3 : Cell) : ∀ (n : Nat) (y : Int), 1 ≤ y → y ≤ 9999 → ahead y ≤ D → (9999 - y).toNat < n → ∃ y' : Int, (1 ≤ y' ∧ y' ≤ 9999) ∧ ahead y' ≤ D ∧ D < ahead (y' + 1) ∧ loopW (mTru (mBin fLe (mCall 1 (Pg.f_p_ahead_of fu) [] (mCons (mBin fAddL (mVar 1) (mC (.int 1))) (mNil))) (mVar 0))) (Pg.b_p_parts_of_1 fu) n [.dat (.int D), .dat (.int y), c2, c3] = .nx [.dat (.int D), .dat (.int y'), c2, c3]
  | 0, y, _, _, _, h => by omega
  | n + 1, y, y1, y2, ya, h => by
    have a := ahead_of fu (y + 1) (by omega)
    by_cases w : ahead (y + 1) ≤ D
    · have e : ahead 10000 = 3652059 := by decide
      have y3 : y ≠ 9999 := fun q => by
        subst q
        rw [show (9999 : Int) + 1 = 10000 by decide, e] at w
        omega
      obtain ⟨y', p1, p2, p3, p4⟩ := year_loop fu D h1 c2 c3 n (y + 1) (by omega) (by omega) w (by omega)
      refine ⟨y', p1, p2, p3, ?_⟩
      rw [loopW_ap, Pg.b_p_parts_of_1]
      rw [Pg.b_p_parts_of_1] at p4
      simp [a, w]
      exact p4
    · refine ⟨y, ⟨y1, y2⟩, ya, by omega, ?_⟩
      rw [loopW_ap]
      simp [a, w]
theorem month_loop (fu : Nat) (D y : Int) : ∀ (n : Nat) (l : Int) (m : Nat), 0 ≤ l → m < 12 → l + months y 1 m < months y 1 12 → 12 - m < n → ∃ (l' : Int) (m' : Nat), m' < 12 ∧ (0 ≤ l' ∧ l' < len y (1 + m')) ∧ l' + months y 1 m' = l + months y 1 m ∧ loopW (mTru (mBin fGe (mVar 2) (mCall 2 (Pg.f_p_length_of fu) [] (mCons (mVar 1) (mCons (mVar 3) (mNil)))))) (Pg.b_p_parts_of_2 fu) n [.dat (.int D), .dat (.int y), .dat (.int l), .dat (.int (1 + m))] = .nx [.dat (.int D), .dat (.int y), .dat (.int l'), .dat (.int (1 + m'))]
  | 0, l, m, _, _, _, h => by omega
  | n + 1, l, m, l0, m1, s, h => by
    have a := length_of fu y (1 + m)
    by_cases w : len y (1 + m) ≤ l
    · have sn := months_snoc y m 1
      have m2 : m ≠ 11 := fun q => by
        subst q
        have s2 : months y 1 12 = months y 1 11 + len y (1 + (11 : Nat)) := months_snoc y 11 1
        omega
      obtain ⟨l', m', p1, p2, p3, p4⟩ := month_loop fu D y n (l - len y (1 + m)) (m + 1) (by omega) (by omega) (by omega) (by omega)
      refine ⟨l', m', p1, p2, by omega, ?_⟩
      rw [loopW_ap, Pg.b_p_parts_of_2]
      rw [Pg.b_p_parts_of_2, show 1 + ((m + 1 : Nat) : Int) = 1 + (m : Int) + 1 by omega] at p4
      simp [a, w]
      exact p4
    · refine ⟨l, m, m1, ⟨l0, by omega⟩, rfl, ?_⟩
      rw [loopW_ap]
      simp [a, w]
/-- what the program says of a day -/
theorem parts_of (fu : Nat) (hf : 10000 < fu) (D : Int) (h0 : 0 ≤ D) (h1 : D ≤ 3652058) : ∃ y m d : Int, Pg.f_p_parts_of fu [.int D] = .ok (.tuple [.int y, .int m, .int d]) ∧ Good y m d ∧ count y m d = D := by
  have d1 := fdv_n D 366 (by decide) (by decide)
  simp at d1
  obtain ⟨y, py, pa, pb, lp⟩ := year_loop fu D h1 .un .un fu (D / 366 + 1) (by omega) (by omega) (by unfold ahead; omega) (by omega)
  have as := ahead_succ y
  have m12 := months_12 y
  have a := ahead_of fu y (by omega)
  have z0 : months y 1 0 = 0 := rfl
  obtain ⟨l, m, pm, pl, ps, lq⟩ := month_loop fu D y fu (D - ahead y) 0 (by omega) (by omega) (by omega) (by omega)
  simp at lq
  refine ⟨y, 1 + m, l + 1, ?_, ⟨py, ⟨by omega, by omega⟩, by omega, by omega⟩, ?_⟩
  · rw [Pg.f_p_parts_of, Pg.s_p_parts_of]
    simp [run_eq, d1, lp, a, lq]
  · unfold count
    rw [show (1 + (m : Int) - 1).toNat = m by omega]
    omega
end Cal
set_option Elab.async false
set_option linter.all false
set_option maxRecDepth 100000
set_option maxHeartbeats 4000000
namespace K08
open PySem MI Num Tx Fg Cal PySem.NumText
theorem mixed (fu : Nat) (c : Int) : ∃ r : Int, Pg.f_law_mixed fu [.int c] = .ok (.int r) := by
  have p18 : fPow (.int 10) (.int 18) = some (.int 1000000000000000000) := fPow_ii (by decide)
  have m1 := fMod_pos (i := c) (j := 2147483647) (by decide)
  have b1 := Int.emod_nonneg c (b := 2147483647) (by decide)
  have b2 := Int.emod_lt_of_pos c (b := 2147483647) (by decide)
  have m2 := fMul_ii (i := c % 2147483647) (j := 48271) (okMul_bd 32 32 (by omega) (by decide) (by decide) (by decide) (by decide))
  have m3 := fMod_pos (i := c % 2147483647 * 48271 + 11) (j := 2147483647) (by decide)
  by_cases h : c ≥ 10 ^ 18
  · exact ⟨c, by
      rw [Pg.f_law_mixed, Pg.s_law_mixed]
      have : (1000000000000000000 : Int) ≤ c := by simpa using h
      simp [run_eq, p18, this]⟩
  · exact ⟨(c % 2147483647 * 48271 + 11) % 2147483647, by
      rw [Pg.f_law_mixed, Pg.s_law_mixed]
      have : ¬ (1000000000000000000 : Int) ≤ c := by simpa using h
      simp [run_eq, p18, this, m1, m2, m3]⟩
/-! figures of a fixed width -/
def w2 (n : Nat) : List Nat := [48 + n / 10, 48 + n % 10]
def w4 (n : Nat) : List Nat := [48 + n / 1000, 48 + n / 100 % 10, 48 + n / 10 % 10, 48 + n % 10]
theorem dg2 {n : Nat} (h : n < 100) : dg (100 + n) = 49 :: w2 n := by
  have e1 : 100 + n = 10 * (10 * 1 + n / 10) + n % 10 := by omega
  rw [e1, dg_snoc (by omega) (by omega), dg_snoc (by omega) (by omega), dg_lt (by omega)]
  rfl
theorem dg4 {n : Nat} (h : n < 10000) : dg (10000 + n) = 49 :: w4 n := by
  have e1 : 10000 + n = 10 * (10 * (10 * (10 * 1 + n / 1000) + n / 100 % 10) + n / 10 % 10) + n % 10 := by omega
  rw [e1, dg_snoc (by omega) (by omega), dg_snoc (by omega) (by omega), dg_snoc (by omega) (by omega), dg_snoc (by omega) (by omega), dg_lt (by omega)]
  rfl
theorem zf (a : List Nat) (c : Nat) (n : Nat) (hc : 48 ≤ c) (h : a.length + 1 ≤ n) : Txt.zfill (S (c :: a)) (n : Int) = S (List.replicate (n - (a.length + 1)) 48 ++ c :: a) := by
  unfold Txt.zfill
  by_cases e : a.length + 1 = n
  · rw [if_pos (by simp; omega), e, Nat.sub_self]
    rfl
  · rw [if_neg (by simp; omega)]
    unfold zfilled
    have h0 : (S (c :: a)).cps[0]? = some c := by simp [Tx.S]
    rw [h0]
    have n1 : c ≠ 43 := by omega
    have n2 : c ≠ 45 := by omega
    split
    · rename_i q; cases q; exact absurd rfl n1
    · rename_i q; cases q; exact absurd rfl n2
    · have : (((n : Int)).toNat - (S (c :: a)).length) = n - (a.length + 1) := by simp
      rw [this]
      apply Str.ext'
      unfold Builtin.Str.padded
      simp [Tx.S]
theorem zf2 {n : Nat} (h : n < 100) : Txt.zfill (S (dg n)) 2 = S (w2 n) := by
  by_cases c : n < 10
  · rw [dg_lt c]
    have := zf [] (48 + n) 2 (by omega) (by simp)
    refine Eq.trans this ?_
    have e1 : n / 10 = 0 := by omega
    have e2 : n % 10 = n := by omega
    simp [w2, e1, e2]
  · have e1 : n = 10 * (n / 10) + n % 10 := by omega
    rw [e1, dg_snoc (by omega) (by omega), dg_lt (by omega)]
    have := zf [48 + n % 10] (48 + n / 10) 2 (by omega) (by simp)
    refine Eq.trans this ?_
    have q1 : (10 * (n / 10) + n % 10) / 10 = n / 10 := by omega
    have q2 : (10 * (n / 10) + n % 10) % 10 = n % 10 := by omega
    simp [w2, q1, q2]
theorem zf4 {n : Nat} (h : n < 10000) : Txt.zfill (S (dg n)) 4 = S (w4 n) := by
  by_cases c : n < 10
  · rw [dg_lt c]
    refine Eq.trans (zf [] (48 + n) 4 (by omega) (by simp)) ?_
    have e1 : n / 10 = 0 := by omega
    have e2 : n % 10 = n := by omega
    have e3 : n / 100 = 0 := by omega
    have e4 : n / 1000 = 0 := by omega
    simp [w4, e1, e2, e3, e4, List.replicate]
  · by_cases c2 : n < 100
    · have e1 : n = 10 * (n / 10) + n % 10 := by omega
      have d : dg n = [48 + n / 10, 48 + n % 10] := by
        rw [e1, dg_snoc (by omega) (by omega), dg_lt (by omega), ← e1]
        rfl
      rw [d]
      refine Eq.trans (zf [48 + n % 10] (48 + n / 10) 4 (by omega) (by simp)) ?_
      have e3 : n / 100 = 0 := by omega
      have e4 : n / 1000 = 0 := by omega
      have e5 : n / 10 % 10 = n / 10 := by omega
      simp [w4, e3, e4, e5, List.replicate]
    · by_cases c3 : n < 1000
      · have e1 : n = 10 * (10 * (n / 100) + n / 10 % 10) + n % 10 := by omega
        have d : dg n = [48 + n / 100, 48 + n / 10 % 10, 48 + n % 10] := by
          rw [e1, dg_snoc (by omega) (by omega), dg_snoc (by omega) (by omega), dg_lt (by omega), ← e1]
          rfl
        rw [d]
        refine Eq.trans (zf [48 + n / 10 % 10, 48 + n % 10] (48 + n / 100) 4 (by omega) (by simp)) ?_
        have e4 : n / 1000 = 0 := by omega
        have e5 : n / 100 % 10 = n / 100 := by omega
        simp [w4, e4, e5, List.replicate]
      · have e1 : n = 10 * (10 * (10 * (n / 1000) + n / 100 % 10) + n / 10 % 10) + n % 10 := by omega
        have d : dg n = w4 n := by
          conv => lhs; rw [e1]
          rw [dg_snoc (by omega) (by omega), dg_snoc (by omega) (by omega), dg_snoc (by omega) (by omega), dg_lt (by omega)]
          rfl
        rw [d]
        exact zf [48 + n / 100 % 10, 48 + n / 10 % 10, 48 + n % 10] (48 + n / 1000) 4 (by omega) (by simp)
theorem val2 {n : Nat} (h : n < 100) : digitsVal (w2 n) = n := by
  show (0 * 10 + (48 + n / 10 - 48)) * 10 + (48 + n % 10 - 48) = n
  omega
theorem val4 {n : Nat} (h : n < 10000) : digitsVal (w4 n) = n := by
  show (((0 * 10 + (48 + n / 1000 - 48)) * 10 + (48 + n / 100 % 10 - 48)) * 10 + (48 + n / 10 % 10 - 48)) * 10 + (48 + n % 10 - 48) = n
  omega
theorem dig2 {n : Nat} (h : n < 100) : (w2 n).all dig = true := by simp [w2, dig]; omega
theorem dig4 {n : Nat} (h : n < 10000) : (w4 n).all dig = true := by simp [w4, dig]; omega
/-- a day's text -/
def dt (y m d : Nat) : List Nat := w4 y ++ 45 :: (w2 m ++ 45 :: w2 d)
/-! what is read -/
def fig (cs : List Nat) : List Nat := cs.take 4 ++ (cs.drop 5).take 2 ++ cs.drop 8
instance (y m d : Int) : Decidable (Good y m d) := by unfold Good; infer_instance
def due? (cs : List Nat) : Option Int :=
  if cs.length = 10 ∧ cs[4]? = some 45 ∧ cs[7]? = some 45 ∧ (fig cs).all dig = true then
    (if Good (digitsVal (cs.take 4) : Nat) (digitsVal ((cs.drop 5).take 2) : Nat) (digitsVal (cs.drop 8) : Nat) then some (count (digitsVal (cs.take 4) : Nat) (digitsVal ((cs.drop 5).take 2) : Nat) (digitsVal (cs.drop 8) : Nat)) else none) else none
theorem loop_read (fu : Nat) : ∀ (cs : List Nat) (t : Cell) (x : Cell), (cs.all dig = true → ∃ x', loopF (gN 1) (b_p_read_day_1 fu) (cs.map fun c => .str (S [c])) [t, x] = .nx [t, x']) ∧ (cs.all dig = false → ∃ g, loopF (gN 1) (b_p_read_day_1 fu) (cs.map fun c => .str (S [c])) [t, x] = .ex "NoDay" none g)
  | [], t, x => ⟨fun _ => ⟨x, rfl⟩, fun h => by cases h⟩
  | c :: cs, t, x => by
    cases hd : dig c with
    | true =>
      obtain ⟨i1, i2⟩ := loop_read fu cs t (.dat (.str (S [c])))
      have e : loopF (gN 1) (b_p_read_day_1 fu) ((c :: cs).map fun c => PyData.str (S [c])) [t, x] = loopF (gN 1) (b_p_read_day_1 fu) (cs.map fun c => PyData.str (S [c])) [t, .dat (.str (S [c]))] := by
        rw [List.map_cons]
        refine loopF_cons (g1 := [t, .dat (.str (S [c]))]) (by simp) ?_
        simp [b_p_read_day_1, in_figs, hd]
      rw [e, List.all_cons, hd, Bool.true_and]
      exact ⟨i1, i2⟩
    | false =>
      rw [List.all_cons, hd, Bool.false_and]
      refine ⟨fun h => (by cases h), fun _ => ⟨[t, .dat (.str (S [c]))], ?_⟩⟩
      rw [List.map_cons, loopF]
      simp [b_p_read_day_1, in_figs, hd]
theorem loop_due (fu : Nat) : ∀ (cs : List Nat) (t : Cell) (x y z w : Cell), (cs.all dig = true → ∃ x', loopF (gN 1) (b_law_due_1 fu) (cs.map fun c => .str (S [c])) [t, x, y, z, w] = .nx [t, x', y, z, w]) ∧ (cs.all dig = false → loopF (gN 1) (b_law_due_1 fu) (cs.map fun c => .str (S [c])) [t, x, y, z, w] = .rt .none)
  | [], t, x, y, z, w => ⟨fun _ => ⟨x, rfl⟩, fun h => by cases h⟩
  | c :: cs, t, x, y, z, w => by
    cases hd : dig c with
    | true =>
      obtain ⟨i1, i2⟩ := loop_due fu cs t (.dat (.str (S [c]))) y z w
      have e : loopF (gN 1) (b_law_due_1 fu) ((c :: cs).map fun c => PyData.str (S [c])) [t, x, y, z, w] = loopF (gN 1) (b_law_due_1 fu) (cs.map fun c => PyData.str (S [c])) [t, .dat (.str (S [c])), y, z, w] := by
        rw [List.map_cons]
        refine loopF_cons (g1 := [t, .dat (.str (S [c])), y, z, w]) (by simp) ?_
        simp [b_law_due_1, in_figs, hd]
      rw [e, List.all_cons, hd, Bool.true_and]
      exact ⟨i1, i2⟩
    | false =>
      rw [List.all_cons, hd, Bool.false_and]
      refine ⟨fun h => (by cases h), fun _ => ?_⟩
      rw [List.map_cons]
      refine loopF_ret (g1 := [t, .dat (.str (S [c])), y, z, w]) (by simp) ?_
      simp [b_law_due_1, in_figs, hd]
theorem ten {α : Type} {cs : List α} (h : cs.length = 10) : ∃ a b c d e f g i j k, cs = [a, b, c, d, e, f, g, i, j, k] := by
  match cs, h with
  | [a, b, c, d, e, f, g, i, j, k], _ => exact ⟨a, b, c, d, e, f, g, i, j, k, rfl⟩
theorem read_ok (fu : Nat) (cs : List Nat) (h : cs.length ≤ most) : f_p_read_day fu [.str (S cs)] = match due? cs with
    | some n => .ok (.int n)
    | none => .exc "NoDay" none := by
  have ln := len_s h
  unfold due?
  by_cases c : cs.length = 10
  rotate_left
  · have c' : ¬ (cs.length : Int) = 10 := by omega
    rw [if_neg (fun k => c k.1)]
    rw [f_p_read_day, s_p_read_day]
    simp [run_eq, ln, c, c']
  have i4 : ∃ x, cs[4]? = some x := ⟨_, List.getElem?_eq_getElem (by omega)⟩
  have i7 : ∃ x, cs[7]? = some x := ⟨_, List.getElem?_eq_getElem (by omega)⟩
  obtain ⟨x4, h4⟩ := i4
  obtain ⟨x7, h7⟩ := i7
  have f4 := ix_s h h4
  have f7 := ix_s h h7
  have c' : (cs.length : Int) = 10 := by omega
  have g4 : fIx (.str (S cs)) (.int 4) = some (.str (S [x4])) := f4
  have g7 : fIx (.str (S cs)) (.int 7) = some (.str (S [x7])) := f7
  by_cases a4 : x4 = 45
  rotate_left
  · rw [if_neg (fun k => a4 (by have := k.2.1; rw [h4] at this; exact Option.some.inj this))]
    rw [f_p_read_day, s_p_read_day]
    simp [run_eq, ln, c', g4, a4]
  by_cases a7 : x7 = 45
  rotate_left
  · rw [if_neg (fun k => a7 (by have := k.2.2.1; rw [h7] at this; exact Option.some.inj this))]
    rw [f_p_read_day, s_p_read_day]
    simp [run_eq, ln, c', g4, g7, a4, a7]
  subst a4 a7
  have M : most = 16777216 := rfl
  have t1 : fSl (.str (S cs)) none (some 4) = some (.str (S (cs.take 4))) := fsl_to h 4
  have t2 : fSl (.str (S cs)) (some 5) (some 7) = some (.str (S ((cs.drop 5).take 2))) := fsl_mid h 5 7 (by omega) (by omega)
  have t3 : fSl (.str (S cs)) (some 8) none = some (.str (S (cs.drop 8))) := fsl_from h 8
  have l1 : (cs.take 4).length = 4 := by rw [List.length_take]; omega
  have l2 : ((cs.drop 5).take 2).length = 2 := by rw [List.length_take, List.length_drop]; omega
  have l3 : (cs.drop 8).length = 2 := by rw [List.length_drop]; omega
  have s1 := add_ss (a := cs.take 4) (b := (cs.drop 5).take 2) (by omega)
  have s2 := add_ss (a := cs.take 4 ++ (cs.drop 5).take 2) (b := cs.drop 8) (by rw [List.length_append]; omega)
  have hs := for_signs (m := mBin fAddL (mBin fAddL (mSl (mVar 0) (mNoPart) (mPart (mC (.int 4)))) (mSl (mVar 0) (mPart (mC (.int 5))) (mPart (mC (.int 7))))) (mSl (mVar 0) (mPart (mC (.int 8))) (mNoPart))) (t := gN 1) (b := b_p_read_day_1 fu) (g := [.dat (.str (S cs)), .un]) (cs := fig cs) (by simp [t1, t2, t3, s1, s2, fig, -List.append_assoc, -List.take_append_drop])
  obtain ⟨q1, q2⟩ := loop_read fu (fig cs) (.dat (.str (S cs))) .un
  cases hd : (fig cs).all dig with
  | false =>
    obtain ⟨g, q⟩ := q2 hd
    rw [if_neg (fun k => Bool.noConfusion (k.2.2.2))]
    rw [f_p_read_day, s_p_read_day]
    simp only [sSeq_ap, hs, q, run_eq, List.length_cons, List.length_nil]
    simp [ln, c', g4, g7]
    rw [hs, q]
  | true =>
    obtain ⟨x', q⟩ := q1 hd
    rw [if_pos ⟨c, h4, h7, rfl⟩]
    have hd' := hd
    unfold fig at hd'
    rw [List.all_append, List.all_append, Bool.and_eq_true, Bool.and_eq_true] at hd'
    obtain ⟨⟨d1, d2⟩, d3⟩ := hd'
    have n1 := int_of d1 (fun e => by rw [e] at l1; cases l1) (by omega)
    have n2 := int_of d2 (fun e => by rw [e] at l2; cases l2) (by omega)
    have n3 := int_of d3 (fun e => by rw [e] at l3; cases l3) (by omega)
    have v1 := val_lt _ d1
    rw [l1] at v1
    generalize digitsVal (cs.take 4) = y at *
    generalize digitsVal ((cs.drop 5).take 2) = m at *
    generalize digitsVal (cs.drop 8) = d at *
    by_cases gd : Good y m d
    · rw [if_pos gd]
      have r := day_of fu y m d gd.1 gd.2.1 gd.2.2
      rw [f_p_read_day, s_p_read_day]
      simp [run_eq, ln, c', g4, g7]
      rw [hs, q]
      simp [t1, t2, t3, n1, n2, n3, r, count]
    · rw [if_neg gd]
      have r := day_of_bad fu y m d gd
      rw [f_p_read_day, s_p_read_day]
      simp [run_eq, ln, c', g4, g7]
      rw [hs, q]
      simp [t1, t2, t3, n1, n2, n3, r, flatO]
theorem due_ok (fu : Nat) (cs : List Nat) (h : cs.length ≤ most) : f_law_due fu [.str (S cs)] = .ok (match due? cs with
    | some n => .int n
    | none => .none) := by
  have ln := len_s h
  unfold due?
  by_cases c : cs.length = 10
  rotate_left
  · have c' : ¬ (cs.length : Int) = 10 := by omega
    rw [if_neg (fun k => c k.1)]
    rw [f_law_due, s_law_due]
    simp [run_eq, ln, c, c']
  have i4 : ∃ x, cs[4]? = some x := ⟨_, List.getElem?_eq_getElem (by omega)⟩
  have i7 : ∃ x, cs[7]? = some x := ⟨_, List.getElem?_eq_getElem (by omega)⟩
  obtain ⟨x4, h4⟩ := i4
  obtain ⟨x7, h7⟩ := i7
  have f4 := ix_s h h4
  have f7 := ix_s h h7
  have c' : (cs.length : Int) = 10 := by omega
  have g4 : fIx (.str (S cs)) (.int 4) = some (.str (S [x4])) := f4
  have g7 : fIx (.str (S cs)) (.int 7) = some (.str (S [x7])) := f7
  by_cases a4 : x4 = 45
  rotate_left
  · rw [if_neg (fun k => a4 (by have := k.2.1; rw [h4] at this; exact Option.some.inj this))]
    rw [f_law_due, s_law_due]
    simp [run_eq, ln, c', g4, a4]
  by_cases a7 : x7 = 45
  rotate_left
  · rw [if_neg (fun k => a7 (by have := k.2.2.1; rw [h7] at this; exact Option.some.inj this))]
    rw [f_law_due, s_law_due]
    simp [run_eq, ln, c', g4, g7, a4, a7]
  subst a4 a7
  have M : most = 16777216 := rfl
  have t1 : fSl (.str (S cs)) none (some 4) = some (.str (S (cs.take 4))) := fsl_to h 4
  have t2 : fSl (.str (S cs)) (some 5) (some 7) = some (.str (S ((cs.drop 5).take 2))) := fsl_mid h 5 7 (by omega) (by omega)
  have t3 : fSl (.str (S cs)) (some 8) none = some (.str (S (cs.drop 8))) := fsl_from h 8
  have l1 : (cs.take 4).length = 4 := by rw [List.length_take]; omega
  have l2 : ((cs.drop 5).take 2).length = 2 := by rw [List.length_take, List.length_drop]; omega
  have l3 : (cs.drop 8).length = 2 := by rw [List.length_drop]; omega
  have s1 := add_ss (a := cs.take 4) (b := (cs.drop 5).take 2) (by omega)
  have s2 := add_ss (a := cs.take 4 ++ (cs.drop 5).take 2) (b := cs.drop 8) (by rw [List.length_append]; omega)
  have hs := for_signs (m := mBin fAddL (mBin fAddL (mSl (mVar 0) (mNoPart) (mPart (mC (.int 4)))) (mSl (mVar 0) (mPart (mC (.int 5))) (mPart (mC (.int 7))))) (mSl (mVar 0) (mPart (mC (.int 8))) (mNoPart))) (t := gN 1) (b := b_law_due_1 fu) (g := [.dat (.str (S cs)), .un, .un, .un, .un]) (cs := fig cs) (by simp [t1, t2, t3, s1, s2, fig, -List.append_assoc, -List.take_append_drop])
  obtain ⟨q1, q2⟩ := loop_due fu (fig cs) (.dat (.str (S cs))) .un .un .un .un
  cases hd : (fig cs).all dig with
  | false =>
    have q := q2 hd
    rw [if_neg (fun k => Bool.noConfusion (k.2.2.2))]
    rw [f_law_due, s_law_due]
    simp [run_eq, ln, c', g4, g7]
    rw [hs, q]
  | true =>
    obtain ⟨x', q⟩ := q1 hd
    rw [if_pos ⟨c, h4, h7, rfl⟩]
    have hd' := hd
    unfold fig at hd'
    rw [List.all_append, List.all_append, Bool.and_eq_true, Bool.and_eq_true] at hd'
    obtain ⟨⟨d1, d2⟩, d3⟩ := hd'
    have n1 := int_of d1 (fun e => by rw [e] at l1; cases l1) (by omega)
    have n2 := int_of d2 (fun e => by rw [e] at l2; cases l2) (by omega)
    have n3 := int_of d3 (fun e => by rw [e] at l3; cases l3) (by omega)
    have v1 := val_lt _ d1
    rw [l1] at v1
    generalize digitsVal (cs.take 4) = y at *
    generalize digitsVal ((cs.drop 5).take 2) = m at *
    generalize digitsVal (cs.drop 8) = d at *
    have yb : ((y : Int)).natAbs < 2 ^ 100 := Nat.lt_trans (show ((y : Int)).natAbs < 10 ^ 4 by omega) (by decide)
    by_cases gd : Good y m d
    · rw [if_pos gd]
      obtain ⟨g1, g2, g3⟩ := gd
      have r := law_count fu y m d yb g2.1 g2.2
      have ll := law_long fu y m g2.1 g2.2
      have z1 : ¬ (y : Int) < 1 := by omega
      have z2 : ¬ (m : Int) < 1 := by omega
      have z3 : ¬ 12 < (m : Int) := by omega
      have z4 : ¬ (d : Int) < 1 := by omega
      have z5 : ¬ len y m < (d : Int) := by omega
      rw [f_law_due, s_law_due]
      simp [run_eq, ln, c', g4, g7]
      rw [hs, q]
      simp [t1, t2, t3, n1, n2, n3, ll, z1, z2, z3, z4, z5, r, count]
    · rw [if_neg gd]
      rw [f_law_due, s_law_due]
      simp [run_eq, ln, c', g4, g7]
      rw [hs, q]
      by_cases z1 : (y : Int) < 1
      · simp [t1, t2, t3, n1, n2, n3, z1]
      by_cases z2 : (m : Int) < 1
      · simp [t1, t2, t3, n1, n2, n3, z1, z2]
      by_cases z3 : 12 < (m : Int)
      · simp [t1, t2, t3, n1, n2, n3, z1, z2, z3]
      by_cases z4 : (d : Int) < 1
      · simp [t1, t2, t3, n1, n2, n3, z1, z2, z3, z4]
      have ll := law_long fu y m (by omega) (by omega)
      have z5 : len y m < (d : Int) := by
        rcases Int.lt_or_le (len y m) d with k | k
        · exact k
        · exact absurd ⟨⟨by omega, by omega⟩, ⟨by omega, by omega⟩, by omega, k⟩ gd
      simp [t1, t2, t3, n1, n2, n3, ll, z1, z2, z3, z4, z5]
theorem law_read (fu : Nat) (cs : List Nat) (h : cs.length ≤ most) : f_law_read fu [.str (S cs), match due? cs with
    | some n => .int n
    | none => .none] = .ok (.bool true) := by
  have r := read_ok fu cs h
  have ff : flatO none = true := rfl
  cases e : due? cs with
  | none =>
    rw [e] at r
    rw [f_law_read, s_law_read]
    simp [run_eq, r, subT, ff, fIs]
  | some n =>
    rw [e] at r
    rw [f_law_read, s_law_read]
    simp [run_eq, r, subT, ff, fIs]
theorem law_read_none (fu : Nat) (cs : List Nat) (h : cs.length ≤ most) (e : due? cs = none) : f_law_read fu [.str (S cs), .none] = .ok (.bool true) := by
  have := law_read fu cs h
  rw [e] at this
  exact this
theorem law_read_some (fu : Nat) (cs : List Nat) (n : Int) (h : cs.length ≤ most) (e : due? cs = some n) : f_law_read fu [.str (S cs), .int n] = .ok (.bool true) := by
  have := law_read fu cs h
  rw [e] at this
  exact this
/-! a day that there is -/
theorem dt_len (y m d : Nat) : (dt y m d).length = 10 := by simp [dt, w4, w2]
theorem due_dt {y m d : Nat} (hy : y < 10000) (hm : m < 100) (hd : d < 100) (g : Good y m d) : due? (dt y m d) = some (count y m d) := by
  have e1 : (dt y m d).take 4 = w4 y := rfl
  have e2 : ((dt y m d).drop 5).take 2 = w2 m := rfl
  have e3 : (dt y m d).drop 8 = w2 d := rfl
  unfold due?
  rw [if_pos ⟨dt_len y m d, rfl, rfl, by unfold fig; rw [e1, e2, e3, List.all_append, List.all_append, dig4 hy, dig2 hm, dig2 hd]; rfl⟩, e1, e2, e3, val4 hy, val2 hm, val2 hd, if_pos g]
theorem due_len {cs : List Nat} (h : cs.length ≠ 10) : due? cs = none := by
  unfold due?
  rw [if_neg (fun k => h k.1)]
theorem due_moved (y m d : Nat) (hy : y < 10000) : due? (((dt y m d).drop 1).take 4 ++ (dt y m d).take 1 ++ (dt y m d).drop 5) = none := by
  unfold due?
  rw [if_neg]
  rintro ⟨_, h, _⟩
  have : some (48 + y / 1000) = some 45 := h
  have := Option.some.inj this
  omega
theorem f_str_n {n : Nat} (h : n < 10 ^ 60) : fStr [.int (n : Int)] = some (.str (S (dg n))) := by
  show (if ((n : Int)).natAbs.log2 < 1920 then some (PyData.str (Str.ofString (toString (n : Int)))) else none) = _
  have : ((n : Int)).natAbs.log2 < 200 := MI.log2_lt (Nat.lt_trans (show ((n : Int)).natAbs < 10 ^ 60 from h) (by decide)) (by decide)
  rw [if_pos (by omega), str_nat]
theorem f_zf2 {n : Nat} (h : n < 100) : fZfill (.str (S (dg n))) [.int 2] = some (.str (S (w2 n))) := by
  show (if PadOk 2 = true then some (PyData.str (Txt.zfill (S (dg n)) 2)) else none) = _
  rw [if_pos (by decide +kernel), zf2 h]
theorem f_zf4 {n : Nat} (h : n < 10000) : fZfill (.str (S (dg n))) [.int 4] = some (.str (S (w4 n))) := by
  show (if PadOk 4 = true then some (PyData.str (Txt.zfill (S (dg n)) 4)) else none) = _
  rw [if_pos (by decide +kernel), zf4 h]
/-- a day as naturals -/
theorem nats {y m d : Int} (g : Good y m d) : ∃ a b c : Nat, y = a ∧ m = b ∧ d = c ∧ a < 10000 ∧ b < 100 ∧ c < 100 := by
  obtain ⟨g1, g2, g3⟩ := g
  have l : len y m ≤ 31 := by unfold len; split <;> (try split) <;> omega
  exact ⟨y.toNat, m.toNat, d.toNat, by omega, by omega, by omega, by omega, by omega, by omega⟩
theorem count_b {y m d : Int} (g : Good y m d) : 0 ≤ count y m d ∧ count y m d ≤ 3652058 := by
  obtain ⟨h1, h2⟩ := count_lt g
  have a1 := ahead_le (a := 1) (b := y) g.1.1
  have a2 := ahead_le (a := y + 1) (b := 10000) (by have := g.1.2; omega)
  have e1 : ahead 1 = 0 := by decide +kernel
  have e2 : ahead 10000 = 3652059 := by decide +kernel
  omega
theorem parts (fu : Nat) (hf : 10000 < fu) {y m d : Int} (g : Good y m d) : Pg.f_p_parts_of fu [.int (count y m d)] = .ok (.tuple [.int y, .int m, .int d]) := by
  obtain ⟨b1, b2⟩ := count_b g
  obtain ⟨y', m', d', e, g', c'⟩ := parts_of fu hf (count y m d) b1 b2
  obtain ⟨rfl, rfl, rfl⟩ := good_one g' g c'
  exact e
theorem show_ok (fu : Nat) (hf : 10000 < fu) {y m d : Nat} (hy : y < 10000) (hm : m < 100) (hd : d < 100) (g : Good y m d) : f_p_show_day fu [.int (count y m d)] = .ok (.str (S (dt y m d))) := by
  have p := parts fu hf g
  have a1 := f_str_n (n := y) (Nat.lt_trans hy (by decide))
  have a2 := f_str_n (n := m) (Nat.lt_trans hm (by decide))
  have a3 := f_str_n (n := d) (Nat.lt_trans hd (by decide))
  have z1 := f_zf4 hy
  have z2 := f_zf2 hm
  have z3 := f_zf2 hd
  have M : most = 16777216 := rfl
  have s1 := add_ss (a := w4 y) (b := [45]) (by rw [M]; simp [w4])
  have s2 := add_ss (a := w4 y ++ [45]) (b := w2 m) (by rw [M]; simp [w4, w2])
  have s3 := add_ss (a := w4 y ++ [45] ++ w2 m) (b := [45]) (by rw [M]; simp [w4, w2])
  have s4 := add_ss (a := w4 y ++ [45] ++ w2 m ++ [45]) (b := w2 d) (by rw [M]; simp [w4, w2])
  have e : dt y m d = w4 y ++ [45] ++ w2 m ++ [45] ++ w2 d := by simp [dt]
  rw [e, f_p_show_day, s_p_show_day]
  simp [run_eq, p, a1, a2, a3, mMt_ap, ty_s, z1, z2, z3, s1, s2, s3, s4, -List.append_assoc]
theorem bent (fu : Nat) (cs : List Nat) (cell : Int) (h : cs.length ≤ 200) (h1 : 1 ≤ cs.length) : ∃ cs', f_law_bent fu [.str (S cs), .int cell] = .ok (.str (S cs')) ∧ cs'.length ≤ most := by
  have lm : cs.length ≤ most := Nat.le_trans h (by decide)
  have m17 := fMod_pos (i := cell) (j := 17) (by decide)
  have d17 := fFdv_pos (i := cell) (j := 17) (by decide) (by decide +kernel)
  have d51 := fFdv_pos (i := cell) (j := 51) (by decide) (by decide +kernel)
  have m3 := fMod_pos (i := cell / 17) (j := 3) (by decide)
  have ml := fMod_pos (i := cell / 51) (j := (cs.length : Int)) (by omega)
  have ml1 := fMod_pos (i := cell / 51) (j := (cs.length : Int) + 1) (by omega)
  have ln := len_s lm
  have a1 := Int.emod_nonneg cell (b := 17) (by decide)
  have a2 := Int.emod_lt_of_pos cell (b := 17) (by decide)
  have b1 := Int.emod_nonneg (cell / 51) (b := (cs.length : Int)) (by omega)
  have b2 := Int.emod_lt_of_pos (cell / 51) (b := (cs.length : Int)) (by omega)
  have c1 := Int.emod_nonneg (cell / 51) (b := (cs.length : Int) + 1) (by omega)
  have c2 := Int.emod_lt_of_pos (cell / 51) (b := (cs.length : Int) + 1) (by omega)
  obtain ⟨k, hk⟩ := Int.eq_ofNat_of_zero_le a1
  obtain ⟨n, hn⟩ := Int.eq_ofNat_of_zero_le b1
  obtain ⟨m, hm⟩ := Int.eq_ofNat_of_zero_le c1
  rw [hk] at m17
  rw [hn] at ml b2
  rw [hm] at ml1 c2
  have lit : ("0123456789-/+ \na_" : Str) = S [48, 49, 50, 51, 52, 53, 54, 55, 56, 57, 45, 47, 43, 32, 10, 97, 95] := by decide +kernel
  have kl : k < 17 := by omega
  obtain ⟨c, hc⟩ : ∃ c, [48, 49, 50, 51, 52, 53, 54, 55, 56, 57, 45, 47, 43, 32, 10, 97, 95][k]? = some c := ⟨_, List.getElem?_eq_getElem (by simpa using kl)⟩
  have ix := ix_s (by decide) hc
  rw [← lit] at ix
  have t1 := fsl_to lm n
  have t2 := fsl_to lm m
  have u1 := fsl_from lm m
  have u2 := fsl_from lm (n + 1)
  have n1 : ((n + 1 : Nat) : Int) = (n : Int) + 1 := by omega
  rw [n1] at u2
  have M : most = 16777216 := rfl
  have s1 := add_ss (a := cs.take m) (b := [c]) (by rw [List.length_take, M]; simp; omega)
  have s2 := add_ss (a := cs.take m ++ [c]) (b := cs.drop m) (by rw [List.length_append, List.length_take, List.length_drop, M]; simp; omega)
  have s3 := add_ss (a := cs.take n) (b := cs.drop (n + 1)) (by rw [List.length_take, List.length_drop, M]; omega)
  have s4 := add_ss (a := cs.take n) (b := [c]) (by rw [List.length_take, M]; simp; omega)
  have s5 := add_ss (a := cs.take n ++ [c]) (b := cs.drop (n + 1)) (by rw [List.length_append, List.length_take, List.length_drop, M]; simp; omega)
  rw [f_law_bent, s_law_bent]
  rcases (by omega : cell / 17 % 3 = 0 ∨ cell / 17 % 3 = 1 ∨ cell / 17 % 3 = 2) with w | w | w
  · exact ⟨_, by simp [run_eq, m17, d17, d51, m3, ml, ml1, ln, ix, t1, t2, u1, u2, s4, s5, w, -List.append_assoc]; rfl, by simp; omega⟩
  · exact ⟨_, by simp [run_eq, m17, d17, d51, m3, ml, ml1, ln, ix, t1, t2, u1, u2, s3, w, -List.append_assoc]; rfl, by simp; omega⟩
  · exact ⟨_, by simp [run_eq, m17, d17, d51, m3, ml, ml1, ln, ix, t1, t2, u1, u2, s1, s2, w, -List.append_assoc]; rfl, by simp; omega⟩
theorem law_parts (fu : Nat) (a b : Int) : ∃ y m d : Nat, f_law_parts fu [.int a, .int b] = .ok (.tuple [.int y, .int m, .int d]) ∧ Good y m d ∧ y < 10000 ∧ m < 100 ∧ d < 100 := by
  have e : ∃ y m d : Int, f_law_parts fu [.int a, .int b] = .ok (.tuple [.int y, .int m, .int d]) ∧ Good y m d := by
    have h1 := fMod_pos (i := a) (j := 9999) (by decide)
    have h2 := fFdv_pos (i := a) (j := 9999) (by decide) (by decide +kernel)
    have h3 := fMod_pos (i := a / 9999) (j := 4) (by decide)
    have h4 := fFdv_pos (i := a) (j := 39996) (by decide) (by decide +kernel)
    have h5 := fMod_pos (i := a / 39996) (j := 4) (by decide)
    have h6 := fMod_pos (i := b) (j := 12) (by decide)
    have h7 := fFdv_pos (i := b) (j := 12) (by decide) (by decide +kernel)
    have h8 := fFdv_pos (i := b) (j := 372) (by decide) (by decide +kernel)
    have h9 := fMod_pos (i := b / 372) (j := 4) (by decide)
    have b6 := Int.emod_nonneg b (b := 12) (by decide)
    have b6' := Int.emod_lt_of_pos b (b := 12) (by decide)
    have b1 := Int.emod_nonneg a (b := 9999) (by decide)
    have b1' := Int.emod_lt_of_pos a (b := 9999) (by decide)
    have key : ∀ y : Int, 1 ≤ y ∧ y ≤ 9999 → ∃ d : Int, (1 ≤ d ∧ d ≤ len y (1 + b % 12)) ∧ Pg.f_law_long fu [.int y, .int (1 + b % 12)] = .ok (.int (len y (1 + b % 12))) ∧ ((b / 372 % 4 = 1 ∧ d = len y (1 + b % 12)) ∨ (¬ b / 372 % 4 = 1 ∧ d = 1 + b / 12 % len y (1 + b % 12))) ∧ fMod (.int (b / 12)) (.int (len y (1 + b % 12))) = some (.int (b / 12 % len y (1 + b % 12))) := by
      intro y hy
      have ll := law_long fu y (1 + b % 12) (by omega) (by omega)
      have lg := len_ge y (1 + b % 12)
      have mp := fMod_pos (i := b / 12) (j := len y (1 + b % 12)) (by omega)
      have c1 := Int.emod_nonneg (b / 12) (b := len y (1 + b % 12)) (by omega)
      have c2 := Int.emod_lt_of_pos (b / 12) (b := len y (1 + b % 12)) (by omega)
      by_cases w : b / 372 % 4 = 1
      · exact ⟨_, ⟨by omega, Int.le_refl _⟩, ll, .inl ⟨w, rfl⟩, mp⟩
      · exact ⟨_, ⟨by omega, by omega⟩, ll, .inr ⟨w, rfl⟩, mp⟩
    by_cases w : a / 9999 % 4 = 1
    · have ix : ∃ y : Int, (1 ≤ y ∧ y ≤ 9999) ∧ fIx (.list [.int 999, .int 1000, .int 8999, .int 9000]) (.int (a / 39996 % 4)) = some (.int y) := by
        rcases (by omega : a / 39996 % 4 = 0 ∨ a / 39996 % 4 = 1 ∨ a / 39996 % 4 = 2 ∨ a / 39996 % 4 = 3) with q | q | q | q <;> rw [q]
        · exact ⟨999, by decide, rfl⟩
        · exact ⟨1000, by decide, rfl⟩
        · exact ⟨8999, by decide, rfl⟩
        · exact ⟨9000, by decide, rfl⟩
      obtain ⟨y, hy, ix⟩ := ix
      obtain ⟨d, hd, ll, dd, mp⟩ := key y hy
      refine ⟨y, 1 + b % 12, d, ?_, hy, by omega, hd⟩
      have dl : dLst [.int 999, .int 1000, .int 8999, .int 9000] = some (.list [.int 999, .int 1000, .int 8999, .int 9000]) := dLst_ok (by decide)
      rw [f_law_parts, s_law_parts]
      rcases dd with ⟨v, rfl⟩ | ⟨v, rfl⟩
      · simp [run_eq, h1, h2, h3, h4, h5, h6, h7, h8, h9, w, dl, ix, ll, mp, v]
      · simp [run_eq, h1, h2, h3, h4, h5, h6, h7, h8, h9, w, dl, ix, ll, mp, v]
    · obtain ⟨d, hd, ll, dd, mp⟩ := key (1 + a % 9999) (by omega)
      refine ⟨1 + a % 9999, 1 + b % 12, d, ?_, by omega, by omega, hd⟩
      rw [f_law_parts, s_law_parts]
      rcases dd with ⟨v, rfl⟩ | ⟨v, rfl⟩
      · simp [run_eq, h1, h2, h3, h4, h5, h6, h7, h8, h9, w, ll, mp, v]
      · simp [run_eq, h1, h2, h3, h4, h5, h6, h7, h8, h9, w, ll, mp, v]
  obtain ⟨y, m, d, e, g⟩ := e
  obtain ⟨y', m', d', rfl, rfl, rfl, q1, q2, q3⟩ := nats g
  exact ⟨y', m', d', e, g, q1, q2, q3⟩
theorem ahead1000 (fu : Nat) : Pg.f_p_ahead_of fu [.int 1000] = .ok (.int (ahead 1000)) := ahead_of fu 1000 (by decide)
theorem ahead9000 (fu : Nat) : Pg.f_p_ahead_of fu [.int 9000] = .ok (.int (ahead 9000)) := ahead_of fu 9000 (by decide)
theorem is_day_int (fu : Nat) (n : Int) : f_p_is_day fu [.int n] = .ok (.bool (decide (0 ≤ n) && decide (n ≤ 3652058))) := by
  rw [f_p_is_day, s_p_is_day]
  by_cases c : 0 ≤ n
  · simp [run_eq, c]
  · simp [run_eq, c]
theorem is_told_int (fu : Nat) (n : Int) : f_p_is_told_day fu [.int n] = .ok (.bool (decide (0 ≤ n) && decide (n ≤ 3652058) && (decide (ahead 1000 ≤ n) && decide (n < ahead 9000)))) := by
  have a := ahead1000 fu
  have b := ahead9000 fu
  have i := is_day_int fu n
  rw [f_p_is_told_day, s_p_is_told_day]
  cases e : (decide (0 ≤ n) && decide (n ≤ 3652058)) with
  | false =>
    rw [e] at i
    simp [run_eq, i]
  | true =>
    rw [e] at i
    by_cases c : ahead 1000 ≤ n
    · simp [run_eq, i, a, b, c]
    · simp [run_eq, i, a, b, c]
theorem told_day (fu : Nat) {y m d : Nat} (g : Good y m d) : f_p_is_day fu [.int (count y m d)] = .ok (.bool true) ∧ f_p_is_told_day fu [.int (count y m d)] = .ok (.bool (decide (1000 ≤ (y : Int)) && decide ((y : Int) ≤ 8999))) := by
  obtain ⟨b1, b2⟩ := count_b g
  obtain ⟨c1, c2⟩ := count_lt g
  rw [is_day_int, is_told_int]
  refine ⟨by simp [b1, b2], ?_⟩
  have e1 : ahead 1000 ≤ count y m d ↔ 1000 ≤ (y : Int) := by
    constructor
    · intro h
      rcases Int.lt_or_le (y : Int) 1000 with k | k
      · have := ahead_le (a := (y : Int) + 1) (b := 1000) (by omega)
        omega
      · exact k
    · intro h
      have := ahead_le (a := 1000) (b := y) h
      omega
  have e2 : count y m d < ahead 9000 ↔ (y : Int) ≤ 8999 := by
    constructor
    · intro h
      rcases Int.lt_or_le (8999 : Int) y with k | k
      · have := ahead_le (a := 9000) (b := y) (by omega)
        omega
      · exact k
    · intro h
      have := ahead_le (a := (y : Int) + 1) (b := 9000) (by omega)
      omega
  simp [b1, b2, e1, e2]
theorem months_ok (fu : Nat) (hf : 10000 < fu) {y m d : Nat} (g : Good y m d) : f_law_months fu [.tuple [.int y, .int m, .int d], .int (count y m d)] = .ok (.bool true) := by
  have p := parts fu hf g
  obtain ⟨g1, g2, g3⟩ := id g
  have P : (2 : Nat) ^ 20 = 1048576 := by decide
  have mu := fMul_ii (i := 12) (j := (y : Int)) (okMul_bd 4 20 (by decide) (by omega) (by decide) (by decide) (by decide))
  have f1 := fFdv_pos (i := 12 * (y : Int) + m - 1) (j := 12) (by decide) (by decide +kernel)
  have f2 := fMod_pos (i := 12 * (y : Int) + m - 1) (j := 12) (by decide)
  have e1 : (12 * (y : Int) + m - 1) / 12 = y := by omega
  have e2 : (12 * (y : Int) + m - 1) % 12 = m - 1 := by omega
  rw [e1] at f1
  rw [e2] at f2
  have lg := len_ge y m
  have dy := day_of fu y m 1 g1 g2 ⟨by decide, by omega⟩
  have lc := law_count fu y m 1 (Nat.lt_trans (show ((y : Int)).natAbs < 10 ^ 4 by omega) (by decide)) g2.1 g2.2
  have mo : f_p_month_of fu [.int (count y m d)] = .ok (.int (12 * (y : Int) + m - 1)) := by
    rw [f_p_month_of, s_p_month_of]
    simp [run_eq, p, mu]
  have z : (m : Int) - 1 + 1 = m := by omega
  have mb : f_p_month_begin fu [.int (12 * (y : Int) + m - 1)] = .ok (.int (ahead y + months y 1 ((m : Int) - 1).toNat + 1 - 1)) := by
    rw [f_p_month_begin, s_p_month_begin]
    simp only [z] at *
    simp [run_eq, f1, f2, z, dy]
  rw [f_law_months, s_law_months]
  simp [run_eq, mo, mu, mb, lc]
theorem no_read (fu : Nat) {d : MI.D} (h : isT "str" d = some false) : f_law_read fu [d, .none] = .ok (.bool true) := by
  have r : f_p_read_day fu [d] = .exc "NoDay" none := by
    rw [f_p_read_day, s_p_read_day]
    simp [run_eq, h]
  have ff : flatO none = true := rfl
  rw [f_law_read, s_law_read]
  simp [run_eq, r, subT, ff, fIs]
theorem no_day (fu : Nat) (cell : Int) : f_law_no_day fu [.int cell] = .ok (.bool true) := by
  have p60 : fPow (.int 10) (.int 60) = some (.int 1000000000000000000000000000000000000000000000000000000000000) := fPow_ii (by decide)
  have d8 := fFdv_pos (i := cell) (j := 8) (by decide) (by decide +kernel)
  have m8 := fMod_pos (i := cell) (j := 8) (by decide)
  have mf := fMod_pos (i := cell / 8) (j := 1000000000000000000000000000000000000000000000000000000000000) (by decide)
  have u1 := Int.emod_nonneg (cell / 8) (b := 1000000000000000000000000000000000000000000000000000000000000) (by decide)
  generalize cell / 8 % 1000000000000000000000000000000000000000000000000000000000000 = far at *
  have d10 := fFdv_pos (i := far) (j := 10) (by decide) (by decide +kernel)
  obtain ⟨q, hq⟩ : ∃ q, far / 10 = q := ⟨_, rfl⟩
  have q0 : 0 ≤ q := by omega
  rw [hq] at d10
  have dl : dLst [.int (-1 - q), .int (3652059 + q), .bool true, .bool false, .none, .str "2000-01-01", .list [.int 1], .tuple [.int 1, .int 1]] = some (.list [.int (-1 - q), .int (3652059 + q), .bool true, .bool false, .none, .str "2000-01-01", .list [.int 1], .tuple [.int 1, .int 1]]) := dLst_ok (by simp)
  have dl1 : dLst [.int 1] = some (.list [.int 1]) := dLst_ok (by decide)
  have fin : ∀ d : MI.D, fIx (.list [.int (-1 - q), .int (3652059 + q), .bool true, .bool false, .none, .str "2000-01-01", .list [.int 1], .tuple [.int 1, .int 1]]) (.int (cell % 8)) = some d → f_p_is_day fu [d] = .ok (.bool false) → f_p_is_told_day fu [d] = .ok (.bool false) → ((∃ z, d = .str z) ∨ isT "str" d = some false) → f_law_no_day fu [.int cell] = .ok (.bool true) := by
    intro d ix i1 i2 h
    rw [f_law_no_day, s_law_no_day]
    rcases h with ⟨z, rfl⟩ | h
    · simp [run_eq, p60, d8, m8, mf, d10, dl, dl1, ix, i1, i2]
    · have nr := no_read fu h
      simp [run_eq, p60, d8, m8, mf, d10, dl, dl1, ix, i1, i2, h, nr]
  have nd : ∀ d : MI.D, Pg.f_p_is_whole fu [d] = .ok (.bool false) → f_p_is_day fu [d] = .ok (.bool false) ∧ f_p_is_told_day fu [d] = .ok (.bool false) := by
    intro d h
    have a : f_p_is_day fu [d] = .ok (.bool false) := by
      rw [f_p_is_day, s_p_is_day]
      simp [run_eq, h]
    refine ⟨a, ?_⟩
    rw [f_p_is_told_day, s_p_is_told_day]
    simp [run_eq, a]
  rcases (by omega : cell % 8 = 0 ∨ cell % 8 = 1 ∨ cell % 8 = 2 ∨ cell % 8 = 3 ∨ cell % 8 = 4 ∨ cell % 8 = 5 ∨ cell % 8 = 6 ∨ cell % 8 = 7) with e | e | e | e | e | e | e | e <;> rw [e] at fin
  · refine fin _ rfl ?_ ?_ (.inr (by simp))
    · rw [is_day_int]; simp; omega
    · rw [is_told_int]
      have : decide (0 ≤ -1 - q) = false := decide_eq_false (by omega)
      rw [this]; rfl
  · refine fin _ rfl ?_ ?_ (.inr (by simp))
    · rw [is_day_int]; simp; omega
    · rw [is_told_int]
      have : decide (3652059 + q ≤ 3652058) = false := decide_eq_false (by omega)
      rw [this, Bool.and_false]; rfl
  · exact fin _ rfl (nd _ (by simp)).1 (nd _ (by simp)).2 (.inr (by simp))
  · exact fin _ rfl (nd _ (by simp)).1 (nd _ (by simp)).2 (.inr (by simp))
  · exact fin _ rfl (nd _ (by simp)).1 (nd _ (by simp)).2 (.inr (by simp))
  · exact fin _ rfl (nd _ (by simp)).1 (nd _ (by simp)).2 (.inl ⟨_, rfl⟩)
  · exact fin _ rfl (nd _ (by simp)).1 (nd _ (by simp)).2 (.inr (by simp))
  · exact fin _ rfl (nd _ (by simp)).1 (nd _ (by simp)).2 (.inr (by simp))
theorem turn (fu : Nat) (hf : 10000 < fu) (sc : MI.D) (ns : List Int) (k : Nat) (c3 c4 c5 c6 c7 c8 c9 c10 c11 : Cell) :
    ∃ c3' c4' c5' c6' c7' c8' c9' c10' c11', b_p_law_1 fu [.dat sc, .dat (.list (ns.map .int)), .dat (.int (k : Int)), c3, c4, c5, c6, c7, c8, c9, c10, c11] = .nx [.dat sc, .dat (.list (ns.map .int)), .dat (.int (k : Int)), c3', c4', c5', c6', c7', c8', c9', c10', c11'] := by
  have k0 := cell_at' fu ns (z := (k : Int)) (by omega)
  have k1 := cell_at' fu ns (z := (k : Int) + 1) (by omega)
  generalize ns.getD (k : Int).toNat 0 = x at k0
  generalize ns.getD ((k : Int) + 1).toNat 0 = y at k1
  obtain ⟨a, ma⟩ := mixed fu x
  obtain ⟨b, mb⟩ := mixed fu y
  obtain ⟨yy, mm, dd, lp, g, hy, hm, hd⟩ := law_parts fu a b
  have M : most = 16777216 := rfl
  have lc := law_count fu yy mm dd (Nat.lt_trans (show ((yy : Int)).natAbs < 10 ^ 4 by omega) (by decide)) g.2.1.1 g.2.1.2
  have lc' : Pg.f_law_count fu [.int yy, .int mm, .int dd] = .ok (.int (count yy mm dd)) := lc
  have sh := show_ok fu hf hy hm hd g
  have a1 := f_str_n (n := 10000 + yy) (Nat.lt_trans (show 10000 + yy < 20000 by omega) (by decide))
  have a2 := f_str_n (n := 100 + mm) (Nat.lt_trans (show 100 + mm < 200 by omega) (by decide))
  have a3 := f_str_n (n := 100 + dd) (Nat.lt_trans (show 100 + dd < 200 by omega) (by decide))
  rw [dg4 hy] at a1
  rw [dg2 hm] at a2
  rw [dg2 hd] at a3
  have z1 : ((10000 + yy : Nat) : Int) = 10000 + (yy : Int) := by omega
  have z2 : ((100 + mm : Nat) : Int) = 100 + (mm : Int) := by omega
  have z3 : ((100 + dd : Nat) : Int) = 100 + (dd : Int) := by omega
  rw [z1] at a1
  rw [z2] at a2
  rw [z3] at a3
  have t1 : fSl (.str (S (49 :: w4 yy))) (some 1) none = some (.str (S (w4 yy))) := fsl_from1 (by simp [w4])
  have t2 : fSl (.str (S (49 :: w2 mm))) (some 1) none = some (.str (S (w2 mm))) := fsl_from1 (by simp [w2])
  have t3 : fSl (.str (S (49 :: w2 dd))) (some 1) none = some (.str (S (w2 dd))) := fsl_from1 (by simp [w2])
  have s1 := add_ss (a := w4 yy) (b := [45]) (by rw [M]; simp [w4])
  have s2 := add_ss (a := w4 yy ++ [45]) (b := w2 mm) (by rw [M]; simp [w4, w2])
  have s3 := add_ss (a := w4 yy ++ [45] ++ w2 mm) (b := [45]) (by rw [M]; simp [w4, w2])
  have s4 := add_ss (a := w4 yy ++ [45] ++ w2 mm ++ [45]) (b := w2 dd) (by rw [M]; simp [w4, w2])
  have e : w4 yy ++ [45] ++ w2 mm ++ [45] ++ w2 dd = dt yy mm dd := by simp [dt]
  rw [e] at s4
  have dl := dt_len yy mm dd
  have lm : (dt yy mm dd).length ≤ most := by rw [dl]; decide
  have r1 := law_read_some fu (dt yy mm dd) _ lm (due_dt hy hm hd g)
  have f1 := fFdv_pos (i := a) (j := 159984) (by decide) (by decide +kernel)
  have f2 := fFdv_pos (i := b) (j := 1488) (by decide) (by decide +kernel)
  obtain ⟨cs', bn, lb⟩ := bent fu (dt yy mm dd) (a / 159984 + b / 1488) (by omega) (by omega)
  have m10 := fMod_pos (i := a) (j := 10) (by decide)
  have q1 := Int.emod_nonneg a (b := 10) (by decide)
  have q2 := Int.emod_lt_of_pos a (b := 10) (by decide)
  obtain ⟨n, hn⟩ := Int.eq_ofNat_of_zero_le q1
  rw [hn] at m10 q2
  have cutn := fsl_to lm n
  have r2 := law_read_none fu ((dt yy mm dd).take n) (by rw [List.length_take]; omega) (due_len (by rw [List.length_take]; omega))
  have ss := add_ss (a := dt yy mm dd) (b := dt yy mm dd) (by rw [M]; omega)
  have r3 := law_read_none fu (dt yy mm dd ++ dt yy mm dd) (by rw [List.length_append]; omega) (due_len (by rw [List.length_append]; omega))
  have u1 : fSl (.str (S (dt yy mm dd))) (some 1) (some 5) = some (.str (S (((dt yy mm dd).drop 1).take 4))) := fsl_mid lm 1 5 (by omega) (by omega)
  have u2 : fSl (.str (S (dt yy mm dd))) none (some 1) = some (.str (S ((dt yy mm dd).take 1))) := fsl_to lm 1
  have u3 : fSl (.str (S (dt yy mm dd))) (some 5) none = some (.str (S ((dt yy mm dd).drop 5))) := fsl_from lm 5
  have v1 := add_ss (a := ((dt yy mm dd).drop 1).take 4) (b := (dt yy mm dd).take 1) (by rw [M]; simp; omega)
  have v2 := add_ss (a := ((dt yy mm dd).drop 1).take 4 ++ (dt yy mm dd).take 1) (b := (dt yy mm dd).drop 5) (by rw [M]; simp; omega)
  have r4 := law_read_none fu (((dt yy mm dd).drop 1).take 4 ++ (dt yy mm dd).take 1 ++ (dt yy mm dd).drop 5) (by rw [M]; simp; omega) (due_moved yy mm dd hy)
  have du := due_ok fu cs' lb
  have r5 := law_read fu cs' lb
  generalize (match due? cs' with
    | some n => PyData.int n
    | none => PyData.none) = du' at du r5
  have mo := months_ok fu hf g
  obtain ⟨i1, i2⟩ := told_day fu g
  have nd := no_day fu (b / 1488)
  generalize ht1 : ((dt yy mm dd).drop 1).take 4 = T1 at *
  generalize ht2 : (dt yy mm dd).take 1 = T2 at *
  generalize ht3 : (dt yy mm dd).drop 5 = T3 at *
  generalize ht4 : (dt yy mm dd).take n = T4 at *
  refine ⟨.dat (.int a), .dat (.int b), .dat (.tuple [.int yy, .int mm, .int dd]), .dat (.int (count yy mm dd)), .dat (.str (S (dt yy mm dd))), .dat (.str (S (dt yy mm dd))), .dat (.str (S cs')), .dat (.bool (decide (1000 ≤ (yy : Int)) && decide ((yy : Int) ≤ 8999))), .dat (.bool (decide (1000 ≤ (yy : Int)) && decide ((yy : Int) ≤ 8999))), ?_⟩
  rw [b_p_law_1]
  by_cases w1 : 1000 ≤ (yy : Int)
  · by_cases w2' : (yy : Int) ≤ 8999
    · simp [k0, k1, ma, mb, lp, lc', a1, a2, a3, t1, t2, t3, s1, s2, s3, s4, sh, r1, f1, f2, bn, m10, cutn, r2, ss, r3, u1, u2, u3, v1, v2, r4, du, r5, mo, i1, i2, nd, w1, w2', -List.append_assoc]
    · simp [k0, k1, ma, mb, lp, lc', a1, a2, a3, t1, t2, t3, s1, s2, s3, s4, sh, r1, f1, f2, bn, m10, cutn, r2, ss, r3, u1, u2, u3, v1, v2, r4, du, r5, mo, i1, i2, nd, w1, w2', -List.append_assoc]
  · simp [k0, k1, ma, mb, lp, lc', a1, a2, a3, t1, t2, t3, s1, s2, s3, s4, sh, r1, f1, f2, bn, m10, cutn, r2, ss, r3, u1, u2, u3, v1, v2, r4, du, r5, mo, i1, i2, nd, w1, -List.append_assoc]
theorem law (fu : Nat) (hf : 10000 < fu) (ns : List Int) (hn : ns.length ≤ 63) : f_p_law fu [.list (ns.map .int)] = .ok (.bool true) := by
  have hs : fSl (.list (ns.map .int)) none (some 62) = some (.list ((ns.take 62).map .int)) := by
    rw [List.map_take]
    exact cut_take (ns.map PyData.int) 62
  obtain ⟨ms, hms⟩ : ∃ ms, ns.take 62 = ms := ⟨_, rfl⟩
  have hl : ms.length ≤ 64 := by
    rw [← hms, List.length_take]
    omega
  rw [hms] at hs
  obtain ⟨xs, hr, hx⟩ := rng3_2 ms.length hl
  obtain ⟨g', e, c2, c3, c4, c5, c6, c7, c8, c9, c10, c11, rfl⟩ := loopF_inv (t := gN 2) (b := b_p_law_1 fu) (fun g => ∃ c2 c3 c4 c5 c6 c7 c8 c9 c10 c11, g = [.dat (.list (ns.map .int)), .dat (.list (ms.map .int)), c2, c3, c4, c5, c6, c7, c8, c9, c10, c11]) xs
    [.dat (.list (ns.map .int)), .dat (.list (ms.map .int)), .un, .un, .un, .un, .un, .un, .un, .un, .un, .un] ⟨_, _, _, _, _, _, _, _, _, _, rfl⟩ (by
      rintro d hd g ⟨c2, c3, c4, c5, c6, c7, c8, c9, c10, c11, rfl⟩
      obtain ⟨k, rfl⟩ := hx d hd
      obtain ⟨x3, x4, x5, x6, x7, x8, x9, x10, x11, e⟩ := turn fu hf (.list (ns.map .int)) ms k c3 c4 c5 c6 c7 c8 c9 c10 c11
      exact ⟨_, _, rfl, .inl e, _, _, _, _, _, _, _, _, _, _, rfl⟩)
  have h1 : mRng rng3 (mCons (mC (.int 0)) (mCons (mBin fAddL (mDs fLen (mCons (mVar 1) (mNil))) (mC (.int 1))) (mCons (mC (.int 2)) (mNil)))) (vd [.dat (.list (ns.map .int)), .dat (.list (ms.map .int)), .un, .un, .un, .un, .un, .un, .un, .un, .un, .un]) = .ok xs := by simp [hr]
  have hf := (forG (t := gN 2) (b := b_p_law_1 fu) h1).trans e
  rw [f_p_law, s_p_law]
  simp [run_eq, hs, hf]
end K08
set_option Elab.async false
set_option linter.all false
set_option maxRecDepth 100000
set_option maxHeartbeats 4000000
namespace K08
open PySem PySem.Spec PyProof.Rows L2 MI
def top (i : Nat) : Stmt := PySem.Challenge.pw_markscale_k08_days_written.main.body.getD i (.Pass ⟨0, 0, 0, 0⟩)
abbrev t_p_is_whole : Stmt := top 4
def d_p_is_whole : He.DefD := ⟨("is_whole", none), "is_whole", "is_whole", defArgs t_p_is_whole, defBody t_p_is_whole, defScope t_p_is_whole, [], []⟩
abbrev t_p_is_leap : Stmt := top 8
def d_p_is_leap : He.DefD := ⟨("is_leap", none), "is_leap", "is_leap", defArgs t_p_is_leap, defBody t_p_is_leap, defScope t_p_is_leap, [], []⟩
abbrev t_p_length_of : Stmt := top 9
def d_p_length_of : He.DefD := ⟨("length_of", none), "length_of", "length_of", defArgs t_p_length_of, defBody t_p_length_of, defScope t_p_length_of, [], []⟩
abbrev t_p_ahead_of : Stmt := top 10
def d_p_ahead_of : He.DefD := ⟨("ahead_of", none), "ahead_of", "ahead_of", defArgs t_p_ahead_of, defBody t_p_ahead_of, defScope t_p_ahead_of, [], []⟩
abbrev t_p_is_day : Stmt := top 11
def d_p_is_day : He.DefD := ⟨("is_day", none), "is_day", "is_day", defArgs t_p_is_day, defBody t_p_is_day, defScope t_p_is_day, [], []⟩
abbrev t_p_is_told_day : Stmt := top 12
def d_p_is_told_day : He.DefD := ⟨("is_told_day", none), "is_told_day", "is_told_day", defArgs t_p_is_told_day, defBody t_p_is_told_day, defScope t_p_is_told_day, [], []⟩
abbrev t_p_day_of : Stmt := top 13
def d_p_day_of : He.DefD := ⟨("day_of", none), "day_of", "day_of", defArgs t_p_day_of, defBody t_p_day_of, defScope t_p_day_of, [], []⟩
abbrev t_p_parts_of : Stmt := top 14
def d_p_parts_of : He.DefD := ⟨("parts_of", none), "parts_of", "parts_of", defArgs t_p_parts_of, defBody t_p_parts_of, defScope t_p_parts_of, [], []⟩
abbrev t_p_show_day : Stmt := top 15
def d_p_show_day : He.DefD := ⟨("show_day", none), "show_day", "show_day", defArgs t_p_show_day, defBody t_p_show_day, defScope t_p_show_day, [], []⟩
abbrev t_p_read_day : Stmt := top 16
def d_p_read_day : He.DefD := ⟨("read_day", none), "read_day", "read_day", defArgs t_p_read_day, defBody t_p_read_day, defScope t_p_read_day, [], []⟩
abbrev t_p_month_of : Stmt := top 17
def d_p_month_of : He.DefD := ⟨("month_of", none), "month_of", "month_of", defArgs t_p_month_of, defBody t_p_month_of, defScope t_p_month_of, [], []⟩
abbrev t_p_month_begin : Stmt := top 18
def d_p_month_begin : He.DefD := ⟨("month_begin", none), "month_begin", "month_begin", defArgs t_p_month_begin, defBody t_p_month_begin, defScope t_p_month_begin, [], []⟩
abbrev t_law_whole : Stmt := top 20
def d_law_whole : He.DefD := ⟨("_law_whole", none), "_law_whole", "_law_whole", defArgs t_law_whole, defBody t_law_whole, defScope t_law_whole, [], []⟩
abbrev t_law_cell_at : Stmt := top 21
def d_law_cell_at : He.DefD := ⟨("_law_cell_at", none), "_law_cell_at", "_law_cell_at", defArgs t_law_cell_at, defBody t_law_cell_at, defScope t_law_cell_at, [], []⟩
abbrev t_law_mixed : Stmt := top 22
def d_law_mixed : He.DefD := ⟨("_law_mixed", none), "_law_mixed", "_law_mixed", defArgs t_law_mixed, defBody t_law_mixed, defScope t_law_mixed, [], []⟩
abbrev t_law_leap : Stmt := top 23
def d_law_leap : He.DefD := ⟨("_law_leap", none), "_law_leap", "_law_leap", defArgs t_law_leap, defBody t_law_leap, defScope t_law_leap, [], []⟩
abbrev t_law_long : Stmt := top 24
def d_law_long : He.DefD := ⟨("_law_long", none), "_law_long", "_law_long", defArgs t_law_long, defBody t_law_long, defScope t_law_long, [], []⟩
abbrev t_law_count : Stmt := top 25
def d_law_count : He.DefD := ⟨("_law_count", none), "_law_count", "_law_count", defArgs t_law_count, defBody t_law_count, defScope t_law_count, [], []⟩
abbrev t_law_parts : Stmt := top 26
def d_law_parts : He.DefD := ⟨("_law_parts", none), "_law_parts", "_law_parts", defArgs t_law_parts, defBody t_law_parts, defScope t_law_parts, [], []⟩
abbrev t_law_bent : Stmt := top 27
def d_law_bent : He.DefD := ⟨("_law_bent", none), "_law_bent", "_law_bent", defArgs t_law_bent, defBody t_law_bent, defScope t_law_bent, [], []⟩
abbrev t_law_due : Stmt := top 28
def d_law_due : He.DefD := ⟨("_law_due", none), "_law_due", "_law_due", defArgs t_law_due, defBody t_law_due, defScope t_law_due, [], []⟩
abbrev t_law_read : Stmt := top 29
def d_law_read : He.DefD := ⟨("_law_read", none), "_law_read", "_law_read", defArgs t_law_read, defBody t_law_read, defScope t_law_read, [], []⟩
abbrev t_law_months : Stmt := top 30
def d_law_months : He.DefD := ⟨("_law_months", none), "_law_months", "_law_months", defArgs t_law_months, defBody t_law_months, defScope t_law_months, [], []⟩
abbrev t_law_no_day : Stmt := top 31
def d_law_no_day : He.DefD := ⟨("_law_no_day", none), "_law_no_day", "_law_no_day", defArgs t_law_no_day, defBody t_law_no_day, defScope t_law_no_day, [], []⟩
abbrev t_p_law : Stmt := top 32
def d_p_law : He.DefD := ⟨("law", none), "law", "law", defArgs t_p_law, defBody t_p_law, defScope t_p_law, [], []⟩
def fa : List He.Fa := [.free "isinstance", .free "int", .free "bool", .int "LAST" 3652058, .glo "NoDay", .exc "NoDay", .free "range", .free "str", .free "len", .str "FIGURES" "0123456789", .free "sum", .exm "NoDay" "NoDay" true, .glo "is_whole", .glo "is_leap", .glo "length_of", .glo "ahead_of", .glo "is_day", .glo "is_told_day", .glo "day_of", .glo "parts_of", .glo "show_day", .glo "read_day", .glo "month_of", .glo "month_begin", .glo "_law_whole", .glo "_law_cell_at", .glo "_law_mixed", .glo "_law_leap", .glo "_law_long", .glo "_law_count", .glo "_law_parts", .glo "_law_bent", .glo "_law_due", .glo "_law_read", .glo "_law_months", .glo "_law_no_day", .glo "law"]
def fxl : List Fx := []
def fn : List He.DefD := [d_p_is_whole, d_p_is_leap, d_p_length_of, d_p_ahead_of, d_p_is_day, d_p_is_told_day, d_p_day_of, d_p_parts_of, d_p_show_day, d_p_read_day, d_p_month_of, d_p_month_begin, d_law_whole, d_law_cell_at, d_law_mixed, d_law_leap, d_law_long, d_law_count, d_law_parts, d_law_bent, d_law_due, d_law_read, d_law_months, d_law_no_day, d_p_law]
section
variable {P : Program} {w : World} {K : PySem.W.Frag} {mg : Str → Option Value} {base : Heap}
theorem sc_p_is_whole : FnScope ["thing"] ["thing"] (defScope t_p_is_whole) := ⟨rfl, rfl, rfl, by decide +kernel, rfl, by decide +kernel, by decide +kernel⟩
theorem ok_p_is_whole (fu : Nat) (T : Tx fa fn fxl K mg) : DefOk P w K mg base 1 "is_whole" 1 (Pg.f_p_is_whole fu) [[]] := by
  obtain ⟨fd, F⟩ := T.says.def_ 0 (d := d_p_is_whole) rfl
  refine def_ok (d := d_p_is_whole) (ps := ["thing"]) (T.glo 12) F (MI.fn_ok (N := ["thing"]) F sc_p_is_whole fun cdv A outer s H E hr => ?_) (allC ⟨[], [], .nil, fun _ => .nil, F.bindsN fun _ _ _ _ _ _ us hl => match us, hl with | [_], _ => rfl⟩ all0)
  have tk : Takes (cxOf (L2.CX P w) P w K mg base ["thing"] "is_whole" (defScope t_p_is_whole) (He.ga K "is_whole") cdv A outer s H E) (WD E) := takes_of rfl rfl rfl rfl
  have hp : PassesOwn (model P w) (cxOf (L2.CX P w) P w K mg base ["thing"] "is_whole" (defScope t_p_is_whole) (He.ga K "is_whole") cdv A outer s H E).A (cxOf (L2.CX P w) P w K mg base ["thing"] "is_whole" (defScope t_p_is_whole) (He.ga K "is_whole") cdv A outer s H E).env (cxOf (L2.CX P w) P w K mg base ["thing"] "is_whole" (defScope t_p_is_whole) (He.ga K "is_whole") cdv A outer s H E).xe := passes_of rfl
  have nd : (["thing"] : List Str).Nodup := sc_p_is_whole.nd
  show MSs (cxOf (L2.CX P w) P w K mg base ["thing"] "is_whole" (defScope t_p_is_whole) (He.ga K "is_whole") cdv A outer s H E) (WD E) (defBody t_p_is_whole) (Pg.s_p_is_whole fu)
  exact (mss_one (ms_ret (me_and (misi "int" (T.free 0) (T.free 1) (mv 0)) (me_one (me_not (misi "bool" (T.free 0) (T.free 2) (mv 0)))))))
theorem sc_p_is_leap : FnScope ["year"] ["year"] (defScope t_p_is_leap) := ⟨rfl, rfl, rfl, by decide +kernel, rfl, by decide +kernel, by decide +kernel⟩
theorem ok_p_is_leap (fu : Nat) (T : Tx fa fn fxl K mg) : DefOk P w K mg base 1 "is_leap" 1 (Pg.f_p_is_leap fu) [[]] := by
  obtain ⟨fd, F⟩ := T.says.def_ 1 (d := d_p_is_leap) rfl
  refine def_ok (d := d_p_is_leap) (ps := ["year"]) (T.glo 13) F (MI.fn_ok (N := ["year"]) F sc_p_is_leap fun cdv A outer s H E hr => ?_) (allC ⟨[], [], .nil, fun _ => .nil, F.bindsN fun _ _ _ _ _ _ us hl => match us, hl with | [_], _ => rfl⟩ all0)
  have tk : Takes (cxOf (L2.CX P w) P w K mg base ["year"] "is_leap" (defScope t_p_is_leap) (He.ga K "is_leap") cdv A outer s H E) (WD E) := takes_of rfl rfl rfl rfl
  have hp : PassesOwn (model P w) (cxOf (L2.CX P w) P w K mg base ["year"] "is_leap" (defScope t_p_is_leap) (He.ga K "is_leap") cdv A outer s H E).A (cxOf (L2.CX P w) P w K mg base ["year"] "is_leap" (defScope t_p_is_leap) (He.ga K "is_leap") cdv A outer s H E).env (cxOf (L2.CX P w) P w K mg base ["year"] "is_leap" (defScope t_p_is_leap) (He.ga K "is_leap") cdv A outer s H E).xe := passes_of rfl
  have nd : (["year"] : List Str).Nodup := sc_p_is_leap.nd
  show MSs (cxOf (L2.CX P w) P w K mg base ["year"] "is_leap" (defScope t_p_is_leap) (He.ga K "is_leap") cdv A outer s H E) (WD E) (defBody t_p_is_leap) (Pg.s_p_is_leap fu)
  exact (mss_cons (ms_if (tcmp (o_eq hr.units) bl_eq (mbin o_mod (mv 0) me_int) me_int) (mss_one (ms_ret me_bl)) mss_nil) (mss_one (ms_ret (me_and (mcmp (o_eq hr.units) (mbin o_mod (mv 0) me_int) me_int) (me_one (mcmp (o_ne hr.units) (mbin o_mod (mv 0) me_int) me_int))))))
theorem sc_p_length_of : FnScope ["year", "month"] ["year", "month"] (defScope t_p_length_of) := ⟨rfl, rfl, rfl, by decide +kernel, rfl, by decide +kernel, by decide +kernel⟩
theorem ok_p_length_of (fu : Nat) (T : Tx fa fn fxl K mg) : DefOk P w K mg base 2 "length_of" 2 (Pg.f_p_length_of fu) [[]] := by
  obtain ⟨fd, F⟩ := T.says.def_ 2 (d := d_p_length_of) rfl
  refine def_ok (d := d_p_length_of) (ps := ["year", "month"]) (T.glo 14) F (MI.fn_ok (N := ["year", "month"]) F sc_p_length_of fun cdv A outer s H E hr => ?_) (allC ⟨[], [], .nil, fun _ => .nil, F.bindsN fun _ _ _ _ _ _ us hl => match us, hl with | [_, _], _ => rfl⟩ all0)
  have tk : Takes (cxOf (L2.CX P w) P w K mg base ["year", "month"] "length_of" (defScope t_p_length_of) (He.ga K "length_of") cdv A outer s H E) (WD E) := takes_of rfl rfl rfl rfl
  have hp : PassesOwn (model P w) (cxOf (L2.CX P w) P w K mg base ["year", "month"] "length_of" (defScope t_p_length_of) (He.ga K "length_of") cdv A outer s H E).A (cxOf (L2.CX P w) P w K mg base ["year", "month"] "length_of" (defScope t_p_length_of) (He.ga K "length_of") cdv A outer s H E).env (cxOf (L2.CX P w) P w K mg base ["year", "month"] "length_of" (defScope t_p_length_of) (He.ga K "length_of") cdv A outer s H E).xe := passes_of rfl
  have nd : (["year", "month"] : List Str).Nodup := sc_p_length_of.nd
  show MSs (cxOf (L2.CX P w) P w K mg base ["year", "month"] "length_of" (defScope t_p_length_of) (He.ga K "length_of") cdv A outer s H E) (WD E) (defBody t_p_length_of) (Pg.s_p_length_of fu)
  exact (mss_cons (ms_if (tcmp (o_eq hr.units) bl_eq (mv 1) me_int) (mss_one (ms_ret (mbin o_addL me_int (mcT c_intT (T.free 1) (mac (me_def (dd := []) (ok_p_is_leap fu T) hr tk (mac (mv 0) ma_nil)) ma_nil))))) mss_nil) (mss_cons (ms_if (PW.pt (mw_or (tcmp (o_eq hr.units) bl_eq (mv 1) me_int) (mw_or (tcmp (o_eq hr.units) bl_eq (mv 1) me_int) (mw_or (tcmp (o_eq hr.units) bl_eq (mv 1) me_int) (mw_or1 (tcmp (o_eq hr.units) bl_eq (mv 1) me_int)))))) (mss_one (ms_ret me_int)) mss_nil) (mss_one (ms_ret me_int))))
theorem sc_p_ahead_of : FnScope ["year", "gone"] ["year"] (defScope t_p_ahead_of) := ⟨rfl, rfl, rfl, by decide +kernel, rfl, by decide +kernel, by decide +kernel⟩
theorem ok_p_ahead_of (fu : Nat) (T : Tx fa fn fxl K mg) : DefOk P w K mg base 1 "ahead_of" 1 (Pg.f_p_ahead_of fu) [[]] := by
  obtain ⟨fd, F⟩ := T.says.def_ 3 (d := d_p_ahead_of) rfl
  refine def_ok (d := d_p_ahead_of) (ps := ["year"]) (T.glo 15) F (MI.fn_ok (N := ["year", "gone"]) F sc_p_ahead_of fun cdv A outer s H E hr => ?_) (allC ⟨[], [], .nil, fun _ => .nil, F.bindsN fun _ _ _ _ _ _ us hl => match us, hl with | [_], _ => rfl⟩ all0)
  have tk : Takes (cxOf (L2.CX P w) P w K mg base ["year", "gone"] "ahead_of" (defScope t_p_ahead_of) (He.ga K "ahead_of") cdv A outer s H E) (WD E) := takes_of rfl rfl rfl rfl
  have hp : PassesOwn (model P w) (cxOf (L2.CX P w) P w K mg base ["year", "gone"] "ahead_of" (defScope t_p_ahead_of) (He.ga K "ahead_of") cdv A outer s H E).A (cxOf (L2.CX P w) P w K mg base ["year", "gone"] "ahead_of" (defScope t_p_ahead_of) (He.ga K "ahead_of") cdv A outer s H E).env (cxOf (L2.CX P w) P w K mg base ["year", "gone"] "ahead_of" (defScope t_p_ahead_of) (He.ga K "ahead_of") cdv A outer s H E).xe := passes_of rfl
  have nd : (["year", "gone"] : List Str).Nodup := sc_p_ahead_of.nd
  show MSs (cxOf (L2.CX P w) P w K mg base ["year", "gone"] "ahead_of" (defScope t_p_ahead_of) (He.ga K "ahead_of") cdv A outer s H E) (WD E) (defBody t_p_ahead_of) (Pg.s_p_ahead_of fu)
  exact (mss_cons (sset 1 nd (mbin o_sub (mv 0) me_int)) (mss_one (ms_ret (mbin o_addL (mbin o_sub (mbin o_addL (mbin o_mul me_int (mv 1)) (mbin o_fdv (mv 1) me_int)) (mbin o_fdv (mv 1) me_int)) (mbin o_fdv (mv 1) me_int)))))
theorem sc_p_is_day : FnScope ["thing"] ["thing"] (defScope t_p_is_day) := ⟨rfl, rfl, rfl, by decide +kernel, rfl, by decide +kernel, by decide +kernel⟩
theorem ok_p_is_day (fu : Nat) (T : Tx fa fn fxl K mg) : DefOk P w K mg base 2 "is_day" 1 (f_p_is_day fu) [[]] := by
  obtain ⟨fd, F⟩ := T.says.def_ 4 (d := d_p_is_day) rfl
  refine def_ok (d := d_p_is_day) (ps := ["thing"]) (T.glo 16) F (MI.fn_ok (N := ["thing"]) F sc_p_is_day fun cdv A outer s H E hr => ?_) (allC ⟨[], [], .nil, fun _ => .nil, F.bindsN fun _ _ _ _ _ _ us hl => match us, hl with | [_], _ => rfl⟩ all0)
  have tk : Takes (cxOf (L2.CX P w) P w K mg base ["thing"] "is_day" (defScope t_p_is_day) (He.ga K "is_day") cdv A outer s H E) (WD E) := takes_of rfl rfl rfl rfl
  have hp : PassesOwn (model P w) (cxOf (L2.CX P w) P w K mg base ["thing"] "is_day" (defScope t_p_is_day) (He.ga K "is_day") cdv A outer s H E).A (cxOf (L2.CX P w) P w K mg base ["thing"] "is_day" (defScope t_p_is_day) (He.ga K "is_day") cdv A outer s H E).env (cxOf (L2.CX P w) P w K mg base ["thing"] "is_day" (defScope t_p_is_day) (He.ga K "is_day") cdv A outer s H E).xe := passes_of rfl
  have nd : (["thing"] : List Str).Nodup := sc_p_is_day.nd
  show MSs (cxOf (L2.CX P w) P w K mg base ["thing"] "is_day" (defScope t_p_is_day) (He.ga K "is_day") cdv A outer s H E) (WD E) (defBody t_p_is_day) (s_p_is_day fu)
  exact (mss_one (ms_ret (me_and (me_def (dd := []) (ok_p_is_whole fu T) hr tk (mac (mv 0) ma_nil)) (me_and (mcmp o_le me_int (mv 0)) (me_one (mcmp o_le (mv 0) (mgInt (T.int 3))))))))
theorem sc_p_is_told_day : FnScope ["thing"] ["thing"] (defScope t_p_is_told_day) := ⟨rfl, rfl, rfl, by decide +kernel, rfl, by decide +kernel, by decide +kernel⟩
theorem ok_p_is_told_day (fu : Nat) (T : Tx fa fn fxl K mg) : DefOk P w K mg base 3 "is_told_day" 1 (f_p_is_told_day fu) [[]] := by
  obtain ⟨fd, F⟩ := T.says.def_ 5 (d := d_p_is_told_day) rfl
  refine def_ok (d := d_p_is_told_day) (ps := ["thing"]) (T.glo 17) F (MI.fn_ok (N := ["thing"]) F sc_p_is_told_day fun cdv A outer s H E hr => ?_) (allC ⟨[], [], .nil, fun _ => .nil, F.bindsN fun _ _ _ _ _ _ us hl => match us, hl with | [_], _ => rfl⟩ all0)
  have tk : Takes (cxOf (L2.CX P w) P w K mg base ["thing"] "is_told_day" (defScope t_p_is_told_day) (He.ga K "is_told_day") cdv A outer s H E) (WD E) := takes_of rfl rfl rfl rfl
  have hp : PassesOwn (model P w) (cxOf (L2.CX P w) P w K mg base ["thing"] "is_told_day" (defScope t_p_is_told_day) (He.ga K "is_told_day") cdv A outer s H E).A (cxOf (L2.CX P w) P w K mg base ["thing"] "is_told_day" (defScope t_p_is_told_day) (He.ga K "is_told_day") cdv A outer s H E).env (cxOf (L2.CX P w) P w K mg base ["thing"] "is_told_day" (defScope t_p_is_told_day) (He.ga K "is_told_day") cdv A outer s H E).xe := passes_of rfl
  have nd : (["thing"] : List Str).Nodup := sc_p_is_told_day.nd
  show MSs (cxOf (L2.CX P w) P w K mg base ["thing"] "is_told_day" (defScope t_p_is_told_day) (He.ga K "is_told_day") cdv A outer s H E) (WD E) (defBody t_p_is_told_day) (s_p_is_told_day fu)
  exact (mss_one (ms_ret (me_and (me_def (dd := []) (ok_p_is_day fu T) hr tk (mac (mv 0) ma_nil)) (me_and (mcmp o_le (me_def (dd := []) (ok_p_ahead_of fu T) hr tk (mac me_int ma_nil)) (mv 0)) (me_one (mcmp o_lt (mv 0) (me_def (dd := []) (ok_p_ahead_of fu T) hr tk (mac me_int ma_nil))))))))
theorem sc_p_day_of : FnScope ["year", "month", "day", "found", "k"] ["year", "month", "day"] (defScope t_p_day_of) := ⟨rfl, rfl, rfl, by decide +kernel, rfl, by decide +kernel, by decide +kernel⟩
theorem ok_p_day_of (fu : Nat) (T : Tx fa fn fxl K mg) : DefOk P w K mg base 3 "day_of" 3 (Pg.f_p_day_of fu) [[]] := by
  obtain ⟨fd, F⟩ := T.says.def_ 6 (d := d_p_day_of) rfl
  refine def_ok (d := d_p_day_of) (ps := ["year", "month", "day"]) (T.glo 18) F (MI.fn_ok (N := ["year", "month", "day", "found", "k"]) F sc_p_day_of fun cdv A outer s H E hr => ?_) (allC ⟨[], [], .nil, fun _ => .nil, F.bindsN fun _ _ _ _ _ _ us hl => match us, hl with | [_, _, _], _ => rfl⟩ all0)
  have tk : Takes (cxOf (L2.CX P w) P w K mg base ["year", "month", "day", "found", "k"] "day_of" (defScope t_p_day_of) (He.ga K "day_of") cdv A outer s H E) (WD E) := takes_of rfl rfl rfl rfl
  have hp : PassesOwn (model P w) (cxOf (L2.CX P w) P w K mg base ["year", "month", "day", "found", "k"] "day_of" (defScope t_p_day_of) (He.ga K "day_of") cdv A outer s H E).A (cxOf (L2.CX P w) P w K mg base ["year", "month", "day", "found", "k"] "day_of" (defScope t_p_day_of) (He.ga K "day_of") cdv A outer s H E).env (cxOf (L2.CX P w) P w K mg base ["year", "month", "day", "found", "k"] "day_of" (defScope t_p_day_of) (He.ga K "day_of") cdv A outer s H E).xe := passes_of rfl
  have nd : (["year", "month", "day", "found", "k"] : List Str).Nodup := sc_p_day_of.nd
  show MSs (cxOf (L2.CX P w) P w K mg base ["year", "month", "day", "found", "k"] "day_of" (defScope t_p_day_of) (He.ga K "day_of") cdv A outer s H E) (WD E) (defBody t_p_day_of) (Pg.s_p_day_of fu)
  exact (mss_cons (ms_if (PW.pt (mw_or (mt_not (ttru (me_def (dd := []) (ok_p_is_whole fu T) hr tk (mac (mv 0) ma_nil)))) (mw_or (mt_not (ttru (me_def (dd := []) (ok_p_is_whole fu T) hr tk (mac (mv 1) ma_nil)))) (mw_or1 (mt_not (ttru (me_def (dd := []) (ok_p_is_whole fu T) hr tk (mac (mv 2) ma_nil)))))))) (mss_one (sraise (T.glo 4) (T.exc 5) tk)) mss_nil) (mss_cons (ms_if (PW.pt (mw_or (tcmp o_lt bl_lt (mv 0) me_int) (mw_or (tcmp o_gt bl_gt (mv 0) me_int) (mw_or (tcmp o_lt bl_lt (mv 1) me_int) (mw_or1 (tcmp o_gt bl_gt (mv 1) me_int)))))) (mss_one (sraise (T.glo 4) (T.exc 5) tk)) mss_nil) (mss_cons (ms_if (PW.pt (mw_or (tcmp o_lt bl_lt (mv 2) me_int) (mw_or1 (tcmp o_gt bl_gt (mv 2) (me_def (dd := []) (ok_p_length_of fu T) hr tk (mac (mv 0) (mac (mv 1) ma_nil))))))) (mss_one (sraise (T.glo 4) (T.exc 5) tk)) mss_nil) (mss_cons (sset 3 nd (mbin o_sub (mbin o_addL (me_def (dd := []) (ok_p_ahead_of fu T) hr tk (mac (mv 0) ma_nil)) (mv 2)) me_int)) (mss_cons (ms_for hp (mi_rng2 (T.free 6) (mac me_int (mac (mv 1) ma_nil))) (gname 4 nd) gN_ok (mss_one (sset 3 nd (mbin o_addL (mv 3) (me_def (dd := []) (ok_p_length_of fu T) hr tk (mac (mv 0) (mac (mv 4) ma_nil))))))) (mss_one (ms_ret (mv 3))))))))
theorem sc_p_parts_of : FnScope ["day", "year", "left", "month"] ["day"] (defScope t_p_parts_of) := ⟨rfl, rfl, rfl, by decide +kernel, rfl, by decide +kernel, by decide +kernel⟩
theorem ok_p_parts_of (fu : Nat) (T : Tx fa fn fxl K mg) : DefOk P w K mg base 3 "parts_of" 1 (Pg.f_p_parts_of fu) [[]] := by
  obtain ⟨fd, F⟩ := T.says.def_ 7 (d := d_p_parts_of) rfl
  refine def_ok (d := d_p_parts_of) (ps := ["day"]) (T.glo 19) F (MI.fn_ok (N := ["day", "year", "left", "month"]) F sc_p_parts_of fun cdv A outer s H E hr => ?_) (allC ⟨[], [], .nil, fun _ => .nil, F.bindsN fun _ _ _ _ _ _ us hl => match us, hl with | [_], _ => rfl⟩ all0)
  have tk : Takes (cxOf (L2.CX P w) P w K mg base ["day", "year", "left", "month"] "parts_of" (defScope t_p_parts_of) (He.ga K "parts_of") cdv A outer s H E) (WD E) := takes_of rfl rfl rfl rfl
  have hp : PassesOwn (model P w) (cxOf (L2.CX P w) P w K mg base ["day", "year", "left", "month"] "parts_of" (defScope t_p_parts_of) (He.ga K "parts_of") cdv A outer s H E).A (cxOf (L2.CX P w) P w K mg base ["day", "year", "left", "month"] "parts_of" (defScope t_p_parts_of) (He.ga K "parts_of") cdv A outer s H E).env (cxOf (L2.CX P w) P w K mg base ["day", "year", "left", "month"] "parts_of" (defScope t_p_parts_of) (He.ga K "parts_of") cdv A outer s H E).xe := passes_of rfl
  have nd : (["day", "year", "left", "month"] : List Str).Nodup := sc_p_parts_of.nd
  show MSs (cxOf (L2.CX P w) P w K mg base ["day", "year", "left", "month"] "parts_of" (defScope t_p_parts_of) (He.ga K "parts_of") cdv A outer s H E) (WD E) (defBody t_p_parts_of) (Pg.s_p_parts_of fu)
  exact (mss_cons (sset 1 nd (mbin o_addL (mbin o_fdv (mv 0) me_int) me_int)) (mss_cons (ms_while hp (tcmp o_le bl_le (me_def (dd := []) (ok_p_ahead_of fu T) hr tk (mac (mbin o_addL (mv 1) me_int) ma_nil)) (mv 0)) (mss_one (sset 1 nd (mbin o_addL (mv 1) me_int)))) (mss_cons (sset 2 nd (mbin o_sub (mv 0) (me_def (dd := []) (ok_p_ahead_of fu T) hr tk (mac (mv 1) ma_nil)))) (mss_cons (sset 3 nd me_int) (mss_cons (ms_while hp (tcmp o_ge bl_ge (mv 2) (me_def (dd := []) (ok_p_length_of fu T) hr tk (mac (mv 1) (mac (mv 3) ma_nil)))) (mss_cons (sset 2 nd (mbin o_sub (mv 2) (me_def (dd := []) (ok_p_length_of fu T) hr tk (mac (mv 1) (mac (mv 3) ma_nil))))) (mss_one (sset 3 nd (mbin o_addL (mv 3) me_int))))) (mss_one (ms_ret (me_tup (mac (mv 1) (mac (mv 3) (mac (mbin o_addL (mv 2) me_int) ma_nil)))))))))))
theorem sc_p_show_day : FnScope ["day", "year", "month", "left"] ["day"] (defScope t_p_show_day) := ⟨rfl, rfl, rfl, by decide +kernel, rfl, by decide +kernel, by decide +kernel⟩
theorem ok_p_show_day (fu : Nat) (T : Tx fa fn fxl K mg) : DefOk P w K mg base 4 "show_day" 1 (f_p_show_day fu) [[]] := by
  obtain ⟨fd, F⟩ := T.says.def_ 8 (d := d_p_show_day) rfl
  refine def_ok (d := d_p_show_day) (ps := ["day"]) (T.glo 20) F (MI.fn_ok (N := ["day", "year", "month", "left"]) F sc_p_show_day fun cdv A outer s H E hr => ?_) (allC ⟨[], [], .nil, fun _ => .nil, F.bindsN fun _ _ _ _ _ _ us hl => match us, hl with | [_], _ => rfl⟩ all0)
  have tk : Takes (cxOf (L2.CX P w) P w K mg base ["day", "year", "month", "left"] "show_day" (defScope t_p_show_day) (He.ga K "show_day") cdv A outer s H E) (WD E) := takes_of rfl rfl rfl rfl
  have hp : PassesOwn (model P w) (cxOf (L2.CX P w) P w K mg base ["day", "year", "month", "left"] "show_day" (defScope t_p_show_day) (He.ga K "show_day") cdv A outer s H E).A (cxOf (L2.CX P w) P w K mg base ["day", "year", "month", "left"] "show_day" (defScope t_p_show_day) (He.ga K "show_day") cdv A outer s H E).env (cxOf (L2.CX P w) P w K mg base ["day", "year", "month", "left"] "show_day" (defScope t_p_show_day) (He.ga K "show_day") cdv A outer s H E).xe := passes_of rfl
  have nd : (["day", "year", "month", "left"] : List Str).Nodup := sc_p_show_day.nd
  show MSs (cxOf (L2.CX P w) P w K mg base ["day", "year", "month", "left"] "show_day" (defScope t_p_show_day) (He.ga K "show_day") cdv A outer s H E) (WD E) (defBody t_p_show_day) (s_p_show_day fu)
  exact (mss_cons (sasg (me_def (dd := []) (ok_p_parts_of fu T) hr tk (mac (mv 0) ma_nil)) (pg_tup rfl (pgs_cons (gname 1 nd) (pgs_cons (gname 2 nd) (pgs_cons (gname 3 nd) pgs_nil)))) (gT_ok (gsCons_ok gN_ok (gsCons_ok gN_ok (gsCons_ok gN_ok gsNil_ok))))) (mss_one (ms_ret (mbin o_addL (mbin o_addL (mbin o_addL (mbin o_addL (me_mt PySem.F.plainAttrs_str PySem.F.slot_str_zfill PySem.F.type_str_zfill m_zfill (mcT c_str (T.free 7) (mac (mv 1) ma_nil)) (mac me_int ma_nil)) me_str) (me_mt PySem.F.plainAttrs_str PySem.F.slot_str_zfill PySem.F.type_str_zfill m_zfill (mcT c_str (T.free 7) (mac (mv 2) ma_nil)) (mac me_int ma_nil))) me_str) (me_mt PySem.F.plainAttrs_str PySem.F.slot_str_zfill PySem.F.type_str_zfill m_zfill (mcT c_str (T.free 7) (mac (mv 3) ma_nil)) (mac me_int ma_nil))))))
theorem sc_p_read_day : FnScope ["text", "sign"] ["text"] (defScope t_p_read_day) := ⟨rfl, rfl, rfl, by decide +kernel, rfl, by decide +kernel, by decide +kernel⟩
theorem ok_p_read_day (fu : Nat) (T : Tx fa fn fxl K mg) : DefOk P w K mg base 4 "read_day" 1 (f_p_read_day fu) [[]] := by
  obtain ⟨fd, F⟩ := T.says.def_ 9 (d := d_p_read_day) rfl
  refine def_ok (d := d_p_read_day) (ps := ["text"]) (T.glo 21) F (MI.fn_ok (N := ["text", "sign"]) F sc_p_read_day fun cdv A outer s H E hr => ?_) (allC ⟨[], [], .nil, fun _ => .nil, F.bindsN fun _ _ _ _ _ _ us hl => match us, hl with | [_], _ => rfl⟩ all0)
  have tk : Takes (cxOf (L2.CX P w) P w K mg base ["text", "sign"] "read_day" (defScope t_p_read_day) (He.ga K "read_day") cdv A outer s H E) (WD E) := takes_of rfl rfl rfl rfl
  have hp : PassesOwn (model P w) (cxOf (L2.CX P w) P w K mg base ["text", "sign"] "read_day" (defScope t_p_read_day) (He.ga K "read_day") cdv A outer s H E).A (cxOf (L2.CX P w) P w K mg base ["text", "sign"] "read_day" (defScope t_p_read_day) (He.ga K "read_day") cdv A outer s H E).env (cxOf (L2.CX P w) P w K mg base ["text", "sign"] "read_day" (defScope t_p_read_day) (He.ga K "read_day") cdv A outer s H E).xe := passes_of rfl
  have nd : (["text", "sign"] : List Str).Nodup := sc_p_read_day.nd
  show MSs (cxOf (L2.CX P w) P w K mg base ["text", "sign"] "read_day" (defScope t_p_read_day) (He.ga K "read_day") cdv A outer s H E) (WD E) (defBody t_p_read_day) (s_p_read_day fu)
  exact (mss_cons (ms_if (PW.pt (mw_or (mt_not (ttru (misi "str" (T.free 0) (T.free 7) (mv 0)))) (mw_or (tcmp (o_ne hr.units) bl_ne (mcB c_len (T.free 8) (mac (mv 0) ma_nil)) me_int) (mw_or (tcmp (o_ne hr.units) bl_ne (mix (mv 0) me_int) me_str) (mw_or1 (tcmp (o_ne hr.units) bl_ne (mix (mv 0) me_int) me_str)))))) (mss_one (sraise (T.glo 4) (T.exc 5) tk)) mss_nil) (mss_cons (ms_for hp (mi_signs (mbin o_addL (mbin o_addL (me_sl (mv 0) mo_none (mo_some me_int)) (me_sl (mv 0) (mo_some me_int) (mo_some me_int))) (me_sl (mv 0) (mo_some me_int) mo_none))) (gname 1 nd) gN_ok (mss_one (ms_if (tcmp (o_notIn (hu65 hr)) (bl_in true) (mv 1) (mgStr (T.str 9))) (mss_one (sraise (T.glo 4) (T.exc 5) tk)) mss_nil))) (mss_one (ms_ret (me_def (dd := []) (ok_p_day_of fu T) hr tk (mac (mcT c_intT (T.free 1) (mac (me_sl (mv 0) mo_none (mo_some me_int)) ma_nil)) (mac (mcT c_intT (T.free 1) (mac (me_sl (mv 0) (mo_some me_int) (mo_some me_int)) ma_nil)) (mac (mcT c_intT (T.free 1) (mac (me_sl (mv 0) (mo_some me_int) mo_none) ma_nil)) ma_nil))))))))
theorem sc_p_month_of : FnScope ["day", "year", "month", "left"] ["day"] (defScope t_p_month_of) := ⟨rfl, rfl, rfl, by decide +kernel, rfl, by decide +kernel, by decide +kernel⟩
theorem ok_p_month_of (fu : Nat) (T : Tx fa fn fxl K mg) : DefOk P w K mg base 4 "month_of" 1 (f_p_month_of fu) [[]] := by
  obtain ⟨fd, F⟩ := T.says.def_ 10 (d := d_p_month_of) rfl
  refine def_ok (d := d_p_month_of) (ps := ["day"]) (T.glo 22) F (MI.fn_ok (N := ["day", "year", "month", "left"]) F sc_p_month_of fun cdv A outer s H E hr => ?_) (allC ⟨[], [], .nil, fun _ => .nil, F.bindsN fun _ _ _ _ _ _ us hl => match us, hl with | [_], _ => rfl⟩ all0)
  have tk : Takes (cxOf (L2.CX P w) P w K mg base ["day", "year", "month", "left"] "month_of" (defScope t_p_month_of) (He.ga K "month_of") cdv A outer s H E) (WD E) := takes_of rfl rfl rfl rfl
  have hp : PassesOwn (model P w) (cxOf (L2.CX P w) P w K mg base ["day", "year", "month", "left"] "month_of" (defScope t_p_month_of) (He.ga K "month_of") cdv A outer s H E).A (cxOf (L2.CX P w) P w K mg base ["day", "year", "month", "left"] "month_of" (defScope t_p_month_of) (He.ga K "month_of") cdv A outer s H E).env (cxOf (L2.CX P w) P w K mg base ["day", "year", "month", "left"] "month_of" (defScope t_p_month_of) (He.ga K "month_of") cdv A outer s H E).xe := passes_of rfl
  have nd : (["day", "year", "month", "left"] : List Str).Nodup := sc_p_month_of.nd
  show MSs (cxOf (L2.CX P w) P w K mg base ["day", "year", "month", "left"] "month_of" (defScope t_p_month_of) (He.ga K "month_of") cdv A outer s H E) (WD E) (defBody t_p_month_of) (s_p_month_of fu)
  exact (mss_cons (sasg (me_def (dd := []) (ok_p_parts_of fu T) hr tk (mac (mv 0) ma_nil)) (pg_tup rfl (pgs_cons (gname 1 nd) (pgs_cons (gname 2 nd) (pgs_cons (gname 3 nd) pgs_nil)))) (gT_ok (gsCons_ok gN_ok (gsCons_ok gN_ok (gsCons_ok gN_ok gsNil_ok))))) (mss_one (ms_ret (mbin o_sub (mbin o_addL (mbin o_mul me_int (mv 1)) (mv 2)) me_int))))
theorem sc_p_month_begin : FnScope ["month"] ["month"] (defScope t_p_month_begin) := ⟨rfl, rfl, rfl, by decide +kernel, rfl, by decide +kernel, by decide +kernel⟩
theorem ok_p_month_begin (fu : Nat) (T : Tx fa fn fxl K mg) : DefOk P w K mg base 4 "month_begin" 1 (f_p_month_begin fu) [[]] := by
  obtain ⟨fd, F⟩ := T.says.def_ 11 (d := d_p_month_begin) rfl
  refine def_ok (d := d_p_month_begin) (ps := ["month"]) (T.glo 23) F (MI.fn_ok (N := ["month"]) F sc_p_month_begin fun cdv A outer s H E hr => ?_) (allC ⟨[], [], .nil, fun _ => .nil, F.bindsN fun _ _ _ _ _ _ us hl => match us, hl with | [_], _ => rfl⟩ all0)
  have tk : Takes (cxOf (L2.CX P w) P w K mg base ["month"] "month_begin" (defScope t_p_month_begin) (He.ga K "month_begin") cdv A outer s H E) (WD E) := takes_of rfl rfl rfl rfl
  have hp : PassesOwn (model P w) (cxOf (L2.CX P w) P w K mg base ["month"] "month_begin" (defScope t_p_month_begin) (He.ga K "month_begin") cdv A outer s H E).A (cxOf (L2.CX P w) P w K mg base ["month"] "month_begin" (defScope t_p_month_begin) (He.ga K "month_begin") cdv A outer s H E).env (cxOf (L2.CX P w) P w K mg base ["month"] "month_begin" (defScope t_p_month_begin) (He.ga K "month_begin") cdv A outer s H E).xe := passes_of rfl
  have nd : (["month"] : List Str).Nodup := sc_p_month_begin.nd
  show MSs (cxOf (L2.CX P w) P w K mg base ["month"] "month_begin" (defScope t_p_month_begin) (He.ga K "month_begin") cdv A outer s H E) (WD E) (defBody t_p_month_begin) (s_p_month_begin fu)
  exact (mss_one (ms_ret (me_def (dd := []) (ok_p_day_of fu T) hr tk (mac (mbin o_fdv (mv 0) me_int) (mac (mbin o_addL (mbin o_mod (mv 0) me_int) me_int) (mac me_int ma_nil))))))
theorem sc_law_whole : FnScope ["_law_thing"] ["_law_thing"] (defScope t_law_whole) := ⟨rfl, rfl, rfl, by decide +kernel, rfl, by decide +kernel, by decide +kernel⟩
theorem ok_law_whole (fu : Nat) (T : Tx fa fn fxl K mg) : DefOk P w K mg base 1 "_law_whole" 1 (Pg.f_p_is_whole fu) [[]] := by
  obtain ⟨fd, F⟩ := T.says.def_ 12 (d := d_law_whole) rfl
  refine def_ok (d := d_law_whole) (ps := ["_law_thing"]) (T.glo 24) F (MI.fn_ok (N := ["_law_thing"]) F sc_law_whole fun cdv A outer s H E hr => ?_) (allC ⟨[], [], .nil, fun _ => .nil, F.bindsN fun _ _ _ _ _ _ us hl => match us, hl with | [_], _ => rfl⟩ all0)
  have tk : Takes (cxOf (L2.CX P w) P w K mg base ["_law_thing"] "_law_whole" (defScope t_law_whole) (He.ga K "_law_whole") cdv A outer s H E) (WD E) := takes_of rfl rfl rfl rfl
  have hp : PassesOwn (model P w) (cxOf (L2.CX P w) P w K mg base ["_law_thing"] "_law_whole" (defScope t_law_whole) (He.ga K "_law_whole") cdv A outer s H E).A (cxOf (L2.CX P w) P w K mg base ["_law_thing"] "_law_whole" (defScope t_law_whole) (He.ga K "_law_whole") cdv A outer s H E).env (cxOf (L2.CX P w) P w K mg base ["_law_thing"] "_law_whole" (defScope t_law_whole) (He.ga K "_law_whole") cdv A outer s H E).xe := passes_of rfl
  have nd : (["_law_thing"] : List Str).Nodup := sc_law_whole.nd
  show MSs (cxOf (L2.CX P w) P w K mg base ["_law_thing"] "_law_whole" (defScope t_law_whole) (He.ga K "_law_whole") cdv A outer s H E) (WD E) (defBody t_law_whole) (Pg.s_p_is_whole fu)
  exact (mss_one (ms_ret (me_and (misi "int" (T.free 0) (T.free 1) (mv 0)) (me_one (me_not (misi "bool" (T.free 0) (T.free 2) (mv 0)))))))
theorem sc_law_cell_at : FnScope ["_law_script", "_law_k"] ["_law_script", "_law_k"] (defScope t_law_cell_at) := ⟨rfl, rfl, rfl, by decide +kernel, rfl, by decide +kernel, by decide +kernel⟩
theorem ok_law_cell_at (fu : Nat) (T : Tx fa fn fxl K mg) : DefOk P w K mg base 1 "_law_cell_at" 2 (Pg.f_law_cell_at fu) [[]] := by
  obtain ⟨fd, F⟩ := T.says.def_ 13 (d := d_law_cell_at) rfl
  refine def_ok (d := d_law_cell_at) (ps := ["_law_script", "_law_k"]) (T.glo 25) F (MI.fn_ok (N := ["_law_script", "_law_k"]) F sc_law_cell_at fun cdv A outer s H E hr => ?_) (allC ⟨[], [], .nil, fun _ => .nil, F.bindsN fun _ _ _ _ _ _ us hl => match us, hl with | [_, _], _ => rfl⟩ all0)
  have tk : Takes (cxOf (L2.CX P w) P w K mg base ["_law_script", "_law_k"] "_law_cell_at" (defScope t_law_cell_at) (He.ga K "_law_cell_at") cdv A outer s H E) (WD E) := takes_of rfl rfl rfl rfl
  have hp : PassesOwn (model P w) (cxOf (L2.CX P w) P w K mg base ["_law_script", "_law_k"] "_law_cell_at" (defScope t_law_cell_at) (He.ga K "_law_cell_at") cdv A outer s H E).A (cxOf (L2.CX P w) P w K mg base ["_law_script", "_law_k"] "_law_cell_at" (defScope t_law_cell_at) (He.ga K "_law_cell_at") cdv A outer s H E).env (cxOf (L2.CX P w) P w K mg base ["_law_script", "_law_k"] "_law_cell_at" (defScope t_law_cell_at) (He.ga K "_law_cell_at") cdv A outer s H E).xe := passes_of rfl
  have nd : (["_law_script", "_law_k"] : List Str).Nodup := sc_law_cell_at.nd
  show MSs (cxOf (L2.CX P w) P w K mg base ["_law_script", "_law_k"] "_law_cell_at" (defScope t_law_cell_at) (He.ga K "_law_cell_at") cdv A outer s H E) (WD E) (defBody t_law_cell_at) (Pg.s_law_cell_at fu)
  exact (mss_cons (ms_if (tcmp o_lt bl_lt (mv 1) (mcB c_len (T.free 8) (mac (mv 0) ma_nil))) (mss_one (ms_ret (mix (mv 0) (mv 1)))) mss_nil) (mss_one (ms_ret me_int)))
theorem sc_law_mixed : FnScope ["_law_cell"] ["_law_cell"] (defScope t_law_mixed) := ⟨rfl, rfl, rfl, by decide +kernel, rfl, by decide +kernel, by decide +kernel⟩
theorem ok_law_mixed (fu : Nat) (T : Tx fa fn fxl K mg) : DefOk P w K mg base 1 "_law_mixed" 1 (Pg.f_law_mixed fu) [[]] := by
  obtain ⟨fd, F⟩ := T.says.def_ 14 (d := d_law_mixed) rfl
  refine def_ok (d := d_law_mixed) (ps := ["_law_cell"]) (T.glo 26) F (MI.fn_ok (N := ["_law_cell"]) F sc_law_mixed fun cdv A outer s H E hr => ?_) (allC ⟨[], [], .nil, fun _ => .nil, F.bindsN fun _ _ _ _ _ _ us hl => match us, hl with | [_], _ => rfl⟩ all0)
  have tk : Takes (cxOf (L2.CX P w) P w K mg base ["_law_cell"] "_law_mixed" (defScope t_law_mixed) (He.ga K "_law_mixed") cdv A outer s H E) (WD E) := takes_of rfl rfl rfl rfl
  have hp : PassesOwn (model P w) (cxOf (L2.CX P w) P w K mg base ["_law_cell"] "_law_mixed" (defScope t_law_mixed) (He.ga K "_law_mixed") cdv A outer s H E).A (cxOf (L2.CX P w) P w K mg base ["_law_cell"] "_law_mixed" (defScope t_law_mixed) (He.ga K "_law_mixed") cdv A outer s H E).env (cxOf (L2.CX P w) P w K mg base ["_law_cell"] "_law_mixed" (defScope t_law_mixed) (He.ga K "_law_mixed") cdv A outer s H E).xe := passes_of rfl
  have nd : (["_law_cell"] : List Str).Nodup := sc_law_mixed.nd
  show MSs (cxOf (L2.CX P w) P w K mg base ["_law_cell"] "_law_mixed" (defScope t_law_mixed) (He.ga K "_law_mixed") cdv A outer s H E) (WD E) (defBody t_law_mixed) (Pg.s_law_mixed fu)
  exact (mss_cons (ms_if (tcmp o_ge bl_ge (mv 0) (mbin o_pow me_int me_int)) (mss_one (ms_ret (mv 0))) mss_nil) (mss_one (ms_ret (mbin o_mod (mbin o_addL (mbin o_mul (mbin o_mod (mv 0) me_int) me_int) me_int) me_int))))
theorem sc_law_leap : FnScope ["_law_year"] ["_law_year"] (defScope t_law_leap) := ⟨rfl, rfl, rfl, by decide +kernel, rfl, by decide +kernel, by decide +kernel⟩
theorem ok_law_leap (fu : Nat) (T : Tx fa fn fxl K mg) : DefOk P w K mg base 1 "_law_leap" 1 (Pg.f_law_leap fu) [[]] := by
  obtain ⟨fd, F⟩ := T.says.def_ 15 (d := d_law_leap) rfl
  refine def_ok (d := d_law_leap) (ps := ["_law_year"]) (T.glo 27) F (MI.fn_ok (N := ["_law_year"]) F sc_law_leap fun cdv A outer s H E hr => ?_) (allC ⟨[], [], .nil, fun _ => .nil, F.bindsN fun _ _ _ _ _ _ us hl => match us, hl with | [_], _ => rfl⟩ all0)
  have tk : Takes (cxOf (L2.CX P w) P w K mg base ["_law_year"] "_law_leap" (defScope t_law_leap) (He.ga K "_law_leap") cdv A outer s H E) (WD E) := takes_of rfl rfl rfl rfl
  have hp : PassesOwn (model P w) (cxOf (L2.CX P w) P w K mg base ["_law_year"] "_law_leap" (defScope t_law_leap) (He.ga K "_law_leap") cdv A outer s H E).A (cxOf (L2.CX P w) P w K mg base ["_law_year"] "_law_leap" (defScope t_law_leap) (He.ga K "_law_leap") cdv A outer s H E).env (cxOf (L2.CX P w) P w K mg base ["_law_year"] "_law_leap" (defScope t_law_leap) (He.ga K "_law_leap") cdv A outer s H E).xe := passes_of rfl
  have nd : (["_law_year"] : List Str).Nodup := sc_law_leap.nd
  show MSs (cxOf (L2.CX P w) P w K mg base ["_law_year"] "_law_leap" (defScope t_law_leap) (He.ga K "_law_leap") cdv A outer s H E) (WD E) (defBody t_law_leap) (Pg.s_law_leap fu)
  exact (mss_one (ms_ret (me_and (mcmp (o_eq hr.units) (mbin o_mod (mv 0) me_int) me_int) (me_one (me_or (mcmp (o_ne hr.units) (mbin o_mod (mv 0) me_int) me_int) (me_one (mcmp (o_eq hr.units) (mbin o_mod (mv 0) me_int) me_int)))))))
theorem sc_law_long : FnScope ["_law_year", "_law_month"] ["_law_year", "_law_month"] (defScope t_law_long) := ⟨rfl, rfl, rfl, by decide +kernel, rfl, by decide +kernel, by decide +kernel⟩
theorem ok_law_long (fu : Nat) (T : Tx fa fn fxl K mg) : DefOk P w K mg base 2 "_law_long" 2 (Pg.f_law_long fu) [[]] := by
  obtain ⟨fd, F⟩ := T.says.def_ 16 (d := d_law_long) rfl
  refine def_ok (d := d_law_long) (ps := ["_law_year", "_law_month"]) (T.glo 28) F (MI.fn_ok (N := ["_law_year", "_law_month"]) F sc_law_long fun cdv A outer s H E hr => ?_) (allC ⟨[], [], .nil, fun _ => .nil, F.bindsN fun _ _ _ _ _ _ us hl => match us, hl with | [_, _], _ => rfl⟩ all0)
  have tk : Takes (cxOf (L2.CX P w) P w K mg base ["_law_year", "_law_month"] "_law_long" (defScope t_law_long) (He.ga K "_law_long") cdv A outer s H E) (WD E) := takes_of rfl rfl rfl rfl
  have hp : PassesOwn (model P w) (cxOf (L2.CX P w) P w K mg base ["_law_year", "_law_month"] "_law_long" (defScope t_law_long) (He.ga K "_law_long") cdv A outer s H E).A (cxOf (L2.CX P w) P w K mg base ["_law_year", "_law_month"] "_law_long" (defScope t_law_long) (He.ga K "_law_long") cdv A outer s H E).env (cxOf (L2.CX P w) P w K mg base ["_law_year", "_law_month"] "_law_long" (defScope t_law_long) (He.ga K "_law_long") cdv A outer s H E).xe := passes_of rfl
  have nd : (["_law_year", "_law_month"] : List Str).Nodup := sc_law_long.nd
  show MSs (cxOf (L2.CX P w) P w K mg base ["_law_year", "_law_month"] "_law_long" (defScope t_law_long) (He.ga K "_law_long") cdv A outer s H E) (WD E) (defBody t_law_long) (Pg.s_law_long fu)
  exact (mss_cons (ms_if (tcmp (o_eq hr.units) bl_eq (mv 1) me_int) (mss_one (ms_ret (mbin o_addL me_int (mcT c_intT (T.free 1) (mac (me_def (dd := []) (ok_law_leap fu T) hr tk (mac (mv 0) ma_nil)) ma_nil))))) mss_nil) (mss_one (ms_ret (mix (me_lst (mac me_int (mac me_int (mac me_int (mac me_int (mac me_int (mac me_int (mac me_int (mac me_int (mac me_int (mac me_int (mac me_int (mac me_int ma_nil))))))))))))) (mbin o_sub (mv 1) me_int)))))
theorem sc_law_count : FnScope ["_law_year", "_law_month", "_law_day", "_law_gone", "_law_found", "_law_k"] ["_law_year", "_law_month", "_law_day"] (defScope t_law_count) := ⟨rfl, rfl, rfl, by decide +kernel, rfl, by decide +kernel, by decide +kernel⟩
theorem ok_law_count (fu : Nat) (T : Tx fa fn fxl K mg) : DefOk P w K mg base 3 "_law_count" 3 (Pg.f_law_count fu) [[]] := by
  obtain ⟨fd, F⟩ := T.says.def_ 17 (d := d_law_count) rfl
  refine def_ok (d := d_law_count) (ps := ["_law_year", "_law_month", "_law_day"]) (T.glo 29) F (MI.fn_ok (N := ["_law_year", "_law_month", "_law_day", "_law_gone", "_law_found", "_law_k"]) F sc_law_count fun cdv A outer s H E hr => ?_) (allC ⟨[], [], .nil, fun _ => .nil, F.bindsN fun _ _ _ _ _ _ us hl => match us, hl with | [_, _, _], _ => rfl⟩ all0)
  have tk : Takes (cxOf (L2.CX P w) P w K mg base ["_law_year", "_law_month", "_law_day", "_law_gone", "_law_found", "_law_k"] "_law_count" (defScope t_law_count) (He.ga K "_law_count") cdv A outer s H E) (WD E) := takes_of rfl rfl rfl rfl
  have hp : PassesOwn (model P w) (cxOf (L2.CX P w) P w K mg base ["_law_year", "_law_month", "_law_day", "_law_gone", "_law_found", "_law_k"] "_law_count" (defScope t_law_count) (He.ga K "_law_count") cdv A outer s H E).A (cxOf (L2.CX P w) P w K mg base ["_law_year", "_law_month", "_law_day", "_law_gone", "_law_found", "_law_k"] "_law_count" (defScope t_law_count) (He.ga K "_law_count") cdv A outer s H E).env (cxOf (L2.CX P w) P w K mg base ["_law_year", "_law_month", "_law_day", "_law_gone", "_law_found", "_law_k"] "_law_count" (defScope t_law_count) (He.ga K "_law_count") cdv A outer s H E).xe := passes_of rfl
  have nd : (["_law_year", "_law_month", "_law_day", "_law_gone", "_law_found", "_law_k"] : List Str).Nodup := sc_law_count.nd
  show MSs (cxOf (L2.CX P w) P w K mg base ["_law_year", "_law_month", "_law_day", "_law_gone", "_law_found", "_law_k"] "_law_count" (defScope t_law_count) (He.ga K "_law_count") cdv A outer s H E) (WD E) (defBody t_law_count) (Pg.s_law_count fu)
  exact (mss_cons (sset 3 nd (mbin o_sub (mv 0) me_int)) (mss_cons (sset 4 nd (mbin o_addL (mbin o_sub (mbin o_addL (mbin o_mul me_int (mv 3)) (mbin o_fdv (mv 3) me_int)) (mbin o_fdv (mv 3) me_int)) (mbin o_fdv (mv 3) me_int))) (mss_one (ms_ret (mbin o_sub (mbin o_addL (mbin o_addL (mv 4) (mcB (c_sum rfl) (T.free 10) (mac (me_new (mn_lc (own := [("_law_k", 5)]) nd (mi_rng2 (T.free 6) (mac me_int (mac (mv 1) ma_nil))) (blkOk_by (N := ["_law_year", "_law_month", "_law_day", "_law_gone", "_law_found", "_law_k"]) (sc := defScope t_law_count) (by decide +kernel)) (vN_ok (by decide)) (fun _ _ _ _ _ => (gname 5 nd)) (fun _ _ _ _ _ => mts_nil) (fun _ _ _ _ _ => (me_def (dd := []) (ok_law_long fu T) hr takes0 (mac (mv 0) (mac (mv 5) ma_nil)))))) ma_nil))) (mv 2)) me_int)))))
theorem sc_law_parts : FnScope ["_law_one", "_law_other", "_law_year", "_law_month", "_law_day"] ["_law_one", "_law_other"] (defScope t_law_parts) := ⟨rfl, rfl, rfl, by decide +kernel, rfl, by decide +kernel, by decide +kernel⟩
theorem ok_law_parts (fu : Nat) (T : Tx fa fn fxl K mg) : DefOk P w K mg base 3 "_law_parts" 2 (f_law_parts fu) [[]] := by
  obtain ⟨fd, F⟩ := T.says.def_ 18 (d := d_law_parts) rfl
  refine def_ok (d := d_law_parts) (ps := ["_law_one", "_law_other"]) (T.glo 30) F (MI.fn_ok (N := ["_law_one", "_law_other", "_law_year", "_law_month", "_law_day"]) F sc_law_parts fun cdv A outer s H E hr => ?_) (allC ⟨[], [], .nil, fun _ => .nil, F.bindsN fun _ _ _ _ _ _ us hl => match us, hl with | [_, _], _ => rfl⟩ all0)
  have tk : Takes (cxOf (L2.CX P w) P w K mg base ["_law_one", "_law_other", "_law_year", "_law_month", "_law_day"] "_law_parts" (defScope t_law_parts) (He.ga K "_law_parts") cdv A outer s H E) (WD E) := takes_of rfl rfl rfl rfl
  have hp : PassesOwn (model P w) (cxOf (L2.CX P w) P w K mg base ["_law_one", "_law_other", "_law_year", "_law_month", "_law_day"] "_law_parts" (defScope t_law_parts) (He.ga K "_law_parts") cdv A outer s H E).A (cxOf (L2.CX P w) P w K mg base ["_law_one", "_law_other", "_law_year", "_law_month", "_law_day"] "_law_parts" (defScope t_law_parts) (He.ga K "_law_parts") cdv A outer s H E).env (cxOf (L2.CX P w) P w K mg base ["_law_one", "_law_other", "_law_year", "_law_month", "_law_day"] "_law_parts" (defScope t_law_parts) (He.ga K "_law_parts") cdv A outer s H E).xe := passes_of rfl
  have nd : (["_law_one", "_law_other", "_law_year", "_law_month", "_law_day"] : List Str).Nodup := sc_law_parts.nd
  show MSs (cxOf (L2.CX P w) P w K mg base ["_law_one", "_law_other", "_law_year", "_law_month", "_law_day"] "_law_parts" (defScope t_law_parts) (He.ga K "_law_parts") cdv A outer s H E) (WD E) (defBody t_law_parts) (s_law_parts fu)
  exact (mss_cons (sset 2 nd (mbin o_addL me_int (mbin o_mod (mv 0) me_int))) (mss_cons (ms_if (tcmp (o_eq hr.units) bl_eq (mbin o_mod (mbin o_fdv (mv 0) me_int) me_int) me_int) (mss_one (sset 2 nd (mix (me_lst (mac me_int (mac me_int (mac me_int (mac me_int ma_nil))))) (mbin o_mod (mbin o_fdv (mv 0) me_int) me_int)))) mss_nil) (mss_cons (sset 3 nd (mbin o_addL me_int (mbin o_mod (mv 1) me_int))) (mss_cons (sset 4 nd (mbin o_addL me_int (mbin o_mod (mbin o_fdv (mv 1) me_int) (me_def (dd := []) (ok_law_long fu T) hr tk (mac (mv 2) (mac (mv 3) ma_nil)))))) (mss_cons (ms_if (tcmp (o_eq hr.units) bl_eq (mbin o_mod (mbin o_fdv (mv 1) me_int) me_int) me_int) (mss_one (sset 4 nd (me_def (dd := []) (ok_law_long fu T) hr tk (mac (mv 2) (mac (mv 3) ma_nil))))) mss_nil) (mss_one (ms_ret (me_tup (mac (mv 2) (mac (mv 3) (mac (mv 4) ma_nil)))))))))))
theorem sc_law_bent : FnScope ["_law_text", "_law_cell", "_law_sign", "_law_at"] ["_law_text", "_law_cell"] (defScope t_law_bent) := ⟨rfl, rfl, rfl, by decide +kernel, rfl, by decide +kernel, by decide +kernel⟩
theorem ok_law_bent (fu : Nat) (T : Tx fa fn fxl K mg) : DefOk P w K mg base 1 "_law_bent" 2 (f_law_bent fu) [[]] := by
  obtain ⟨fd, F⟩ := T.says.def_ 19 (d := d_law_bent) rfl
  refine def_ok (d := d_law_bent) (ps := ["_law_text", "_law_cell"]) (T.glo 31) F (MI.fn_ok (N := ["_law_text", "_law_cell", "_law_sign", "_law_at"]) F sc_law_bent fun cdv A outer s H E hr => ?_) (allC ⟨[], [], .nil, fun _ => .nil, F.bindsN fun _ _ _ _ _ _ us hl => match us, hl with | [_, _], _ => rfl⟩ all0)
  have tk : Takes (cxOf (L2.CX P w) P w K mg base ["_law_text", "_law_cell", "_law_sign", "_law_at"] "_law_bent" (defScope t_law_bent) (He.ga K "_law_bent") cdv A outer s H E) (WD E) := takes_of rfl rfl rfl rfl
  have hp : PassesOwn (model P w) (cxOf (L2.CX P w) P w K mg base ["_law_text", "_law_cell", "_law_sign", "_law_at"] "_law_bent" (defScope t_law_bent) (He.ga K "_law_bent") cdv A outer s H E).A (cxOf (L2.CX P w) P w K mg base ["_law_text", "_law_cell", "_law_sign", "_law_at"] "_law_bent" (defScope t_law_bent) (He.ga K "_law_bent") cdv A outer s H E).env (cxOf (L2.CX P w) P w K mg base ["_law_text", "_law_cell", "_law_sign", "_law_at"] "_law_bent" (defScope t_law_bent) (He.ga K "_law_bent") cdv A outer s H E).xe := passes_of rfl
  have nd : (["_law_text", "_law_cell", "_law_sign", "_law_at"] : List Str).Nodup := sc_law_bent.nd
  show MSs (cxOf (L2.CX P w) P w K mg base ["_law_text", "_law_cell", "_law_sign", "_law_at"] "_law_bent" (defScope t_law_bent) (He.ga K "_law_bent") cdv A outer s H E) (WD E) (defBody t_law_bent) (s_law_bent fu)
  exact (mss_cons (sset 2 nd (mix me_str (mbin o_mod (mv 1) me_int))) (mss_cons (sset 3 nd (mbin o_mod (mbin o_fdv (mv 1) me_int) (mcB c_len (T.free 8) (mac (mv 0) ma_nil)))) (mss_cons (ms_if (tcmp (o_eq hr.units) bl_eq (mbin o_mod (mbin o_fdv (mv 1) me_int) me_int) me_int) (mss_one (ms_ret (mbin o_addL (mbin o_addL (me_sl (mv 0) mo_none (mo_some (mv 3))) (mv 2)) (me_sl (mv 0) (mo_some (mbin o_addL (mv 3) me_int)) mo_none)))) mss_nil) (mss_cons (ms_if (tcmp (o_eq hr.units) bl_eq (mbin o_mod (mbin o_fdv (mv 1) me_int) me_int) me_int) (mss_one (ms_ret (mbin o_addL (me_sl (mv 0) mo_none (mo_some (mv 3))) (me_sl (mv 0) (mo_some (mbin o_addL (mv 3) me_int)) mo_none)))) mss_nil) (mss_cons (sset 3 nd (mbin o_mod (mbin o_fdv (mv 1) me_int) (mbin o_addL (mcB c_len (T.free 8) (mac (mv 0) ma_nil)) me_int))) (mss_one (ms_ret (mbin o_addL (mbin o_addL (me_sl (mv 0) mo_none (mo_some (mv 3))) (mv 2)) (me_sl (mv 0) (mo_some (mv 3)) mo_none)))))))))
theorem sc_law_due : FnScope ["_law_text", "_law_sign", "_law_year", "_law_month", "_law_day"] ["_law_text"] (defScope t_law_due) := ⟨rfl, rfl, rfl, by decide +kernel, rfl, by decide +kernel, by decide +kernel⟩
theorem ok_law_due (fu : Nat) (T : Tx fa fn fxl K mg) : DefOk P w K mg base 4 "_law_due" 1 (f_law_due fu) [[]] := by
  obtain ⟨fd, F⟩ := T.says.def_ 20 (d := d_law_due) rfl
  refine def_ok (d := d_law_due) (ps := ["_law_text"]) (T.glo 32) F (MI.fn_ok (N := ["_law_text", "_law_sign", "_law_year", "_law_month", "_law_day"]) F sc_law_due fun cdv A outer s H E hr => ?_) (allC ⟨[], [], .nil, fun _ => .nil, F.bindsN fun _ _ _ _ _ _ us hl => match us, hl with | [_], _ => rfl⟩ all0)
  have tk : Takes (cxOf (L2.CX P w) P w K mg base ["_law_text", "_law_sign", "_law_year", "_law_month", "_law_day"] "_law_due" (defScope t_law_due) (He.ga K "_law_due") cdv A outer s H E) (WD E) := takes_of rfl rfl rfl rfl
  have hp : PassesOwn (model P w) (cxOf (L2.CX P w) P w K mg base ["_law_text", "_law_sign", "_law_year", "_law_month", "_law_day"] "_law_due" (defScope t_law_due) (He.ga K "_law_due") cdv A outer s H E).A (cxOf (L2.CX P w) P w K mg base ["_law_text", "_law_sign", "_law_year", "_law_month", "_law_day"] "_law_due" (defScope t_law_due) (He.ga K "_law_due") cdv A outer s H E).env (cxOf (L2.CX P w) P w K mg base ["_law_text", "_law_sign", "_law_year", "_law_month", "_law_day"] "_law_due" (defScope t_law_due) (He.ga K "_law_due") cdv A outer s H E).xe := passes_of rfl
  have nd : (["_law_text", "_law_sign", "_law_year", "_law_month", "_law_day"] : List Str).Nodup := sc_law_due.nd
  show MSs (cxOf (L2.CX P w) P w K mg base ["_law_text", "_law_sign", "_law_year", "_law_month", "_law_day"] "_law_due" (defScope t_law_due) (He.ga K "_law_due") cdv A outer s H E) (WD E) (defBody t_law_due) (s_law_due fu)
  exact (mss_cons (ms_if (PW.pt (mw_or (tcmp (o_ne hr.units) bl_ne (mcB c_len (T.free 8) (mac (mv 0) ma_nil)) me_int) (mw_or (tcmp (o_ne hr.units) bl_ne (mix (mv 0) me_int) me_str) (mw_or1 (tcmp (o_ne hr.units) bl_ne (mix (mv 0) me_int) me_str))))) (mss_one (ms_ret me_non)) mss_nil) (mss_cons (ms_for hp (mi_signs (mbin o_addL (mbin o_addL (me_sl (mv 0) mo_none (mo_some me_int)) (me_sl (mv 0) (mo_some me_int) (mo_some me_int))) (me_sl (mv 0) (mo_some me_int) mo_none))) (gname 1 nd) gN_ok (mss_one (ms_if (tcmp (o_notIn (hu65 hr)) (bl_in true) (mv 1) me_str) (mss_one (ms_ret me_non)) mss_nil))) (mss_cons (sset 2 nd (mcT c_intT (T.free 1) (mac (me_sl (mv 0) mo_none (mo_some me_int)) ma_nil))) (mss_cons (sset 3 nd (mcT c_intT (T.free 1) (mac (me_sl (mv 0) (mo_some me_int) (mo_some me_int)) ma_nil))) (mss_cons (sset 4 nd (mcT c_intT (T.free 1) (mac (me_sl (mv 0) (mo_some me_int) mo_none) ma_nil))) (mss_cons (ms_if (PW.pt (mw_or (tcmp o_lt bl_lt (mv 2) me_int) (mw_or (tcmp o_lt bl_lt (mv 3) me_int) (mw_or (tcmp o_gt bl_gt (mv 3) me_int) (mw_or (tcmp o_lt bl_lt (mv 4) me_int) (mw_or1 (tcmp o_gt bl_gt (mv 4) (me_def (dd := []) (ok_law_long fu T) hr tk (mac (mv 2) (mac (mv 3) ma_nil)))))))))) (mss_one (ms_ret me_non)) mss_nil) (mss_one (ms_ret (me_def (dd := []) (ok_law_count fu T) hr tk (mac (mv 2) (mac (mv 3) (mac (mv 4) ma_nil))))))))))))
theorem sc_law_read : FnScope ["_law_text", "_law_due_here", "_law_found", "_law_refused"] ["_law_text", "_law_due_here"] (defScope t_law_read) := ⟨rfl, rfl, rfl, by decide +kernel, rfl, by decide +kernel, by decide +kernel⟩
theorem ok_law_read (fu : Nat) (T : Tx fa fn fxl K mg) : DefOk P w K mg base 5 "_law_read" 2 (f_law_read fu) [[]] := by
  obtain ⟨fd, F⟩ := T.says.def_ 21 (d := d_law_read) rfl
  refine def_ok (d := d_law_read) (ps := ["_law_text", "_law_due_here"]) (T.glo 33) F (MI.fn_ok (N := ["_law_text", "_law_due_here", "_law_found", "_law_refused"]) F sc_law_read fun cdv A outer s H E hr => ?_) (allC ⟨[], [], .nil, fun _ => .nil, F.bindsN fun _ _ _ _ _ _ us hl => match us, hl with | [_, _], _ => rfl⟩ all0)
  have tk : Takes (cxOf (L2.CX P w) P w K mg base ["_law_text", "_law_due_here", "_law_found", "_law_refused"] "_law_read" (defScope t_law_read) (He.ga K "_law_read") cdv A outer s H E) (WD E) := takes_of rfl rfl rfl rfl
  have hp : PassesOwn (model P w) (cxOf (L2.CX P w) P w K mg base ["_law_text", "_law_due_here", "_law_found", "_law_refused"] "_law_read" (defScope t_law_read) (He.ga K "_law_read") cdv A outer s H E).A (cxOf (L2.CX P w) P w K mg base ["_law_text", "_law_due_here", "_law_found", "_law_refused"] "_law_read" (defScope t_law_read) (He.ga K "_law_read") cdv A outer s H E).env (cxOf (L2.CX P w) P w K mg base ["_law_text", "_law_due_here", "_law_found", "_law_refused"] "_law_read" (defScope t_law_read) (He.ga K "_law_read") cdv A outer s H E).xe := passes_of rfl
  have nd : (["_law_text", "_law_due_here", "_law_found", "_law_refused"] : List Str).Nodup := sc_law_read.nd
  show MSs (cxOf (L2.CX P w) P w K mg base ["_law_text", "_law_due_here", "_law_found", "_law_refused"] "_law_read" (defScope t_law_read) (He.ga K "_law_read") cdv A outer s H E) (WD E) (defBody t_law_read) (s_law_read fu)
  exact (mss_cons (sset 2 nd me_non) (mss_cons (sset 3 nd me_bl) (mss_cons (stry (T.glo 4) tk (subT_ok _ (allC ⟨(T.glo 4), T.exm 11⟩ all0)) (fun W2 pn2 xe2 tk hp => (mss_one (sset 2 nd (me_def (dd := []) (ok_p_read_day fu T) hr tk (mac (mv 0) ma_nil))))) (fun a2 oe2 cls2 d2 pn2 z2 f2 W2 => (mss_one (sset 3 nd me_bl)))) (mss_cons (ms_if (tcmp o_is bl_is (mv 1) me_non) (mss_one (ms_ret (mv 3))) mss_nil) (mss_one (ms_ret (me_and (me_not (mv 3)) (me_and (me_def (dd := []) (ok_law_whole fu T) hr tk (mac (mv 2) ma_nil)) (me_one (mcmp (o_eq hr.units) (mv 2) (mv 1)))))))))))
theorem sc_law_months : FnScope ["_law_parts_here", "_law_day", "_law_month", "_law_begin"] ["_law_parts_here", "_law_day"] (defScope t_law_months) := ⟨rfl, rfl, rfl, by decide +kernel, rfl, by decide +kernel, by decide +kernel⟩
theorem ok_law_months (fu : Nat) (T : Tx fa fn fxl K mg) : DefOk P w K mg base 5 "_law_months" 2 (f_law_months fu) [[]] := by
  obtain ⟨fd, F⟩ := T.says.def_ 22 (d := d_law_months) rfl
  refine def_ok (d := d_law_months) (ps := ["_law_parts_here", "_law_day"]) (T.glo 34) F (MI.fn_ok (N := ["_law_parts_here", "_law_day", "_law_month", "_law_begin"]) F sc_law_months fun cdv A outer s H E hr => ?_) (allC ⟨[], [], .nil, fun _ => .nil, F.bindsN fun _ _ _ _ _ _ us hl => match us, hl with | [_, _], _ => rfl⟩ all0)
  have tk : Takes (cxOf (L2.CX P w) P w K mg base ["_law_parts_here", "_law_day", "_law_month", "_law_begin"] "_law_months" (defScope t_law_months) (He.ga K "_law_months") cdv A outer s H E) (WD E) := takes_of rfl rfl rfl rfl
  have hp : PassesOwn (model P w) (cxOf (L2.CX P w) P w K mg base ["_law_parts_here", "_law_day", "_law_month", "_law_begin"] "_law_months" (defScope t_law_months) (He.ga K "_law_months") cdv A outer s H E).A (cxOf (L2.CX P w) P w K mg base ["_law_parts_here", "_law_day", "_law_month", "_law_begin"] "_law_months" (defScope t_law_months) (He.ga K "_law_months") cdv A outer s H E).env (cxOf (L2.CX P w) P w K mg base ["_law_parts_here", "_law_day", "_law_month", "_law_begin"] "_law_months" (defScope t_law_months) (He.ga K "_law_months") cdv A outer s H E).xe := passes_of rfl
  have nd : (["_law_parts_here", "_law_day", "_law_month", "_law_begin"] : List Str).Nodup := sc_law_months.nd
  show MSs (cxOf (L2.CX P w) P w K mg base ["_law_parts_here", "_law_day", "_law_month", "_law_begin"] "_law_months" (defScope t_law_months) (He.ga K "_law_months") cdv A outer s H E) (WD E) (defBody t_law_months) (s_law_months fu)
  exact (mss_cons (sset 2 nd (me_def (dd := []) (ok_p_month_of fu T) hr tk (mac (mv 1) ma_nil))) (mss_cons (ms_if (PW.pt (mw_or (mt_not (ttru (me_def (dd := []) (ok_law_whole fu T) hr tk (mac (mv 2) ma_nil)))) (mw_or1 (tcmp (o_ne hr.units) bl_ne (mv 2) (mbin o_sub (mbin o_addL (mbin o_mul me_int (mix (mv 0) me_int)) (mix (mv 0) me_int)) me_int))))) (mss_one (ms_ret me_bl)) mss_nil) (mss_cons (sset 3 nd (me_def (dd := []) (ok_p_month_begin fu T) hr tk (mac (mv 2) ma_nil))) (mss_one (ms_ret (me_and (me_def (dd := []) (ok_law_whole fu T) hr tk (mac (mv 3) ma_nil)) (me_one (mcmp (o_eq hr.units) (mv 3) (me_def (dd := []) (ok_law_count fu T) hr tk (mac (mix (mv 0) me_int) (mac (mix (mv 0) me_int) (mac me_int ma_nil))))))))))))
theorem sc_law_no_day : FnScope ["_law_cell", "_law_far", "_law_thing"] ["_law_cell"] (defScope t_law_no_day) := ⟨rfl, rfl, rfl, by decide +kernel, rfl, by decide +kernel, by decide +kernel⟩
theorem ok_law_no_day (fu : Nat) (T : Tx fa fn fxl K mg) : DefOk P w K mg base 6 "_law_no_day" 1 (f_law_no_day fu) [[]] := by
  obtain ⟨fd, F⟩ := T.says.def_ 23 (d := d_law_no_day) rfl
  refine def_ok (d := d_law_no_day) (ps := ["_law_cell"]) (T.glo 35) F (MI.fn_ok (N := ["_law_cell", "_law_far", "_law_thing"]) F sc_law_no_day fun cdv A outer s H E hr => ?_) (allC ⟨[], [], .nil, fun _ => .nil, F.bindsN fun _ _ _ _ _ _ us hl => match us, hl with | [_], _ => rfl⟩ all0)
  have tk : Takes (cxOf (L2.CX P w) P w K mg base ["_law_cell", "_law_far", "_law_thing"] "_law_no_day" (defScope t_law_no_day) (He.ga K "_law_no_day") cdv A outer s H E) (WD E) := takes_of rfl rfl rfl rfl
  have hp : PassesOwn (model P w) (cxOf (L2.CX P w) P w K mg base ["_law_cell", "_law_far", "_law_thing"] "_law_no_day" (defScope t_law_no_day) (He.ga K "_law_no_day") cdv A outer s H E).A (cxOf (L2.CX P w) P w K mg base ["_law_cell", "_law_far", "_law_thing"] "_law_no_day" (defScope t_law_no_day) (He.ga K "_law_no_day") cdv A outer s H E).env (cxOf (L2.CX P w) P w K mg base ["_law_cell", "_law_far", "_law_thing"] "_law_no_day" (defScope t_law_no_day) (He.ga K "_law_no_day") cdv A outer s H E).xe := passes_of rfl
  have nd : (["_law_cell", "_law_far", "_law_thing"] : List Str).Nodup := sc_law_no_day.nd
  show MSs (cxOf (L2.CX P w) P w K mg base ["_law_cell", "_law_far", "_law_thing"] "_law_no_day" (defScope t_law_no_day) (He.ga K "_law_no_day") cdv A outer s H E) (WD E) (defBody t_law_no_day) (s_law_no_day fu)
  exact (mss_cons (sset 1 nd (mbin o_mod (mbin o_fdv (mv 0) me_int) (mbin o_pow me_int me_int))) (mss_cons (sset 2 nd (mix (me_lst (mac (mbin o_sub (me_un o_neg me_int) (mbin o_fdv (mv 1) me_int)) (mac (mbin o_addL me_int (mbin o_fdv (mv 1) me_int)) (mac me_bl (mac me_bl (mac me_non (mac me_str (mac (me_lst (mac me_int ma_nil)) (mac (me_tup (mac me_int (mac me_int ma_nil))) ma_nil))))))))) (mbin o_mod (mv 0) me_int))) (mss_cons (ms_if (PW.pt (mw_or (tcmp o_notB bl_notB (me_def (dd := []) (ok_p_is_day fu T) hr tk (mac (mv 2) ma_nil)) me_bl) (mw_or1 (tcmp o_notB bl_notB (me_def (dd := []) (ok_p_is_told_day fu T) hr tk (mac (mv 2) ma_nil)) me_bl)))) (mss_one (ms_ret me_bl)) mss_nil) (mss_one (ms_ret (me_or (misi "str" (T.free 0) (T.free 7) (mv 2)) (me_one (me_def (dd := []) (ok_law_read fu T) hr tk (mac (mv 2) (mac me_non ma_nil))))))))))
theorem sc_p_law : FnScope ["_law_script", "_law_cells", "_law_k", "_law_one", "_law_other", "_law_parts_here", "_law_day", "_law_due_here", "_law_found", "_law_bent_here", "_law_told", "_law_among"] ["_law_script"] (defScope t_p_law) := ⟨rfl, rfl, rfl, by decide +kernel, rfl, by decide +kernel, by decide +kernel⟩
theorem ok_p_law (fu : Nat) (T : Tx fa fn fxl K mg) {fd : FuncData} (F : FunD K d_p_law.name d_p_law.qual d_p_law.params d_p_law.body d_p_law.scope (d_p_law.dvs K) (d_p_law.kws K) (He.ga K "law") fd) : FnOk P w K mg base (L2.CX P w) 7 (He.ga K "law") fd ["_law_script"] (spD K mg 1 (f_p_law fu)) := by
  refine MI.fn_ok (N := ["_law_script", "_law_cells", "_law_k", "_law_one", "_law_other", "_law_parts_here", "_law_day", "_law_due_here", "_law_found", "_law_bent_here", "_law_told", "_law_among"]) F sc_p_law fun cdv A outer s H E hr => ?_
  have tk : Takes (cxOf (L2.CX P w) P w K mg base ["_law_script", "_law_cells", "_law_k", "_law_one", "_law_other", "_law_parts_here", "_law_day", "_law_due_here", "_law_found", "_law_bent_here", "_law_told", "_law_among"] "law" (defScope t_p_law) (He.ga K "law") cdv A outer s H E) (WD E) := takes_of rfl rfl rfl rfl
  have hp : PassesOwn (model P w) (cxOf (L2.CX P w) P w K mg base ["_law_script", "_law_cells", "_law_k", "_law_one", "_law_other", "_law_parts_here", "_law_day", "_law_due_here", "_law_found", "_law_bent_here", "_law_told", "_law_among"] "law" (defScope t_p_law) (He.ga K "law") cdv A outer s H E).A (cxOf (L2.CX P w) P w K mg base ["_law_script", "_law_cells", "_law_k", "_law_one", "_law_other", "_law_parts_here", "_law_day", "_law_due_here", "_law_found", "_law_bent_here", "_law_told", "_law_among"] "law" (defScope t_p_law) (He.ga K "law") cdv A outer s H E).env (cxOf (L2.CX P w) P w K mg base ["_law_script", "_law_cells", "_law_k", "_law_one", "_law_other", "_law_parts_here", "_law_day", "_law_due_here", "_law_found", "_law_bent_here", "_law_told", "_law_among"] "law" (defScope t_p_law) (He.ga K "law") cdv A outer s H E).xe := passes_of rfl
  have nd : (["_law_script", "_law_cells", "_law_k", "_law_one", "_law_other", "_law_parts_here", "_law_day", "_law_due_here", "_law_found", "_law_bent_here", "_law_told", "_law_among"] : List Str).Nodup := sc_p_law.nd
  show MSs (cxOf (L2.CX P w) P w K mg base ["_law_script", "_law_cells", "_law_k", "_law_one", "_law_other", "_law_parts_here", "_law_day", "_law_due_here", "_law_found", "_law_bent_here", "_law_told", "_law_among"] "law" (defScope t_p_law) (He.ga K "law") cdv A outer s H E) (WD E) (defBody t_p_law) (s_p_law fu)
  exact (mss_cons (sset 1 nd (me_sl (mv 0) mo_none (mo_some me_int))) (mss_cons (ms_for hp (mi_rng3 (T.free 6) (mac me_int (mac (mbin o_addL (mcB c_len (T.free 8) (mac (mv 1) ma_nil)) me_int) (mac me_int ma_nil)))) (gname 2 nd) gN_ok (mss_cons (sset 3 nd (me_def (dd := []) (ok_law_mixed fu T) hr tk (mac (me_def (dd := []) (ok_law_cell_at fu T) hr tk (mac (mv 1) (mac (mv 2) ma_nil))) ma_nil))) (mss_cons (sset 4 nd (me_def (dd := []) (ok_law_mixed fu T) hr tk (mac (me_def (dd := []) (ok_law_cell_at fu T) hr tk (mac (mv 1) (mac (mbin o_addL (mv 2) me_int) ma_nil))) ma_nil))) (mss_cons (sset 5 nd (me_def (dd := []) (ok_law_parts fu T) hr tk (mac (mv 3) (mac (mv 4) ma_nil)))) (mss_cons (sset 6 nd (me_def (dd := []) (ok_law_count fu T) hr tk (mac (mix (mv 5) me_int) (mac (mix (mv 5) me_int) (mac (mix (mv 5) me_int) ma_nil))))) (mss_cons (sset 7 nd (mbin o_addL (me_sl (mcT c_str (T.free 7) (mac (mbin o_addL me_int (mix (mv 5) me_int)) ma_nil)) (mo_some me_int) mo_none) me_str)) (mss_cons (sset 7 nd (mbin o_addL (mbin o_addL (mbin o_addL (mv 7) (me_sl (mcT c_str (T.free 7) (mac (mbin o_addL me_int (mix (mv 5) me_int)) ma_nil)) (mo_some me_int) mo_none)) me_str) (me_sl (mcT c_str (T.free 7) (mac (mbin o_addL me_int (mix (mv 5) me_int)) ma_nil)) (mo_some me_int) mo_none))) (mss_cons (sset 8 nd (me_def (dd := []) (ok_p_show_day fu T) hr tk (mac (mv 6) ma_nil))) (mss_cons (ms_if (PW.pt (mw_or (mt_not (ttru (misi "str" (T.free 0) (T.free 7) (mv 8)))) (mw_or (tcmp (o_ne hr.units) bl_ne (mv 8) (mv 7)) (mw_or1 (mt_not (ttru (me_def (dd := []) (ok_law_read fu T) hr tk (mac (mv 7) (mac (mv 6) ma_nil))))))))) (mss_one (ms_ret me_bl)) mss_nil) (mss_cons (sset 9 nd (me_def (dd := []) (ok_law_bent fu T) hr tk (mac (mv 7) (mac (mbin o_addL (mbin o_fdv (mv 3) me_int) (mbin o_fdv (mv 4) me_int)) ma_nil)))) (mss_cons (ms_if (PW.pt (mw_or (mt_not (ttru (me_def (dd := []) (ok_law_read fu T) hr tk (mac (me_sl (mv 7) mo_none (mo_some (mbin o_mod (mv 3) me_int))) (mac me_non ma_nil))))) (mw_or1 (mt_not (ttru (me_def (dd := []) (ok_law_read fu T) hr tk (mac (mbin o_addL (mv 7) (mv 7)) (mac me_non ma_nil)))))))) (mss_one (ms_ret me_bl)) mss_nil) (mss_cons (ms_if (mt_not (ttru (me_def (dd := []) (ok_law_read fu T) hr tk (mac (mbin o_addL (mbin o_addL (me_sl (mv 7) (mo_some me_int) (mo_some me_int)) (me_sl (mv 7) mo_none (mo_some me_int))) (me_sl (mv 7) (mo_some me_int) mo_none)) (mac me_non ma_nil))))) (mss_one (ms_ret me_bl)) mss_nil) (mss_cons (ms_if (PW.pt (mw_or (mt_not (ttru (me_def (dd := []) (ok_law_read fu T) hr tk (mac (mv 9) (mac (me_def (dd := []) (ok_law_due fu T) hr tk (mac (mv 9) ma_nil)) ma_nil))))) (mw_or1 (mt_not (ttru (me_def (dd := []) (ok_law_months fu T) hr tk (mac (mv 5) (mac (mv 6) ma_nil)))))))) (mss_one (ms_ret me_bl)) mss_nil) (mss_cons (sset 10 nd (me_def (dd := []) (ok_p_is_told_day fu T) hr tk (mac (mv 6) ma_nil))) (mss_cons (sset 11 nd (me_and (mcmp o_le me_int (mix (mv 5) me_int)) (me_one (mcmp o_le (mix (mv 5) me_int) me_int)))) (mss_cons (ms_if (PW.pt (mw_or (tcmp o_notB bl_notB (me_def (dd := []) (ok_p_is_day fu T) hr tk (mac (mv 6) ma_nil)) me_bl) (mw_or (mt_not (ttru (misi "bool" (T.free 0) (T.free 2) (mv 10)))) (mw_or1 (tcmp (o_ne hr.units) bl_ne (mv 10) (mv 11)))))) (mss_one (ms_ret me_bl)) mss_nil) (mss_one (ms_if (mt_not (ttru (me_def (dd := []) (ok_law_no_day fu T) hr tk (mac (mbin o_fdv (mv 4) me_int) ma_nil)))) (mss_one (ms_ret me_bl)) mss_nil)))))))))))))))))) (mss_one (ms_ret me_bl))))
end
abbrev R0 : PySem.W.OpenRow := PySem.W.OpenLaw.row PySem.Challenge.rw_markscale_k08_days_written
abbrev hk : PySem.W.Hook := hookM 4 fa fn fxl
def ob (s : PySem.W.SharedT) : AlM := obsM 4 fa fn fxl (HandSHeadRun.getT s)
theorem ob_eq (s : PySem.W.SharedT) : ob s = hk.obs s.abs := obsM_eq (HandSHeadRun.getT_eq s)
theorem head (w : World) : HandSHeadRun.RunEq R0 (PySem.W.view R0.prog [32]) hk ob 4000 ["MarkError", "NoDay", "FIGURES", "LAST", "is_whole", "is_leap", "length_of", "ahead_of", "is_day", "is_told_day", "day_of", "parts_of", "show_day", "read_day", "month_of", "month_begin", "_law_whole", "_law_cell_at", "_law_mixed", "_law_leap", "_law_long", "_law_count", "_law_parts", "_law_bent", "_law_due", "_law_read", "_law_months", "_law_no_day", "__name__"] w := by
  intro os
  kernel_rfl
end K08
open PySem PySem.W PySem.Calls PyProof.Rows
theorem K08.holds_of (fu : Nat) (hf : ∀ ns : List Int, ns.length ≤ 63 → (∀ z ∈ ns, Builtin.Int.intBits z ≤ 1048576) → K08.f_p_law fu [.list (ns.map .int)] = .ok (.bool true)) : PySem.Challenge.rw_markscale_k08_days_written.Holds := by
  w_on; o_law
  refine HandSHeadRun.head_any (r := OpenLaw.row PySem.Challenge.rw_markscale_k08_days_written) (q := view (OpenLaw.row PySem.Challenge.rw_markscale_k08_days_written).prog [32]) (H := K08.hk) (ob := K08.ob) (M := 4000) (loose := ["MarkError", "NoDay", "FIGURES", "LAST", "is_whole", "is_leap", "length_of", "ahead_of", "is_day", "is_told_day", "day_of", "parts_of", "show_day", "read_day", "month_of", "month_begin", "_law_whole", "_law_cell_at", "_law_mixed", "_law_leap", "_law_long", "_law_count", "_law_parts", "_law_bent", "_law_due", "_law_read", "_law_months", "_law_no_day", "__name__"]) (d := HandSHeadRun.topDef (OpenLaw.row PySem.Challenge.rw_markscale_k08_days_written).prog 32) (kwd := []) K08.ob_eq
    (by kernel_rfl) (fun s => by kernel_rfl) K08.head (by kernel_rfl) (by kernel_rfl) (by kernel_rfl) (by rfl) (by first | assumption | decide +kernel) (by decide +kernel) ⟨rfl, rfl, rfl, rfl, rfl, by decide +kernel⟩ ?hw ?hc
  case hw => w_witness2
  case hc =>
    refine MI.walk_mi (l := PySem.Challenge.rw_markscale_k08_days_written) (n := 63) (k := 7) (x := "_law_script") (f := K08.f_p_law fu) rfl (by decide) (by kernel_rfl) ⟨rfl, by decide, by decide⟩ ?F hf
    intro w mg fa h Y G hmg0
    obtain ⟨K, KX, c⟩ := Y
    have hmg : mg ("law" : PySem.Str) = some (.ref fa) := by
      have e : (HandSHeadRun.topDef (OpenLaw.row PySem.Challenge.rw_markscale_k08_days_written).prog 32).name = ("law" : PySem.Str) := by kernel_rfl
      rw [← e]
      exact hmg0
    have T : MI.Tx K08.fa K08.fn K08.fxl K mg := ⟨c.1, ⟨h, KX, G⟩, c.2⟩
    obtain ⟨fd, F⟩ := T.says.def_ 24 (d := K08.d_p_law) rfl
    have e := hmg.symm.trans (T.glo 36)
    cases e
    have b := L2.FunD.bindsA (ps := ["_law_script"]) F fun _ _ _ _ _ _ us hl => match us, hl with | [_], _ => rfl
    exact ⟨K, fd, KX, fun s v => b s [v] rfl, fun base _ _ => K08.ok_p_law fu T F⟩
set_option maxRecDepth 100000 in
set_option maxHeartbeats 8000000 in
theorem PySem.Challenge.cw_markscale_k08_days_written_holds : PySem.Challenge.rw_markscale_k08_days_written.Holds :=
  K08.holds_of Num.FU fun ns hn _ => K08.law Num.FU (Num.fu_lt (a := 10000) (b := 14) (by decide) (by decide)) ns hn

