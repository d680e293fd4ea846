import PyProof.Rows.All
import Wide.All
import OpenK.AllK
import Wide.FinOn
import HandS.ForExc
import HandS.ForMost
import HandS.Wide
import HandS.Defaults
import HandS.HeadHook2
import HandS.Flow
import HandS.IsInst
import HandS.Deep
import HandS.HeadEnd
import HandS.CallSlots
import HandS.RaiseMore
import HandS.StrMore
import HandS.Codes
import HandS.WideBits
import HandS.EndBits
import HandS.ExcIs
import HandS.ExcInit
import HandS.Comp
import HandS.Head2
import HandS.TryOnly
import HandS.More
import HandS.ExcValue
import KE.KTryMore
import KE.KExcIs
import HandS.Style
import KE.DatumOrd
import KE.DataAny
import HandS.SortKw
import HandS.SortInts
import HandS.Zip
import HandS.Iter
import PyProof.StrBlock2
import PyProof.Rows.StrJoinRep
import HandS.ExcField
import HandS.DictEq
import PyProof.ListMulAny
import HandS.TupAny
import HandS.HotCalls
import HandS.Dict
import HandS.Conv
import HandS.Strs
import KE.IntTextText
import PyProof.Rows.StrFirst
import PyProof.Rows.StrClip
import PySem.Challenge.RW_markscale_k25_wishes
set_option Elab.async false
set_option linter.all false
set_option maxRecDepth 100000
set_option maxHeartbeats 4000000
namespace MI
open PySem PySem.Spec PyProof.Rows L2
abbrev D := PyData
/-- a result: a value, an exception (its class's name, its one field), or no claim -/
inductive R (α : Type) where
  | ok (a : α)
  | exc (c : Str) (p : Option D)
  | bad
def R.bind {α β : Type} (x : R α) (f : α → R β) : R β := match x with
  | .ok a => f a
  | .exc c p => .exc c p
  | .bad => .bad
def R.of {α : Type} : Option α → R α
  | some a => .ok a
  | none => .bad
@[simp] theorem R.bind_ok {α β : Type} (a : α) (f : α → R β) : (R.ok a).bind f = f a := Eq.trans rfl rfl
@[simp] theorem R.bind_exc {α β : Type} (c : Str) (p : Option D) (f : α → R β) : (R.exc c p : R α).bind f = .exc c p := Eq.trans rfl rfl
@[simp] theorem R.bind_bad {α β : Type} (f : α → R β) : (R.bad : R α).bind f = .bad := Eq.trans rfl rfl
@[simp] theorem R.of_some {α : Type} (a : α) : R.of (some a) = .ok a := Eq.trans rfl rfl
@[simp] theorem R.of_none {α : Type} : R.of (none : Option α) = .bad := Eq.trans rfl rfl
abbrev Vw := List (Option D)
abbrev M := Vw → R D
/-- an exception of the class at C, its dict at od -/
def ExT (a C : Addr) (od : Option Addr) : HO := .ext fun h => ∃ (oe : Obj) (vs : Array Value), h.get? a = some oe ∧ (oe.cls = .ref C ∧ oe.dict = od) ∧ oe.data = .fields vs
/-- the data that stand for it: its class's name, its field -/
def excD (c : Str) (p : Option D) : D := .dict [(.none, .str c), (.none, match p with
  | some d => .tuple [d]
  | none => .none)]
def vD : V → Option D
  | .non => some .none
  | .bl b => some (.bool b)
  | .int i => some (.int i)
  | .str z => some (.str z)
  | _ => none
/-- a dict's entries: texts as keys -/
def zipKk (ks : List Str) (vs : List V) : List (Key × V) := (ks.zip vs).map fun p => (Sum.inr p.1, p.2)
def zipDd (ks : List Str) (ds : List D) : List (D × D) := (ks.zip ds).map fun p => (PyData.str p.1, p.2)
/-- the one field that some of the exceptions have -/
def xfield (c : Str) : Option Str :=
  if c = "NoTable" then some "row" else if c = "NoPlan" then some "step" else if c = "NoTelling" then some "part" else none
mutual
inductive Dp (K : PySem.W.Frag) (H : Hp) : V → D → Prop
  | non : Dp K H .non .none
  | bl (b : Bool) : Dp K H (.bl b) (.bool b)
  | int (i : Int) : Dp K H (.int i) (.int i)
  | str (x : Str) : Dp K H (.str x) (.str x)
  | lst {a : Addr} {xs : List V} {ds : List D} : SqL K H a xs → DpAll K H xs ds → Dp K H (.ref a) (.list ds)
  | tup {a : Addr} {xs : List V} {ds : List D} : SqT K H a xs → DpAll K H xs ds → Dp K H (.ref a) (.tuple ds)
  | exc {a : Addr} (c : Str) : H a = some (ExT a (He.ga K c) none) → Dp K H (.ref a) (excD c none)
  | excF {a dx : Addr} (c : Str) {f : Str} {v : V} {d : D} : H a = some (ExT a (He.ga K c) (some dx)) → H dx = some (.xd [(f, v)]) → xfield c = some f → vD v = some d → Dp K H (.ref a) (excD c (some d))
  | dct0 {a : Addr} : H a = some (.dK []) → Dp K H (.ref a) (.dict [])
  | dct {a : Addr} {k : Str} {v : V} {d : D} {ks : List Str} {vs : List V} {ds : List D} : H a = some (.dK ((Sum.inr k, v) :: zipKk ks vs)) → DpAll K H (v :: vs) (d :: ds) → ks.length = ds.length → Dp K H (.ref a) (.dict ((.str k, d) :: zipDd ks ds))
inductive DpAll (K : PySem.W.Frag) (H : Hp) : List V → List D → Prop
  | nil : DpAll K H [] []
  | cons {v : V} {vs : List V} {d : D} {ds : List D} : Dp K H v d → DpAll K H vs ds → DpAll K H (v :: vs) (d :: ds)
end
mutual
theorem dp_old {K : PySem.W.Frag} {H : Hp} : ∀ {v : V} {d : D}, Dp K H v d → d.canLay0 = true → L2.Dp K H v d
  | _, _, .non, _ => .non
  | _, _, .bl b, _ => .bl b
  | _, _, .int i, _ => .int i
  | _, _, .str z, _ => .str z
  | _, _, .lst a b, h => .lst a (dpa_old b (by simpa [PyData.canLay0] using h))
  | _, _, .tup a b, h => .tup a (dpa_old b (by simpa [PyData.canLay0] using h))
  | _, _, .exc c a, h => by simp [excD, PyData.canLay0] at h
  | _, _, .excF c a _ _ _, h => by simp [excD, PyData.canLay0] at h
  | _, _, .dct0 a, h => by simp [PyData.canLay0] at h
  | _, _, .dct a b l, h => by simp [PyData.canLay0] at h
theorem dpa_old {K : PySem.W.Frag} {H : Hp} : ∀ {vs : List V} {ds : List D}, DpAll K H vs ds → PyData.canLayAll0 ds = true → L2.DpAll K H vs ds
  | _, _, .nil, _ => .nil
  | _, _, .cons a b, h => by
    simp only [PyData.canLayAll0, Bool.and_eq_true] at h
    exact .cons (dp_old a h.1) (dpa_old b h.2)
end
theorem dp_shaped {K : PySem.W.Frag} {H : Hp} {v : V} {d : D} (h : Dp K H v d) (s : SeqAt.shaped d = true) : L2.Dp K H v d := dp_old h (Bool.and_eq_true_iff.mp s).1
structure Ext (F H F' H' : Hp) : Prop where
  f : Same F F'
  h : Same H H'
  s : Same F' H'
  n : ∀ a o, F' a = some o → F a = none → H a = none
theorem Ext.refl {F H : Hp} (s : Same F H) : Ext F H F H := ⟨Same.refl F, Same.refl H, s, fun a o e n => by rw [n] at e; cases e⟩
theorem Ext.trans {F H F1 H1 F2 H2 : Hp} (a : Ext F H F1 H1) (b : Ext F1 H1 F2 H2) : Ext F H F2 H2 := by
  refine ⟨a.f.trans b.f, a.h.trans b.h, b.s, fun x o e n => ?_⟩
  cases q : F1 x with
  | some o1 => exact a.n x o1 q n
  | none =>
    have z := b.n x o e q
    cases w : H x with
    | none => rfl
    | some u => rw [a.h x u w] at z; cases z
theorem same_upd {H : Hp} {p : Addr} {o : HO} (h : H p = none) : Same H (upd H p o) := fun a u e => by
  rw [upd_ne (ne_of_none e h)]
  exact e
/-- a new object, frozen at once -/
theorem Ext.new {F H : Hp} (s : Same F H) {p : Addr} {o : HO} (h : H p = none) : Ext F H (upd F p o) (upd H p o) := by
  have hf : F p = none := s.free h
  refine ⟨same_upd hf, same_upd h, fun a u e => ?_, fun a u e n => ?_⟩
  · by_cases z : a = p
    · subst z; rw [upd_same] at e ⊢; exact e
    · rw [upd_ne z] at e ⊢; exact s a u e
  · by_cases z : a = p
    · subst z; exact h
    · rw [upd_ne z, n] at e; cases e
theorem same_t {K : PySem.W.Frag} {H H' : Hp} {a : Addr} {xs : List V} (e : Same H H') (h : SqT K H a xs) : SqT K H' a xs := by
  rcases h with (h | ⟨o, h⟩) | h
  · exact .inl (.inl (e _ _ h))
  · exact .inl (.inr ⟨o, e _ _ h⟩)
  · exact .inr h
mutual
theorem dp_mono' {K : PySem.W.Frag} {F F' : Hp} (e : Same F F') : ∀ {v : V} {d : D}, Dp K F v d → Dp K F' v d
  | _, _, .non => .non
  | _, _, .bl b => .bl b
  | _, _, .int i => .int i
  | _, _, .str z => .str z
  | _, _, .lst a b => .lst (e.seq a) (dpa_mono' e b)
  | _, _, .tup a b => .tup (same_t e a) (dpa_mono' e b)
  | _, _, .exc c a => .exc c (e _ _ a)
  | _, _, .excF c a b f v => .excF c (e _ _ a) (e _ _ b) f v
  | _, _, .dct0 a => .dct0 (e _ _ a)
  | _, _, .dct a b l => .dct (e _ _ a) (dpa_mono' e b) l
theorem dpa_mono' {K : PySem.W.Frag} {F F' : Hp} (e : Same F F') : ∀ {vs : List V} {ds : List D}, DpAll K F vs ds → DpAll K F' vs ds
  | _, _, .nil => .nil
  | _, _, .cons a b => .cons (dp_mono' e a) (dpa_mono' e b)
end
theorem dp_mono {K : PySem.W.Frag} {F F' : Hp} (e : Same F F') (d : D) {v : V} (h : Dp K F v d) : Dp K F' v d := dp_mono' e h
theorem dpa_mono {K : PySem.W.Frag} {F F' : Hp} (e : Same F F') (ds : List D) {vs : List V} (h : DpAll K F vs ds) : DpAll K F' vs ds := dpa_mono' e h
theorem dpa_len {K : PySem.W.Frag} {F : Hp} : ∀ {vs : List V} {ds : List D}, DpAll K F vs ds → vs.length = ds.length
  | [], [], .nil => rfl
  | _ :: _, _ :: _, .cons _ b => congrArg Nat.succ (dpa_len b)
theorem dpa_append {K : PySem.W.Frag} {F : Hp} : ∀ {vs ws : List V} {ds es : List D}, DpAll K F vs ds → DpAll K F ws es → DpAll K F (vs ++ ws) (ds ++ es)
  | [], _, [], _, .nil, h => h
  | _ :: _, _, _ :: _, _, .cons a b, h => .cons a (dpa_append b h)
theorem dpa_get {K : PySem.W.Frag} {F : Hp} : ∀ {vs : List V} {ds : List D} {i : Nat} {d : D}, DpAll K F vs ds → ds[i]? = some d → ∃ v, vs[i]? = some v ∧ Dp K F v d
  | [], [], _, _, .nil, e => by simp at e
  | v :: _, d :: _, 0, _, .cons a b, e => by
    simp at e
    subst e
    exact ⟨v, by simp, a⟩
  | _ :: _, _ :: _, i + 1, _, .cons a b, e => by
    obtain ⟨v, h1, h2⟩ := dpa_get (i := i) b (by simpa using e)
    exact ⟨v, by simpa using h1, h2⟩
theorem dpa_drop {K : PySem.W.Frag} {F : Hp} : ∀ (n : Nat) {vs : List V} {ds : List D}, DpAll K F vs ds → DpAll K F (vs.drop n) (ds.drop n)
  | 0, _, _, h => h
  | _ + 1, _, _, .nil => .nil
  | n + 1, _, _, .cons _ b => dpa_drop n b
theorem dpa_take {K : PySem.W.Frag} {F : Hp} : ∀ (n : Nat) {vs : List V} {ds : List D}, DpAll K F vs ds → DpAll K F (vs.take n) (ds.take n)
  | 0, _, _, _ => .nil
  | _ + 1, _, _, .nil => .nil
  | n + 1, _, _, .cons a b => .cons a (dpa_take n b)
/-- what a view tells of the slots -/
def VwOk (K : PySem.W.Frag) (F : Hp) (σ : L2.St) (δ : Vw) : Prop := δ.length ≤ σ.length ∧ ∀ (i : Nat) (d : D), δ[i]? = some (some d) → ∃ v, σ[i]? = some (some v) ∧ Dp K F v d
theorem VwOk.mono {K : PySem.W.Frag} {F F' : Hp} {σ : L2.St} {δ : Vw} (h : VwOk K F σ δ) (e : Same F F') : VwOk K F' σ δ := ⟨h.1, fun i d q =>
  let ⟨v, a, b⟩ := h.2 i d q
  ⟨v, a, dp_mono e d b⟩⟩
/-- an exception, by its class's name and its field -/
def XV (K : PySem.W.Frag) (mg : Str → Option Value) (F : Hp) (c : Str) (p : Option D) (cls : Value) (od : Option Addr) : Prop :=
  ∃ C, mg c = some (.ref C) ∧ cls = .ref C ∧ match p with
    | none => od = none
    | some d => ∃ dx f v, od = some dx ∧ F dx = some (.xd [(f, v)]) ∧ xfield c = some f ∧ Dp K F v d
section
variable (X : Cx) (W : WX)
def EPost (F H : Hp) (σ : L2.St) (Q : VK) : R D → Prop
  | .ok d => ∀ v F' H', Ext F H F' H' → Dp X.K F' v d → Q v H'
  | .exc c p => ∀ cls od F' H', Ext F H F' H' → XV X.K X.mg F' c p cls od → W cls od σ H'
  | .bad => False
def BPost (F H : Hp) (σ : L2.St) (Q : Bool → Hp → Prop) : R Bool → Prop
  | .ok b => ∀ F' H', Ext F H F' H' → Q b H'
  | .exc c p => ∀ cls od F' H', Ext F H F' H' → XV X.K X.mg F' c p cls od → W cls od σ H'
  | .bad => False
def APost (F H : Hp) (σ : L2.St) (Q : List V → Hp → Prop) : R (List D) → Prop
  | .ok ds => ∀ vs F' H', Ext F H F' H' → DpAll X.K F' vs ds → Q vs H'
  | .exc c p => ∀ cls od F' H', Ext F H F' H' → XV X.K X.mg F' c p cls od → W cls od σ H'
  | .bad => False
def tM (m : M) : TE := fun σ H Q => ∃ F δ, Same F H ∧ VwOk X.K F σ δ ∧ EPost X W F H σ Q (m δ)
def tT (m : Vw → R Bool) : TT := fun σ H Q => ∃ F δ, Same F H ∧ VwOk X.K F σ δ ∧ BPost X W F H σ Q (m δ)
def tA (m : Vw → R (List D)) : TA := fun σ H Q => ∃ F δ, Same F H ∧ VwOk X.K F σ δ ∧ APost X W F H σ Q (m δ)
end
abbrev ME (X : Cx) (W : WX) (e : Expr) (m : M) : Prop := PE X e (tM X W m)
abbrev MT (X : Cx) (W : WX) (e : Expr) (m : Vw → R Bool) : Prop := PT X e (tT X W m)
abbrev MA (X : Cx) (W : WX) (es : List Expr) (m : Vw → R (List D)) : Prop := PA X es (tA X W m)
theorem PE.imp {X : Cx} {e : Expr} {t t' : TE} (h : PE X e t) (i : ∀ σ H Q, t' σ H Q → t σ H Q) : PE X e t' := ⟨fun pins s σ H Q I hw => h.run pins s σ H Q I (i _ _ _ hw)⟩
theorem PT.imp {X : Cx} {e : Expr} {t t' : TT} (h : PT X e t) (i : ∀ σ H Q, t' σ H Q → t σ H Q) : PT X e t' := ⟨fun pins s σ H Q I hw => h.run pins s σ H Q I (i _ _ _ hw)⟩
theorem PW.imp {X : Cx} {e : Expr} {t t' : TT} (h : PW X e t) (i : ∀ σ H Q, t' σ H Q → t σ H Q) : PW X e t' := ⟨fun wh pins s σ H Q I hw => h.run wh pins s σ H Q I (i _ _ _ hw)⟩
theorem PA.imp {X : Cx} {e : List Expr} {t t' : TA} (h : PA X e t) (i : ∀ σ H Q, t' σ H Q → t σ H Q) : PA X e t' := ⟨fun pos pins s σ H Q I hw => h.run pos pins s σ H Q I (i _ _ _ hw)⟩
theorem PS.imp {X : Cx} {e : Stmt} {t t' : TS} (h : PS X e t) (i : ∀ D σ H, t' D σ H → t D σ H) : PS X e t' := ⟨fun pins s σ H D I hw => h.run pins s σ H D I (i _ _ _ hw)⟩
theorem PSs.imp {X : Cx} {e : List Stmt} {t t' : TS} (h : PSs X e t) (i : ∀ D σ H, t' D σ H → t D σ H) : PSs X e t' := ⟨fun pins s σ H D I hw => h.run pins s σ H D I (i _ _ _ hw)⟩
section
variable {X : Cx} {W : WX} {F H : Hp} {σ : L2.St} {δ : Vw}
/-- a reading at a view, with what follows -/
theorem tM_bind {m : M} {f : D → R D} {Q : VK} {P : VK} (s : Same F H) (v : VwOk X.K F σ δ) (h : EPost X W F H σ Q ((m δ).bind f))
    (k : ∀ d x F' H', m δ = .ok d → Ext F H F' H' → Dp X.K F' x d → EPost X W F' H' σ Q (f d) → P x H') : tM X W m σ H P := by
  refine ⟨F, δ, s, v, ?_⟩
  cases e : m δ with
  | ok d =>
    rw [e] at h
    intro x F' H' E hx
    refine k d x F' H' e E hx ?_
    have h' : EPost X W F H σ Q (f d) := h
    cases e2 : f d with
    | ok d2 => rw [e2] at h'; exact fun v2 F2 H2 E2 hd => h' v2 F2 H2 (E.trans E2) hd
    | exc c p => rw [e2] at h'; exact fun cls od F2 H2 E2 hd => h' cls od F2 H2 (E.trans E2) hd
    | bad => rw [e2] at h'; exact h'
  | exc c p => rw [e] at h; exact h
  | bad => rw [e] at h; exact h
theorem tM_bindB {m : M} {f : D → R Bool} {Q : Bool → Hp → Prop} {P : VK} (s : Same F H) (v : VwOk X.K F σ δ) (h : BPost X W F H σ Q ((m δ).bind f))
    (k : ∀ d x F' H', m δ = .ok d → Ext F H F' H' → Dp X.K F' x d → BPost X W F' H' σ Q (f d) → P x H') : tM X W m σ H P := by
  refine ⟨F, δ, s, v, ?_⟩
  cases e : m δ with
  | ok d =>
    rw [e] at h
    intro x F' H' E hx
    refine k d x F' H' e E hx ?_
    have h' : BPost X W F H σ Q (f d) := h
    cases e2 : f d with
    | ok d2 => rw [e2] at h'; exact fun F2 H2 E2 => h' F2 H2 (E.trans E2)
    | exc c p => rw [e2] at h'; exact fun cls od F2 H2 E2 hd => h' cls od F2 H2 (E.trans E2) hd
    | bad => rw [e2] at h'; exact h'
  | exc c p => rw [e] at h; exact h
  | bad => rw [e] at h; exact h
theorem tT_bindB {m : Vw → R Bool} {f : Bool → R Bool} {Q : Bool → Hp → Prop} {P : Bool → Hp → Prop} (s : Same F H) (v : VwOk X.K F σ δ) (h : BPost X W F H σ Q ((m δ).bind f))
    (k : ∀ b F' H', Ext F H F' H' → BPost X W F' H' σ Q (f b) → P b H') : tT X W m σ H P := by
  refine ⟨F, δ, s, v, ?_⟩
  cases e : m δ with
  | ok d =>
    rw [e] at h
    intro F' H' E
    refine k d F' H' E ?_
    have h' : BPost X W F H σ Q (f d) := h
    cases e2 : f d with
    | ok d2 => rw [e2] at h'; exact fun F2 H2 E2 => h' F2 H2 (E.trans E2)
    | exc c p => rw [e2] at h'; exact fun cls od F2 H2 E2 hd => h' cls od F2 H2 (E.trans E2) hd
    | bad => rw [e2] at h'; exact h'
  | exc c p => rw [e] at h; exact h
  | bad => rw [e] at h; exact h
theorem tA_bind {m : Vw → R (List D)} {f : List D → R D} {Q : VK} {P : List V → Hp → Prop} (s : Same F H) (v : VwOk X.K F σ δ) (h : EPost X W F H σ Q ((m δ).bind f))
    (k : ∀ ds xs F' H', m δ = .ok ds → Ext F H F' H' → DpAll X.K F' xs ds → EPost X W F' H' σ Q (f ds) → P xs H') : tA X W m σ H P := by
  refine ⟨F, δ, s, v, ?_⟩
  cases e : m δ with
  | ok d =>
    rw [e] at h
    intro x F' H' E hx
    refine k d x F' H' e E hx ?_
    have h' : EPost X W F H σ Q (f d) := h
    cases e2 : f d with
    | ok d2 => rw [e2] at h'; exact fun v2 F2 H2 E2 hd => h' v2 F2 H2 (E.trans E2) hd
    | exc c p => rw [e2] at h'; exact fun cls od F2 H2 E2 hd => h' cls od F2 H2 (E.trans E2) hd
    | bad => rw [e2] at h'; exact h'
  | exc c p => rw [e] at h; exact h
  | bad => rw [e] at h; exact h
end
def mVar (i : Nat) : M := fun δ => match δ[i]? with
  | some (some d) => .ok d
  | _ => .bad
def mC (d : D) : M := fun _ => .ok d
section
variable {X : Cx} {W : WX} {pos : Pos}
theorem me_var {i : Nat} {x : Str} (hN : X.N[i]? = some x) (hv : Vis X.env.scope x) (hd : (x == ("__debug__" : Str)) = false) (hcd : (x == ("__classdict__" : Str)) = false) : ME X W (.Name x pos) (mVar i) := by
  refine PE.imp (pe_var hN hv hd hcd) fun σ H Q ⟨F, δ, s, v, h⟩ => ?_
  unfold mVar at h
  cases e : δ[i]? with
  | none => rw [e] at h; exact h.elim
  | some o =>
    cases o with
    | none => rw [e] at h; exact h.elim
    | some d =>
      rw [e] at h
      obtain ⟨u, hu, dp⟩ := v.2 i d e
      exact ⟨u, hu, h u F H (Ext.refl s) dp⟩
theorem me_c {e : Expr} {d : D} {x : V} (h : PE X e (tC x)) (hd : ∀ F, Dp X.K F x d) : ME X W e (mC d) := by
  refine PE.imp h fun σ H Q ⟨F, δ, s, v, h⟩ => ?_
  exact h x F H (Ext.refl s) (hd F)
theorem me_int {i j} : ME X W (.Constant (.int i) j pos) (mC (.int i)) := me_c pe_int fun _ => .int i
theorem me_bl {i j} : ME X W (.Constant (.bool i) j pos) (mC (.bool i)) := me_c pe_bl fun _ => .bl i
theorem me_str {i j} : ME X W (.Constant (.str i) j pos) (mC (.str i)) := me_c pe_str fun _ => .str i
theorem me_non {j} : ME X W (.Constant .none j pos) (mC .none) := me_c pe_non fun _ => .non
end
/-- f on data, read on values -/
def rD2 (K : PySem.W.Frag) (f : D → D → Option D) : R2 := fun x y H Q => ∃ F d1 d2 d, Same F H ∧ Dp K F x d1 ∧ Dp K F y d2 ∧ f d1 d2 = some d ∧ ∀ v F' H', Ext F H F' H' → Dp K F' v d → Q v H'
def rD1 (K : PySem.W.Frag) (f : D → Option D) : V → Hp → VK → Prop := fun x H Q => ∃ F d1 d, Same F H ∧ Dp K F x d1 ∧ f d1 = some d ∧ ∀ v F' H', Ext F H F' H' → Dp K F' v d → Q v H'
def rDs (K : PySem.W.Frag) (f : List D → Option D) : List V → Hp → VK → Prop := fun xs H Q => ∃ F ds d, Same F H ∧ DpAll K F xs ds ∧ f ds = some d ∧ ∀ v F' H', Ext F H F' H' → Dp K F' v d → Q v H'
def mBin (f : D → D → Option D) (a b : M) : M := fun δ => (a δ).bind fun x => (b δ).bind fun y => R.of (f x y)
def mUn (f : D → Option D) (a : M) : M := fun δ => (a δ).bind fun x => R.of (f x)
def mDs (f : List D → Option D) (a : Vw → R (List D)) : M := fun δ => (a δ).bind fun x => R.of (f x)
def mNil : Vw → R (List D) := fun _ => .ok []
def mCons (a : M) (r : Vw → R (List D)) : Vw → R (List D) := fun δ => (a δ).bind fun x => (r δ).bind fun y => .ok (x :: y)
section
variable {X : Cx} {W : WX} {pos : Pos} {a b : Expr} {ma mb : M}
theorem of_post {F H : Hp} {σ : L2.St} {Q : VK} {o : Option D} (h : EPost X W F H σ Q (R.of o)) : ∃ d, o = some d ∧ ∀ v F' H', Ext F H F' H' → Dp X.K F' v d → Q v H' := by
  cases o with
  | none => exact h.elim
  | some d => exact ⟨d, rfl, h⟩
theorem bin_tM {r : R2} {f : D → D → Option D} (hr : ∀ x y H Q, rD2 X.K f x y H Q → r x y H Q) {σ : L2.St} {H : Hp} {Q : VK} (h : tM X W (mBin f ma mb) σ H Q) : tOp r (tM X W ma) (tM X W mb) σ H Q := by
  obtain ⟨F, δ, s, v, h⟩ := h
  refine tM_bind s v h fun d x F1 H1 _ E hx h1 => ?_
  refine tM_bind E.s (v.mono E.f) h1 fun d2 y F2 H2 _ E2 hy h2 => ?_
  obtain ⟨d3, e, q⟩ := of_post h2
  exact hr _ _ _ _ ⟨F2, d, d2, d3, E2.s, dp_mono E2.f d hx, hy, e, q⟩
theorem me_op {op : Operator} {f : D → D → Option D} (ho : OpR X (binaryOp op) (rD2 X.K f)) (ha : ME X W a ma) (hb : ME X W b mb) : ME X W (.BinOp a op b pos) (mBin f ma mb) :=
  PE.imp (pe_op ho ha hb) fun _ _ _ h => bin_tM (fun _ _ _ _ z => z) h
theorem me_un {op : UnaryOp} {f : D → Option D} (ho : UnR X (unaryOp op) (rD1 X.K f)) (ha : ME X W a ma) : ME X W (.UnaryOp op a pos) (mUn f ma) := by
  refine PE.imp (pe_un ho ha) fun σ H Q ⟨F, δ, s, v, h⟩ => ?_
  refine tM_bind s v h fun d x F1 H1 _ E hx h1 => ?_
  obtain ⟨d3, e, q⟩ := of_post h1
  exact ⟨F1, d, d3, E.s, hx, e, q⟩
theorem me_cmp {op : CmpOp} {f : D → D → Option D} (ho : OpR X (compareOp op) (rD2 X.K f)) (ha : ME X W a ma) (hb : ME X W b mb) (hm : behindInMarks op b = false) : ME X W (.Compare a [op] [b] pos) (mBin f ma mb) :=
  PE.imp (pe_cmpR ho ha hb hm) fun _ _ _ h => bin_tM (fun _ _ _ _ z => z) h
theorem me_ix {f : D → D → Option D} {r : R2} (hr : IxR X r) (hf : ∀ x y H Q, rD2 X.K f x y H Q → r x y H Q) (ha : ME X W a ma) (hb : ME X W b mb) (hs : PlainIx b) : ME X W (.Subscript a b pos) (mBin f ma mb) :=
  PE.imp (pe_ix hr ha hb hs) fun _ _ _ h => bin_tM hf h
theorem ma_nil : MA X W [] mNil := PA.imp pa_nil fun σ H Q ⟨F, δ, s, v, h⟩ => h [] F H (Ext.refl s) .nil
theorem ma_cons {es : List Expr} {mr : Vw → R (List D)} (ha : ME X W a ma) (hr : MA X W es mr) (hs : starEach (a :: es) X.env = (false, eval a X.env) :: starEach es X.env) : MA X W (a :: es) (mCons ma mr) := by
  refine PA.imp (pa_cons ha hr hs) fun σ H Q ⟨F, δ, s, v, h⟩ => ?_
  refine ⟨F, δ, s, v, ?_⟩
  unfold mCons at h
  cases e : ma δ with
  | ok d =>
    rw [e] at h
    intro x F1 H1 E hx
    refine ⟨F1, δ, E.s, v.mono E.f, ?_⟩
    cases e2 : mr δ with
    | ok ds =>
      rw [R.bind_ok, e2] at h
      intro xs F2 H2 E2 hxs
      exact h (x :: xs) F2 H2 (E.trans E2) (.cons (dp_mono E2.f d hx) hxs)
    | exc c p => rw [R.bind_ok, e2] at h; exact fun cls od F2 H2 E2 hd => h cls od F2 H2 (E.trans E2) hd
    | bad => rw [R.bind_ok, e2] at h; exact h
  | exc c p => rw [e] at h; exact h
  | bad => rw [e] at h; exact h
/-- the longest list, tuple, text -/
def most : Nat := 16777216
theorem most_eq : most = sizeLine := by rw [sizeLine_eq]; rfl
theorem most_le {n : Nat} (h : n ≤ most) : n ≤ sizeLine := by rw [← most_eq]; exact h
def dTup (ds : List D) : Option D := if ds.length ≤ most then some (.tuple ds) else none
def dLst (ds : List D) : Option D := if ds.length ≤ most then some (.list ds) else none
theorem me_tup {es : List Expr} {m : Vw → R (List D)} {k} (h : MA X W es m) : ME X W (.Tuple es k pos) (mDs dTup m) := by
  refine PE.imp (pe_tup h) fun σ H Q ⟨F, δ, s, v, h⟩ => ?_
  refine tA_bind s v h fun ds xs F1 H1 _ E hx h1 => ?_
  obtain ⟨d3, e, q⟩ := of_post h1
  unfold dTup at e
  split at e
  · rename_i hl
    cases e
    refine ⟨by rw [dpa_len hx]; exact most_le hl, fun p hp => ?_⟩
    have E2 := Ext.new (o := .tup xs) E.s hp
    exact q _ _ _ E2 (.tup (SqT.of upd_same) (dpa_mono E2.f _ hx))
  · cases e
theorem me_lst {es : List Expr} {m : Vw → R (List D)} (h : MA X W es m) : ME X W (.List es pos) (mDs dLst m) := by
  refine PE.imp (pe_lst h) fun σ H Q ⟨F, δ, s, v, h⟩ => ?_
  refine tA_bind s v h fun ds xs F1 H1 _ E hx h1 => ?_
  obtain ⟨d3, e, q⟩ := of_post h1
  unfold dLst at e
  split at e
  · rename_i hl
    cases e
    refine ⟨by rw [dpa_len hx]; exact most_le hl, fun p hp => ?_⟩
    have E2 := Ext.new (o := .lst xs) E.s hp
    exact q _ _ _ E2 (.lst (SqL.of upd_same) (dpa_mono E2.f _ hx))
  · cases e
end
def truthD : D → Option Bool
  | .none => some false
  | .bool b => some b
  | .int i => some (i != 0)
  | .str s => if s.length ≤ most then some ((s.length : Int) != 0) else none
  | .list xs => some (!xs.isEmpty)
  | .tuple xs => some (!xs.isEmpty)
  | .dict _ => none
theorem dpall_empty {K : PySem.W.Frag} {F : Hp} {vs : List V} {ds : List D} (h : DpAll K F vs ds) : vs.isEmpty = ds.isEmpty := by
  cases h <;> rfl
theorem truth_ok {K : PySem.W.Frag} {F H : Hp} {x : V} {d : D} {b : Bool} (s : Same F H) (h : Dp K F x d) (e : truthD d = some b) : TruV K x H b := by
  cases h with
  | non => exact (Option.some.inj e).symm
  | bl c => exact (Option.some.inj e).symm
  | int i => exact (Option.some.inj e).symm
  | str z =>
    unfold truthD at e
    dsimp only at e
    split at e
    · rename_i hl
      exact ⟨most_le hl, (Option.some.inj e).symm⟩
    · cases e
  | lst q r =>
    refine .inl ⟨_, s.seq q, ?_⟩
    rw [dpall_empty r]
    exact (Option.some.inj e).symm
  | tup q r =>
    refine .inr (.inl ⟨_, same_t s q, ?_⟩)
    rw [dpall_empty r]
    exact (Option.some.inj e).symm
  | exc c a => cases e
  | excF c a b f v => cases e
  | dct0 a => cases e
  | dct a b l => cases e
def mTru (m : M) : Vw → R Bool := fun δ => (m δ).bind fun d => R.of (truthD d)
def mNot (t : Vw → R Bool) : Vw → R Bool := fun δ => (t δ).bind fun b => .ok (!b)
def mAndT (t u : Vw → R Bool) : Vw → R Bool := fun δ => (t δ).bind fun b => if b = true then u δ else .ok false
def mOrT (t u : Vw → R Bool) : Vw → R Bool := fun δ => (t δ).bind fun b => if b = true then .ok true else u δ
def mAndV (a b : M) : M := fun δ => (a δ).bind fun x => (R.of (truthD x)).bind fun k => if k = true then b δ else .ok x
def mOrV (a b : M) : M := fun δ => (a δ).bind fun x => (R.of (truthD x)).bind fun k => if k = true then .ok x else b δ
def mIf (t : Vw → R Bool) (a b : M) : M := fun δ => (t δ).bind fun k => if k = true then a δ else b δ
section
variable {X : Cx} {W : WX} {pos : Pos} {a b c : Expr} {ma mb : M} {t u : Vw → R Bool}
theorem of_postB {F H : Hp} {σ : L2.St} {Q : Bool → Hp → Prop} {o : Option Bool} (h : BPost X W F H σ Q (R.of o)) : ∃ d, o = some d ∧ ∀ F' H', Ext F H F' H' → Q d H' := by
  cases o with
  | none => exact h.elim
  | some d => exact ⟨d, rfl, h⟩
theorem mt_tru (ha : ME X W a ma) (he : ∀ whole, isTrue a X.env whole = (do let v ← whole; standAt a.pos; holding [v] (truthy v))) : MT X W a (mTru ma) := by
  refine PT.imp (pt_truth ha he) fun σ H Q ⟨F, δ, s, v, h⟩ => ?_
  refine tM_bindB s v h fun d x F1 H1 _ E hx h1 => ?_
  obtain ⟨k, e, q⟩ := of_postB h1
  exact ⟨k, truth_ok E.s hx e, q F1 H1 (Ext.refl E.s)⟩
theorem mt_cmp {op : CmpOp} {f : D → D → Option D} (ho : OpR X (compareOp op) (rD2 X.K f)) (hb' : ∀ x y d, f x y = some d → ∃ z : Bool, d = .bool z) (ha : ME X W a ma) (hb : ME X W b mb) (hm : behindInMarks op b = false) : MT X W (.Compare a [op] [b] pos) (mTru (mBin f ma mb)) := by
  refine PT.imp (pt_cmpR ho ha hb hm) fun σ H Q ⟨F, δ, s, v, h⟩ => ?_
  refine bin_tM (X := X) (W := W) (fun _ _ _ _ z => z) ?_
  refine tM_bindB s v h fun d x F1 H1 e E hx h1 => ?_
  obtain ⟨k, e2, q⟩ := of_postB h1
  have : ∃ z : Bool, d = .bool z := by
    unfold mBin at e
    cases e3 : ma δ with
    | ok d1 =>
      rw [e3, R.bind_ok] at e
      cases e4 : mb δ with
      | ok d2 =>
        rw [e4, R.bind_ok] at e
        cases e5 : f d1 d2 with
        | none => rw [e5] at e; cases e
        | some z => rw [e5] at e; cases e; exact hb' _ _ _ e5
      | exc c p => rw [e4] at e; cases e
      | bad => rw [e4] at e; cases e
    | exc c p => rw [e3] at e; cases e
    | bad => rw [e3] at e; cases e
  obtain ⟨b0, rfl⟩ := this
  cases hx
  cases e2
  exact ⟨k, rfl, q F1 H1 (Ext.refl E.s)⟩
theorem mt_not (ha : MT X W a t) : MT X W (.UnaryOp .Not a pos) (mNot t) := by
  refine PT.imp (pt_not ha) fun σ H Q ⟨F, δ, s, v, h⟩ => ?_
  refine tT_bindB s v h fun b F1 H1 E h1 => h1 F1 H1 (Ext.refl E.s)
theorem mw_and1 (ha : MT X W a t) : PW X (.BoolOp .And [a] pos) (tT X W t) := pw_and1 ha
theorem mw_or1 (ha : MT X W a t) : PW X (.BoolOp .Or [a] pos) (tT X W t) := pw_or1 ha
theorem mw_and {rest : List Expr} (ha : MT X W a t) (hb : PW X (.BoolOp .And (b :: rest) pos) (tT X W u)) : PW X (.BoolOp .And (a :: b :: rest) pos) (tT X W (mAndT t u)) := by
  refine PW.imp (pw_and ha hb) fun σ H Q ⟨F, δ, s, v, h⟩ => ?_
  refine tT_bindB s v h fun k F1 H1 E h1 => ?_
  cases k with
  | true => exact ⟨F1, δ, E.s, v.mono E.f, h1⟩
  | false => exact h1 F1 H1 (Ext.refl E.s)
theorem mw_or {rest : List Expr} (ha : MT X W a t) (hb : PW X (.BoolOp .Or (b :: rest) pos) (tT X W u)) : PW X (.BoolOp .Or (a :: b :: rest) pos) (tT X W (mOrT t u)) := by
  refine PW.imp (pw_or ha hb) fun σ H Q ⟨F, δ, s, v, h⟩ => ?_
  refine tT_bindB s v h fun k F1 H1 E h1 => ?_
  cases k with
  | false => exact ⟨F1, δ, E.s, v.mono E.f, h1⟩
  | true => exact h1 F1 H1 (Ext.refl E.s)
theorem me_one {op} (h : ME X W a ma) : ME X W (.BoolOp op [a] pos) ma := pe_one h
theorem me_and {rest : List Expr} (ha : ME X W a ma) (hb : ME X W (.BoolOp .And (b :: rest) pos) mb) : ME X W (.BoolOp .And (a :: b :: rest) pos) (mAndV ma mb) := by
  refine PE.imp (pe_andT ha hb) fun σ H Q ⟨F, δ, s, v, h⟩ => ?_
  refine tM_bind s v h fun d x F1 H1 _ E hx h1 => ?_
  cases e : truthD d with
  | none => rw [e] at h1; exact h1.elim
  | some k =>
    rw [e] at h1
    refine ⟨k, truth_ok E.s hx e, ?_⟩
    cases k with
    | true => exact ⟨F1, δ, E.s, v.mono E.f, h1⟩
    | false => exact h1 x F1 H1 (Ext.refl E.s) hx
def mNotV (a : M) : M := fun δ => (a δ).bind fun x => (R.of (truthD x)).bind fun k => .ok (.bool (!k))
theorem me_not (ha : ME X W a ma) : ME X W (.UnaryOp .Not a pos) (mNotV ma) := by
  refine PE.imp (pe_notT ha) fun σ H Q ⟨F, δ, s, v, h⟩ => ?_
  refine tM_bind s v h fun d x F1 H1 _ E hx h1 => ?_
  cases e : truthD d with
  | none => rw [e] at h1; exact h1.elim
  | some k =>
    rw [e] at h1
    exact ⟨k, truth_ok E.s hx e, h1 (.bl (!k)) F1 H1 (Ext.refl E.s) (.bl _)⟩
end
end MI
set_option Elab.async false
set_option linter.all false
set_option maxRecDepth 100000
set_option maxHeartbeats 4000000
namespace MI
open PySem PySem.Spec PyProof.Rows L2
/-- a slot: nothing, data that stands frozen, a list that this def alone holds -/
inductive Cell where
  | un
  | dat (d : D)
  | own (ds : List D)
abbrev Ce := List Cell
inductive Out where
  | nx (g : Ce)
  | rt (d : D)
  | bk (g : Ce)
  | ct (g : Ce)
  | ex (c : Str) (p : Option D) (g : Ce)
  | bad
abbrev S := Ce → Out
def Cell.vd : Cell → Option D
  | .dat d => some d
  | _ => none
def Cell.va : Cell → Option D
  | .dat d => some d
  | .own ds => some (.list ds)
  | .un => none
def vd (g : Ce) : Vw := g.map Cell.vd
def va (g : Ce) : Vw := g.map Cell.va
mutual
/-- no list within -/
def flat : D → Bool
  | .list _ => false
  | .dict ((.none, _) :: _) => true
  | .dict _ => false
  | .tuple ds => flatL ds
  | _ => true
def flatL : List D → Bool
  | [] => true
  | d :: ds => flat d && flatL ds
end
def flatO : Option D → Bool
  | none => true
  | some d => flat d
/-- frozen: F0, F; tracked: H0 (the def's entry), H -/
structure StOk (K : PySem.W.Frag) (F0 H0 F H : Hp) (σ : L2.St) (g : Ce) : Prop where
  e : Ext F0 H0 F H
  len : σ.length = g.length
  dat : ∀ (i : Nat) (d : D), g[i]? = some (.dat d) → ∃ v, σ[i]? = some (some v) ∧ Dp K F v d
  own : ∀ (i : Nat) (ds : List D), g[i]? = some (.own ds) → ∃ a xs, σ[i]? = some (some (.ref a)) ∧ H a = some (.lst xs) ∧ F a = none ∧ H0 a = none ∧ DpAll K F xs ds
  inj : ∀ (i j : Nat) (ds es : List D) (a : Addr), g[i]? = some (.own ds) → g[j]? = some (.own es) → σ[i]? = some (some (.ref a)) → σ[j]? = some (some (.ref a)) → i = j
section
variable {K : PySem.W.Frag} {F0 H0 F H F' H' : Hp} {σ : L2.St} {g : Ce}
theorem Ext.new_none (E : Ext F H F' H') {a : Addr} {o : HO} (hf : F a = none) (hh : H a = some o) : F' a = none := by
  cases q : F' a with
  | none => rfl
  | some o' =>
    have := E.n a o' q hf
    rw [hh] at this
    cases this
theorem StOk.mono (ok : StOk K F0 H0 F H σ g) (E : Ext F H F' H') : StOk K F0 H0 F' H' σ g :=
  ⟨ok.e.trans E, ok.len, fun i d q => let ⟨v, a, b⟩ := ok.dat i d q; ⟨v, a, dp_mono E.f d b⟩,
    fun i ds q => let ⟨a, xs, h1, h2, h3, h4, h5⟩ := ok.own i ds q; ⟨a, xs, h1, E.h _ _ h2, E.new_none h3 h2, h4, dpa_mono E.f ds h5⟩, ok.inj⟩
theorem StOk.vd (ok : StOk K F0 H0 F H σ g) : VwOk K F σ (vd g) := by
  refine ⟨by unfold MI.vd; rw [List.length_map]; exact Nat.le_of_eq ok.len.symm, ?_⟩
  intro i d q
  unfold MI.vd at q
  rw [List.getElem?_map] at q
  cases e : g[i]? with
  | none => rw [e] at q; cases q
  | some c =>
    rw [e] at q
    cases c with
    | un => cases q
    | dat d' => cases q; exact ok.dat i d e
    | own ds => cases q
/-- an address of an own list -/
def Own (σ : L2.St) (g : Ce) (a : Addr) : Prop := ∃ (i : Nat) (ds : List D), g[i]? = some (Cell.own ds) ∧ σ[i]? = some (some (V.ref a))
open Classical in
noncomputable def frz (F H : Hp) (σ : L2.St) (g : Ce) : Hp := fun a => if Own σ g a then H a else F a
open Classical in
noncomputable def thw (F' : Hp) (σ : L2.St) (g : Ce) : Hp := fun a => if Own σ g a then none else F' a
theorem frz_own {a : Addr} (h : Own σ g a) : frz F H σ g a = H a := by unfold frz; rw [if_pos h]
theorem frz_not {a : Addr} (h : ¬ Own σ g a) : frz F H σ g a = F a := by unfold frz; rw [if_neg h]
theorem thw_own {a : Addr} (h : Own σ g a) : thw F σ g a = none := by unfold thw; rw [if_pos h]
theorem thw_not {a : Addr} (h : ¬ Own σ g a) : thw F σ g a = F a := by unfold thw; rw [if_neg h]
theorem StOk.ownAt (ok : StOk K F0 H0 F H σ g) {a : Addr} (h : Own σ g a) : ∃ xs, H a = some (.lst xs) ∧ F a = none ∧ H0 a = none := by
  obtain ⟨i, ds, h1, h2⟩ := h
  obtain ⟨b, xs, q1, q2, q3, q4, _⟩ := ok.own i ds h1
  rw [h2] at q1
  cases q1
  exact ⟨xs, q2, q3, q4⟩
theorem StOk.frzF (ok : StOk K F0 H0 F H σ g) : Same F (frz F H σ g) := fun a o e => by
  by_cases h : Own σ g a
  · obtain ⟨_, _, q, _⟩ := ok.ownAt h
    rw [q] at e; cases e
  · rw [frz_not h]; exact e
theorem StOk.frzH (ok : StOk K F0 H0 F H σ g) : Same (frz F H σ g) H := fun a o e => by
  by_cases h : Own σ g a
  · rw [frz_own h] at e; exact e
  · rw [frz_not h] at e; exact ok.e.s _ _ e
theorem StOk.va (ok : StOk K F0 H0 F H σ g) : VwOk K (frz F H σ g) σ (va g) := by
  refine ⟨by unfold MI.va; rw [List.length_map]; exact Nat.le_of_eq ok.len.symm, ?_⟩
  intro i d q
  unfold MI.va at q
  rw [List.getElem?_map] at q
  cases e : g[i]? with
  | none => rw [e] at q; cases q
  | some c =>
    rw [e] at q
    cases c with
    | un => cases q
    | dat d' => cases q; exact let ⟨v, a, b⟩ := ok.dat i d e; ⟨v, a, dp_mono ok.frzF d b⟩
    | own ds =>
      cases q
      obtain ⟨a, xs, h1, h2, h3, h4, h5⟩ := ok.own i ds e
      refine ⟨_, h1, .lst (.inl (.inl ?_)) (dpa_mono ok.frzF ds h5)⟩
      rw [frz_own ⟨i, ds, e, h1⟩]
      exact h2
mutual
theorem dp_flat' {K : PySem.W.Frag} {F G : Hp} (h : ∀ a o, F a = some o → (∀ xs, o ≠ .lst xs) → (∀ kvs, o ≠ .dK kvs) → G a = some o) : ∀ {v : V} {d : D}, Dp K F v d → flat d = true → Dp K G v d
  | _, _, .non, _ => .non
  | _, _, .bl b, _ => .bl b
  | _, _, .int i, _ => .int i
  | _, _, .str z, _ => .str z
  | _, _, .lst a b, f => by unfold flat at f; cases f
  | _, _, .tup a b, f => by
    unfold flat at f
    refine .tup ?_ (dpa_flat' h b f)
    rcases a with (a | ⟨o, a⟩) | a
    · exact .inl (.inl (h _ _ a (by intro xs e; cases e) (by intro xs e; cases e)))
    · exact .inl (.inr ⟨o, h _ _ a (by intro xs e; cases e) (by intro xs e; cases e)⟩)
    · exact .inr a
  | _, _, .exc c a, _ => .exc c (h _ _ a (by intro xs e; cases e) (by intro xs e; cases e))
  | _, _, .excF c a b f v, _ => .excF c (h _ _ a (by intro xs e; cases e) (by intro xs e; cases e)) (h _ _ b (by intro xs e; cases e) (by intro xs e; cases e)) f v
  | _, _, .dct0 a, f => by unfold flat at f; cases f
  | _, _, .dct a b l, f => by unfold flat at f; cases f
theorem dpa_flat' {K : PySem.W.Frag} {F G : Hp} (h : ∀ a o, F a = some o → (∀ xs, o ≠ .lst xs) → (∀ kvs, o ≠ .dK kvs) → G a = some o) : ∀ {vs : List V} {ds : List D}, DpAll K F vs ds → flatL ds = true → DpAll K G vs ds
  | _, _, .nil, _ => .nil
  | _, _, .cons a b, f => by
    unfold flatL at f
    rw [Bool.and_eq_true] at f
    exact .cons (dp_flat' h a f.1) (dpa_flat' h b f.2)
end
theorem dp_flat {F G : Hp} (h : ∀ a o, F a = some o → (∀ xs, o ≠ .lst xs) → G a = some o) (d : D) {v : V} (a : Dp K F v d) (f : flat d = true) : Dp K G v d := dp_flat' (fun a o e n _ => h a o e n) a f
theorem StOk.thwOk (ok : StOk K F0 H0 F H σ g) (E : Ext (frz F H σ g) H F' H') : StOk K F0 H0 (thw F' σ g) H' σ g := by
  have fF : Same F (thw F' σ g) := fun a o e => by
    have hn : ¬ Own σ g a := fun h => by
      obtain ⟨_, _, q, _⟩ := ok.ownAt h
      rw [q] at e; cases e
    rw [thw_not hn]
    exact E.f _ _ (by rw [frz_not hn]; exact e)
  have tF : Same (thw F' σ g) F' := fun a o e => by
    by_cases h : Own σ g a
    · rw [thw_own h] at e; cases e
    · rw [thw_not h] at e; exact e
  refine ⟨⟨ok.e.f.trans fF, ok.e.h.trans E.h, tF.trans E.s, fun a o e n => ?_⟩, ok.len, fun i d q => let ⟨v, a, b⟩ := ok.dat i d q; ⟨v, a, dp_mono fF d b⟩, fun i ds q => ?_, ok.inj⟩
  · have hn : ¬ Own σ g a := fun h => by rw [thw_own h] at e; cases e
    rw [thw_not hn] at e
    cases q : frz F H σ g a with
    | some u =>
      rw [frz_not hn] at q
      exact ok.e.n a u q n
    | none => exact ok.e.h.free (E.n a o e q)
  · obtain ⟨a, xs, h1, h2, h3, h4, h5⟩ := ok.own i ds q
    exact ⟨a, xs, h1, E.h _ _ h2, thw_own ⟨i, ds, q, h1⟩, h4, dpa_mono fF ds h5⟩
theorem StOk.thwKeep (ok : StOk K F0 H0 F H σ g) (E : Ext (frz F H σ g) H F' H') : ∀ a o, F' a = some o → (∀ xs, o ≠ .lst xs) → thw F' σ g a = some o := fun a o e n => by
  have hn : ¬ Own σ g a := fun h => by
    obtain ⟨xs, q, _, _⟩ := ok.ownAt h
    have : F' a = some (.lst xs) := E.f _ _ (by rw [frz_own h]; exact q)
    rw [this] at e
    cases e
    exact n xs rfl
  rw [thw_not hn]
  exact e
theorem xv_flat {mg : Str → Option Value} {G : Hp} {c : Str} {p : Option D} {cls : Value} {od : Option Addr} (x : XV K mg F c p cls od) (f : flatO p = true) (h : ∀ a o, F a = some o → (∀ xs, o ≠ .lst xs) → G a = some o) : XV K mg G c p cls od := by
  obtain ⟨C, h1, h2, h3⟩ := x
  refine ⟨C, h1, h2, ?_⟩
  cases p with
  | none => exact h3
  | some d =>
    obtain ⟨dx, fl, v, q1, q2, q3, q4⟩ := h3
    exact ⟨dx, fl, v, q1, h _ _ q2 (by intro xs e; cases e), q3, dp_flat h d q4 f⟩
theorem StOk.set (ok : StOk K F0 H0 F H σ g) {i : Nat} {v : V} {d : D} (h : Dp K F v d) : StOk K F0 H0 F H (σ.set i (some v)) (g.set i (.dat d)) := by
  refine ⟨ok.e, by simpa using ok.len, fun j d' q => ?_, fun j ds q => ?_, fun j k ds es a q1 q2 q3 q4 => ?_⟩
  · rw [List.getElem?_set] at q ⊢
    by_cases e : i = j
    · subst e
      rw [if_pos rfl] at q ⊢
      by_cases l : i < g.length
      · rw [if_pos l] at q
        rw [if_pos (by rw [ok.len]; exact l)]
        cases q
        exact ⟨v, rfl, h⟩
      · rw [if_neg l] at q; cases q
    · rw [if_neg e] at q ⊢
      exact ok.dat j d' q
  · rw [List.getElem?_set] at q ⊢
    by_cases e : i = j
    · subst e
      rw [if_pos rfl] at q
      split at q <;> cases q
    · rw [if_neg e] at q ⊢
      exact ok.own j ds q
  · rw [List.getElem?_set] at q1 q2 q3 q4
    by_cases e : i = j
    · subst e
      rw [if_pos rfl] at q1
      split at q1 <;> cases q1
    · by_cases e2 : i = k
      · subst e2
        rw [if_pos rfl] at q2
        split at q2 <;> cases q2
      · rw [if_neg e] at q1 q3
        rw [if_neg e2] at q2 q4
        exact ok.inj j k ds es a q1 q2 q3 q4
/-- new ground for a part: what is frozen now stays -/
theorem StOk.base (ok : StOk K F0 H0 F H σ g) : StOk K F H0 F H σ g :=
  ⟨⟨Same.refl F, ok.e.h, ok.e.s, fun a o e n => by rw [n] at e; cases e⟩, ok.len, ok.dat, ok.own, ok.inj⟩
theorem Ext.back (b : Ext F0 H0 F H) (a : Ext F H0 F' H') : Ext F0 H0 F' H' :=
  ⟨b.f.trans a.f, a.h, a.s, fun x o e n => by
    cases q : F x with
    | some u => exact b.n x u q n
    | none => exact a.n x o e q⟩
theorem StOk.back {σ' : L2.St} {g' : Ce} (b : Ext F0 H0 F H) (ok : StOk K F H0 F' H' σ' g') : StOk K F0 H0 F' H' σ' g' :=
  ⟨b.back ok.e, ok.len, ok.dat, ok.own, ok.inj⟩
end
section
variable (K : PySem.W.Frag) (mg : Str → Option Value) (W : WX)
def SPost (F0 H0 : Hp) (D : Ends) : Out → Prop
  | .nx g => ∀ F H σ, StOk K F0 H0 F H σ g → D.nx σ H
  | .rt d => ∀ v F H, Ext F0 H0 F H → Dp K F v d → D.rt v H
  | .bk g => ∀ F H σ, StOk K F0 H0 F H σ g → D.bk σ H
  | .ct g => ∀ F H σ, StOk K F0 H0 F H σ g → D.ct σ H
  | .ex c p g => ∀ cls od F H σ, StOk K F0 H0 F H σ g → XV K mg F c p cls od → W cls od σ H
  | .bad => False
def tS (m : S) : TS := fun D σ H => ∃ F0 H0 F g, StOk K F0 H0 F H σ g ∧ SPost K mg W F0 H0 D (m g)
end
section
variable {K : PySem.W.Frag} {mg : Str → Option Value} {W : WX} {F0 H0 F H : Hp} {D D' : Ends} {o : Out}
theorem SPost.base (b : Ext F0 H0 F H) (h : SPost K mg W F0 H0 D o) : SPost K mg W F H0 D o := by
  cases o with
  | nx g => exact fun F' H' σ ok => h F' H' σ (ok.back b)
  | rt d => exact fun v F' H' e q => h v F' H' (b.back e) q
  | bk g => exact fun F' H' σ ok => h F' H' σ (ok.back b)
  | ct g => exact fun F' H' σ ok => h F' H' σ (ok.back b)
  | ex c p g => exact fun cls od F' H' σ ok x => h cls od F' H' σ (ok.back b) x
  | bad => exact h
end
abbrev MS (X : Cx) (W : WX) (st : Stmt) (m : S) : Prop := PS X st (tS X.K X.mg W m)
abbrev MSs (X : Cx) (W : WX) (st : List Stmt) (m : S) : Prop := PSs X st (tS X.K X.mg W m)
/-- what an expression told, to what follows; g: the cells, if it raised -/
def R.to {α : Type} (x : R α) (g : Ce) (k : α → Out) : Out := match x with
  | .ok a => k a
  | .exc c p => if flatO p = true then .ex c p g else .bad
  | .bad => .bad
section
variable {X : Cx} {W : WX} {F0 H0 F H : Hp} {σ : L2.St} {g : Ce} {D : Ends}
theorem ev_vd {m : M} {k : MI.D → Out} {Q : VK} (ok : StOk X.K F0 H0 F H σ g) (h : SPost X.K X.mg W F0 H0 D ((m (vd g)).to g k))
    (q : ∀ d v F' H', m (vd g) = .ok d → StOk X.K F0 H0 F' H' σ g → Dp X.K F' v d → SPost X.K X.mg W F0 H0 D (k d) → Q v H') : tM X W m σ H Q := by
  refine ⟨F, vd g, ok.e.s, ok.vd, ?_⟩
  cases e : m (vd g) with
  | ok d => rw [e] at h; exact fun v F' H' E hd => q d v F' H' e (ok.mono E) hd h
  | exc c p =>
    rw [e] at h
    unfold R.to at h
    dsimp only at h
    split at h
    · exact fun cls od F' H' E x => h cls od F' H' σ (ok.mono E) x
    · exact h.elim
  | bad => rw [e] at h; exact h
theorem evA_vd {m : Vw → R (List MI.D)} {k : List MI.D → Out} {Q : List V → Hp → Prop} (ok : StOk X.K F0 H0 F H σ g) (h : SPost X.K X.mg W F0 H0 D ((m (vd g)).to g k))
    (q : ∀ ds vs F' H', m (vd g) = .ok ds → StOk X.K F0 H0 F' H' σ g → DpAll X.K F' vs ds → SPost X.K X.mg W F0 H0 D (k ds) → Q vs H') : tA X W m σ H Q := by
  refine ⟨F, vd g, ok.e.s, ok.vd, ?_⟩
  cases e : m (vd g) with
  | ok d => rw [e] at h; exact fun v F' H' E hd => q d v F' H' e (ok.mono E) hd h
  | exc c p =>
    rw [e] at h
    unfold R.to at h
    dsimp only at h
    split at h
    · exact fun cls od F' H' E x => h cls od F' H' σ (ok.mono E) x
    · exact h.elim
  | bad => rw [e] at h; exact h
theorem evT_va {m : Vw → R Bool} {k : Bool → Out} {Q : Bool → Hp → Prop} (ok : StOk X.K F0 H0 F H σ g) (h : SPost X.K X.mg W F0 H0 D ((m (va g)).to g k))
    (q : ∀ b F' H', m (va g) = .ok b → StOk X.K F0 H0 F' H' σ g → SPost X.K X.mg W F0 H0 D (k b) → Q b H') : tT X W m σ H Q := by
  refine ⟨frz F H σ g, va g, ok.frzH, ok.va, ?_⟩
  cases e : m (va g) with
  | ok b => rw [e] at h; exact fun F' H' E => q b _ H' e (ok.thwOk E) h
  | exc c p =>
    rw [e] at h
    unfold R.to at h
    dsimp only at h
    split at h
    · rename_i fl
      exact fun cls od F' H' E x => h cls od _ H' σ (ok.thwOk E) (xv_flat x fl (ok.thwKeep E))
    · exact h.elim
  | bad => rw [e] at h; exact h
end
def sNop : S := .nx
def sSeq (a b : S) : S := fun g => match a g with
  | .nx g' => b g'
  | o => o
def sIf (t : Vw → R Bool) (a b : S) : S := fun g => (t (va g)).to g fun k => if k = true then a g else b g
def sRet (m : M) : S := fun g => match m (va g) with
  | .ok d => .rt d
  | .exc c p => if flatO p = true then .ex c p g else .bad
  | .bad => .bad
def sRetN : S := fun _ => .rt .none
def sBreak : S := .bk
def sCont : S := .ct
def sExpr (m : M) : S := fun g => (m (va g)).to g fun _ => .nx g
def sSet (i : Nat) (m : M) : S := fun g => (m (vd g)).to g fun d => .nx (g.set i (.dat d))
def sSetF (i : Nat) (m : M) : S := fun g => (m (va g)).to g fun d => if flat d = true then .nx (g.set i (.dat d)) else .bad
def sPar (i j : Nat) (m : Vw → R (List D)) : S := fun g => (m (vd g)).to g fun ds => match ds with
  | [x, y] => .nx ((g.set i (.dat x)).set j (.dat y))
  | _ => .bad
def sRaise (c : Str) : S := fun g => .ex c none g
def sApp (i : Nat) (m : M) : S := fun g => match g[i]? with
  | some (.own ds) => (m (vd g)).to g fun d => if ds.length < most then .nx (g.set i (.own (ds ++ [d]))) else .bad
  | _ => .bad
section
variable {X : Cx} {W : WX} {pos : Pos} {st : Stmt} {rest : List Stmt} {a b : S}
theorem mss_nil : MSs X W [] sNop := PSs.imp pss_nil fun D σ H ⟨F0, H0, F, g, ok, h⟩ => h F H σ ok
theorem mss_cons (h1 : MS X W st a) (h2 : MSs X W rest b) : MSs X W (st :: rest) (sSeq a b) := by
  refine PSs.imp (pss_cons h1 h2) fun D σ H ⟨F0, H0, F, g, ok, h⟩ => ⟨F0, H0, F, g, ok, ?_⟩
  unfold sSeq at h
  cases e : a g with
  | nx g' =>
    rw [e] at h
    intro F' H' σ' ok'
    exact ⟨F0, H0, F', g', ok', h⟩
  | rt d => rw [e] at h; exact h
  | bk g' => rw [e] at h; exact h
  | ct g' => rw [e] at h; exact h
  | ex c p g' => rw [e] at h; exact h
  | bad => rw [e] at h; exact h
theorem mss_one (h1 : MS X W st a) : MSs X W [st] a := pss_one h1
theorem ms_if {c : Expr} {p q : List Stmt} {t : Vw → R Bool} (hc : MT X W c t) (ha : MSs X W p a) (hb : MSs X W q b) : MS X W (.If c p q pos) (sIf t a b) := by
  refine PS.imp (ps_if hc ha hb) fun D σ H ⟨F0, H0, F, g, ok, h⟩ => evT_va ok h fun k F' H' e ok' h' => ?_
  cases k with
  | true => exact ⟨F0, H0, F', g, ok', h'⟩
  | false => exact ⟨F0, H0, F', g, ok', h'⟩
theorem ms_ret {e : Expr} {m : M} (he : ME X W e m) : MS X W (.Return (some e) pos) (sRet m) := by
  refine PS.imp (ps_ret he) fun D σ H ⟨F0, H0, F, g, ok, h⟩ => ⟨frz F H σ g, va g, ok.frzH, ok.va, ?_⟩
  unfold sRet at h
  cases e : m (va g) with
  | ok d =>
    rw [e] at h
    intro v F' H' E hd
    refine h v F' H' ⟨ok.e.f.trans (ok.frzF.trans E.f), ok.e.h.trans E.h, E.s, fun a o q n => ?_⟩ hd
    cases z : frz F H σ g a with
    | some u =>
      by_cases w : Own σ g a
      · obtain ⟨_, _, _, y⟩ := ok.ownAt w
        exact y
      · rw [frz_not w] at z
        exact ok.e.n a u z n
    | none => exact ok.e.h.free (E.n a o q z)
  | exc c p =>
    rw [e] at h
    dsimp only at h
    split at h
    · rename_i fl
      exact fun cls od F' H' E x => h cls od _ H' σ (ok.thwOk E) (xv_flat x fl (ok.thwKeep E))
    · exact h.elim
  | bad => rw [e] at h; exact h
theorem ms_set {i : Nat} {x : Str} {e : Expr} {m : M} {pos' : Pos} (hN : X.N.Nodup) (hi : X.N[i]? = some x) (hx : Loc X.env.scope x) (he : ME X W e m) (hs : swapsWith e (some (.Name x pos')) pos.line X.env = pure false) (hf : X.fn x = true ∨ X.env.scope.names.lookup x = some .local) :
    MS X W (.Assign [.Name x pos'] e pos) (sSet i m) := by
  refine PS.imp (ps_set hN hi hx he hs hf) fun D σ H ⟨F0, H0, F, g, ok, h⟩ => ?_
  exact ev_vd (Q := fun v H1 => D.nx (σ.set i (some v)) H1) ok h fun d v F' H' e ok' hd h' => h' F' H' _ (ok'.set hd)
theorem ms_par {i j : Nat} {x y : Str} {e f : Expr} {m : Vw → R (List D)} {px py pt : Pos} {kt k2 pt2} (hc : X.calm = true) (hN : X.N.Nodup) (hi : X.N[i]? = some x) (hj : X.N[j]? = some y) (hij : i ≠ j)
    (hx : X.env.scope.names.lookup x = some .local) (hy : X.env.scope.names.lookup y = some .local) (ha : MA X W [e, f] m)
    (hw : swappedStores [.Tuple [.Name x px, .Name y py] kt pt] (.Tuple [e, f] k2 pt2) X.env = pure (some [x, y]))
    (hs : swapsWithSole [.Tuple [.Name x px, .Name y py] kt pt] (.Tuple [e, f] k2 pt2) pos.line X.env = pure false) :
    MS X W (.Assign [.Tuple [.Name x px, .Name y py] kt pt] (.Tuple [e, f] k2 pt2) pos) (sPar i j m) := by
  refine PS.imp (ps_par hc hN hi hj hij hx hy ha hw hs) fun D σ H ⟨F0, H0, F, g, ok, h⟩ => ?_
  refine evA_vd ok h fun ds vs F' H' e ok' hd h' => ?_
  cases hd with
  | nil => exact h'.elim
  | cons h1 r =>
    cases r with
    | nil => exact h'.elim
    | cons h2 r =>
      cases r with
      | nil => exact ⟨_, _, rfl, h' F' H' _ ((ok'.set h1).set h2)⟩
      | cons h3 r => exact h'.elim
end
end MI
set_option Elab.async false
set_option linter.all false
set_option maxRecDepth 100000
set_option maxHeartbeats 4000000
namespace MI
open PySem PySem.Spec PyProof.Rows L2
abbrev Tg := D → Ce → Option Ce
def gN (i : Nat) : Tg := fun d g => some (g.set i (.dat d))
abbrev Tgs := List D → Ce → Option Ce
def gsNil : Tgs := fun ds g => match ds with
  | [] => some g
  | _ => none
def gsCons (t : Tg) (u : Tgs) : Tgs := fun ds g => match ds with
  | d :: r => (t d g).bind (u r)
  | [] => none
/-- a, b, .. = a tuple -/
def gT (u : Tgs) : Tg := fun d g => match d with
  | .tuple ds => u ds g
  | _ => none
/-- what a target's rule asks -/
def TgOk (K : PySem.W.Frag) (r : TG) (t : Tg) : Prop := ∀ (F0 H0 F H : Hp) (σ : L2.St) (g g' : Ce) (v : V) (d : D) (Q : L2.St → Hp → Prop),
  StOk K F0 H0 F H σ g → Dp K F v d → t d g = some g' → (∀ σ', StOk K F0 H0 F H σ' g' → Q σ' H) → r v σ H Q
def TgsOk (K : PySem.W.Frag) (n : Nat) (r : TGs) (t : Tgs) : Prop := (∀ ds g g', t ds g = some g' → ds.length = n) ∧ ∀ (F0 H0 F H : Hp) (σ : L2.St) (g g' : Ce) (vs : List V) (ds : List D) (Q : L2.St → Hp → Prop),
  StOk K F0 H0 F H σ g → DpAll K F vs ds → t ds g = some g' → (∀ σ', StOk K F0 H0 F H σ' g' → Q σ' H) → r vs σ H Q
theorem gN_ok {K : PySem.W.Frag} {i : Nat} : TgOk K (gName i) (gN i) := fun F0 H0 F H σ g g' v d Q ok hd e q => by
  cases e
  exact q _ (ok.set hd)
theorem gsNil_ok {K : PySem.W.Frag} : TgsOk K 0 gNil gsNil := by
  refine ⟨fun ds g g' e => ?_, fun F0 H0 F H σ g g' vs ds Q ok hd e q => ?_⟩
  · cases ds with
    | nil => rfl
    | cons a b => cases e
  · cases hd with
    | nil =>
      cases e
      exact ⟨rfl, q _ ok⟩
    | cons a b => cases e
theorem gsCons_ok {K : PySem.W.Frag} {n : Nat} {r : TG} {rs : TGs} {t : Tg} {ts : Tgs} (h1 : TgOk K r t) (h2 : TgsOk K n rs ts) : TgsOk K (n + 1) (gCons r rs) (gsCons t ts) := ⟨fun ds g g' e => by
  cases ds with
  | nil => cases e
  | cons d ds =>
    have e' : (t d g).bind (ts ds) = some g' := e
    cases q : t d g with
    | none => rw [q] at e'; cases e'
    | some g1 =>
      rw [q] at e'
      exact congrArg Nat.succ (h2.1 ds g1 g' e'), fun F0 H0 F H σ g g' vs ds Q ok hd e Q' => by
  cases hd with
  | nil => cases e
  | @cons v vs d ds a b =>
    have e' : (t d g).bind (ts ds) = some g' := e
    cases q : t d g with
    | none => rw [q] at e'; cases e'
    | some g1 =>
      rw [q] at e'
      exact ⟨v, vs, rfl, h1 F0 H0 F H σ g g1 v d _ ok a q fun σ' ok' => h2.2 F0 H0 F H σ' g1 g' vs ds Q ok' b e' Q'⟩⟩
theorem gT_ok {K : PySem.W.Frag} {n : Nat} {r : TGs} {t : Tgs} (h : TgsOk K n r t) : TgOk K (gTup K n r) (gT t) := fun F0 H0 F H σ g g' v d Q ok hd e q => by
  cases hd with
  | tup a b =>
    exact ⟨_, _, rfl, same_t ok.e.s a, (dpa_len b).trans (h.1 _ _ _ e), h.2 F0 H0 F H σ g g' _ _ Q ok b e q⟩
  | _ => cases e
def sAsg (t : Tg) (m : M) : S := fun g => (m (vd g)).to g fun d => match t d g with
  | some g' => .nx g'
  | none => .bad
theorem ms_asg {X : Cx} {W : WX} {pos : Pos} {tg e : Expr} {m : M} {r : TG} {t : Tg} (he : ME X W e m) (hg : PG X tg r) (ht : TgOk X.K r t) (hs : swapsWithSole [tg] e pos.line X.env = pure false) (hw : swappedStores [tg] e X.env = pure none) (h1 : (assignEach [tg] X.env).map (·.2) = [assign tg X.env]) : MS X W (.Assign [tg] e pos) (sAsg t m) := by
  refine PS.imp (ps_asg he hg hs hw h1) fun D σ H ⟨F0, H0, F, g, ok, h⟩ => ?_
  refine ev_vd (Q := fun v H1 => r v σ H1 D.nx) ok h fun d v F' H' e ok' hd h' => ?_
  cases q : t d g with
  | none => rw [q] at h'; exact h'.elim
  | some g' =>
    rw [q] at h'
    exact ht F0 H0 F' H' σ g g' v d D.nx ok' hd q fun σ' ok2 => h' F' H' σ' ok2
def loopF (t : Tg) (b : S) : List D → S
  | [], g => .nx g
  | d :: ds, g => match t d g with
    | none => .bad
    | some g1 => match b g1 with
      | .nx g2 => loopF t b ds g2
      | .ct g2 => loopF t b ds g2
      | .bk g2 => .nx g2
      | o => o
def iLT (K : PySem.W.Frag) (tl : TE) : TI := fun σ H R => iList K tl σ H R ∨ iTup K tl σ H R
theorem pi_lt {X : Cx} {tg l : Expr} {tl : TE} (hl : PE X l tl) : PI X tg l (iLT X.K tl) := ⟨fun pins s σ H R I h => by
  rcases h with h | h
  · exact (pi_list hl).run pins s σ H R I h
  · exact (pi_tup hl).run pins s σ H R I h⟩
/-- one turn -/
theorem loopF_turn {K : PySem.W.Frag} {mg : Str → Option Value} {W : WX} {F0 H0 F H : Hp} {σ : L2.St} {g : Ce} {D : Ends} {r : TG} {t : Tg} {b : S} {d : MI.D} {ds : List MI.D} {x : V} {N : L2.St → Hp → Prop} (ht : TgOk K r t)
    (ok : StOk K F0 H0 F H σ g) (hd : Dp K F x d) (h : SPost K mg W F0 H0 D (loopF t b (d :: ds) g))
    (n : ∀ F' H' σ' g', StOk K F H0 F' H' σ' g' → SPost K mg W F0 H0 D (loopF t b ds g') → N σ' H') :
    r x σ H fun σ2 H2 => tS K mg W b { D with nx := N, ct := N, bk := D.nx } σ2 H2 := by
  unfold loopF at h
  cases q : t d g with
  | none => rw [q] at h; exact h.elim
  | some g1 =>
    rw [q] at h
    refine ht F0 H0 F H σ g g1 x d _ ok hd q fun σ' ok' => ⟨F, H0, F, g1, ok'.base, ?_⟩
    dsimp only at h
    cases e : b g1 with
    | nx g2 =>
      rw [e] at h
      exact fun F' H' σ2 ok2 => n F' H' σ2 g2 ok2 h
    | ct g2 =>
      rw [e] at h
      exact fun F' H' σ2 ok2 => n F' H' σ2 g2 ok2 h
    | bk g2 =>
      rw [e] at h
      exact fun F' H' σ2 ok2 => h F' H' σ2 (ok2.back ok'.e)
    | rt v =>
      rw [e] at h
      have h' : SPost K mg W F0 H0 D (.rt v) := h
      exact fun v F' H' E q => h' v F' H' (ok'.e.back E) q
    | ex c p g2 =>
      rw [e] at h
      have h' : SPost K mg W F0 H0 D (.ex c p g2) := h
      exact fun cls od F' H' σ2 ok2 x => h' cls od F' H' σ2 (ok2.back ok'.e) x
    | bad => rw [e] at h; exact h
theorem drop_get {α : Type} {l : List α} {i : Nat} {x : α} (h : l[i]? = some x) : l.drop i = x :: l.drop (i + 1) := by
  obtain ⟨hi, e⟩ := List.getElem?_eq_some_iff.mp h
  rw [List.drop_eq_getElem_cons hi, e]
def loopW (t : Vw → R Bool) (b : S) : Nat → S
  | 0, _ => .bad
  | n + 1, g => (t (va g)).to g fun k => if k = true then (match b g with
      | .nx g2 => loopW t b n g2
      | .ct g2 => loopW t b n g2
      | .bk g2 => .nx g2
      | o => o) else .nx g
theorem ms_while {X : Cx} {W : WX} {pos : Pos} {c : Expr} {body : List Stmt} {t : Vw → R Bool} {b : S} {n : Nat} (hp : PassesOwn (model X.prog X.w) X.A X.env X.xe) (hc : MT X W c t) (hb : MSs X W body b) : MS X W (.While c body [] pos) (loopW t b n) := by
  refine PS.imp (ps_while hp hc hb) fun D σ H ⟨F0, H0, F, g, ok, h⟩ => ?_
  refine ⟨fun m σ H => ∃ F g, StOk X.K F0 H0 F H σ g ∧ SPost X.K X.mg W F0 H0 D (loopW t b m g), ⟨n, F, g, ok, h⟩, ?_⟩
  rintro m σ H ⟨F, g, ok, h⟩
  cases m with
  | zero => exact h.elim
  | succ m =>
    refine evT_va ok h fun k F' H' e ok' h' => ?_
    cases k with
    | false => exact h' F' H' σ ok'
    | true =>
      rw [if_pos rfl] at h' ⊢
      refine ⟨fun σ' H' => ∃ F g, StOk X.K F0 H0 F H' σ' g ∧ SPost X.K X.mg W F0 H0 D (loopW t b m g), fun σ' H' q => ⟨m, Nat.lt_succ_self m, q⟩, F0, H0, F', g, ok', ?_⟩
      cases e : b g with
      | nx g2 =>
        rw [e] at h'
        exact fun F3 H3 σ3 ok3 => ⟨F3, g2, ok3, h'⟩
      | ct g2 =>
        rw [e] at h'
        exact fun F3 H3 σ3 ok3 => ⟨F3, g2, ok3, h'⟩
      | bk g2 =>
        rw [e] at h'
        exact fun F3 H3 σ3 ok3 => h' F3 H3 σ3 ok3
      | rt v => rw [e] at h'; exact h'
      | ex c p g2 => rw [e] at h'; exact h'
      | bad => rw [e] at h'; exact h'
def rngL (lo c : Int) (n : Nat) : List D := (List.range n).map fun (i : Nat) => .int (lo + (i : Int) * c)
theorem rngL_get {lo c : Int} {n i : Nat} (h : i < n) : (rngL lo c n)[i]? = some (.int (lo + (i : Int) * c)) := by
  unfold rngL
  rw [List.getElem?_map, List.getElem?_range h]
  rfl
theorem rngL_len {lo c : Int} {n : Nat} : (rngL lo c n).length = n := by
  unfold rngL
  rw [List.length_map, List.length_range]
def lim62 (i : Int) : Bool := decide (-(2 ^ 62) ≤ i) && decide (i < 2 ^ 62)
def rng1 : List D → Option (List D)
  | [.int j] => if lim62 j = true then some (rngL 0 1 j.toNat) else none
  | _ => none
def rng2 : List D → Option (List D)
  | [.int i, .int j] => if (lim62 i && lim62 j) = true then some (rngL i 1 (j - i).toNat) else none
  | _ => none
def rng3 : List D → Option (List D)
  | [.int i, .int j, .int c] => if c ≠ 0 ∧ c.natAbs < 1073741824 ∧ Builtin.Range.small i j c = true ∧ 0 ≤ Builtin.Range.rangeSize i j c then some (rngL i c (Builtin.Range.rangeSize i j c).toNat) else none
  | _ => none
section
end
theorem dpa1 {K : PySem.W.Frag} {F : Hp} {vs : List V} {a : D} (h : DpAll K F vs [a]) : ∃ v, vs = [v] ∧ Dp K F v a := by
  cases h with
  | cons a b => cases b; exact ⟨_, rfl, a⟩
theorem dpa2 {K : PySem.W.Frag} {F : Hp} {vs : List V} {a b : D} (h : DpAll K F vs [a, b]) : ∃ v w, vs = [v, w] ∧ Dp K F v a ∧ Dp K F w b := by
  cases h with
  | cons a r =>
    obtain ⟨w, rfl, q⟩ := dpa1 r
    exact ⟨_, _, rfl, a, q⟩
theorem dpa3 {K : PySem.W.Frag} {F : Hp} {vs : List V} {a b c : D} (h : DpAll K F vs [a, b, c]) : ∃ v w x, vs = [v, w, x] ∧ Dp K F v a ∧ Dp K F w b ∧ Dp K F x c := by
  cases h with
  | cons a r =>
    obtain ⟨w, x, rfl, q, q'⟩ := dpa2 r
    exact ⟨_, _, _, rfl, a, q, q'⟩
theorem dp_int {K : PySem.W.Frag} {F : Hp} {v : V} {i : Int} (h : Dp K F v (.int i)) : v = .int i := by cases h; rfl
section
end
/-- sub: whether an exception of that class is caught; none: no claim -/
def sTry (sub : Str → Option Bool) (b u : S) : S := fun g => match b g with
  | .ex c p g' => (match sub c with
    | some true => (match u g' with
      | .ex _ _ _ => .bad
      | o => o)
    | some false => .ex c p g'
    | none => .bad)
  | o => o
end MI
set_option Elab.async false
set_option linter.all false
set_option maxRecDepth 100000
set_option maxHeartbeats 4000000
namespace MI
open PySem PySem.Spec PyProof.Rows L2
def run (n N : Nat) (m : S) (ds : List D) : R D := if ds.length = n then (match m (ds.map Cell.dat ++ List.replicate (N - n) Cell.un) with
  | .nx _ => .ok .none
  | .rt d => .ok d
  | .ex c p _ => .exc c p
  | _ => .bad) else .bad
def FPost (K : PySem.W.Frag) (mg : Str → Option Value) (F H : Hp) (Q : VK) (E : XK) : R D → Prop
  | .ok d => ∀ v F' H', Ext F H F' H' → Dp K F' v d → Q v H'
  | .exc c p => ∀ cls od F' H', Ext F H F' H' → XV K mg F' c p cls od → E cls od H'
  | .bad => False
def spD (K : PySem.W.Frag) (mg : Str → Option Value) (n : Nat) (f : List D → R D) : Sp := fun vs H Q E => ∃ F ds, Same F H ∧ DpAll K F vs ds ∧ ds.length = n ∧ FPost K mg F H Q E (f ds)
theorem StOk.start {K : PySem.W.Frag} {F H : Hp} {vs : List V} {ds : List D} {N : List Str} (s : Same F H) (h : DpAll K F vs ds) (l : ds.length ≤ N.length) : StOk K F H F H (start N vs) (ds.map Cell.dat ++ List.replicate (N.length - ds.length) Cell.un) := by
  have hl := dpa_len h
  refine ⟨Ext.refl s, ?_, fun i d q => ?_, fun i es q => ?_, fun i j es es' a q => ?_⟩
  · unfold L2.start
    simp
    omega
  · by_cases hi : i < ds.length
    · rw [List.getElem?_append_left (by simpa using hi), List.getElem?_map] at q
      cases e : ds[i]? with
      | none => rw [e] at q; cases q
      | some d' =>
        rw [e] at q
        cases q
        obtain ⟨v, h1, h2⟩ := dpa_get h e
        refine ⟨v, ?_, h2⟩
        unfold L2.start
        rw [List.getElem?_append_left (by simpa [hl] using hi), List.getElem?_map, h1]
        rfl
    · rw [List.getElem?_append_right (by simpa using hi), List.getElem?_replicate] at q
      split at q <;> cases q
  · by_cases hi : i < ds.length
    · rw [List.getElem?_append_left (by simpa using hi), List.getElem?_map] at q
      cases e : ds[i]? with
      | none => rw [e] at q; cases q
      | some d' => rw [e] at q; cases q
    · rw [List.getElem?_append_right (by simpa using hi), List.getElem?_replicate] at q
      split at q <;> cases q
  · exfalso
    by_cases hi : i < ds.length
    · rw [List.getElem?_append_left (by simpa using hi), List.getElem?_map] at q
      cases e : ds[i]? with
      | none => rw [e] at q; cases q
      | some d' => rw [e] at q; cases q
    · rw [List.getElem?_append_right (by simpa using hi), List.getElem?_replicate] at q
      split at q <;> cases q
/-- a def's W -/
abbrev WD (E : XK) : WX := fun cls d _ H => E cls d H
theorem fn_ok {P : Program} {w : World} {K : PySem.W.Frag} {mg : Str → Option Value} {base : Heap} {x qual : Str} {params : Arguments} {body : List Stmt} {scope : Scope} {dvs : List V} {kws : List (Str × V)} {f : Addr} {fd : FuncData} {N ps : List Str} {k : Nat} {m : S}
    (F : FunD K x qual params body scope dvs kws f fd) (Sc : FnScope N ps scope)
    (hbody : ∀ (cdv : Value) (A : Around) (outer : List Env) (s : Shared) (H : Hp) (E : XK), Room k (A.deeper (envOfC qual scope s.heap.objs.size f cdv)) →
      MSs (cxOf (L2.CX P w) P w K mg base N qual scope f cdv A outer s H E) (WD E) body m) :
    FnOk P w K mg base (L2.CX P w) (k + 1) f fd ps (spD K mg ps.length (run ps.length N.length m)) := by
  refine F.ok Sc (fun vs H Q E ⟨F, ds, s, h, l, _⟩ => (dpa_len h).trans l) fun cdv A outer s H vs Q E hr ⟨F, ds, sm, h, l, hp⟩ => ⟨_, hbody cdv A outer s H E hr, F, H, F, _, StOk.start (N := N) sm h ?_, ?_⟩
  · rw [l]
    have := congrArg List.length Sc.pre
    rw [List.length_take] at this
    omega
  · unfold run at hp
    rw [if_pos l] at hp
    rw [l]
    cases e : m (ds.map Cell.dat ++ List.replicate (N.length - ps.length) Cell.un) with
    | nx g =>
      rw [e] at hp
      exact fun F' H' σ ok => hp .non F' H' ok.e .non
    | rt d =>
      rw [e] at hp
      exact hp
    | ex c p g =>
      rw [e] at hp
      exact fun cls od F' H' σ ok xv => hp cls od F' H' ok.e xv
    | bk g => rw [e] at hp; exact (show False from hp).elim
    | ct g => rw [e] at hp; exact (show False from hp).elim
    | bad => rw [e] at hp; exact (show False from hp).elim
theorem FPost.ext {K : PySem.W.Frag} {mg : Str → Option Value} {F H F' H' : Hp} {Q : VK} {E : XK} {r : R D} (e : Ext F H F' H') (h : FPost K mg F H Q E r) : FPost K mg F' H' Q E r := by
  cases r with
  | ok d => exact fun v F2 H2 e2 q => h v F2 H2 (e.trans e2) q
  | exc c p => exact fun cls od F2 H2 e2 q => h cls od F2 H2 (e.trans e2) q
  | bad => exact h
def mCall (n : Nat) (f : List D → R D) (dds : List D) (m : Vw → R (List D)) : M := fun δ => (m δ).bind fun ds => if (ds ++ dds).length = n then f (ds ++ dds) else .bad
theorem me_call {X : Cx} {W : WX} {k n : Nat} {f : Addr} {fd : FuncData} {ps : List Str} {dvs : List V} {ds : List Value} {x : Str} {p pos : Pos} {e : Expr} {es : List Expr} {m : Vw → R (List D)} {fn : List D → R D} {dds : List D}
    (G : FnOk X.prog X.w X.K X.mg X.base (L2.CX X.prog X.w) k f fd ps (spD X.K X.mg n fn)) (hr : Room k X.A) (hg : Gl X x) (hm : X.mg x = some (.ref f)) (hk : PySem.W.keepIn X.K (.ref f) = true) (hb : Binds X.K fd ps ds) (hd : Vals dvs ds)
    (hdd : ∀ F, DpAll X.K F dvs dds) (tk : Takes X W) (ha : MA X W (e :: es) m) (hdb : (x == ("__debug__" : Str)) = false) (he : starEach (e :: es) X.env = (false, eval e X.env) :: starEach es X.env) (hpl : (backTo pos (starEach es X.env)).any (·.1) = false) :
    ME X W (.Call (.Name x p) (e :: es) [] pos) (mCall n fn dds m) := by
  refine PE.imp (pe_callSD (E := WE W) G hr hg hm hk hb hd (fun σ => passAt tk σ) ha hdb he hpl) fun σ H Q ⟨F, δ, s, v, h⟩ => ?_
  refine ⟨F, δ, s, v, ?_⟩
  unfold mCall at h
  cases q : m δ with
  | ok ds' =>
    rw [q, R.bind_ok] at h
    intro vs F' H' E hvs
    split at h
    · rename_i hl
      refine ⟨F', ds' ++ dds, E.s, dpa_append hvs (hdd F'), hl, ?_⟩
      have h2 : FPost X.K X.mg F H Q (WE W σ) (fn (ds' ++ dds)) := by
        cases z : fn (ds' ++ dds) with
        | ok d => rw [z] at h; exact h
        | exc c p => rw [z] at h; exact h
        | bad => rw [z] at h; exact h
      exact h2.ext E
    · exact h.elim
  | exc c p => rw [q] at h; exact h
  | bad => rw [q] at h; exact h
section
variable {X : Cx}
theorem opr_of {f : Value → Value → Sem Value} {r' : R2} (h : ∀ x y H Q, r' x y H Q → ∃ r, OpR X f r ∧ r x y H Q) : OpR X f r' := fun pins s σ H x y v u Q I rx ry hh => by
  obtain ⟨r, ho, q⟩ := h x y H Q hh
  exact ho pins s σ H x y v u Q I rx ry q
theorem unr_of {f : Value → Sem Value} {r' : V → Hp → VK → Prop} (h : ∀ x H Q, r' x H Q → ∃ r, UnR X f r ∧ r x H Q) : UnR X f r' := fun pins s σ H x v Q I rx hh => by
  obtain ⟨r, ho, q⟩ := h x H Q hh
  exact ho pins s σ H x v Q I rx q
theorem callr_of {f : Value} {r' : List V → Hp → VK → Prop} (h : ∀ xs H Q, r' xs H Q → ∃ r, CallR X f r ∧ r xs H Q) : CallR X f r' := fun pins s σ H xs us Q I rx hh => by
  obtain ⟨r, ho, q⟩ := h xs H Q hh
  exact ho pins s σ H xs us Q I rx q
theorem mtr_of {id : String} {r' : V → List V → Hp → VK → Prop} (h : ∀ x xs H Q, r' x xs H Q → ∃ r, MtR X id r ∧ r x xs H Q) : MtR X id r' := fun pins s σ H x xs v us Q I rx rs hh => by
  obtain ⟨r, ho, q⟩ := h x xs H Q hh
  exact ho pins s σ H x xs v us Q I rx rs q
end
theorem dp_str {K : PySem.W.Frag} {F : Hp} {v : V} {i : Str} (h : Dp K F v (.str i)) : v = .str i := by cases h; rfl
theorem dp_bl {K : PySem.W.Frag} {F : Hp} {v : V} {i : Bool} (h : Dp K F v (.bool i)) : v = .bl i := by cases h; rfl
/-- great factors: together below a hundred million bits -/
def okMul (i j : Int) : Bool := decide (i.natAbs.log2 + j.natAbs.log2 < 100000000)
theorem okMul_ok {i j : Int} (h : okMul i j = true) : CMulX i j := by
  unfold okMul at h
  rw [decide_eq_true_eq] at h
  have b : ∀ x : Int, Builtin.Int.intBits x ≤ x.natAbs.log2 + 1 := fun x => by
    unfold Builtin.Int.intBits
    split <;> omega
  have x := b i
  have y := b j
  unfold CMulX
  omega
def okDiv (j : Int) : Bool := decide (j ≠ 0) && decide (j.natAbs.log2 < 9000)
def fAdd : D → D → Option D
  | .int i, .int j => some (.int (i + j))
  | .str a, .str b => if a.length + b.length ≤ most then some (.str (a ++ b)) else none
  | .list a, .list b => none
  | .tuple a, .tuple b => if a ≠ [] ∧ a.length + b.length ≤ most then some (.tuple (a ++ b)) else none
  | _, _ => none
def fSub : D → D → Option D
  | .int i, .int j => some (.int (i - j))
  | _, _ => none
def fMul : D → D → Option D
  | .int i, .int j => if okMul i j = true then some (.int (i * j)) else none
  | _, _ => none
def fFdv : D → D → Option D
  | .int i, .int j => if okDiv j = true then some (.int (i.fdiv j)) else none
  | _, _ => none
def fMod : D → D → Option D
  | .int i, .int j => if j ≠ 0 then some (.int (i.fmod j)) else none
  | _, _ => none
def fPow : D → D → Option D
  | .int i, .int j => if 0 ≤ j ∧ j ≤ 1000000 ∧ i.natAbs < 2 ^ 64 then some (.int (i ^ j.toNat)) else none
  | _, _ => none
def fNeg : D → Option D
  | .int i => some (.int (-i))
  | _ => none
section
variable {X : Cx}
theorem o_add : OpR X (binaryOp .Add) (rD2 X.K fAdd) := opr_of fun x y H Q ⟨F, d1, d2, d, s, h1, h2, e, q⟩ => by
  unfold fAdd at e
  split at e
  · cases e
    cases dp_int h1
    cases dp_int h2
    exact ⟨_, op_add, _, _, rfl, rfl, q _ F H (Ext.refl s) (.int _)⟩
  · split at e
    · rename_i l
      cases e
      cases dp_str h1
      cases dp_str h2
      exact ⟨_, op_add_str, _, _, rfl, rfl, most_le l, q _ F H (Ext.refl s) (.str _)⟩
    · cases e
  · cases e
  · split at e
    · rename_i l
      cases e
      cases h1 with
      | tup a b =>
        cases h2 with
        | tup a2 b2 =>
          refine ⟨_, op_catT, _, _, _, _, rfl, rfl, same_t s a, same_t s a2, ?_, ?_, fun z => ?_, fun _ p hp => q _ _ _ (Ext.new s hp) (.tup (SqT.of upd_same) (dpa_mono (Ext.new (o := .tup _) s hp).f _ (dpa_append b b2)))⟩
          · intro z
            subst z
            cases b
            exact l.1 rfl
          · rw [dpa_len b, dpa_len b2]
            exact most_le l.2
          · subst z
            cases b2
            rw [List.append_nil] at q
            exact q _ F H (Ext.refl s) (.tup a b)
    · cases e
  · cases e
theorem o_sub : OpR X (binaryOp .Sub) (rD2 X.K fSub) := opr_of fun x y H Q ⟨F, d1, d2, d, s, h1, h2, e, q⟩ => by
  unfold fSub at e
  split at e
  · cases e
    cases dp_int h1
    cases dp_int h2
    exact ⟨_, op_sub, _, _, rfl, rfl, q _ F H (Ext.refl s) (.int _)⟩
  · cases e
theorem o_mul : OpR X (binaryOp .Mult) (rD2 X.K fMul) := opr_of fun x y H Q ⟨F, d1, d2, d, s, h1, h2, e, q⟩ => by
  unfold fMul at e
  split at e
  · split at e
    · rename_i l
      cases e
      cases dp_int h1
      cases dp_int h2
      exact ⟨_, op_mulX, _, _, rfl, rfl, okMul_ok l, q _ F H (Ext.refl s) (.int _)⟩
    · cases e
  · cases e
theorem op_fdivZ : OpR X (binaryOp .FloorDiv) (rI (fun _ j => j ≠ 0 ∧ j.natAbs.log2 < 9000) fun i j => .int (i.fdiv j)) :=
  opI fun _ _ _ _ _ _ _ hc q => floordiv_int hc.1 q (.inl (PyProof.noPylong_of_log2 hc.2))
theorem o_fdv : OpR X (binaryOp .FloorDiv) (rD2 X.K fFdv) := opr_of fun x y H Q ⟨F, d1, d2, d, s, h1, h2, e, q⟩ => by
  unfold fFdv at e
  split at e
  · split at e
    · rename_i l
      cases e
      cases dp_int h1
      cases dp_int h2
      unfold okDiv at l
      rw [Bool.and_eq_true, decide_eq_true_eq, decide_eq_true_eq] at l
      exact ⟨_, op_fdivZ, _, _, rfl, rfl, l, q _ F H (Ext.refl s) (.int _)⟩
    · cases e
  · cases e
theorem o_mod : OpR X (binaryOp .Mod) (rD2 X.K fMod) := opr_of fun x y H Q ⟨F, d1, d2, d, s, h1, h2, e, q⟩ => by
  unfold fMod at e
  split at e
  · split at e
    · rename_i l
      cases e
      cases dp_int h1
      cases dp_int h2
      exact ⟨_, op_modN, _, _, rfl, rfl, l, q _ F H (Ext.refl s) (.int _)⟩
    · cases e
  · cases e
theorem o_pow : OpR X (binaryOp .Pow) (rD2 X.K fPow) := opr_of fun x y H Q ⟨F, d1, d2, d, s, h1, h2, e, q⟩ => by
  unfold fPow at e
  split at e
  · split at e
    · rename_i l
      cases e
      cases dp_int h1
      cases dp_int h2
      exact ⟨_, op_pow, _, _, rfl, rfl, l, q _ F H (Ext.refl s) (.int _)⟩
    · cases e
  · cases e
theorem o_neg : UnR X (unaryOp .USub) (rD1 X.K fNeg) := unr_of fun x H Q ⟨F, d1, d, s, h1, e, q⟩ => by
  unfold fNeg at e
  split at e
  · cases e
    cases dp_int h1
    exact ⟨_, un_neg, _, rfl, q _ F H (Ext.refl s) (.int _)⟩
  · cases e
end
def fLt : D → D → Option D
  | .int i, .int j => some (.bool (decide (i < j)))
  | .str a, .str b => some (.bool (decide (a.cps.toList < b.cps.toList)))
  | _, _ => none
def fLe : D → D → Option D
  | .int i, .int j => some (.bool (decide (i ≤ j)))
  | _, _ => none
def fGt : D → D → Option D
  | .int i, .int j => some (.bool (decide (j < i)))
  | _, _ => none
def fGe : D → D → Option D
  | .int i, .int j => some (.bool (decide (j ≤ i)))
  | _, _ => none
def dEq : D → D → Option Bool
  | .int i, .int j => some (decide (i = j))
  | .str a, .str b => some (decide (a = b))
  | .bool a, .bool b => some (decide (a = b))
  | .none, .none => some true
  | d, e => if (SeqAt.shaped d && SeqAt.shaped e) = true then some (PyData.eqv d e) else none
def fEq (d e : D) : Option D := (dEq d e).map .bool
def fNe (d e : D) : Option D := (dEq d e).map fun b => .bool (!b)
def fIs (d e : D) : Option D := match e with
  | .none => (match d with
    | .none => some (.bool true)
    | _ => some (.bool false))
  | _ => none
def fIsN (d e : D) : Option D := match e with
  | .none => (match d with
    | .none => some (.bool false)
    | _ => some (.bool true))
  | _ => none
def fIn (neg : Bool) : D → D → Option D
  | d, .list ds => if (SeqAt.shaped d && SeqAt.shaped (.list ds)) = true then some (.bool (if neg = true then !(ds.any fun z => PyData.eqv z d) else ds.any fun z => PyData.eqv z d)) else none
  | .str a, .str b => some (.bool (if neg = true then !(!(Builtin.Str.occurrences b a 0 b.length 1).isEmpty) else !(Builtin.Str.occurrences b a 0 b.length 1).isEmpty))
  | _, _ => none
section
variable {X : Cx}
theorem o_lt : OpR X (compareOp .Lt) (rD2 X.K fLt) := opr_of fun x y H Q ⟨F, d1, d2, d, s, h1, h2, e, q⟩ => by
  unfold fLt at e
  split at e
  · cases e
    cases dp_int h1
    cases dp_int h2
    exact ⟨_, op_lt, _, _, rfl, rfl, q _ F H (Ext.refl s) (.bl _)⟩
  · cases e
    cases dp_str h1
    cases dp_str h2
    exact ⟨_, op_lt_str, _, _, rfl, rfl, q _ F H (Ext.refl s) (.bl _)⟩
  · cases e
theorem o_le : OpR X (compareOp .LtE) (rD2 X.K fLe) := opr_of fun x y H Q ⟨F, d1, d2, d, s, h1, h2, e, q⟩ => by
  unfold fLe at e
  split at e
  · cases e
    cases dp_int h1
    cases dp_int h2
    exact ⟨_, op_le, _, _, rfl, rfl, q _ F H (Ext.refl s) (.bl _)⟩
  · cases e
theorem o_gt : OpR X (compareOp .Gt) (rD2 X.K fGt) := opr_of fun x y H Q ⟨F, d1, d2, d, s, h1, h2, e, q⟩ => by
  unfold fGt at e
  split at e
  · cases e
    cases dp_int h1
    cases dp_int h2
    exact ⟨_, op_gt, _, _, rfl, rfl, q _ F H (Ext.refl s) (.bl _)⟩
  · cases e
theorem o_ge : OpR X (compareOp .GtE) (rD2 X.K fGe) := opr_of fun x y H Q ⟨F, d1, d2, d, s, h1, h2, e, q⟩ => by
  unfold fGe at e
  split at e
  · cases e
    cases dp_int h1
    cases dp_int h2
    exact ⟨_, op_ge, _, _, rfl, rfl, q _ F H (Ext.refl s) (.bl _)⟩
  · cases e
theorem dEq_ok {K : PySem.W.Frag} {F H : Hp} {x y : V} {d e : D} {b : Bool} (s : Same F H) (h1 : Dp K F x d) (h2 : Dp K F y e) (q : dEq d e = some b) :
    (scal x y = true ∧ decide (x = y) = b) ∨ (L2.Dp K H x d ∧ L2.Dp K H y e ∧ SeqAt.shaped d = true ∧ SeqAt.shaped e = true ∧ PyData.eqv d e = b) := by
  unfold dEq at q
  split at q
  · cases q
    cases dp_int h1
    cases dp_int h2
    exact .inl ⟨rfl, by simp⟩
  · cases q
    cases dp_str h1
    cases dp_str h2
    exact .inl ⟨rfl, by simp⟩
  · cases q
    cases dp_bl h1
    cases dp_bl h2
    exact .inl ⟨rfl, by simp⟩
  · cases q
    cases h1
    cases h2
    exact .inl ⟨rfl, by simp⟩
  · split at q
    · rename_i l
      cases q
      rw [Bool.and_eq_true] at l
      exact .inr ⟨dp_shaped (dp_mono s _ h1) l.1, dp_shaped (dp_mono s _ h2) l.2, l.1, l.2, rfl⟩
    · cases q
theorem o_eq (hu : X.A.units + 64 < cLine) : OpR X (compareOp .Eq) (rD2 X.K fEq) := opr_of fun x y H Q ⟨F, d1, d2, d, s, h1, h2, e, q⟩ => by
  unfold fEq at e
  cases z : dEq d1 d2 with
  | none => rw [z] at e; cases e
  | some b =>
    rw [z] at e
    cases e
    have q' := q (.bl b) F H (Ext.refl s) (.bl b)
    rcases dEq_ok s h1 h2 z with ⟨a1, a2⟩ | ⟨a1, a2, a3, a4, a5⟩
    · exact ⟨_, op_eq, a1, by rw [a2]; exact q'⟩
    · exact ⟨_, op_eqD hu, _, _, a1, a2, a3, a4, by rw [a5]; exact q'⟩
theorem o_ne (hu : X.A.units + 64 < cLine) : OpR X (compareOp .NotEq) (rD2 X.K fNe) := opr_of fun x y H Q ⟨F, d1, d2, d, s, h1, h2, e, q⟩ => by
  unfold fNe at e
  cases z : dEq d1 d2 with
  | none => rw [z] at e; cases e
  | some b =>
    rw [z] at e
    cases e
    have q' := q (.bl (!b)) F H (Ext.refl s) (.bl _)
    rcases dEq_ok s h1 h2 z with ⟨a1, a2⟩ | ⟨a1, a2, a3, a4, a5⟩
    · exact ⟨_, op_ne, a1, by rw [a2]; exact q'⟩
    · exact ⟨_, op_neD hu, _, _, a1, a2, a3, a4, by rw [a5]; exact q'⟩
theorem o_in (hu : X.A.units + 65 < cLine) : OpR X (compareOp .In) (rD2 X.K (fIn false)) := opr_of fun x y H Q ⟨F, d1, d2, d, s, h1, h2, e, q⟩ => by
  unfold fIn at e
  split at e
  · split at e
    · rename_i l
      cases e
      rw [Bool.and_eq_true] at l
      exact ⟨_, op_inD hu, _, _, dp_shaped (dp_mono s _ h1) l.1, dp_shaped (dp_mono s _ h2) l.2, l.1, l.2, q _ F H (Ext.refl s) (.bl _)⟩
    · cases e
  · cases e
    cases dp_str h1
    cases dp_str h2
    exact ⟨_, op_in_str, _, _, rfl, rfl, q _ F H (Ext.refl s) (.bl _)⟩
  · cases e
theorem o_notIn (hu : X.A.units + 65 < cLine) : OpR X (compareOp .NotIn) (rD2 X.K (fIn true)) := opr_of fun x y H Q ⟨F, d1, d2, d, s, h1, h2, e, q⟩ => by
  unfold fIn at e
  split at e
  · split at e
    · rename_i l
      cases e
      rw [Bool.and_eq_true] at l
      exact ⟨_, op_notInD hu, _, _, dp_shaped (dp_mono s _ h1) l.1, dp_shaped (dp_mono s _ h2) l.2, l.1, l.2, q _ F H (Ext.refl s) (.bl _)⟩
    · cases e
  · cases e
    cases dp_str h1
    cases dp_str h2
    exact ⟨_, op_notIn_str, _, _, rfl, rfl, q _ F H (Ext.refl s) (.bl _)⟩
  · cases e
end
/-- a comparison tells a truth -/
theorem bl_lt : ∀ x y d, fLt x y = some d → ∃ z : Bool, d = .bool z := fun x y d e => by
  unfold fLt at e
  split at e <;> cases e <;> exact ⟨_, rfl⟩
theorem bl_le : ∀ x y d, fLe x y = some d → ∃ z : Bool, d = .bool z := fun x y d e => by
  unfold fLe at e
  split at e <;> cases e <;> exact ⟨_, rfl⟩
theorem bl_gt : ∀ x y d, fGt x y = some d → ∃ z : Bool, d = .bool z := fun x y d e => by
  unfold fGt at e
  split at e <;> cases e <;> exact ⟨_, rfl⟩
theorem bl_eq : ∀ x y d, fEq x y = some d → ∃ z : Bool, d = .bool z := fun x y d e => by
  unfold fEq at e
  cases z : dEq x y with
  | none => rw [z] at e; cases e
  | some b => rw [z] at e; cases e; exact ⟨_, rfl⟩
theorem bl_ne : ∀ x y d, fNe x y = some d → ∃ z : Bool, d = .bool z := fun x y d e => by
  unfold fNe at e
  cases z : dEq x y with
  | none => rw [z] at e; cases e
  | some b => rw [z] at e; cases e; exact ⟨_, rfl⟩
theorem bl_in (n : Bool) : ∀ x y d, fIn n x y = some d → ∃ z : Bool, d = .bool z := fun x y d e => by
  unfold fIn at e
  split at e
  · split at e <;> cases e <;> exact ⟨_, rfl⟩
  · cases e; exact ⟨_, rfl⟩
  · cases e
def fIx : D → D → Option D
  | .list ds, .int i => atI ds i
  | .tuple ds, .int i => atI ds i
  | .str z, .int i => if z.length ≤ most then (atI z.cps.toList i).map fun c => .str ⟨#[c]⟩ else none
  | _, _ => none
theorem dpa_at {K : PySem.W.Frag} {F : Hp} {vs : List V} {ds : List D} {i : Int} {d : D} (h : DpAll K F vs ds) (e : atI ds i = some d) : ∃ v, atI vs i = some v ∧ Dp K F v d := by
  unfold atI at e ⊢
  rw [dpa_len h]
  cases q : ixN ds.length i with
  | none => rw [q] at e; cases e
  | some j => rw [q] at e; exact dpa_get h e
theorem i_ix {K : PySem.W.Frag} : ∀ x y H Q, rD2 K fIx x y H Q → rIx K x y H Q := fun x y H Q ⟨F, d1, d2, d, s, h1, h2, e, q⟩ => by
  unfold fIx at e
  split at e
  · cases dp_int h2
    cases h1 with
    | lst a b =>
      obtain ⟨v, e1, e2⟩ := dpa_at b e
      exact .inl ⟨_, _, _, _, rfl, rfl, s.seq a, e1, q _ F H (Ext.refl s) e2⟩
  · cases dp_int h2
    cases h1 with
    | tup a b =>
      obtain ⟨v, e1, e2⟩ := dpa_at b e
      exact .inr (.inl ⟨_, _, _, _, rfl, rfl, same_t s a, e1, q _ F H (Ext.refl s) e2⟩)
  · split at e
    · rename_i z i l
      cases dp_int h2
      cases dp_str h1
      cases w : atI z.cps.toList i with
      | none => rw [w] at e; cases e
      | some c =>
        rw [w] at e
        cases e
        exact .inr (.inr ⟨_, _, _, rfl, rfl, most_le l, w, q _ F H (Ext.refl s) (.str _)⟩)
    · cases e
  · cases e
/-- a part of a slice -/
def mPart (m : M) : Vw → R (Option Int) := fun δ => (m δ).bind fun d => match d with
  | .int i => .ok (some i)
  | _ => .bad
def mNoPart : Vw → R (Option Int) := fun _ => .ok none
def cutD (xs : List D) (lo hi : Option Int) : List D := (xs.drop (HT.sIx xs.length 0 lo)).take (HT.sIx xs.length xs.length hi - HT.sIx xs.length 0 lo)
def fSl (d : D) (lo hi : Option Int) : Option D := match d with
  | .list ds => some (.list (cutD ds lo hi))
  | .tuple ds => if HT.sIx ds.length 0 lo = 0 ∧ HT.sIx ds.length ds.length hi = ds.length then none else some (.tuple (cutD ds lo hi))
  | .str z => if z.length ≤ most then some (.str (Txt.slice z lo hi)) else none
  | _ => none
def mSl (m : M) (lo hi : Vw → R (Option Int)) : M := fun δ => (m δ).bind fun d => (lo δ).bind fun l => (hi δ).bind fun h => R.of (fSl d l h)
section
variable {X : Cx} {W : WX}
def OPost (F H : Hp) (σ : L2.St) (Q : Option Int → Hp → Prop) : R (Option Int) → Prop
  | .ok b => ∀ F' H', Ext F H F' H' → Q b H'
  | .exc c p => ∀ cls od F' H', Ext F H F' H' → XV X.K X.mg F' c p cls od → W cls od σ H'
  | .bad => False
def tO (X : Cx) (W : WX) (m : Vw → R (Option Int)) : TO := fun σ H Q => ∃ F δ, Same F H ∧ VwOk X.K F σ δ ∧ OPost (X := X) (W := W) F H σ Q (m δ)
abbrev MO (X : Cx) (W : WX) (e : Option Expr) (m : Vw → R (Option Int)) : Prop := PO X e (tO X W m)
theorem PO.imp {e : Option Expr} {t t' : TO} (h : PO X e t) (i : ∀ σ H Q, t' σ H Q → t σ H Q) : PO X e t' := ⟨fun pins s σ H Q I hw => h.run pins s σ H Q I (i _ _ _ hw)⟩
theorem mo_none : MO X W none mNoPart := PO.imp po_none fun σ H Q ⟨F, δ, s, v, h⟩ => h F H (Ext.refl s)
theorem mo_some {e : Expr} {m : M} (he : ME X W e m) : MO X W (some e) (mPart m) := PO.imp (po_some he) fun σ H Q ⟨F, δ, s, v, h⟩ => by
  refine ⟨F, δ, s, v, ?_⟩
  unfold mPart at h
  cases e : m δ with
  | ok d =>
    rw [e, R.bind_ok] at h
    cases d with
    | int i =>
      intro x F' H' E hx
      cases dp_int hx
      exact ⟨i, rfl, h F' H' E⟩
    | _ => exact h.elim
  | exc c p => rw [e] at h; exact h
  | bad => rw [e] at h; exact h
theorem dpa_cut {K : PySem.W.Frag} {F : Hp} {vs : List V} {ds : List D} {lo hi : Option Int} (h : DpAll K F vs ds) : DpAll K F (cutV vs lo hi) (cutD ds lo hi) := by
  unfold cutV cutD
  rw [dpa_len h]
  exact dpa_take _ (dpa_drop _ h)
def rSlD (K : PySem.W.Frag) : V → Option Int → Option Int → Hp → VK → Prop := fun x lo hi H Q => ∃ F d1 d, Same F H ∧ Dp K F x d1 ∧ fSl d1 lo hi = some d ∧ ∀ v F' H', Ext F H F' H' → Dp K F' v d → Q v H'
theorem slr_of {r' : V → Option Int → Option Int → Hp → VK → Prop} (h : ∀ x lo hi H Q, r' x lo hi H Q → ∃ r, SlR X r ∧ r x lo hi H Q) : SlR X r' := by
  intro pins s σ H x v vl vu lo hi sl Q I rx hs pl pu hh
  obtain ⟨r, ho, q⟩ := h x lo hi H Q hh
  exact ho pins s σ H x v vl vu lo hi sl Q I rx hs pl pu q
theorem l_sl : SlR X (rSlD X.K) := slr_of fun x lo hi H Q ⟨F, d1, d, s, h1, e, q⟩ => by
  unfold fSl at e
  split at e
  · cases e
    cases h1 with
    | lst a b => exact ⟨_, sl_list, _, _, rfl, s.seq a, fun p hp => q _ _ _ (Ext.new s hp) (.lst (SqL.of upd_same) (dpa_mono (Ext.new (o := .lst _) s hp).f _ (dpa_cut b)))⟩
  · split at e
    · cases e
    · rename_i l
      cases e
      cases h1 with
      | tup a b => exact ⟨_, sl_tup, _, _, rfl, same_t s a, by rw [dpa_len b]; exact l, fun p hp => q _ _ _ (Ext.new s hp) (.tup (SqT.of upd_same) (dpa_mono (Ext.new (o := .tup _) s hp).f _ (dpa_cut b)))⟩
  · split at e
    · rename_i l
      cases e
      cases dp_str h1
      exact ⟨_, C8.sl_txt, _, rfl, most_le l, q _ F H (Ext.refl s) (.str _)⟩
    · cases e
  · cases e
theorem me_sl {e : Expr} {lo hi : Option Expr} {m : M} {ml mh : Vw → R (Option Int)} {pos p2 : Pos} (he : ME X W e m) (hl : MO X W lo ml) (hh : MO X W hi mh) : ME X W (.Subscript e (.Slice lo hi none p2) pos) (mSl m ml mh) := by
  refine PE.imp (pe_slice l_sl he hl hh) fun σ H Q ⟨F, δ, s, v, h⟩ => ?_
  refine tM_bind s v h fun d x F1 H1 _ E hx h1 => ?_
  refine ⟨F1, δ, E.s, v.mono E.f, ?_⟩
  cases e1 : ml δ with
  | ok l =>
    rw [e1, R.bind_ok] at h1
    intro F2 H2 E2
    refine ⟨F2, δ, E2.s, (v.mono E.f).mono E2.f, ?_⟩
    cases e2 : mh δ with
    | ok u =>
      rw [e2, R.bind_ok] at h1
      obtain ⟨d3, e3, q⟩ := of_post h1
      intro F3 H3 E3
      exact ⟨F3, d, d3, E3.s, dp_mono (E2.f.trans E3.f) d hx, e3, fun w F4 H4 E4 hw => q w F4 H4 (E2.trans (E3.trans E4)) hw⟩
    | exc c p =>
      rw [e2] at h1
      exact fun cls od F3 H3 E3 xv => h1 cls od F3 H3 (E2.trans E3) xv
    | bad => rw [e2] at h1; exact h1.elim
  | exc c p => rw [e1] at h1; exact h1
  | bad => rw [e1] at h1; exact h1.elim
end
section
variable {X : Cx} {W : WX} {x : Str} {p pos : Pos} {e : Expr} {es : List Expr} {m : Vw → R (List D)} {id T : String} {f : List D → Option D}
theorem me_cB (hc : CallR X (.builtin id) (rDs X.K f)) (hg : Gl X x) (hm : X.mg x = none) (hv : bootBuiltins x = some (.builtin id)) (ha : MA X W (e :: es) m) (hn : x ≠ "__name__") (hdb : (x == ("__debug__" : Str)) = false)
    (he : starEach (e :: es) X.env = (false, eval e X.env) :: starEach es X.env) (hpl : (backTo pos (starEach es X.env)).any (·.1) = false) : ME X W (.Call (.Name x p) (e :: es) [] pos) (mDs f m) := by
  refine PE.imp (pe_callB hc hg hm hv ha hn hdb he hpl) fun σ H Q ⟨F, δ, s, v, h⟩ => ?_
  refine tA_bind s v h fun ds xs F1 H1 _ E hx h1 => ?_
  obtain ⟨d3, e, q⟩ := of_post h1
  exact ⟨F1, ds, d3, E.s, hx, e, q⟩
theorem me_cT (hc : CallR X (.type T) (rDs X.K f)) (hg : Gl X x) (hm : X.mg x = none) (hv : bootBuiltins x = some (.type T)) (ha : MA X W (e :: es) m) (hn : x ≠ "__name__") (hdb : (x == ("__debug__" : Str)) = false)
    (he : starEach (e :: es) X.env = (false, eval e X.env) :: starEach es X.env) (hpl : (backTo pos (starEach es X.env)).any (·.1) = false) : ME X W (.Call (.Name x p) (e :: es) [] pos) (mDs f m) := by
  refine PE.imp (pe_callTy hc hg hm hv ha hn hdb he hpl) fun σ H Q ⟨F, δ, s, v, h⟩ => ?_
  refine tA_bind s v h fun ds xs F1 H1 _ E hx h1 => ?_
  obtain ⟨d3, e, q⟩ := of_post h1
  exact ⟨F1, ds, d3, E.s, hx, e, q⟩
end
def fAbs : List D → Option D
  | [.int i] => some (.int (if i < 0 then -i else i))
  | _ => none
def fLen : List D → Option D
  | [.list ds] => some (.int ds.length)
  | [.tuple ds] => some (.int ds.length)
  | [.str z] => if z.length ≤ most then some (.int z.length) else none
  | _ => none
def fMax : List D → Option D
  | [.int i, .int j] => some (.int (if j > i then j else i))
  | _ => none
def fMin : List D → Option D
  | [.int i, .int j] => some (.int (if j < i then j else i))
  | _ => none
def fInt : List D → Option D
  | [.int i] => some (.int i)
  | [.bool k] => some (.int (if k then 1 else 0))
  | _ => none
def fStr : List D → Option D
  | [.int i] => if i.natAbs.log2 < 1920 then some (.str (toString i)) else none
  | [.str z] => some (.str z)
  | _ => none
def fListOf : List D → Option D
  | [.list ds] => some (.list ds)
  | [.tuple ds] => some (.list ds)
  | _ => none
def fTupOf : List D → Option D
  | [.list ds] => some (.tuple ds)
  | [.tuple ds] => some (.tuple ds)
  | _ => none
section
variable {X : Cx}
theorem c_abs : CallR X (.builtin "abs") (rDs X.K fAbs) := callr_of fun xs H Q ⟨F, ds, d, s, h, e, q⟩ => by
  unfold fAbs at e
  split at e
  · cases e
    obtain ⟨v, rfl, hv⟩ := dpa1 h
    cases dp_int hv
    exact ⟨_, call_abs, _, rfl, q _ F H (Ext.refl s) (.int _)⟩
  · cases e
theorem c_len : CallR X (.builtin "len") (rDs X.K fLen) := callr_of fun xs H Q ⟨F, ds, d, s, h, e, q⟩ => by
  unfold fLen at e
  split at e
  · cases e
    obtain ⟨v, rfl, hv⟩ := dpa1 h
    cases hv with
    | lst a b => exact ⟨_, call_len_seq, _, _, rfl, .inl (s.seq a), by rw [dpa_len b]; exact q _ F H (Ext.refl s) (.int _)⟩
  · cases e
    obtain ⟨v, rfl, hv⟩ := dpa1 h
    cases hv with
    | tup a b => exact ⟨_, call_len_seq, _, _, rfl, .inr (same_t s a), by rw [dpa_len b]; exact q _ F H (Ext.refl s) (.int _)⟩
  · split at e
    · rename_i l
      cases e
      obtain ⟨v, rfl, hv⟩ := dpa1 h
      cases dp_str hv
      exact ⟨_, call_len_str, _, rfl, most_le l, q _ F H (Ext.refl s) (.int _)⟩
    · cases e
  · cases e
theorem c_max (hc : X.calm = true) : CallR X (.builtin "max") (rDs X.K fMax) := callr_of fun xs H Q ⟨F, ds, d, s, h, e, q⟩ => by
  unfold fMax at e
  split at e
  · cases e
    obtain ⟨v, w, rfl, hv, hw⟩ := dpa2 h
    cases dp_int hv
    cases dp_int hw
    exact ⟨_, call_max2 hc, _, _, rfl, q _ F H (Ext.refl s) (.int _)⟩
  · cases e
theorem c_min (hc : X.calm = true) : CallR X (.builtin "min") (rDs X.K fMin) := callr_of fun xs H Q ⟨F, ds, d, s, h, e, q⟩ => by
  unfold fMin at e
  split at e
  · cases e
    obtain ⟨v, w, rfl, hv, hw⟩ := dpa2 h
    cases dp_int hv
    cases dp_int hw
    exact ⟨_, call_min2 hc, _, _, rfl, q _ F H (Ext.refl s) (.int _)⟩
  · cases e
theorem c_int : CallR X (.type "int") (rDs X.K fInt) := callr_of fun xs H Q ⟨F, ds, d, s, h, e, q⟩ => by
  unfold fInt at e
  split at e
  · cases e
    obtain ⟨v, rfl, hv⟩ := dpa1 h
    cases dp_int hv
    exact ⟨_, call_int1, .inl ⟨_, rfl, q _ F H (Ext.refl s) (.int _)⟩⟩
  · cases e
    obtain ⟨v, rfl, hv⟩ := dpa1 h
    cases dp_bl hv
    exact ⟨_, call_int1, .inr ⟨_, rfl, q _ F H (Ext.refl s) (.int _)⟩⟩
  · cases e
theorem c_str : CallR X (.type "str") (rDs X.K fStr) := callr_of fun xs H Q ⟨F, ds, d, s, h, e, q⟩ => by
  unfold fStr at e
  split at e
  · split at e
    · rename_i l
      cases e
      obtain ⟨v, rfl, hv⟩ := dpa1 h
      cases dp_int hv
      exact ⟨_, call_str_int, _, rfl, l, q _ F H (Ext.refl s) (.str _)⟩
    · cases e
  · cases e
    obtain ⟨v, rfl, hv⟩ := dpa1 h
    cases dp_str hv
    exact ⟨_, SkE.call_str_str, _, rfl, q _ F H (Ext.refl s) (.str _)⟩
  · cases e
theorem c_list : CallR X (.type "list") (rDs X.K fListOf) := callr_of fun xs H Q ⟨F, ds, d, s, h, e, q⟩ => by
  unfold fListOf at e
  split at e
  · cases e
    obtain ⟨v, rfl, hv⟩ := dpa1 h
    cases hv with
    | lst a b => exact ⟨_, call_list_of, _, _, rfl, .inl (s.seq a), fun p hp => q _ _ _ (Ext.new s hp) (.lst (SqL.of upd_same) (dpa_mono (Ext.new (o := .lst _) s hp).f _ b))⟩
  · cases e
    obtain ⟨v, rfl, hv⟩ := dpa1 h
    cases hv with
    | tup a b => exact ⟨_, call_list_of, _, _, rfl, .inr (same_t s a), fun p hp => q _ _ _ (Ext.new s hp) (.lst (SqL.of upd_same) (dpa_mono (Ext.new (o := .lst _) s hp).f _ b))⟩
  · cases e
theorem c_tuple : CallR X (.type "tuple") (rDs X.K fTupOf) := callr_of fun xs H Q ⟨F, ds, d, s, h, e, q⟩ => by
  unfold fTupOf at e
  split at e
  · cases e
    obtain ⟨v, rfl, hv⟩ := dpa1 h
    cases hv with
    | lst a b => exact ⟨_, call_tuple_of, _, _, rfl, .inl ⟨s.seq a, fun p hp => q _ _ _ (Ext.new s hp) (.tup (SqT.of upd_same) (dpa_mono (Ext.new (o := .tup _) s hp).f _ b))⟩⟩
  · cases e
    obtain ⟨v, rfl, hv⟩ := dpa1 h
    cases hv with
    | tup a b => exact ⟨_, call_tuple_of, _, _, rfl, .inr ⟨same_t s a, q _ F H (Ext.refl s) (.tup a b)⟩⟩
  · cases e
end
def tyD : D → String
  | .none => "NoneType"
  | .bool _ => "bool"
  | .int _ => "int"
  | .str _ => "str"
  | .list _ => "list"
  | .tuple _ => "tuple"
  | .dict _ => "dict"
theorem tyx_of {K : PySem.W.Frag} {F H : Hp} {x : V} {d : D} (s : Same F H) (h : Dp K F x d) (hd : ∀ p kvs, d ≠ .dict (p :: kvs)) : TyX K H x (.type (tyD d)) := by
  cases h with
  | exc c a => exact absurd rfl (hd _ _)
  | excF c a _ _ _ => exact absurd rfl (hd _ _)
  | dct0 a => exact .base (.dK (s _ _ a))
  | dct a b l => exact absurd rfl (hd _ _)
  | non => exact .base .non
  | bl b => exact .base (.bl b)
  | int i => exact .base (.int i)
  | str z => exact .base (.str z)
  | lst a b =>
    rcases s.seq a with (h | ⟨o, h⟩) | ⟨o, its, n, h1, h2, _⟩
    · exact .base (.lst h)
    · exact .base (.frz h)
    · exact .kList h1 h2
  | tup a b =>
    rcases same_t s a with (h | ⟨o, h⟩) | ⟨o, its, n, h1, h2, _⟩
    · exact .base (.tup h)
    · exact .fTuple h
    · exact .kTuple h1 h2
/-- the built-in classes that are asked for, by data's own classes -/
def isT (T : String) (d : D) : Option Bool := match d with
  | .dict (_ :: _) => none
  | d => kitB (tyD d) T
theorem isT_nd {T : String} {d : D} {b : Bool} (h : isT T d = some b) : ∀ p kvs, d ≠ .dict (p :: kvs) := fun p kvs e => by
  subst e
  cases h
def mIsi (T : String) (a : M) : M := fun δ => (a δ).bind fun d => R.of ((isT T d).map .bool)
theorem pe_bty {X : Cx} {x : Str} {T : String} {pos : Pos} (hg : Gl X x) (hm : X.mg x = none) (hv : bootBuiltins x = some (.type T)) (hn : x ≠ "__name__") (hdb : (x == ("__debug__" : Str)) = false) : PE X (.Name x pos) (tC (.ty T)) :=
  ⟨fun pins s σ H Q I h => ld_blt I hg hm hv ⟨.ty T, H, I, rfl, h⟩ hn hdb⟩
theorem me_isi {X : Cx} {W : WX} {a : Expr} {ma : M} {x : Str} {T : String} {p p2 pos : Pos} (hgi : Gl X "isinstance") (hmi : X.mg "isinstance" = none) (ha : ME X W a ma) (hg : Gl X x) (hm : X.mg x = none) (hv : bootBuiltins x = some (.type T)) (hn : x ≠ "__name__") (hdb : (x == ("__debug__" : Str)) = false)
    (he : starEach [a, .Name x p2] X.env = (false, eval a X.env) :: starEach [.Name x p2] X.env) (he2 : starEach [.Name x p2] X.env = (false, eval (.Name x p2) X.env) :: starEach [] X.env) (hpl : (backTo pos (starEach [.Name x p2] X.env)).any (·.1) = false) :
    ME X W (.Call (.Name "isinstance" p) [a, .Name x p2] [] pos) (mIsi T ma) := by
  refine PE.imp (pe_callB call_isi hgi hmi (by decide +kernel) (pa_cons ha (pa_cons (pe_bty hg hm hv hn hdb) pa_nil he2) he) (by decide) (by decide) he hpl) fun σ H Q ⟨F, δ, s, v, h⟩ => ?_
  refine tM_bind s v h fun d y F1 H1 _ E hx h1 => ?_
  cases q : isT T d with
  | none => rw [q] at h1; exact h1.elim
  | some b =>
    rw [q] at h1
    refine ⟨y, .ty T, .type (tyD d), .type T, b, rfl, .ty T, tyx_of E.s hx (isT_nd q), ?_, h1 (.bl b) F1 H1 (Ext.refl E.s) (.bl b)⟩
    unfold isT at q
    split at q
    · cases q
    · exact kit_ty q
end MI
set_option Elab.async false
set_option linter.all false
set_option maxRecDepth 100000
set_option maxHeartbeats 4000000
namespace MI
open PySem PySem.Spec PyProof.Rows L2
/-- a def of the row, with what it tells; dds: the defaults that a call may leave out -/
structure DefOk (P : Program) (w : World) (K : PySem.W.Frag) (mg : Str → Option Value) (base : Heap) (k : Nat) (x : Str) (n : Nat) (f : List D → R D) (dds : List (List D)) : Prop where
  gl : mg x = some (.ref (He.ga K x))
  ex : ∃ (fd : FuncData) (ps : List Str), PySem.W.keepIn K (.ref (He.ga K x)) = true ∧ FnOk P w K mg base (L2.CX P w) k (He.ga K x) fd ps (spD K mg n f) ∧ ∀ dd ∈ dds, ∃ (dvs : List V) (ds : List Value), Vals dvs ds ∧ (∀ F, DpAll K F dvs dd) ∧ Binds K fd ps ds
theorem me_def {X : Cx} {W : WX} {j k n : Nat} {x : Str} {p pos : Pos} {e : Expr} {es : List Expr} {m : Vw → R (List D)} {fn : List D → R D} {dds : List (List D)} {dd : List D}
    (G : DefOk X.prog X.w X.K X.mg X.base k x n fn dds) (hr : Room j X.A) (tk : Takes X W) (ha : MA X W (e :: es) m) (hmem : dd ∈ dds := by first | exact List.mem_cons_self | simp) (hk : k ≤ j := by decide) (hg : Gl X x := by rfl)
    (hdb : (x == ("__debug__" : Str)) = false := by decide) (he : starEach (e :: es) X.env = (false, eval e X.env) :: starEach es X.env := by rfl) (hpl : (backTo pos (starEach es X.env)).any (·.1) = false := by rfl) :
    ME X W (.Call (.Name x p) (e :: es) [] pos) (mCall n fn dd m) := by
  obtain ⟨fd, ps, kp, F, b⟩ := G.ex
  obtain ⟨dvs, ds, h1, h2, h3⟩ := b dd hmem
  exact me_call F (hr.mono hk) hg G.gl kp h3 h1 h2 tk ha hdb he hpl
/-- the package of a def -/
theorem def_ok {P : Program} {w : World} {K : PySem.W.Frag} {mg : Str → Option Value} {base : Heap} {d : He.DefD} {k n : Nat} {f : List D → R D} {dds : List (List D)} {fd : FuncData} {ps : List Str} (gl : mg d.name = some (.ref (He.ga K d.name)))
    (F : FunD K d.name d.qual d.params d.body d.scope (d.dvs K) (d.kws K) (He.ga K d.name) fd) (G : FnOk P w K mg base (L2.CX P w) k (He.ga K d.name) fd ps (spD K mg n f))
    (b : ∀ dd ∈ dds, ∃ (dvs : List V) (ds : List Value), Vals dvs ds ∧ (∀ F, DpAll K F dvs dd) ∧ Binds K fd ps ds) : DefOk P w K mg base k d.name n f dds := ⟨gl, fd, ps, F.kp, G, b⟩
section
variable {X : Cx} {W : WX}
theorem mv (i : Nat) {x : Str} {pos : Pos} (hN : X.N[i]? = some x := by rfl) (hv : Vis X.env.scope x := by first | exact Or.inl rfl | exact Or.inr (Or.inl rfl) | exact Or.inr (Or.inr rfl)) (hd : (x == ("__debug__" : Str)) = false := by decide)
    (hcd : (x == ("__classdict__" : Str)) = false := by decide) : ME X W (.Name x pos) (mVar i) := me_var hN hv hd hcd
theorem mac {a : Expr} {ma : M} {es : List Expr} {mr : Vw → R (List D)} (ha : ME X W a ma) (hr : MA X W es mr) (hs : starEach (a :: es) X.env = (false, eval a X.env) :: starEach es X.env := by rfl) : MA X W (a :: es) (mCons ma mr) := ma_cons ha hr hs
theorem mbin {op : Operator} {f : D → D → Option D} {pos : Pos} {a b : Expr} {ma mb : M} (ho : OpR X (binaryOp op) (rD2 X.K f)) (ha : ME X W a ma) (hb : ME X W b mb) : ME X W (.BinOp a op b pos) (mBin f ma mb) := me_op ho ha hb
theorem mcmp {op : CmpOp} {f : D → D → Option D} {pos : Pos} {a b : Expr} {ma mb : M} (ho : OpR X (compareOp op) (rD2 X.K f)) (ha : ME X W a ma) (hb : ME X W b mb) (hm : behindInMarks op b = false := by rfl) : ME X W (.Compare a [op] [b] pos) (mBin f ma mb) := me_cmp ho ha hb hm
theorem tcmp {op : CmpOp} {f : D → D → Option D} {pos : Pos} {a b : Expr} {ma mb : M} (ho : OpR X (compareOp op) (rD2 X.K f)) (hf : ∀ x y d, f x y = some d → ∃ z : Bool, d = .bool z) (ha : ME X W a ma) (hb : ME X W b mb) (hm : behindInMarks op b = false := by rfl) : MT X W (.Compare a [op] [b] pos) (mTru (mBin f ma mb)) := mt_cmp ho hf ha hb hm
theorem ttru {a : Expr} {ma : M} (ha : ME X W a ma) (he : ∀ whole, isTrue a X.env whole = (do let v ← whole; standAt a.pos; holding [v] (truthy v)) := by intro _; rfl) : MT X W a (mTru ma) := mt_tru ha he
theorem mix {pos : Pos} {a b : Expr} {ma mb : M} (ha : ME X W a ma) (hb : ME X W b mb) (hs : PlainIx b := by exact fun _ _ => rfl) : ME X W (.Subscript a b pos) (mBin fIx ma mb) := me_ix ix_seq i_ix ha hb hs
theorem mcB {x : Str} {p pos : Pos} {e : Expr} {es : List Expr} {m : Vw → R (List D)} {id : String} {f : List D → Option D} (hc : CallR X (.builtin id) (rDs X.K f)) (hm : X.mg x = none) (ha : MA X W (e :: es) m) (hg : Gl X x := by rfl) (hv : bootBuiltins x = some (.builtin id) := by decide +kernel) (hn : x ≠ "__name__" := by decide) (hdb : (x == ("__debug__" : Str)) = false := by decide)
    (he : starEach (e :: es) X.env = (false, eval e X.env) :: starEach es X.env := by rfl) (hpl : (backTo pos (starEach es X.env)).any (·.1) = false := by rfl) : ME X W (.Call (.Name x p) (e :: es) [] pos) (mDs f m) := me_cB hc hg hm hv ha hn hdb he hpl
theorem mcT {x : Str} {p pos : Pos} {e : Expr} {es : List Expr} {m : Vw → R (List D)} {T : String} {f : List D → Option D} (hc : CallR X (.type T) (rDs X.K f)) (hm : X.mg x = none) (ha : MA X W (e :: es) m) (hg : Gl X x := by rfl) (hv : bootBuiltins x = some (.type T) := by decide +kernel) (hn : x ≠ "__name__" := by decide) (hdb : (x == ("__debug__" : Str)) = false := by decide)
    (he : starEach (e :: es) X.env = (false, eval e X.env) :: starEach es X.env := by rfl) (hpl : (backTo pos (starEach es X.env)).any (·.1) = false := by rfl) : ME X W (.Call (.Name x p) (e :: es) [] pos) (mDs f m) := me_cT hc hg hm hv ha hn hdb he hpl
theorem misi {a : Expr} {ma : M} {x : Str} {p p2 pos : Pos} (T : String) (hmi : X.mg "isinstance" = none) (hm : X.mg x = none) (ha : ME X W a ma) (hgi : Gl X "isinstance" := by rfl) (hg : Gl X x := by rfl) (hv : bootBuiltins x = some (.type T) := by decide +kernel) (hn : x ≠ "__name__" := by decide) (hdb : (x == ("__debug__" : Str)) = false := by decide)
    (he : starEach [a, .Name x p2] X.env = (false, eval a X.env) :: starEach [.Name x p2] X.env := by rfl) (he2 : starEach [.Name x p2] X.env = (false, eval (.Name x p2) X.env) :: starEach [] X.env := by rfl) (hpl : (backTo pos (starEach [.Name x p2] X.env)).any (·.1) = false := by rfl) :
    ME X W (.Call (.Name "isinstance" p) [a, .Name x p2] [] pos) (mIsi T ma) := me_isi hgi hmi ha hg hm hv hn hdb he he2 hpl
theorem sset (i : Nat) {pos : Pos} {x : Str} {e : Expr} {m : M} {pos' : Pos} (hN : X.N.Nodup) (he : ME X W e m) (hi : X.N[i]? = some x := by rfl) (hx : Loc X.env.scope x := by first | exact Or.inl rfl | exact Or.inr rfl) (hs : swapsWith e (some (.Name x pos')) pos.line X.env = pure false := by rfl) (hf : X.fn x = true ∨ X.env.scope.names.lookup x = some .local := by first | exact .inl rfl | exact .inr rfl) :
    MS X W (.Assign [.Name x pos'] e pos) (sSet i m) := ms_set hN hi hx he hs hf
theorem spar (i j : Nat) {pos : Pos} {x y : Str} {e f : Expr} {m : Vw → R (List D)} {px py pt : Pos} {kt k2 pt2} (hN : X.N.Nodup) (ha : MA X W [e, f] m) (hc : X.calm = true := by rfl) (hi : X.N[i]? = some x := by rfl) (hj : X.N[j]? = some y := by rfl) (hij : i ≠ j := by decide)
    (hx : X.env.scope.names.lookup x = some .local := by rfl) (hy : X.env.scope.names.lookup y = some .local := by rfl)
    (hw : swappedStores [.Tuple [.Name x px, .Name y py] kt pt] (.Tuple [e, f] k2 pt2) X.env = pure (some [x, y]) := by rfl)
    (hs : swapsWithSole [.Tuple [.Name x px, .Name y py] kt pt] (.Tuple [e, f] k2 pt2) pos.line X.env = pure false := by rfl) :
    MS X W (.Assign [.Tuple [.Name x px, .Name y py] kt pt] (.Tuple [e, f] k2 pt2) pos) (sPar i j m) := ms_par hc hN hi hj hij hx hy ha hw hs
theorem gname (i : Nat) {x : Str} {pos : Pos} (hN : X.N.Nodup) (hi : X.N[i]? = some x := by rfl) (hx : Loc X.env.scope x := by first | exact Or.inl rfl | exact Or.inr rfl) (hf : X.fn x = true ∨ X.env.scope.names.lookup x = some .local := by first | exact .inl rfl | exact .inr rfl) : PG X (.Name x pos) (gName i) := pg_name hN hi hx hf
theorem sasg {pos : Pos} {tg e : Expr} {m : M} {r : TG} {t : Tg} (he : ME X W e m) (hg : PG X tg r) (ht : TgOk X.K r t) (hs : swapsWithSole [tg] e pos.line X.env = pure false := by rfl) (hw : swappedStores [tg] e X.env = pure none := by rfl) (h1 : (assignEach [tg] X.env).map (·.2) = [assign tg X.env] := by rfl) : MS X W (.Assign [tg] e pos) (sAsg t m) := ms_asg he hg ht hs hw h1
/-- a module's int, text -/
theorem mgInt {x : Str} {i : Int} {pos : Pos} (hm : ∃ t, X.mg x = some (.int i t)) (hg : Gl X x := by rfl) (hd : (x == ("__debug__" : Str)) = false := by decide) : ME X W (.Name x pos) (mC (.int i)) := by
  obtain ⟨t, h⟩ := hm
  exact me_c (pe_glob (v := .int i) hg h ⟨t, rfl⟩ hd) fun _ => .int i
theorem mgStr {x z : Str} {pos : Pos} (hm : ∃ t, X.mg x = some (.str z t)) (hg : Gl X x := by rfl) (hd : (x == ("__debug__" : Str)) = false := by decide) : ME X W (.Name x pos) (mC (.str z)) := by
  obtain ⟨t, h⟩ := hm
  exact me_c (pe_glob (v := .str z) hg h ⟨t, rfl⟩ hd) fun _ => .str z
end
end MI
namespace MI
open PySem PySem.Spec PyProof.Rows L2
/-- further facts: an exception's class as isinstance asks it; isinstance's answer for two classes, for a class and a built-in one; a module's tuple -/
inductive Fx where
  | exc (x : Str)
  | kit (x y : Str) (b : Bool)
  | kitB (x : Str) (T : String) (b : Bool)
  | tup (x : Str) (vs : List He.Dv)
  | oex (x f : Str)
/-- a class of exceptions with an __init__ of its own -/
def oexIn (K : PySem.W.Frag) (C : Addr) : Bool := match K.lookup C with
  | some ⟨.type "type", _, .cls cd, sl⟩ => (match cd.mro, sl.toList with
    | .ref C' :: bm, [_, _, _, _, some (.builtin n), _] => C' == C && n == "ValueError.__new__" && !cd.hasDel && PySem.HandSPX.refsVE bm && cd.hasDict
    | _, _ => false)
  | _ => false
theorem oexIn_ok {K : PySem.W.Frag} {C : Addr} (q : oexIn K C = true) : ∃ nm q N bs bm sn sub ab col dd k0 k1 k2 k3 k5, K.lookup C = some (excClassObj nm q C N bs bm true sn sub ab col dd k0 k1 k2 k3 k5 "ValueError.__new__") ∧ PySem.HandSPX.refsVE bm = true := by
  unfold oexIn at q
  split at q
  · rename_i dd cd sl ho
    split at q
    · rename_i C' bm k0 k1 k2 k3 n k5 hm hs
      simp only [Bool.and_eq_true, beq_iff_eq, Bool.not_eq_true'] at q
      obtain ⟨⟨⟨⟨rfl, rfl⟩, hdel⟩, ht⟩, hdct⟩ := q
      obtain ⟨nm, bs, mro, ns, qn, hd, sn, sub, ab, col, del⟩ := cd
      dsimp only at hm hdel hdct
      subst hm hdel hdct
      have hsl : sl = #[k0, k1, k2, k3, some (.builtin "ValueError.__new__"), k5] := by
        obtain ⟨l⟩ := sl
        simp only at hs
        rw [hs]
      subst hsl
      exact ⟨nm, qn, ns, bs, bm, sn, sub, ab, col, dd, k0, k1, k2, k3, k5, ho, ht⟩
    · cases q
  · cases q
def eqB (a b : Option Bool) : Bool := decide (a = b)
def Fx.ok (K : PySem.W.Frag) : Fx → Bool
  | .exc x => He.eqO (PySem.W.findIn K (.ref (He.ga K x)) "__getattribute__") (some (some (.builtin "BaseException.__getattribute__"))) && (He.eqO (PySem.W.findIn K (.ref (He.ga K x)) "__getattr__") (some none) &&
      (eqB (PySem.W.subIn K (.ref (He.ga K x)) (.type "BaseException")) (some true) && (PySem.W.hasDictIn K (He.ga K x) && (He.eqO (PySem.W.findIn K (.ref (He.ga K x)) "__class__") (some (some (.builtin "object.__class__"))) &&
      (He.eqO (PySem.W.specialIn K (.builtin "object.__class__") "__get__") (some (some (.builtin "getset_descriptor.__get__"))) && (eqB (PySem.W.takesIn K (.builtin "object.__class__")) (some true) && eqB (PySem.W.mroIn K (He.ga K x) (.type "object")) (some true)))))))
  | .kit x y b => eqB (PySem.W.kitOne K (.ref (He.ga K x)) (.ref (He.ga K y))) (some b)
  | .kitB x T b => eqB (PySem.W.kitOne K (.ref (He.ga K x)) (.type T)) (some b)
  | .tup x vs => He.tupB K x vs
  | .oex x f => oexIn K (He.ga K x) && (He.eqO (PySem.W.findIn K (.ref (He.ga K x)) "__setattr__") (some (some (.builtin "object.__setattr__"))) && (eqB (PySem.W.subIn K (.ref (He.ga K x)) (.type "BaseException")) (some true) && (decide (PySem.W.typeIn K (.ref (He.ga K x)) = some (.type "type")) &&
      (PySem.W.keepIn K (.ref (He.ga K x)) && (He.eqO (PySem.W.findIn K (.ref (He.ga K x)) f) (some none) && (He.eqO (PySem.W.findIn K (.ref (He.ga K x)) "__init__") (some (some (.ref (He.ma K (He.ga K x) "__init__")))) && decide (PySem.W.typeIn K (.ref (He.ma K (He.ga K x) "__init__")) = some (.type "function"))))))))
/-- what is so of such a class -/
structure OexF (K : PySem.W.Frag) (x f : Str) : Prop where
  T : OexC K (He.ga K x)
  no : PySem.W.findIn K (.ref (He.ga K x)) f = some none
  iC : PySem.W.findIn K (.ref (He.ga K x)) "__init__" = some (some (.ref (He.ma K (He.ga K x) "__init__")))
  tI : PySem.W.typeIn K (.ref (He.ma K (He.ga K x) "__init__")) = some (.type "function")
theorem fx_oex {K : PySem.W.Frag} {x f : Str} (h : (Fx.oex x f).ok K = true) : OexF K x f := by
  obtain ⟨h1, h⟩ := He.ba h
  obtain ⟨h2, h⟩ := He.ba h
  obtain ⟨h3, h⟩ := He.ba h
  obtain ⟨h4, h⟩ := He.ba h
  obtain ⟨h5, h⟩ := He.ba h
  obtain ⟨h6, h⟩ := He.ba h
  obtain ⟨h7, h8⟩ := He.ba h
  exact ⟨⟨oexIn_ok h1, He.eqO_ok h2, of_decide_eq_true h3, of_decide_eq_true h4, h5⟩, He.eqO_ok h6, He.eqO_ok h7, of_decide_eq_true h8⟩
abbrev AlM : Type := He.AlD × Bool
def obsM (n : Nat) (fa : List He.Fa) (fn : List He.DefD) (fx : List Fx) (g : Addr → Option Obj) : AlM := (He.obsDG n fa fn g, fx.all fun f => f.ok (He.frG g (He.asD g n)))
def hookM (n : Nat) (fa : List He.Fa) (fn : List He.DefD) (fx : List Fx) : PySem.W.Hook where
  α := AlM
  obs := fun s => obsM n fa fn fx s.heap.get?
  val := fun _ => (He.valD fn, true)
  says := fun _ h => ∃ K : PySem.W.Frag, K.In h ∧ He.SaysD fa fn K ∧ (fx.all fun f => f.ok K) = true
  of := fun _ _ e => ⟨_, He.frG_in, congrArg (fun z : AlM => z.1) e, congrArg (fun z : AlM => z.2) e⟩
  keeps := fun _ _ _ ⟨K, hK, c⟩ k => ⟨K, PySem.W.Frag.In.keeps hK k, c⟩
theorem obsM_eq {n : Nat} {fa : List He.Fa} {fn : List He.DefD} {fx : List Fx} {g : Addr → Option Obj} {s : Shared} (h : ∀ a, g a = s.heap.get? a) : obsM n fa fn fx g = (hookM n fa fn fx).obs s := by
  have e : g = s.heap.get? := funext h
  rw [e] <;> rfl
/-- what the row's top has left, by facts -/
structure Tx (fa : List He.Fa) (fn : List He.DefD) (fx : List Fx) (K : PySem.W.Frag) (mg : Str → Option Value) : Prop where
  says : He.SaysD fa fn K
  at_ : ∃ h : Heap, K.In h ∧ h.Ns mainGlobals mg
  more : (fx.all fun f => f.ok K) = true
section
variable {fa : List He.Fa} {fn : List He.DefD} {fx : List Fx} {K : PySem.W.Frag} {mg : Str → Option Value}
theorem Tx.glo (T : Tx fa fn fx K mg) (i : Nat) {x : Str} (h : fa[i]? = some (.glo x) := by rfl) : mg x = some (.ref (He.ga K x)) := let ⟨_, a, b⟩ := T.at_; He.glo_ok a b (T.says.fact i h)
theorem Tx.free (T : Tx fa fn fx K mg) (i : Nat) {x : Str} (h : fa[i]? = some (.free x) := by rfl) : mg x = none := let ⟨_, a, b⟩ := T.at_; He.free_ok a b (T.says.fact i h)
theorem Tx.int (T : Tx fa fn fx K mg) (i : Nat) {x : Str} {z : Int} (h : fa[i]? = some (.int x z) := by rfl) : ∃ t, mg x = some (.int z t) := let ⟨_, a, b⟩ := T.at_; He.int_ok a b (T.says.fact i h)
theorem Tx.str (T : Tx fa fn fx K mg) (i : Nat) {x z : Str} (h : fa[i]? = some (.str x z) := by rfl) : ∃ t, mg x = some (.str z t) := let ⟨_, a, b⟩ := T.at_; He.str_ok a b (T.says.fact i h)
theorem Tx.exc (T : Tx fa fn fx K mg) (i : Nat) {x : Str} (h : fa[i]? = some (.exc x) := by rfl) : (He.Fa.exc x).ok K = true := T.says.fact i h
theorem Tx.mo (T : Tx fa fn fx K mg) (i : Nat) {f : Fx} (h : fx[i]? = some f := by rfl) : f.ok K = true := List.all_eq_true.mp T.more f (List.mem_of_getElem? h)
theorem Tx.kit (T : Tx fa fn fx K mg) (i : Nat) {x y : Str} {b : Bool} (h : fx[i]? = some (.kit x y b) := by rfl) : PySem.W.kitOne K (.ref (He.ga K x)) (.ref (He.ga K y)) = some b := of_decide_eq_true (T.mo i h)
theorem Tx.kitB (T : Tx fa fn fx K mg) (i : Nat) {x : Str} {n : String} {b : Bool} (h : fx[i]? = some (.kitB x n b) := by rfl) : PySem.W.kitOne K (.ref (He.ga K x)) (.type n) = some b := of_decide_eq_true (T.mo i h)
theorem Tx.oex (T : Tx fa fn fx K mg) (i : Nat) {x f : Str} (h : fx[i]? = some (.oex x f) := by rfl) : OexF K x f := fx_oex (T.mo i h)
theorem Tx.tup (T : Tx fa fn fx K mg) (i : Nat) {x : Str} {vs : List He.Dv} (h : fx[i]? = some (.tup x vs) := by rfl) (H : Hp) : SqT K H (He.ga K x) (vs.map (He.Dv.v K)) := He.tupB_ok (T.mo i h) H
end
theorem all0 {α : Type} {P : α → Prop} : ∀ x ∈ ([] : List α), P x := fun _ h => nomatch h
theorem allC {α : Type} {P : α → Prop} {a : α} {r : List α} (h : P a) (hr : ∀ x ∈ r, P x) : ∀ x ∈ a :: r, P x := fun x hx => by
  rcases List.mem_cons.mp hx with e | e
  · rw [e]; exact h
  · exact hr x e
theorem hu65 {A : Around} {k : Nat} (hr : Room k A) : A.units + 65 < cLine := by
  have := hr.un
  omega
end MI
set_option Elab.async false
set_option linter.all false
set_option maxRecDepth 100000
set_option maxHeartbeats 4000000
namespace MI
open PySem PySem.Spec PyProof.Rows L2
def wipeV (δ : Vw) : List Nat → Vw
  | [] => δ
  | v :: vs => (wipeV δ vs).set v none
theorem wipe_get {σ : L2.St} {j : Nat} : ∀ vs : List Nat, (wipe σ vs)[j]? = if j ∈ vs then (if j < σ.length then some none else none) else σ[j]?
  | [] => by simp [wipe]
  | v :: vs => by
    unfold wipe
    rw [List.getElem?_set, wipe_length, wipe_get vs]
    by_cases e : v = j
    · subst e
      simp
    · have e' : ¬ j = v := fun h => e h.symm
      simp [e, e']
theorem wipe_idem {σ : L2.St} {vs : List Nat} : wipe (wipe σ vs) vs = wipe σ vs := by
  apply List.ext_getElem?
  intro j
  rw [wipe_get, wipe_length, wipe_get]
  by_cases h : j ∈ vs <;> simp [h]
theorem wipe_set {σ : L2.St} {vs : List Nat} {i : Nat} {x : Option V} (h : i ∈ vs) : wipe (σ.set i x) vs = wipe σ vs := by
  apply List.ext_getElem?
  intro j
  rw [wipe_get, wipe_get, List.length_set]
  by_cases hj : j ∈ vs
  · simp [hj]
  · have : i ≠ j := fun e => hj (e ▸ h)
    simp [hj, List.getElem?_set_ne this]
theorem VwOk.wipe {K : PySem.W.Frag} {F : Hp} {σ : L2.St} {δ : Vw} (h : VwOk K F σ δ) : ∀ vs : List Nat, VwOk K F (L2.wipe σ vs) (wipeV δ vs)
  | [] => h
  | v :: vs => by
    have ih := VwOk.wipe h vs
    unfold L2.wipe wipeV
    refine ⟨by simpa using ih.1, fun i d q => ?_⟩
    rw [List.getElem?_set] at q ⊢
    by_cases e : v = i
    · subst e
      rw [if_pos rfl] at q
      split at q <;> cases q
    · rw [if_neg e] at q ⊢
      exact ih.2 i d q
theorem VwOk.set {K : PySem.W.Frag} {F : Hp} {σ : L2.St} {δ : Vw} (h : VwOk K F σ δ) {i : Nat} {v : V} {d : D} (hd : Dp K F v d) : VwOk K F (σ.set i (some v)) (δ.set i (some d)) := by
  refine ⟨by simpa using h.1, fun j e q => ?_⟩
  rw [List.getElem?_set] at q ⊢
  by_cases z : i = j
  · subst z
    rw [if_pos rfl] at q ⊢
    split at q
    · rename_i l
      cases q
      rw [if_pos (Nat.lt_of_lt_of_le l h.1)]
      exact ⟨v, rfl, hd⟩
    · cases q
  · rw [if_neg z] at q ⊢
    exact h.2 j e q
abbrev VTg := D → Vw → Option Vw
def vN (i : Nat) : VTg := fun d δ => some (δ.set i (some d))
def VTgOk (K : PySem.W.Frag) (vs : List Nat) (r : TG) (t : VTg) : Prop := ∀ (F H : Hp) (σ : L2.St) (δ δ' : Vw) (v : V) (d : D) (Q : L2.St → Hp → Prop),
  Same F H → VwOk K F σ δ → Dp K F v d → t d δ = some δ' → (∀ σ', VwOk K F σ' δ' → wipe σ' vs = wipe σ vs → Q σ' H) → r v σ H Q
theorem vN_ok {K : PySem.W.Frag} {vs : List Nat} {i : Nat} (h : i ∈ vs) : VTgOk K vs (gName i) (vN i) := fun F H σ δ δ' v d Q s ok hd e q => by
  cases e
  exact q _ (ok.set hd) (wipe_set h)
structure ItOk (K : PySem.W.Frag) (F : Hp) (J : L2.It) (ds : List D) : Prop where
  go : ∀ (i : Nat) (H : Hp) (d : D), Same F H → ds[i]? = some d → J.go i H ∧ ∀ x H' F2, Same F F2 → Same F2 H → J.yld i H x H' → ∃ F3, Ext F2 H F3 H' ∧ Dp K F3 x d
  stop : ∀ (i : Nat) (H : Hp), Same F H → ds.length ≤ i → J.stop i H
theorem it_list {K : PySem.W.Frag} {F : Hp} {a : Addr} {xs : List V} {ds : List D} (hs : SqL K F a xs) (ha : DpAll K F xs ds) : ItOk K F (Itl K a) ds := by
  refine ⟨fun i H d s e => ?_, fun i H s l => ⟨xs, s.seq hs, by rw [dpa_len ha]; exact l⟩⟩
  obtain ⟨v, h1, h2⟩ := dpa_get ha e
  refine ⟨⟨xs, v, s.seq hs, h1⟩, fun x H' F2 f2 s2 ⟨e1, y⟩ => ?_⟩
  subst e1
  have := y xs (s.seq hs)
  rw [h1] at this
  cases this
  exact ⟨F2, Ext.refl s2, dp_mono f2 d h2⟩
theorem it_tup {K : PySem.W.Frag} {F : Hp} {a : Addr} {xs : List V} {ds : List D} (hs : SqT K F a xs) (ha : DpAll K F xs ds) : ItOk K F (Itt K a) ds := by
  refine ⟨fun i H d s e => ?_, fun i H s l => ⟨xs, same_t s hs, by rw [dpa_len ha]; exact l⟩⟩
  obtain ⟨v, h1, h2⟩ := dpa_get ha e
  refine ⟨⟨xs, v, same_t s hs, h1⟩, fun x H' F2 f2 s2 ⟨e1, y⟩ => ?_⟩
  subst e1
  have := y xs (same_t s hs)
  rw [h1] at this
  cases this
  exact ⟨F2, Ext.refl s2, dp_mono f2 d h2⟩
theorem it_rng {K : PySem.W.Frag} {F : Hp} {lo : Int} {n : Nat} : ItOk K F (Itr lo n) (rngL lo 1 n) := by
  refine ⟨fun i H d s e => ?_, fun i H s l => by rw [rngL_len] at l; exact l⟩
  have hi : i < n := by
    have := (List.getElem?_eq_some_iff.mp e).1
    rwa [rngL_len] at this
  rw [rngL_get hi] at e
  cases e
  refine ⟨hi, fun x H' F2 f2 s2 ⟨e1, y⟩ => ?_⟩
  subst e1 y
  rw [Int.mul_one]
  exact ⟨F2, Ext.refl s2, .int _⟩
theorem it_rngC {K : PySem.W.Frag} {F : Hp} {lo c : Int} {n : Nat} : ItOk K F (Itc lo c n) (rngL lo c n) := by
  refine ⟨fun i H d s e => ?_, fun i H s l => by rw [rngL_len] at l; exact l⟩
  have hi : i < n := by
    have := (List.getElem?_eq_some_iff.mp e).1
    rwa [rngL_len] at this
  rw [rngL_get hi] at e
  cases e
  refine ⟨hi, fun x H' F2 f2 s2 ⟨e1, y⟩ => ?_⟩
  subst e1 y
  exact ⟨F2, Ext.refl s2, .int _⟩
def IPost (X : Cx) (W : WX) (F H : Hp) (σ : L2.St) (Q : L2.It → Hp → Prop) : R (List D) → Prop
  | .ok ds => ∀ F' H' J, Ext F H F' H' → ItOk X.K F' J ds → Q J H'
  | .exc c p => ∀ cls od F' H', Ext F H F' H' → XV X.K X.mg F' c p cls od → W cls od σ H'
  | .bad => False
def tI (X : Cx) (W : WX) (m : Vw → R (List D)) : TI := fun σ H Q => ∃ F δ, Same F H ∧ VwOk X.K F σ δ ∧ IPost X W F H σ Q (m δ)
abbrev MIt (X : Cx) (W : WX) (tg e : Expr) (m : Vw → R (List D)) : Prop := PI X tg e (tI X W m)
theorem PI.imp {X : Cx} {tg e : Expr} {t t' : TI} (h : PI X tg e t) (i : ∀ σ H Q, t' σ H Q → t σ H Q) : PI X tg e t' := ⟨fun pins s σ H Q I hw => h.run pins s σ H Q I (i _ _ _ hw)⟩
def mItems (m : M) : Vw → R (List D) := fun δ => (m δ).bind fun d => match d with
  | .list ds => .ok ds
  | .tuple ds => .ok ds
  | _ => .bad
def mRng (f : List D → Option (List D)) (m : Vw → R (List D)) : Vw → R (List D) := fun δ => (m δ).bind fun ds => R.of (f ds)
section
variable {X : Cx} {W : WX} {tg : Expr}
theorem mi_items {e : Expr} {m : M} (he : ME X W e m) : MIt X W tg e (mItems m) := by
  refine PI.imp (pi_lt he) fun σ H Q ⟨F, δ, s, v, h⟩ => ?_
  unfold mItems at h
  cases em : m δ with
  | ok d =>
    rw [em, R.bind_ok] at h
    cases d with
    | list ds =>
      refine .inl ⟨F, δ, s, v, ?_⟩
      rw [em]
      intro y F' H' E hy
      cases hy with
      | lst a b => exact ⟨_, rfl, ⟨_, E.s.seq a⟩, h F' H' _ E (it_list a b)⟩
    | tuple ds =>
      refine .inr ⟨F, δ, s, v, ?_⟩
      rw [em]
      intro y F' H' E hy
      cases hy with
      | tup a b => exact ⟨_, rfl, ⟨_, same_t E.s a⟩, h F' H' _ E (it_tup a b)⟩
    | _ => exact h.elim
  | exc c p =>
    rw [em] at h
    refine .inl ⟨F, δ, s, v, ?_⟩
    rw [em]
    exact h
  | bad => rw [em] at h; exact h.elim
theorem mi_post {F H : Hp} {σ : L2.St} {Q : L2.It → Hp → Prop} {o : Option (List D)} (h : IPost X W F H σ Q (R.of o)) : ∃ xs, o = some xs ∧ ∀ F' H' J, Ext F H F' H' → ItOk X.K F' J xs → Q J H' := by
  cases o with
  | none => exact h.elim
  | some d => exact ⟨d, rfl, h⟩
theorem tA_bindI {m : Vw → R (List D)} {f : List D → Option (List D)} {F H : Hp} {σ : L2.St} {δ : Vw} {Q : L2.It → Hp → Prop} {P : List V → Hp → Prop} (s : Same F H) (v : VwOk X.K F σ δ) (h : IPost X W F H σ Q ((m δ).bind fun ds => R.of (f ds)))
    (k : ∀ ds xs F' H' ys, Ext F H F' H' → DpAll X.K F' xs ds → f ds = some ys → (∀ J, ItOk X.K F' J ys → Q J H') → P xs H') : tA X W m σ H P := by
  refine ⟨F, δ, s, v, ?_⟩
  cases e : m δ with
  | ok ds =>
    rw [e, R.bind_ok] at h
    obtain ⟨ys, e1, q⟩ := mi_post h
    exact fun xs F' H' E hx => k ds xs F' H' ys E hx e1 fun J => q F' H' J E
  | exc c p => rw [e] at h; exact h
  | bad => rw [e] at h; exact h
theorem mi_rng1 {a : Expr} {m : Vw → R (List D)} {p pos : Pos} (hm : X.mg "range" = none) (ha : MA X W [a] m) (hG : Gl X "range" := by rfl) (hst : starEach [a] X.env = [(false, eval a X.env)] := by rfl) : MIt X W tg (.Call (.Name "range" p) [a] [] pos) (mRng rng1 m) := by
  refine PI.imp (pi_range1 hG hm ha hst) fun σ H Q ⟨F, δ, s, v, h⟩ => tA_bindI s v h fun ds xs F' H' ys E hx e q => ?_
  unfold rng1 at e
  split at e
  · split at e
    · rename_i l
      cases e
      obtain ⟨x, rfl, hv⟩ := dpa1 hx
      cases dp_int hv
      unfold lim62 at l
      rw [Bool.and_eq_true, decide_eq_true_eq, decide_eq_true_eq] at l
      exact ⟨_, rfl, l.1, l.2, q _ it_rng⟩
    · cases e
  · cases e
theorem mi_rng3 {a b c : Expr} {m : Vw → R (List D)} {p pos : Pos} (hm : X.mg "range" = none) (ha : MA X W [a, b, c] m) (hG : Gl X "range" := by rfl) (hst : starEach [a, b, c] X.env = (false, eval a X.env) :: starEach [b, c] X.env := by rfl) (hpl : (backTo pos (starEach [b, c] X.env)).any (·.1) = false := by rfl) :
    MIt X W tg (.Call (.Name "range" p) [a, b, c] [] pos) (mRng rng3 m) := by
  refine PI.imp (pi_range3 hG hm ha hst hpl) fun σ H Q ⟨F, δ, s, v, h⟩ => tA_bindI s v h fun ds xs F' H' ys E hx e q => ?_
  unfold rng3 at e
  split at e
  · split at e
    · rename_i l
      cases e
      obtain ⟨x, y, z, rfl, hv, hw, hz⟩ := dpa3 hx
      cases dp_int hv
      cases dp_int hw
      cases dp_int hz
      exact ⟨_, _, _, _, rfl, ⟨l.1, l.2.1, l.2.2.1, (Int.toNat_of_nonneg l.2.2.2).symm⟩, q _ it_rngC⟩
    · cases e
  · cases e
end
def NPost (X : Cx) (W : WX) (F H : Hp) (σ : L2.St) (Q : VK) : R (List D) → Prop
  | .ok ds => ∀ p xs F' H', Ext F H F' H' → H p = none → F' p = none → H' p = some (.lst xs) → DpAll X.K F' xs ds → Q (.ref p) H'
  | .exc c p => ∀ cls od F' H', Ext F H F' H' → XV X.K X.mg F' c p cls od → W cls od σ H'
  | .bad => False
def tN (X : Cx) (W : WX) (m : Vw → R (List D)) : TE := fun σ H Q => ∃ F δ, Same F H ∧ VwOk X.K F σ δ ∧ NPost X W F H σ Q (m δ)
/-- an expression that makes a list anew -/
abbrev MN (X : Cx) (W : WX) (e : Expr) (m : Vw → R (List D)) : Prop := PE X e (tN X W m)
def mL (m : Vw → R (List D)) : M := fun δ => (m δ).bind fun ds => .ok (.list ds)
theorem Ext.frzOne {F H F' H' : Hp} (E : Ext F H F' H') {p : Addr} {xs : List V} (h0 : H p = none) (hF : F' p = none) (hH : H' p = some (.lst xs)) : Ext F H (upd F' p (.lst xs)) H' := by
  refine ⟨fun a o e => ?_, E.h, fun a o e => ?_, fun a o e n => ?_⟩
  · have := E.f a o e
    rw [upd_ne (ne_of_none this hF)]
    exact this
  · by_cases z : a = p
    · subst z
      rw [upd_same] at e
      cases e
      exact hH
    · rw [upd_ne z] at e
      exact E.s a o e
  · by_cases z : a = p
    · subst z; exact h0
    · rw [upd_ne z] at e
      exact E.n a o e n
theorem new_read {X : Cx} {W : WX} {m : Vw → R (List D)} {σ : L2.St} {H : Hp} {Q : VK} (h : tM X W (mL m) σ H Q) : tN X W m σ H Q := by
  obtain ⟨F, δ, s, v, q⟩ := h
  refine ⟨F, δ, s, v, ?_⟩
  unfold mL at q
  cases em : m δ with
  | ok ds =>
    rw [em, R.bind_ok] at q
    intro p xs F' H' E h0 hF hH hd
    refine q _ _ _ (E.frzOne h0 hF hH) (.lst (SqL.of upd_same) (dpa_mono (fun a o w => ?_) _ hd))
    rw [upd_ne (ne_of_none w hF)]
    exact w
  | exc c p => rw [em] at q; exact q
  | bad => rw [em] at q; exact q
theorem me_new {X : Cx} {W : WX} {e : Expr} {m : Vw → R (List D)} (h : MN X W e m) : ME X W e (mL m) := PE.imp h fun σ H Q q => new_read q
def sOwn (i : Nat) (m : Vw → R (List D)) : S := fun g => (m (vd g)).to g fun ds => .nx (g.set i (.own ds))
def nLst (m : Vw → R (List D)) : Vw → R (List D) := fun δ => (m δ).bind fun ds => if ds.length ≤ most then .ok ds else .bad
def nOf (m : M) : Vw → R (List D) := fun δ => (m δ).bind fun d => match d with
  | .list ds => .ok ds
  | .tuple ds => .ok ds
  | _ => .bad
section
end
def loopC (t : VTg) (tt : Vw → R Bool) (te : M) (δ0 : Vw) : List D → List D → R (List D)
  | [], acc => .ok acc
  | d :: ds, acc => match t d δ0 with
    | none => .bad
    | some δ => match tt δ with
      | .ok true => (match te δ with
        | .ok y => if acc.length < most then loopC t tt te δ0 ds (acc ++ [y]) else .bad
        | _ => .bad)
      | .ok false => loopC t tt te δ0 ds acc
      | _ => .bad
def nLc (it : Vw → R (List D)) (vs : List Nat) (t : VTg) (tt : Vw → R Bool) (te : M) : Vw → R (List D) := fun δ => (it δ).bind fun ds => loopC t tt te (wipeV δ vs) ds []
def mYes : Vw → R Bool := fun _ => .ok true
abbrev W0 : WX := fun _ _ _ _ => False
abbrev MTs (X : Cx) (ifs : List Expr) (m : Vw → R Bool) : Prop := PTs X ifs (tT X W0 m)
theorem mts_nil {X : Cx} : MTs X [] mYes := ⟨fun pins s σ H Q I ⟨F, δ, sm, v, h⟩ => pts_nil.run pins s σ H Q I (h F H (Ext.refl sm))⟩
theorem mts_one {X : Cx} {c : Expr} {t : Vw → R Bool} (h : MT X W0 c t) : MTs X [c] t := ⟨fun pins s σ H Q I hw => (pts_one h).run pins s σ H Q I hw⟩
theorem lc_key {K : PySem.W.Frag} {mg : Str → Option Value} {vs : List Nat} {g : TG} {t : VTg} {tt : Vw → R Bool} {te : M} {ttr : TT} {ter : TE} (ht : VTgOk K vs g t)
    (htt : ∀ F H σ δ b Q, Same F H → VwOk K F σ δ → tt δ = .ok b → (∀ F' H', Ext F H F' H' → Q b H') → ttr σ H Q) (hte : ∀ F H σ δ y Q, Same F H → VwOk K F σ δ → te δ = .ok y → (∀ v F' H', Ext F H F' H' → Dp K F' v y → Q v H') → ter σ H Q)
    {F1 H1 : Hp} {σ : L2.St} {δ : Vw} {J : L2.It} {ds res : List D} {Q : VK} (s : Same F1 H1) (v : VwOk K F1 σ δ) (io : ItOk K F1 J ds) (he : loopC t tt te (wipeV δ vs) ds [] = .ok res)
    (q : ∀ p xs F' H', Ext F1 H1 F' H' → H1 p = none → F' p = none → H' p = some (.lst xs) → DpAll K F' xs res → Q (.ref p) H') :
    ∀ Dl, H1 Dl = none → ∃ W : Nat → Nat → Hp → Prop, (∃ m, W 0 m (upd H1 Dl (.lst []))) ∧ ∀ i m H, W i m H →
      (J.stop i H ∧ Q (.ref Dl) H) ∨ (J.go i H ∧ ∃ Nx : Hp → Prop, (∀ H', Nx H' → ∃ m', m' < m ∧ W (i + 1) m' H') ∧ ∀ x H', J.yld i H x H' → g x (wipe σ vs) H' fun σ2 H2 => wipe σ2 vs = wipe σ vs ∧ ttr σ2 H2 fun b H3 =>
        if b = true then ter σ2 H3 fun y H4 => ∃ acc, H4 Dl = some (.lst acc) ∧ acc.length < sizeLine ∧ Nx (upd H4 Dl (.lst (acc ++ [y]))) else Nx H3) := by
  intro Dl hD
  -- behind i items: the list at Dl holds acc
  let Pv : Nat → Hp → Prop := fun i H => ∃ F2 acc accD, Same F1 F2 ∧ Same F2 H ∧ Same H1 H ∧ (∀ a o, F2 a = some o → F1 a = none → H1 a = none) ∧ F2 Dl = none ∧ H Dl = some (.lst acc) ∧ DpAll K F2 acc accD ∧ i ≤ ds.length ∧ loopC t tt te (wipeV δ vs) (ds.drop i) accD = .ok res
  refine ⟨fun i m H => m = ds.length - i ∧ Pv i H, ⟨ds.length, by simp, F1, [], [], Same.refl _, s.trans (same_upd hD), same_upd hD, (fun a o e n => by rw [n] at e; cases e), s.free hD, upd_same, .nil, Nat.zero_le _, by simpa using he⟩, ?_⟩
  rintro i m H ⟨rfl, F2, acc, accD, f, s2, h2, hn, hF2, hHD, hacc, hi, hl⟩
  by_cases hlt : i < ds.length
  · have ed : ds[i]? = some ds[i] := List.getElem?_eq_getElem hlt
    obtain ⟨go, yl⟩ := io.go i H _ (f.trans s2) ed
    refine .inr ⟨go, Pv (i + 1), fun H' p' => ⟨ds.length - (i + 1), by omega, rfl, p'⟩, fun x H' hy => ?_⟩
    obtain ⟨F3, E3, dx⟩ := yl x H' F2 f s2 hy
    rw [drop_get ed] at hl
    unfold loopC at hl
    cases et : t ds[i] (wipeV δ vs) with
    | none => rw [et] at hl; cases hl
    | some δ1 =>
      rw [et] at hl
      refine ht F3 H' (wipe σ vs) (wipeV δ vs) δ1 x _ _ E3.s (((v.mono f).mono E3.f).wipe vs) dx et fun σ2 ok2 hw => ⟨hw.trans wipe_idem, ?_⟩
      dsimp only at hl
      cases ett : tt δ1 with
      | ok b =>
        rw [ett] at hl
        refine htt F3 H' σ2 δ1 b _ E3.s ok2 ett fun F4 H4 E4 => ?_
        have E := E3.trans E4
        have next : ∀ a o, F4 a = some o → F1 a = none → H1 a = none := fun a o e n => by
          cases w : F2 a with
          | some u => exact hn a u w n
          | none => exact h2.free (E.n a o e w)
        cases b with
        | false =>
          rw [if_neg Bool.false_ne_true]
          exact ⟨F4, acc, accD, f.trans E.f, E.s, h2.trans E.h, next, E.new_none hF2 hHD, E.h _ _ hHD, dpa_mono E.f _ hacc, hlt, hl⟩
        | true =>
          rw [if_pos rfl]
          dsimp only at hl
          cases ete : te δ1 with
          | ok y =>
            rw [ete] at hl
            dsimp only at hl
            split at hl
            · rename_i lm
              refine hte F4 H4 σ2 δ1 y _ E4.s (ok2.mono E4.f) ete fun w F5 H5 E5 dw => ?_
              have E' := E.trans E5
              refine ⟨acc, E'.h _ _ hHD, by rw [dpa_len hacc]; exact Nat.lt_of_lt_of_le lm (Nat.le_of_eq most_eq), F5, acc ++ [w], accD ++ [y], f.trans E'.f, fun a o e => ?_, fun a o e => ?_, fun a o e n => ?_, E'.new_none hF2 hHD, upd_same, dpa_append (dpa_mono E'.f _ hacc) (.cons dw .nil), hlt, hl⟩
              · rw [upd_ne (ne_of_none e (E'.new_none hF2 hHD))]
                exact E'.s a o e
              · rw [upd_ne (ne_of_none e hD)]
                exact E'.h a o (h2 a o e)
              · cases w : F2 a with
                | some u => exact hn a u w n
                | none => exact h2.free (E'.n a o e w)
            · cases hl
          | exc c p => rw [ete] at hl; cases hl
          | bad => rw [ete] at hl; cases hl
      | exc c p => rw [ett] at hl; cases hl
      | bad => rw [ett] at hl; cases hl
  · have e : i = ds.length := by omega
    subst e
    rw [List.drop_length] at hl
    cases hl
    exact .inl ⟨io.stop _ H (f.trans s2) (Nat.le_refl _), q Dl acc F2 H ⟨f, h2, s2, hn⟩ hD hF2 hHD hacc⟩
theorem lc_bad {t : VTg} {tt : Vw → R Bool} {te : M} {δ : Vw} : ∀ (ds acc : List D) (c : Str) (p : Option D), loopC t tt te δ ds acc ≠ .exc c p
  | [], acc, c, p, e => by cases e
  | d :: ds, acc, c, p, e => by
    unfold loopC at e
    split at e
    · cases e
    · split at e
      · split at e
        · split at e
          · exact lc_bad ds _ c p e
          · cases e
        · cases e
      · exact lc_bad ds _ c p e
      · cases e
theorem lc_read {X : Cx} {W : WX} {it : Vw → R (List D)} {vs : List Nat} {g : TG} {t : VTg} {tt : Vw → R Bool} {te : M} (hv : VTgOk X.K vs g t) {σ : L2.St} {H : Hp} {Q : VK} (h : tN X W (nLc it vs t tt te) σ H Q) : tLc (tI X W it) g (tT X W0 tt) (tM X W0 te) vs σ H Q := by
  obtain ⟨F, δ, s, v, h⟩ := h
  refine ⟨F, δ, s, v, ?_⟩
  unfold nLc at h
  cases ei : it δ with
  | ok ds =>
    rw [ei, R.bind_ok] at h
    intro F1 H1 J E io
    cases el : loopC t tt te (wipeV δ vs) ds [] with
    | ok res =>
      rw [el] at h
      refine lc_key (mg := X.mg) hv (fun F H σ δ b Q s v e k => ⟨F, δ, s, v, by rw [e]; exact k⟩) (fun F H σ δ y Q s v e k => ⟨F, δ, s, v, by rw [e]; exact k⟩) E.s (v.mono E.f) io el fun p xs F' H' E2 h0 hF hH hd => h p xs F' H' (E.trans E2) (E.h.free h0) hF hH hd
    | exc c p => exact absurd el (lc_bad _ _ _ _)
    | bad => rw [el] at h; exact h.elim
  | exc c p => rw [ei] at h; exact h
  | bad => rw [ei] at h; exact h
section
variable {X : Cx} {W : WX} {elt tg iter : Expr} {ifs : List Expr} {scope : Scope} {own : List (Str × Nat)} {pos : Pos} {it : Vw → R (List D)} {g : TG} {t : VTg} {tt : Vw → R Bool} {te : M} (hN : X.N.Nodup) (hi : MIt X W tg iter it) (ok : BlkOk X.N X.env.scope scope own) (hv : VTgOk X.K (own.map (·.2)) g t)
    (hg : ∀ (s : Shared) (H : Hp) (C : Addr) (cl : List (Str × Addr)) (fp : List Addr), PG (X.blk s H scope (compEnvC scope cl C X.env) fp) tg g) (ht : ∀ (s : Shared) (H : Hp) (C : Addr) (cl : List (Str × Addr)) (fp : List Addr), MTs (X.blk s H scope (compEnvC scope cl C X.env) fp) ifs tt)
    (he : ∀ (s : Shared) (H : Hp) (C : Addr) (cl : List (Str × Addr)) (fp : List Addr), ME (X.blk s H scope (compEnvC scope cl C X.env) fp) W0 elt te)
include hN hi ok hv hg ht he
theorem mn_lc (hc : X.calm = true := by rfl) (hs : ∀ x, foldedSetIterable iter X.env x = pure x := by intro _; rfl) : MN X W (.ListComp elt [⟨tg, iter, ifs, 0⟩] scope pos) (nLc it (own.map (·.2)) t tt te) :=
  PE.imp (pe_lc hc hN hi ok hg (fun s H C cl fp => ht s H C cl fp) (fun s H C cl fp => he s H C cl fp) hs) fun σ H Q h => lc_read hv h
end
end MI
set_option Elab.async false
set_option linter.all false
set_option maxRecDepth 100000
set_option maxHeartbeats 4000000
namespace MI
open PySem PySem.Spec PyProof.Rows L2
section
variable {X : Cx}
theorem op_catL : OpR X (binaryOp .Add) (fun x y H Q => ∃ l b xs zs, x = .ref l ∧ y = .ref b ∧ SqL X.K H l xs ∧ SqL X.K H b zs ∧ xs.length + zs.length ≤ sizeLine ∧ ∀ p, H p = none → Q (.ref p) (upd H p (.lst (xs ++ zs)))) := by
  intro pins s σ H x y v u Q I rx ry h
  obtain ⟨l, b, xs, zs, rfl, rfl, hl, hb, hz, q⟩ := h
  cases rx
  cases ry
  obtain ⟨i1, r1, ⟨⟨c1, d1, t1, s1⟩, n1, o1, h1, _, g1⟩, z1⟩ := I.list hl
  obtain ⟨i2, r2, ⟨⟨c2, d2, t2, s2⟩, n2, o2, h2, _, g2⟩, z2⟩ := I.list hb
  simp only at h1 g1 h2 g2
  subst h1 g1 h2 g2
  have l1 := r1.length
  have l2 := r2.length
  refine PySem.concat_meets ⟨_, o1, rfl⟩ ⟨_, o2, rfl⟩ noFill_list_add seq_list_add PySem.F.slot_list_add PySem.F.entry_list_add (PySem.F.args_list_add_2 _ _) (list_addW l b i1.toArray i2.toArray n1 n2 d1 d2 s1 s2 (by rw [List.size_toArray, List.size_toArray]; omega)) ⟨o1, o2, ?_⟩
  rw [show i1.toArray ++ i2.toArray = (i1 ++ i2).toArray by simp]
  exact ⟨.ref _, _, I.lnew (t' := s.toks) (r1.append r2) (by rw [List.length_append]; omega), rfl, q _ I.fresh⟩
end
def fAddL : D → D → Option D
  | .list a, .list b => if a.length + b.length ≤ most then some (.list (a ++ b)) else none
  | x, y => fAdd x y
section
variable {X : Cx}
theorem o_addL : OpR X (binaryOp .Add) (rD2 X.K fAddL) := opr_of fun x y H Q ⟨F, d1, d2, d, s, h1, h2, e, q⟩ => by
  unfold fAddL at e
  split at e
  · split at e
    · rename_i l
      cases e
      cases h1 with
      | lst a b =>
        cases h2 with
        | lst a2 b2 =>
          exact ⟨_, op_catL, _, _, _, _, rfl, rfl, s.seq a, s.seq a2, by rw [dpa_len b, dpa_len b2]; exact most_le l, fun p hp => q _ _ _ (Ext.new s hp) (.lst (SqL.of upd_same) (dpa_mono (Ext.new (o := .lst _) s hp).f _ (dpa_append b b2)))⟩
    · cases e
  · exact ⟨_, o_add, F, d1, d2, d, s, h1, h2, e, q⟩
end
def intsD : List D → Option (List Int)
  | [] => some []
  | .int i :: ds => (intsD ds).map fun r => i :: r
  | _ => none
section
end
def rM (K : PySem.W.Frag) (f : D → List D → Option D) : V → List V → Hp → VK → Prop := fun x xs H Q => ∃ F d ds r, Same F H ∧ Dp K F x d ∧ DpAll K F xs ds ∧ f d ds = some r ∧ ∀ v F' H', Ext F H F' H' → Dp K F' v r → Q v H'
def mMt (T : String) (f : D → List D → Option D) (o : M) (a : Vw → R (List D)) : M := fun δ => (o δ).bind fun d => if tyD d = T ∧ (T = "str" ∨ T = "list") then (a δ).bind fun ds => R.of (f d ds) else .bad
theorem tyV_of {K : PySem.W.Frag} {F H : Hp} {x : V} {d : D} {T : String} (s : Same F H) (h : Dp K F x d) (e : tyD d = T ∧ (T = "str" ∨ T = "list")) : tyV K T x H := by
  obtain ⟨e1, e2⟩ := e
  cases h with
  | str z => exact e1.symm
  | lst a b => exact .inl ⟨e1.symm, _, s.seq a⟩
  | non => subst e1; rcases e2 with e2 | e2 <;> exact absurd (show ("NoneType" : String) = _ from e2) (by decide)
  | bl _ => subst e1; rcases e2 with e2 | e2 <;> exact absurd (show ("bool" : String) = _ from e2) (by decide)
  | int _ => subst e1; rcases e2 with e2 | e2 <;> exact absurd (show ("int" : String) = _ from e2) (by decide)
  | tup _ _ => subst e1; rcases e2 with e2 | e2 <;> exact absurd (show ("tuple" : String) = _ from e2) (by decide)
  | exc _ _ => subst e1; rcases e2 with e2 | e2 <;> exact absurd (show ("dict" : String) = _ from e2) (by decide)
  | excF _ _ _ _ _ => subst e1; rcases e2 with e2 | e2 <;> exact absurd (show ("dict" : String) = _ from e2) (by decide)
  | dct0 _ => subst e1; rcases e2 with e2 | e2 <;> exact absurd (show ("dict" : String) = _ from e2) (by decide)
  | dct _ _ _ => subst e1; rcases e2 with e2 | e2 <;> exact absurd (show ("dict" : String) = _ from e2) (by decide)
/-- the first place of an equal item -/
def firstIx (d : D) : List D → Nat → Option Nat
  | [], _ => none
  | z :: zs, n => if PyData.eqv z d = true then some n else firstIx d zs (n + 1)
def fIndex : D → List D → Option D
  | .list ds, [d] => if (SeqAt.shaped (.list ds) && SeqAt.shaped d) = true then (firstIx d ds 0).map fun j => .int (j : Nat) else none
  | _, _ => none
section
end
def fIntT : List D → Option D
  | [.str a] => if a.length ≤ 640 then (intText? a).map .int else none
  | ds => fInt ds
theorem c_intT {X : Cx} : CallR X (.type "int") (rDs X.K fIntT) := callr_of fun xs H Q ⟨F, ds, d, s, h, e, q⟩ => by
  unfold fIntT at e
  split at e
  · rename_i a
    split at e
    · rename_i l
      cases z : intText? a with
      | none => rw [z] at e; cases e
      | some n =>
        rw [z] at e
        cases e
        obtain ⟨v, rfl, hv⟩ := dpa1 h
        cases dp_str hv
        exact ⟨_, call_int_str, _, _, rfl, z, l, q _ F H (Ext.refl s) (.int _)⟩
    · cases e
  · exact ⟨_, c_int, F, ds, d, s, h, e, q⟩
def mSigns (m : M) : Vw → R (List D) := fun δ => (m δ).bind fun d => match d with
  | .str z => .ok (z.cps.toList.map fun c => .str ⟨#[c]⟩)
  | _ => .bad
/-- xs[i] = e, xs this def's own -/
def sPut (j : Nat) (mi m : M) : S := fun g => match g[j]? with
  | some (.own ds) => (m (vd g)).to g fun d => (mi (vd g)).to g fun i => match i with
    | .int i => (match ixN ds.length i with
      | some k => .nx (g.set j (.own (ds.set k d)))
      | none => .bad)
    | _ => .bad
  | _ => .bad
/-- an own list changed in its place -/
theorem StOk.write {K : PySem.W.Frag} {F0 H0 F H : Hp} {σ : L2.St} {g : Ce} (ok : StOk K F0 H0 F H σ g) {j : Nat} {ds ds' : List D} {a : Addr} {xs xs' : List V} (hj : g[j]? = some (.own ds)) (hs : σ[j]? = some (some (.ref a))) (hF : F a = none) (h0 : H0 a = none) (hH : H a = some (.lst xs)) (hd : DpAll K F xs' ds') :
    StOk K F0 H0 F (upd H a (.lst xs')) σ (g.set j (.own ds')) := by
  have jl : j < g.length := (List.getElem?_eq_some_iff.mp hj).1
  refine ⟨⟨ok.e.f, fun b o e => ?_, fun b o e => ?_, ok.e.n⟩, by simpa using ok.len, fun i d q => ?_, fun i es q => ?_, fun i k es es' b q1 q2 q3 q4 => ?_⟩
  · rw [upd_ne (ne_of_none e h0)]
    exact ok.e.h b o e
  · rw [upd_ne (ne_of_none e hF)]
    exact ok.e.s b o e
  · rw [List.getElem?_set] at q
    by_cases z : j = i
    · subst z
      rw [if_pos rfl] at q
      split at q <;> cases q
    · rw [if_neg z] at q
      exact ok.dat i d q
  · rw [List.getElem?_set] at q
    by_cases z : j = i
    · subst z
      rw [if_pos rfl, if_pos jl] at q
      cases q
      exact ⟨a, xs', hs, upd_same, hF, h0, hd⟩
    · rw [if_neg z] at q
      obtain ⟨b, ys, h1, h2, h3, h4, h5⟩ := ok.own i es q
      have : b ≠ a := fun e => by
        subst e
        exact z (ok.inj j i ds es b hj q hs h1)
      exact ⟨b, ys, h1, by rw [upd_ne this]; exact h2, h3, h4, h5⟩
  · have un : ∀ (i : Nat) (es : List D), (g.set j (.own ds'))[i]? = some (.own es) → ∃ fs, g[i]? = some (.own fs) := fun i es q => by
      rw [List.getElem?_set] at q
      by_cases z : j = i
      · subst z; exact ⟨ds, hj⟩
      · rw [if_neg z] at q; exact ⟨es, q⟩
    obtain ⟨f1, w1⟩ := un i es q1
    obtain ⟨f2, w2⟩ := un k es' q2
    exact ok.inj i k f1 f2 b w1 w2 q3 q4
end MI
set_option Elab.async false
set_option linter.all false
set_option maxRecDepth 100000
set_option maxHeartbeats 4000000
namespace MI
open PySem PySem.Spec PyProof.Rows L2
section
end
def sFor (it : Vw → R (List D)) (t : Tg) (b : S) : S := fun g => (it (vd g)).to g fun ds => loopF t b ds g
theorem ms_for {X : Cx} {W : WX} {pos : Pos} {tg iter : Expr} {body : List Stmt} {it : Vw → R (List D)} {r : TG} {t : Tg} {b : S} (hp : PassesOwn (model X.prog X.w) X.A X.env X.xe) (hi : MIt X W tg iter it) (hg : PG X tg r) (ht : TgOk X.K r t) (hb : MSs X W body b) (hc : X.calm = true := by rfl)
    (hs : ∀ x, foldedSetIterable iter X.env x = pure x := by intro _; rfl) : MS X W (.For tg iter body [] pos) (sFor it t b) := by
  refine PS.imp (ps_for hp hc hi hg hb hs) fun D σ H ⟨F0, H0, F, g, ok, h⟩ => ⟨F, vd g, ok.e.s, ok.vd, ?_⟩
  unfold sFor at h
  cases ei : it (vd g) with
  | exc c p =>
    rw [ei] at h
    unfold R.to at h
    dsimp only at h
    split at h
    · exact fun cls od F' H' E x => h cls od F' H' σ (ok.mono E) x
    · exact h.elim
  | bad => rw [ei] at h; exact h.elim
  | ok ds =>
    rw [ei] at h
    have h : SPost X.K X.mg W F0 H0 D (loopF t b ds g) := h
    intro F1 H1 J E io
    have ok1 := ok.mono E
    refine ⟨fun i m σ H => m = ds.length - i ∧ i ≤ ds.length ∧ ∃ F2 g2, Ext F1 H0 F2 H ∧ StOk X.K F0 H0 F2 H σ g2 ∧ SPost X.K X.mg W F0 H0 D (loopF t b (ds.drop i) g2), ⟨ds.length, by simp, Nat.zero_le _, F1, g, ok1.base.e, ok1, by simpa using h⟩, ?_⟩
    rintro i m σ H ⟨rfl, hi, F2, g2, E2, ok2, h2⟩
    by_cases hlt : i < ds.length
    · have ed : ds[i]? = some ds[i] := List.getElem?_eq_getElem hlt
      obtain ⟨go, yl⟩ := io.go i H _ (E2.f.trans E2.s) ed
      refine .inr ⟨go, fun σ' H' => ∃ F2 g2, Ext F1 H0 F2 H' ∧ StOk X.K F0 H0 F2 H' σ' g2 ∧ SPost X.K X.mg W F0 H0 D (loopF t b (ds.drop (i + 1)) g2), fun σ' H' q => ⟨ds.length - (i + 1), by omega, rfl, hlt, q⟩, fun x H' hy => ?_⟩
      obtain ⟨F3, E3, dx⟩ := yl x H' F2 E2.f E2.s hy
      rw [drop_get ed] at h2
      have ok3 := ok2.mono E3
      exact loopF_turn ht ok3 dx h2 fun F4 H4 σ4 g4 ok4 h4 => ⟨F4, g4, ((E2.trans E3).back ok4.e), ok4.back ok3.e, h4⟩
    · have e : i = ds.length := by omega
      subst e
      rw [List.drop_length] at h2
      exact .inl ⟨io.stop _ H (E2.f.trans E2.s) (Nat.le_refl _), h2 F2 H σ ok2⟩
theorem mi_signs {X : Cx} {W : WX} {tg e : Expr} {m : M} (he : ME X W e m) : MIt X W tg e (mSigns m) := by
  refine PI.imp (pi_str he) fun σ H Q ⟨F, δ, s, v, h⟩ => ⟨F, δ, s, v, ?_⟩
  unfold mSigns at h
  cases em : m δ with
  | ok d =>
    rw [em, R.bind_ok] at h
    cases d with
    | str z =>
      intro y F' H' E hy
      cases hy
      refine ⟨z, rfl, h F' H' _ E ⟨fun i H d s e => ?_, fun i H s l => ?_⟩⟩
      · rw [List.getElem?_map] at e
        cases q : z.cps.toList[i]? with
        | none => rw [q] at e; cases e
        | some c =>
          rw [q] at e
          cases e
          have q' : z.cps[i]? = some c := by simpa using q
          refine ⟨(Array.getElem?_eq_some_iff.mp q').1, fun x H' F2 f2 s2 ⟨e1, c', e2, e3⟩ => ?_⟩
          rw [q'] at e2
          cases e2
          subst e1 e3
          exact ⟨F2, Ext.refl s2, .str _⟩
      · rw [List.length_map] at l
        exact (show z.cps.size ≤ i by simpa using l)
    | _ => exact h.elim
  | exc c p => rw [em] at h; exact h
  | bad => rw [em] at h; exact h
theorem StOk.unset {K : PySem.W.Frag} {F0 H0 F H : Hp} {σ : L2.St} {g : Ce} (ok : StOk K F0 H0 F H σ g) (i : Nat) (x : Option V) : StOk K F0 H0 F H (σ.set i x) (g.set i .un) := by
  refine ⟨ok.e, by simpa using ok.len, fun j d q => ?_, fun j ds q => ?_, fun j k ds es a q1 q2 q3 q4 => ?_⟩
  · rw [List.getElem?_set] at q ⊢
    by_cases e : i = j
    · subst e
      rw [if_pos rfl] at q
      split at q <;> cases q
    · rw [if_neg e] at q ⊢
      exact ok.dat j d q
  · rw [List.getElem?_set] at q ⊢
    by_cases e : i = j
    · subst e
      rw [if_pos rfl] at q
      split at q <;> cases q
    · rw [if_neg e] at q ⊢
      exact ok.own j ds q
  · rw [List.getElem?_set] at q1 q2 q3 q4
    by_cases e : i = j
    · subst e
      rw [if_pos rfl] at q1
      split at q1 <;> cases q1
    · by_cases e2 : i = k
      · subst e2
        rw [if_pos rfl] at q2
        split at q2 <;> cases q2
      · rw [if_neg e] at q1 q3
        rw [if_neg e2] at q2 q4
        exact ok.inj j k ds es a q1 q2 q3 q4
/-- u: the suite, by the class of what was raised; i: the exception's name -/
def sTryAs (sub : Str → Option Bool) (i : Nat) (b : S) (u : Str → S) : S := fun g => match b g with
  | .ex c p g' => (match sub c with
    | some true => if p.isNone = true ∧ i < g'.length then (match u c (g'.set i .un) with
      | .nx g2 => .nx (g2.set i .un)
      | .bk g2 => .bk (g2.set i .un)
      | .ct g2 => .ct (g2.set i .un)
      | .rt d => .rt d
      | _ => .bad) else .bad
    | some false => .ex c p g'
    | none => .bad)
  | o => o
section
end
section
end
end MI
namespace MI
open PySem
end MI
set_option Elab.async false
set_option linter.all false
set_option maxRecDepth 100000
set_option maxHeartbeats 4000000
namespace MI
open PySem PySem.Spec PyProof.Rows L2
def sAsgF (t : Tg) (m : M) : S := fun g => (m (va g)).to g fun d => if flat d = true then (match t d g with
  | some g' => .nx g'
  | none => .bad) else .bad
def sPutF (j : Nat) (mi m : M) : S := fun g => match g[j]? with
  | some (.own ds) => (m (va g)).to g fun d => if flat d = true then (mi (vd g)).to g fun i => (match i with
    | .int i => (match L2.ixN ds.length i with
      | some k => .nx (g.set j (.own (ds.set k d)))
      | none => .bad)
    | _ => .bad) else .bad
  | _ => .bad
/-- a, b, .. = a list -/
def gL (u : Tgs) : Tg := fun d g => match d with
  | .list ds => u ds g
  | _ => none
def sAppF (i : Nat) (m : M) : S := fun g => match g[i]? with
  | some (.own ds) => (m (va g)).to g fun d => if flat d = true ∧ ds.length < most then .nx (g.set i (.own (ds ++ [d]))) else .bad
  | _ => .bad
section
end
end MI
set_option Elab.async false
set_option linter.all false
set_option maxRecDepth 100000
set_option maxHeartbeats 4000000
namespace MI
open PySem PySem.Spec PyProof.Rows L2
def frzA (g : Ce) : Ce := g.map fun c => match c with
  | .own ds => .dat (.list ds)
  | c => c
def sFz (m : S) : S := fun g => m (frzA g)
@[simp] theorem sFz_ap (m : S) (g : Ce) : sFz m g = m (frzA g) := Eq.trans rfl rfl
@[simp] theorem frzA_nil : frzA [] = [] := Eq.trans rfl rfl
@[simp] theorem frzA_un (g : Ce) : frzA (.un :: g) = .un :: frzA g := Eq.trans rfl rfl
@[simp] theorem frzA_dat (d : D) (g : Ce) : frzA (.dat d :: g) = .dat d :: frzA g := Eq.trans rfl rfl
@[simp] theorem frzA_ow (ds : List D) (g : Ce) : frzA (.own ds :: g) = .dat (.list ds) :: frzA g := Eq.trans rfl rfl
end MI
set_option Elab.async false
set_option linter.all false
set_option maxRecDepth 100000
set_option maxHeartbeats 4000000
namespace MI
open PySem PySem.Spec PyProof.Rows L2
def gX (u : Tgs) : Tg := fun d g => match d with
  | .list ds => u ds g
  | .tuple ds => u ds g
  | _ => none
def gSeq (K : PySem.W.Frag) (n : Nat) (t : TGs) : TG := fun v σ H Q => gTup K n t v σ H Q ∨ gLst K n t v σ H Q
theorem pg_seq {X : Cx} {pos : Pos} {es : List Expr} {k : Nat} {t : TGs} {n : Nat} (hc : X.calm = true) (h : PGs X es t)
    (hn : (assignEach es X.env).length = n := by rfl) (hst : (assignEach es X.env).findIdx? (·.1) = none := by rfl) : PG X (.Tuple es k pos) (gSeq X.K n t) :=
  ⟨fun pins s σ H v u Q I r hw => by
    rcases hw with hw | hw
    · exact (pg_tup (pos := pos) (k := k) hc h hn hst).run pins s σ H v u Q I r hw
    · exact (pg_lst (pos := pos) (k := k) hc h hn hst).run pins s σ H v u Q I r hw⟩
end MI
set_option Elab.async false
set_option linter.all false
set_option maxRecDepth 100000
set_option maxHeartbeats 4000000
namespace MI
open PySem PySem.Spec PyProof.Rows L2
inductive T where
  | dat (d : D)
  | lst (ts : List T)
  | tup (ts : List T)
mutual
def fz : T → D
  | .dat d => d
  | .lst ts => .list (fzL ts)
  | .tup ts => .tuple (fzL ts)
def fzL : List T → List D
  | [] => []
  | t :: ts => fz t :: fzL ts
end
mutual
inductive TR (K : PySem.W.Frag) (F H : Hp) : V → T → (Addr → Prop) → Prop
  | dat {v : V} {d : D} : Dp K F v d → TR K F H v (.dat d) (fun _ => False)
  | lst {a : Addr} {vs : List V} {ts : List T} {S : Addr → Prop} : H a = some (.lst vs) → F a = none → TRs K F H vs ts S → ¬ S a → TR K F H (.ref a) (.lst ts) (fun b => b = a ∨ S b)
  | tup {a : Addr} {vs : List V} {ts : List T} {S : Addr → Prop} : F a = some (.tup vs) → TRs K F H vs ts S → TR K F H (.ref a) (.tup ts) S
inductive TRs (K : PySem.W.Frag) (F H : Hp) : List V → List T → (Addr → Prop) → Prop
  | nil : TRs K F H [] [] (fun _ => False)
  | cons {v : V} {t : T} {S : Addr → Prop} {vs : List V} {ts : List T} {S' : Addr → Prop} : TR K F H v t S → TRs K F H vs ts S' → (∀ a, S a → S' a → False) → TRs K F H (v :: vs) (t :: ts) (fun b => S b ∨ S' b)
end
section
variable {K : PySem.W.Frag} {F H F' H' : Hp}
mutual
theorem tr_own : ∀ {v : V} {t : T} {S : Addr → Prop}, TR K F H v t S → ∀ a, S a → ∃ xs, H a = some (.lst xs) ∧ F a = none
  | _, _, _, .dat _, _, h => h.elim
  | _, _, _, .lst h1 h2 hs hn, b, h => by
    rcases h with h | h
    · subst h; exact ⟨_, h1, h2⟩
    · exact trs_own hs b h
  | _, _, _, .tup _ hs, b, h => trs_own hs b h
theorem trs_own : ∀ {vs : List V} {ts : List T} {S : Addr → Prop}, TRs K F H vs ts S → ∀ a, S a → ∃ xs, H a = some (.lst xs) ∧ F a = none
  | _, _, _, .nil, _, h => h.elim
  | _, _, _, .cons a b _, x, h => by
    rcases h with h | h
    · exact tr_own a x h
    · exact trs_own b x h
end
mutual
theorem tr_mono (f : Same F F') : ∀ {v : V} {t : T} {S : Addr → Prop}, TR K F H v t S → (∀ a, S a → H' a = H a ∧ F' a = none) → TR K F' H' v t S
  | _, _, _, .dat d, _ => .dat (dp_mono' f d)
  | _, _, _, .lst h1 h2 hs hn, h => .lst ((h _ (.inl rfl)).1.trans h1) (h _ (.inl rfl)).2 (trs_mono f hs fun a q => h a (.inr q)) hn
  | _, _, _, .tup h1 hs, h => .tup (f _ _ h1) (trs_mono f hs h)
theorem trs_mono (f : Same F F') : ∀ {vs : List V} {ts : List T} {S : Addr → Prop}, TRs K F H vs ts S → (∀ a, S a → H' a = H a ∧ F' a = none) → TRs K F' H' vs ts S
  | _, _, _, .nil, _ => .nil
  | _, _, _, .cons a b n, h => .cons (tr_mono f a fun x q => h x (.inl q)) (trs_mono f b fun x q => h x (.inr q)) n
end
mutual
theorem tr_fz (f : Same F F') : ∀ {v : V} {t : T} {S : Addr → Prop}, TR K F H v t S → (∀ a, S a → F' a = H a) → Dp K F' v (fz t)
  | _, _, _, .dat d, _ => dp_mono' f d
  | _, _, _, .lst h1 h2 hs hn, h => .lst (.inl (.inl ((h _ (.inl rfl)).trans h1))) (trs_fz f hs fun a q => h a (.inr q))
  | _, _, _, .tup h1 hs, h => .tup (.inl (.inl (f _ _ h1))) (trs_fz f hs h)
theorem trs_fz (f : Same F F') : ∀ {vs : List V} {ts : List T} {S : Addr → Prop}, TRs K F H vs ts S → (∀ a, S a → F' a = H a) → DpAll K F' vs (fzL ts)
  | _, _, _, .nil, _ => .nil
  | _, _, _, .cons a b n, h => .cons (tr_fz f a fun x q => h x (.inl q)) (trs_fz f b fun x q => h x (.inr q))
end
theorem trs_len : ∀ {vs : List V} {ts : List T} {S : Addr → Prop}, TRs K F H vs ts S → vs.length = ts.length
  | _, _, _, .nil => rfl
  | _, _, _, .cons _ b _ => congrArg Nat.succ (trs_len b)
theorem trs_at : ∀ {vs : List V} {ts : List T} {S : Addr → Prop} {k : Nat} {t : T}, TRs K F H vs ts S → ts[k]? = some t →
    ∃ (v : V) (S1 O : Addr → Prop), vs[k]? = some v ∧ TR K F H v t S1 ∧ (∀ a, S a ↔ S1 a ∨ O a) ∧ (∀ a, S1 a → O a → False) ∧
      ∀ {F' H' : Hp} {v' : V} {t' : T} {S1' : Addr → Prop}, Same F F' → (∀ a, O a → H' a = H a ∧ F' a = none) → TR K F' H' v' t' S1' → (∀ a, S1' a → O a → False) → ∃ S', TRs K F' H' (vs.set k v') (ts.set k t') S' ∧ ∀ a, S' a ↔ S1' a ∨ O a
  | _, _, _, k, t, .nil, e => by simp at e
  | _, _, _, 0, t, .cons (S := Sa) (S' := Sb) a b n, e => by
    simp at e
    subst e
    refine ⟨_, Sa, Sb, rfl, a, fun x => Iff.rfl, n, fun f h a' n' => ⟨_, .cons a' (trs_mono f b h) n', fun x => Iff.rfl⟩⟩
  | _, _, _, k + 1, t, .cons (S := Sa) (S' := Sb) a b n, e => by
    obtain ⟨v, S1, O, h1, h2, h3, h4, h5⟩ := trs_at (k := k) b (by simpa using e)
    refine ⟨v, S1, fun x => Sa x ∨ O x, by simpa using h1, h2, fun x => ⟨?_, ?_⟩, ?_, fun f h a' n' => ?_⟩
    · rintro (q | q)
      · exact .inr (.inl q)
      · rcases (h3 x).mp q with q | q
        · exact .inl q
        · exact .inr (.inr q)
    · rintro (q | q | q)
      · exact .inr ((h3 x).mpr (.inl q))
      · exact .inl q
      · exact .inr ((h3 x).mpr (.inr q))
    · rintro x q (w | w)
      · exact n x w ((h3 x).mpr (.inl q))
      · exact h4 x q w
    · obtain ⟨S', q1, q2⟩ := h5 f (fun x w => h x (.inr w)) a' (fun x w z => n' x w (.inr z))
      refine ⟨_, .cons (tr_mono f a fun x w => h x (.inl w)) q1 (fun x w z => ?_), fun x => ⟨?_, ?_⟩⟩
      · rcases (q2 x).mp z with z | z
        · exact n' x z (.inl w)
        · exact n x w ((h3 x).mpr (.inr z))
      · rintro (w | w)
        · exact .inr (.inl w)
        · rcases (q2 x).mp w with w | w
          · exact .inl w
          · exact .inr (.inr w)
      · rintro (w | w | w)
        · exact .inr ((q2 x).mpr (.inl w))
        · exact .inl w
        · exact .inr ((q2 x).mpr (.inr w))
theorem trs_setD {vs : List V} {ts : List T} {S : Addr → Prop} {k : Nat} {v : V} {d : D} (h : TRs K F H vs ts S) (hd : Dp K F v d) : ∃ S', TRs K F H (vs.set k v) (ts.set k (.dat d)) S' ∧ ∀ a, S' a → S a := by
  by_cases l : k < ts.length
  · obtain ⟨v0, S1, O, h1, h2, h3, h4, h5⟩ := trs_at h (List.getElem?_eq_getElem l)
    obtain ⟨S', q1, q2⟩ := h5 (Same.refl F) (fun a o => ⟨rfl, (trs_own h a ((h3 a).mpr (.inr o))).choose_spec.2⟩) (.dat hd) (fun _ z => z.elim)
    exact ⟨S', q1, fun a z => by rcases (q2 a).mp z with w | w; exact w.elim; exact (h3 a).mpr (.inr w)⟩
  · refine ⟨S, ?_, fun _ z => z⟩
    rw [List.set_eq_of_length_le (by rw [trs_len h]; omega), List.set_eq_of_length_le (by omega)]
    exact h
theorem trs_append : ∀ {vs ws : List V} {ts us : List T} {S S2 : Addr → Prop}, TRs K F H vs ts S → TRs K F H ws us S2 → (∀ a, S a → S2 a → False) → ∃ S', TRs K F H (vs ++ ws) (ts ++ us) S' ∧ ∀ a, S' a ↔ S a ∨ S2 a
  | _, _, _, _, _, S2, .nil, h, _ => ⟨S2, h, fun a => by simp⟩
  | _, _, _, _, _, _, .cons a b n, h, m => by
    obtain ⟨S', q1, q2⟩ := trs_append b h (fun x w z => m x (.inr w) z)
    refine ⟨_, .cons a q1 (fun x w z => ?_), fun x => ?_⟩
    · rcases (q2 x).mp z with z | z
      · exact n x w z
      · exact m x (.inl w) z
    · simp only [q2 x, or_assoc]
end
def T.get : T → List Nat → Option T
  | t, [] => some t
  | .lst ts, k :: p => match ts[k]? with
    | some u => u.get p
    | none => none
  | .tup ts, k :: p => match ts[k]? with
    | some u => u.get p
    | none => none
  | .dat _, _ :: _ => none
def T.put : T → List Nat → T → T
  | _, [], n => n
  | .lst ts, k :: p, n => match ts[k]? with
    | some u => .lst (ts.set k (u.put p n))
    | none => .lst ts
  | .tup ts, k :: p, n => match ts[k]? with
    | some u => .tup (ts.set k (u.put p n))
    | none => .tup ts
  | .dat d, _ :: _, _ => .dat d
theorem T.put_nil (t n : T) : t.put [] n = n := by cases t <;> simp [T.put]
theorem T.get_nil (t : T) : t.get [] = some t := by cases t <;> simp [T.get]
/-- the value that stands at a place -/
inductive Sub (F H : Hp) : V → List Nat → V → Prop
  | nil {v : V} : Sub F H v [] v
  | lst {a : Addr} {vs : List V} {k : Nat} {u w : V} {p : List Nat} : H a = some (.lst vs) → vs[k]? = some u → Sub F H u p w → Sub F H (.ref a) (k :: p) w
  | tup {a : Addr} {vs : List V} {k : Nat} {u w : V} {p : List Nat} : F a = some (.tup vs) → vs[k]? = some u → Sub F H u p w → Sub F H (.ref a) (k :: p) w
section
variable {K : PySem.W.Frag} {F H : Hp}
/-- what hangs at a place, and what may stand there in its stead -/
theorem tr_focus : ∀ (p : List Nat) {v : V} {t : T} {S : Addr → Prop} {u : T}, TR K F H v t S → t.get p = some u →
    ∃ (w : V) (S1 O : Addr → Prop), Sub F H v p w ∧ TR K F H w u S1 ∧ (∀ a, S a ↔ S1 a ∨ O a) ∧ (∀ a, S1 a → O a → False) ∧ (∀ b ts0, v = .ref b → t = .lst ts0 → p ≠ [] → ¬ S1 b) ∧
      ∀ {F' H' : Hp} {u' : T} {S1' : Addr → Prop}, Same F F' → (∀ a, O a → H' a = H a ∧ F' a = none) → TR K F' H' w u' S1' → (∀ a, S1' a → O a → False) → ∃ S', TR K F' H' v (t.put p u') S' ∧ ∀ a, S' a ↔ S1' a ∨ O a
  | [], v, t, S, u, h, e => by
    rw [T.get_nil] at e
    cases e
    refine ⟨v, S, fun _ => False, .nil, h, fun a => by simp, fun _ _ z => z, fun _ _ _ _ z => absurd rfl z, fun {F' H' u' S1'} f _ h' _ => ⟨S1', ?_, fun a => by simp⟩⟩
    rw [T.put_nil]
    exact h'
  | k :: p, _, _, _, u, .dat d, e => by cases e
  | k :: p, _, _, _, u, .lst (a := a) (vs := vs) (ts := ts) (S := Sc) h1 h2 hs hn, e => by
    unfold T.get at e
    cases q : ts[k]? with
    | none => rw [q] at e; cases e
    | some c =>
      rw [q] at e
      obtain ⟨v0, S0, O0, a1, a2, a3, a4, a5⟩ := trs_at hs q
      obtain ⟨w, S1, O1, b1, b2, b3, b4, b6, b5⟩ := tr_focus p a2 e
      refine ⟨w, S1, fun x => x = a ∨ O0 x ∨ O1 x, .lst h1 a1 b1, b2, fun x => ?_, fun x z y => ?_, fun b ts0 q1 _ _ z => ?_, fun {F' H' u' S1'} f h h' n => ?_⟩
      · simp only [a3 x, b3 x]
        constructor
        · rintro (z | (z | z) | z)
          · exact .inr (.inl z)
          · exact .inl z
          · exact .inr (.inr (.inr z))
          · exact .inr (.inr (.inl z))
        · rintro (z | z | z | z)
          · exact .inr (.inl (.inl z))
          · exact .inl z
          · exact .inr (.inr z)
          · exact .inr (.inl (.inr z))
      · rcases y with y | y | y
        · exact hn (y ▸ (a3 x).mpr (.inl ((b3 x).mpr (.inl z))))
        · exact a4 x ((b3 x).mpr (.inl z)) y
        · exact b4 x z y
      · cases q1
        exact hn ((a3 _).mpr (.inl ((b3 _).mpr (.inl z))))
      · obtain ⟨S2, c1, c2⟩ := b5 f (fun x z => h x (.inr (.inr z))) h' (fun x z y => n x z (.inr (.inr y)))
        obtain ⟨S3, d1, d2⟩ := a5 (v' := v0) f (fun x z => h x (.inr (.inl z))) c1 (fun x z y => by
          rcases (c2 x).mp z with z | z
          · exact n x z (.inr (.inl y))
          · exact a4 x ((b3 x).mpr (.inr z)) y)
        have ev : vs.set k v0 = vs := by
          apply List.ext_getElem?
          intro j
          rw [List.getElem?_set]
          split
          · rename_i e; subst e
            split
            · exact a1.symm
            · rw [List.getElem?_eq_none (by omega)]
          · rfl
        rw [ev] at d1
        refine ⟨fun b => b = a ∨ S3 b, ?_, fun x => ?_⟩
        · unfold T.put
          rw [q]
          exact .lst ((h a (.inl rfl)).1.trans h1) (h a (.inl rfl)).2 d1 (fun z => by
            rcases (d2 a).mp z with z | z
            · rcases (c2 a).mp z with z | z
              · exact n a z (.inl rfl)
              · exact hn ((a3 a).mpr (.inl ((b3 a).mpr (.inr z))))
            · exact hn ((a3 a).mpr (.inr z)))
        · simp only [d2 x, c2 x]
          constructor
          · rintro (z | (z | z) | z)
            · exact .inr (.inl z)
            · exact .inl z
            · exact .inr (.inr (.inr z))
            · exact .inr (.inr (.inl z))
          · rintro (z | z | z | z)
            · exact .inr (.inl (.inl z))
            · exact .inl z
            · exact .inr (.inr z)
            · exact .inr (.inl (.inr z))
  | k :: p, _, _, _, u, .tup (a := a) (vs := vs) (ts := ts) (S := Sc) h1 hs, e => by
    unfold T.get at e
    cases q : ts[k]? with
    | none => rw [q] at e; cases e
    | some c =>
      rw [q] at e
      obtain ⟨v0, S0, O0, a1, a2, a3, a4, a5⟩ := trs_at hs q
      obtain ⟨w, S1, O1, b1, b2, b3, b4, b6, b5⟩ := tr_focus p a2 e
      refine ⟨w, S1, fun x => O0 x ∨ O1 x, .tup h1 a1 b1, b2, fun x => ?_, fun x z y => ?_, fun b ts0 _ q _ _ => (by cases q), fun {F' H' u' S1'} f h h' n => ?_⟩
      · simp only [a3 x, b3 x]
        constructor
        · rintro ((z | z) | z)
          · exact .inl z
          · exact .inr (.inr z)
          · exact .inr (.inl z)
        · rintro (z | z | z)
          · exact .inl (.inl z)
          · exact .inr z
          · exact .inl (.inr z)
      · rcases y with y | y
        · exact a4 x ((b3 x).mpr (.inl z)) y
        · exact b4 x z y
      · obtain ⟨S2, c1, c2⟩ := b5 f (fun x z => h x (.inr z)) h' (fun x z y => n x z (.inr y))
        obtain ⟨S3, d1, d2⟩ := a5 (v' := v0) f (fun x z => h x (.inl z)) c1 (fun x z y => by
          rcases (c2 x).mp z with z | z
          · exact n x z (.inl y)
          · exact a4 x ((b3 x).mpr (.inr z)) y)
        have ev : vs.set k v0 = vs := by
          apply List.ext_getElem?
          intro j
          rw [List.getElem?_set]
          split
          · rename_i e; subst e
            split
            · exact a1.symm
            · rw [List.getElem?_eq_none (by omega)]
          · rfl
        rw [ev] at d1
        refine ⟨S3, ?_, fun x => ?_⟩
        · unfold T.put
          rw [q]
          exact .tup (f _ _ h1) d1
        · simp only [d2 x, c2 x]
          constructor
          · rintro ((z | z) | z)
            · exact .inl z
            · exact .inr (.inr z)
            · exact .inr (.inl z)
          · rintro (z | z | z)
            · exact .inl (.inl z)
            · exact .inr z
            · exact .inl (.inr z)
end
end MI
set_option Elab.async false
set_option linter.all false
set_option maxRecDepth 100000
set_option maxHeartbeats 4000000
namespace MI
open PySem PySem.Spec PyProof.Rows L2
/-- a slot: nothing; a tree; a tree lent by the caller; another name of a child of slot i's list -/
inductive Cl where
  | un
  | t (x : T)
  | b (x : T)
  | tm (x : T)
  | al (i k : Nat)
abbrev Ct := List Cl
def Cl.tr : Cl → Option T
  | .t x => some x
  | .b x => some x
  | .tm x => some x
  | _ => none
def Cl.nm : Cl → Option T
  | .t x => some x
  | .b x => some x
  | _ => none
def gt (g : Ct) (i : Nat) : Option T := (g[i]?).bind Cl.tr
/-- a named one -/
def nt (g : Ct) (i : Nat) : Option T := (g[i]?).bind Cl.nm
theorem gt_nt {g : Ct} {i : Nat} {x : T} (h : nt g i = some x) : gt g i = some x := by
  unfold nt at h
  unfold gt
  cases e : g[i]? with
  | none => rw [e] at h; cases h
  | some c =>
    rw [e] at h
    cases c <;> first | exact h | cases h
structure StT (K : PySem.W.Frag) (V0 : Nat → Option V) (F0 H0 : Hp) (B : Addr → Prop) (F H : Hp) (σ : L2.St) (g : Ct) : Prop where
  f : Same F0 F
  h : ∀ a o, ¬ B a → H0 a = some o → H a = some o
  s : Same F H
  n : ∀ a o, F a = some o → F0 a = none → H0 a = none ∨ B a
  len : σ.length = g.length
  own : ∃ S : Nat → Addr → Prop, (∀ i x, gt g i = some x → ∃ v, σ[i]? = some (some v) ∧ TR K F H v x (S i)) ∧ (∀ i a, S i a → B a ∨ H0 a = none) ∧ (∀ i j a, S i a → S j a → i = j) ∧ (∀ i, gt g i = none → ∀ a, ¬ S i a)
  bor : ∀ (i : Nat) (x : T), g[i]? = some (Cl.b x) → ∃ v, V0 i = some v ∧ σ[i]? = some (some v)
  al : ∀ (j i k : Nat), g[j]? = some (Cl.al i k) → ∃ a vs v, σ[i]? = some (some (.ref a)) ∧ H a = some (.lst vs) ∧ F a = none ∧ vs[k]? = some v ∧ σ[j]? = some (some v) ∧ ∃ ts, nt g i = some (.lst ts)
section
variable {K : PySem.W.Frag} {V0 V1 : Nat → Option V} {F0 H0 F H F' H' : Hp} {B : Addr → Prop} {σ σ' : L2.St} {g g' : Ct}
theorem StT.mono (ok : StT K V0 F0 H0 B F H σ g) (E : Ext F H F' H') : StT K V0 F0 H0 B F' H' σ g := by
  obtain ⟨S, s1, s2, s3, s4⟩ := ok.own
  refine ⟨ok.f.trans E.f, fun a o nb e => E.h _ _ (ok.h a o nb e), E.s, fun a o e n => ?_, ok.len, ⟨S, fun i x hx => ?_, s2, s3, s4⟩, ok.bor, fun j i k e => ?_⟩
  · cases q : F a with
    | some u => exact ok.n a u q n
    | none =>
      have z := E.n a o e q
      by_cases b : B a
      · exact .inr b
      · cases w : H0 a with
        | none => exact .inl rfl
        | some u => rw [ok.h a u b w] at z; cases z
  · obtain ⟨v, h1, h2⟩ := s1 i x hx
    refine ⟨v, h1, tr_mono E.f h2 fun a q => ?_⟩
    obtain ⟨xs, q1, q2⟩ := tr_own h2 a q
    exact ⟨(E.h _ _ q1).trans q1.symm, E.new_none q2 q1⟩
  · obtain ⟨a, vs, v, h1, h2, h3, h4⟩ := ok.al j i k e
    exact ⟨a, vs, v, h1, E.h _ _ h2, E.new_none h3 h2, h4⟩
/-- new ground -/
theorem StT.base (ok : StT K V0 F0 H0 B F H σ g) : ∃ B' : Addr → Prop, StT K V0 F H B' F H σ g ∧ (∀ a, B a → B' a) ∧ ∀ V1 F' H' σ' g', StT K V1 F H B' F' H' σ' g' → StT K V1 F0 H0 B F' H' σ' g' := by
  obtain ⟨S, s1, s2, s3, s4⟩ := ok.own
  refine ⟨fun a => B a ∨ ∃ i, S i a, ⟨Same.refl F, fun a o _ e => e, ok.s, fun a o e n => (by rw [n] at e; cases e), ok.len, ⟨S, s1, fun i a q => .inl (.inr ⟨i, q⟩), s3, s4⟩, ok.bor, ok.al⟩, fun a b => .inl b, fun V1 F' H' σ' g' ok' => ?_⟩
  have key : ∀ a, (B a ∨ ∃ i, S i a) → B a ∨ H0 a = none := fun a q => by
    rcases q with q | ⟨i, q⟩
    · exact .inl q
    · exact s2 i a q
  obtain ⟨S', t1, t2, t3, t4⟩ := ok'.own
  refine ⟨ok.f.trans ok'.f, fun a o nb e => ?_, ok'.s, fun a o e n => ?_, ok'.len, ⟨S', t1, fun i a q => ?_, t3, t4⟩, ok'.bor, ok'.al⟩
  · refine ok'.h a o (fun q => ?_) (ok.h a o nb e)
    rcases key a q with q | q
    · exact nb q
    · rw [q] at e; cases e
  · cases q : F a with
    | some u => exact ok.n a u q n
    | none =>
      rcases ok'.n a o e q with z | z
      · by_cases b : B a
        · exact .inr b
        · cases w : H0 a with
          | none => exact .inl rfl
          | some u => rw [ok.h a u b w] at z; cases z
      · rcases key a z with z | z
        · exact .inr z
        · exact .inl z
  · rcases t2 i a q with q | q
    · exact key a q
    · by_cases b : B a
      · exact .inl b
      · cases w : H0 a with
        | none => exact .inr rfl
        | some u => rw [ok.h a u b w] at q; cases q
def Cl.vd (g : Ct) : Cl → Option D
  | .t (.dat d) => some d
  | .b (.dat d) => some d
  | .al i k => match nt g i with
    | some (.lst ts) => (match ts[k]? with
      | some (.dat d) => some d
      | _ => none)
    | _ => none
  | _ => none
def Cl.va (g : Ct) : Cl → Option D
  | .t x => some (fz x)
  | .b x => some (fz x)
  | .al i k => match nt g i with
    | some (.lst ts) => (ts[k]?).map fz
    | _ => none
  | _ => none
def tvd (g : Ct) : Vw := g.map (Cl.vd g)
def tva (g : Ct) : Vw := g.map (Cl.va g)
theorem al_child (ok : StT K V0 F0 H0 B F H σ g) {j i k : Nat} {ts : List T} {c : T} {Si : Addr → Prop} {w : V} (e : g[j]? = some (.al i k)) (hw : σ[i]? = some (some w)) (ht : TR K F H w (.lst ts) Si) (hc : ts[k]? = some c) : ∃ (v : V) (S1 : Addr → Prop), σ[j]? = some (some v) ∧ TR K F H v c S1 ∧ ∀ a, S1 a → Si a := by
  obtain ⟨a, vs, v, h1, h2, h3, h4, h5, _⟩ := ok.al j i k e
  rw [h1] at hw
  cases hw
  cases ht with
  | lst q1 q2 q3 q4 =>
    rw [h2] at q1
    cases q1
    obtain ⟨v0, S1, O, a1, a2, a3, _⟩ := trs_at q3 hc
    rw [h4] at a1
    cases a1
    exact ⟨v, S1, h5, a2, fun b hb => .inr ((a3 b).mpr (.inl hb))⟩
theorem gt_of {i : Nat} {x : T} (h : g[i]? = some (.t x) ∨ g[i]? = some (.b x)) : gt g i = some x := by
  unfold gt
  rcases h with h | h <;> rw [h] <;> rfl
theorem StT.vd (ok : StT K V0 F0 H0 B F H σ g) : VwOk K F σ (tvd g) := by
  obtain ⟨S, s1, _, _, _⟩ := ok.own
  refine ⟨by unfold tvd; rw [List.length_map]; exact Nat.le_of_eq ok.len.symm, fun i d q => ?_⟩
  unfold tvd at q
  rw [List.getElem?_map] at q
  cases e : g[i]? with
  | none => rw [e] at q; cases q
  | some c =>
    rw [e] at q
    have q : Cl.vd g c = some d := by simpa using q
    cases c with
    | un => cases q
    | tm x => cases q
    | t x =>
      cases x with
      | dat d' =>
        cases q
        obtain ⟨v, h1, h2⟩ := s1 i _ (gt_of (.inl e))
        generalize S i = Si at h2
        cases h2 with
        | dat z => exact ⟨v, h1, z⟩
      | _ => cases q
    | b x =>
      cases x with
      | dat d' =>
        cases q
        obtain ⟨v, h1, h2⟩ := s1 i _ (gt_of (.inr e))
        generalize S i = Si at h2
        cases h2 with
        | dat z => exact ⟨v, h1, z⟩
      | _ => cases q
    | al j k =>
      unfold Cl.vd at q
      dsimp only at q
      split at q
      · rename_i ts ht
        split at q
        · rename_i d' hc
          cases q
          obtain ⟨w, w1, w2⟩ := s1 j _ (gt_nt ht)
          obtain ⟨v, S1, h1, h2, _⟩ := al_child ok e w1 w2 hc
          cases h2 with
          | dat z => exact ⟨v, h1, z⟩
        · cases q
      · cases q
open Classical in
noncomputable def tfr (S : Nat → Addr → Prop) (F H : Hp) : Hp := fun a => if ∃ i, S i a then H a else F a
open Classical in
noncomputable def tth (S : Nat → Addr → Prop) (F' : Hp) : Hp := fun a => if ∃ i, S i a then none else F' a
theorem tfr_in {S : Nat → Addr → Prop} {a : Addr} (h : ∃ i, S i a) : tfr S F H a = H a := by unfold tfr; rw [if_pos h]
theorem tfr_out {S : Nat → Addr → Prop} {a : Addr} (h : ¬ ∃ i, S i a) : tfr S F H a = F a := by unfold tfr; rw [if_neg h]
theorem tth_in {S : Nat → Addr → Prop} {a : Addr} (h : ∃ i, S i a) : tth S F a = none := by unfold tth; rw [if_pos h]
theorem tth_out {S : Nat → Addr → Prop} {a : Addr} (h : ¬ ∃ i, S i a) : tth S F a = F a := by unfold tth; rw [if_neg h]
/-- all trees as data, for a while -/
theorem StT.vaS (ok : StT K V0 F0 H0 B F H σ g) : ∃ F1, Same F1 H ∧ Same F F1 ∧ VwOk K F1 σ (tva g) ∧
    ∀ F' H', Ext F1 H F' H' → ∃ F2, StT K V0 F0 H0 B F2 H' σ g ∧ Same F F2 ∧ (∀ d v, Dp K F' v d → flat d = true → Dp K F2 v d) ∧ (∀ a o, F' a = some o → (∀ xs, o ≠ .lst xs) → F2 a = some o) ∧ Same F2 F' ∧ (∀ a o, F2 a = some o → F a = none → F1 a = none) := by
  obtain ⟨S, s1, s2, s3, s4⟩ := ok.own
  have ow : ∀ a, (∃ i, S i a) → ∃ xs, H a = some (.lst xs) ∧ F a = none := fun a ⟨i, q⟩ => by
    cases e : gt g i with
    | none => exact (s4 i e a q).elim
    | some x =>
      obtain ⟨v, _, h2⟩ := s1 i x e
      exact tr_own h2 a q
  have sF : Same F (tfr S F H) := fun a o e => by
    by_cases h : ∃ i, S i a
    · obtain ⟨_, _, q⟩ := ow a h
      rw [q] at e; cases e
    · rw [tfr_out h]; exact e
  have sH : Same (tfr S F H) H := fun a o e => by
    by_cases h : ∃ i, S i a
    · rw [tfr_in h] at e; exact e
    · rw [tfr_out h] at e; exact ok.s _ _ e
  refine ⟨tfr S F H, sH, sF, ⟨by unfold tva; rw [List.length_map]; exact Nat.le_of_eq ok.len.symm, fun i d q => ?_⟩, fun F' H' E => ?_⟩
  · unfold tva at q
    rw [List.getElem?_map] at q
    cases e : g[i]? with
    | none => rw [e] at q; cases q
    | some c =>
      rw [e] at q
      have q : Cl.va g c = some d := by simpa using q
      cases c with
      | un => cases q
      | tm x => cases q
      | t x =>
        cases q
        obtain ⟨v, h1, h2⟩ := s1 i _ (gt_of (.inl e))
        exact ⟨v, h1, tr_fz sF h2 fun a z => tfr_in ⟨i, z⟩⟩
      | b x =>
        cases q
        obtain ⟨v, h1, h2⟩ := s1 i _ (gt_of (.inr e))
        exact ⟨v, h1, tr_fz sF h2 fun a z => tfr_in ⟨i, z⟩⟩
      | al j k =>
        unfold Cl.va at q
        dsimp only at q
        split at q
        · rename_i ts ht
          cases hc : ts[k]? with
          | none => rw [hc] at q; cases q
          | some c =>
            rw [hc] at q
            cases q
            obtain ⟨w, w1, w2⟩ := s1 j _ (gt_nt ht)
            obtain ⟨v, S1, h1, h2, h3⟩ := al_child ok e w1 w2 hc
            exact ⟨v, h1, tr_fz sF h2 fun a z => tfr_in ⟨j, h3 a z⟩⟩
        · cases q
  · have keep : ∀ a o, F' a = some o → (∀ xs, o ≠ .lst xs) → tth S F' a = some o := fun a o e n => by
      have hn : ¬ ∃ i, S i a := fun h => by
        obtain ⟨xs, q, _⟩ := ow a h
        have : F' a = some (.lst xs) := E.f _ _ (by rw [tfr_in h]; exact q)
        rw [this] at e
        cases e
        exact n xs rfl
      rw [tth_out hn]
      exact e
    have fF : Same F (tth S F') := fun a o e => by
      have hn : ¬ ∃ i, S i a := fun h => by
        obtain ⟨_, _, q⟩ := ow a h
        rw [q] at e; cases e
      rw [tth_out hn]
      exact E.f _ _ (sF _ _ e)
    have tF : Same (tth S F') F' := fun a o e => by
      by_cases h : ∃ i, S i a
      · rw [tth_in h] at e; cases e
      · rw [tth_out h] at e; exact e
    refine ⟨tth S F', ⟨ok.f.trans fF, fun a o nb e => E.h _ _ (ok.h a o nb e), tF.trans E.s, fun a o e n => ?_, ok.len, ⟨S, fun i x hx => ?_, s2, s3, s4⟩, ok.bor, fun j i k e => ?_⟩, fF, fun d v hd fl => dp_flat keep d hd fl, keep, tF, fun a o e n => by
      have hn : ¬ ∃ i, S i a := fun h => by rw [tth_in h] at e; cases e
      rw [tfr_out hn]
      exact n⟩
    · have hn : ¬ ∃ i, S i a := fun h => by rw [tth_in h] at e; cases e
      rw [tth_out hn] at e
      cases q : tfr S F H a with
      | some u =>
        rw [tfr_out hn] at q
        exact ok.n a u q n
      | none =>
        have z := E.n a o e q
        by_cases b : B a
        · exact .inr b
        · cases w : H0 a with
          | none => exact .inl rfl
          | some u => rw [ok.h a u b w] at z; cases z
    · obtain ⟨v, h1, h2⟩ := s1 i x hx
      refine ⟨v, h1, tr_mono fF h2 fun a q => ?_⟩
      obtain ⟨xs, q1, q2⟩ := tr_own h2 a q
      exact ⟨(E.h _ _ q1).trans q1.symm, tth_in ⟨i, q⟩⟩
    · obtain ⟨a, vs, v, h1, h2, h3, h4, h5, ts, h6⟩ := ok.al j i k e
      obtain ⟨w, w1, w2⟩ := s1 i _ (gt_nt h6)
      rw [h1] at w1
      cases w1
      generalize hS : S i = Si at w2
      cases w2 with
      | lst q1 q2 q3 q4 =>
        exact ⟨a, vs, v, h1, E.h _ _ h2, tth_in ⟨i, by rw [hS]; exact .inl rfl⟩, h4, h5, ts, h6⟩
theorem StT.va (ok : StT K V0 F0 H0 B F H σ g) : ∃ F1, Same F1 H ∧ Same F F1 ∧ VwOk K F1 σ (tva g) ∧
    ∀ F' H', Ext F1 H F' H' → ∃ F2, StT K V0 F0 H0 B F2 H' σ g ∧ Same F F2 ∧ (∀ d v, Dp K F' v d → flat d = true → Dp K F2 v d) ∧ ∀ a o, F' a = some o → (∀ xs, o ≠ .lst xs) → F2 a = some o := by
  obtain ⟨F1, h1, h2, h3, h4⟩ := ok.vaS
  exact ⟨F1, h1, h2, h3, fun F' H' E => let ⟨F2, q1, q2, q3, q4, _⟩ := h4 F' H' E; ⟨F2, q1, q2, q3, q4⟩⟩
theorem StT.pick (ok : StT K V0 F0 H0 B F H σ g) (π : Nat → Nat) (len : σ'.length = g'.length) (inj : ∀ i j, (gt g' i).isSome = true → (gt g' j).isSome = true → π i = π j → i = j) (tr : ∀ i x, gt g' i = some x → gt g (π i) = some x ∧ σ'[i]? = σ[π i]?)
    (bor : ∀ (i : Nat) (x : T), g'[i]? = some (Cl.b x) → (∃ y, g[i]? = some (.b y)) ∧ σ'[i]? = σ[i]?) (al : ∀ (j i k : Nat), g'[j]? = some (Cl.al i k) → g[j]? = some (.al i k) ∧ σ'[j]? = σ[j]? ∧ σ'[i]? = σ[i]? ∧ nt g' i = nt g i) : StT K V0 F0 H0 B F H σ' g' := by
  obtain ⟨S, s1, s2, s3, s4⟩ := ok.own
  refine ⟨ok.f, ok.h, ok.s, ok.n, len, ⟨fun i a => (gt g' i).isSome = true ∧ S (π i) a, fun i x hx => ?_, fun i a q => s2 _ a q.2, fun i j a q r => inj i j q.1 r.1 (s3 _ _ a q.2 r.2), fun i e a q => by have q1 := q.1; rw [e] at q1; cases q1⟩, fun i x e => ?_, fun j i k e => ?_⟩
  · obtain ⟨t1, t2⟩ := tr i x hx
    obtain ⟨v, h1, h2⟩ := s1 _ _ t1
    refine ⟨v, t2.trans h1, ?_⟩
    have : S (π i) = fun a => (gt g' i).isSome = true ∧ S (π i) a := by
      funext a
      rw [hx]
      simp
    show TR K F H v x (fun a => (gt g' i).isSome = true ∧ S (π i) a)
    rw [← this]
    exact h2
  · obtain ⟨⟨y, b1⟩, b2⟩ := bor i x e
    obtain ⟨v, h1, h2⟩ := ok.bor i y b1
    exact ⟨v, h1, b2.trans h2⟩
  · obtain ⟨a1, a2, a3, a4⟩ := al j i k e
    obtain ⟨a, vs, v, h1, h2, h3, h4, h5, h6⟩ := ok.al j i k a1
    exact ⟨a, vs, v, a3.trans h1, h2, h3, h4, a2.trans h5, by rw [a4]; exact h6⟩
theorem gt_append_left {tmp : Ct} {i : Nat} (h : i < g.length) : gt (g ++ tmp) i = gt g i := by
  unfold gt
  rw [List.getElem?_append_left h]
theorem gt_lt {i : Nat} {x : T} (h : gt g i = some x) : i < g.length := by
  unfold gt at h
  cases e : g[i]? with
  | none => rw [e] at h; cases h
  | some c => exact (List.getElem?_eq_some_iff.mp e).1
theorem gt_push {c : Cl} : gt (g ++ [c]) g.length = c.tr := by
  unfold gt
  rw [List.getElem?_append_right (Nat.le_refl _)]
  simp
theorem nt_append_left {tmp : Ct} {i : Nat} (h : i < g.length) : nt (g ++ tmp) i = nt g i := by
  unfold nt
  rw [List.getElem?_append_left h]
theorem nt_lt {i : Nat} {x : T} (h : nt g i = some x) : i < g.length := gt_lt (gt_nt h)
def Tm (tmp : Ct) : Prop := ∀ c ∈ tmp, ∃ x, c = Cl.tm x
theorem nt_tmp {tmp : Ct} (ht : Tm tmp) {i : Nat} {x : T} (h : nt (g ++ tmp) i = some x) : i < g.length := by
  rcases Nat.lt_or_ge i g.length with l | l
  · exact l
  · unfold nt at h
    rw [List.getElem?_append_right l] at h
    cases e : tmp[i - g.length]? with
    | none => rw [e] at h; cases h
    | some c =>
      obtain ⟨y, rfl⟩ := ht c (List.mem_of_getElem? e)
      rw [e] at h
      cases h
/-- only the first slots -/
theorem StT.take {ext : L2.St} {tmp : Ct} (ok : StT K V0 F0 H0 B F H (σ ++ ext) (g ++ tmp)) (l : σ.length = g.length) (ht : Tm tmp) : StT K V0 F0 H0 B F H σ g := by
  refine ok.pick id l (fun i j _ _ e => e) (fun i x hx => ?_) (fun i x hx => ?_) (fun j i k e => ?_)
  · have := gt_lt hx
    exact ⟨by rw [id, gt_append_left this]; exact hx, by rw [id, List.getElem?_append_left (by omega)]⟩
  · have := (List.getElem?_eq_some_iff.mp hx).1
    exact ⟨⟨x, by rw [List.getElem?_append_left this]; exact hx⟩, by rw [List.getElem?_append_left (by omega)]⟩
  · have h1 := (List.getElem?_eq_some_iff.mp e).1
    have e' : (g ++ tmp)[j]? = some (Cl.al i k) := by rw [List.getElem?_append_left h1]; exact e
    obtain ⟨_, _, _, _, _, _, _, _, ts, h6⟩ := ok.al j i k e'
    have h2 := nt_tmp ht h6
    exact ⟨e', by rw [List.getElem?_append_left (by omega)], by rw [List.getElem?_append_left (by omega)], by rw [nt_append_left h2]⟩
/-- data on top -/
theorem StT.pushD (ok : StT K V0 F0 H0 B F H σ g) {v : V} {d : D} (h : Dp K F v d) : StT K V0 F0 H0 B F H (σ ++ [some v]) (g ++ [.tm (.dat d)]) := by
  obtain ⟨S, s1, s2, s3, s4⟩ := ok.own
  have lt : ∀ i, gt g i = none → ∀ a, ¬ S i a := s4
  refine ⟨ok.f, ok.h, ok.s, ok.n, by simp [ok.len], ⟨S, fun i x hx => ?_, s2, s3, fun i e => ?_⟩, fun i x e => ?_, fun j i k e => ?_⟩
  · rcases Nat.lt_trichotomy i g.length with l | l | l
    · rw [gt_append_left l] at hx
      obtain ⟨v', h1, h2⟩ := s1 i x hx
      exact ⟨v', by rw [List.getElem?_append_left (by rw [ok.len]; exact l)]; exact h1, h2⟩
    · subst l
      rw [gt_push] at hx
      cases hx
      refine ⟨v, by rw [List.getElem?_append_right (by rw [ok.len]; exact Nat.le_refl _)]; simp [ok.len], ?_⟩
      have : S g.length = fun _ => False := by
        funext a
        exact eq_false (s4 _ (by unfold gt; rw [List.getElem?_eq_none (Nat.le_refl _)]; rfl) a)
      rw [this]
      exact .dat h
    · have := gt_lt hx
      simp at this
      omega
  · refine s4 i ?_
    rcases Nat.lt_or_ge i g.length with l | l
    · rw [gt_append_left l] at e
      exact e
    · unfold gt
      rw [List.getElem?_eq_none l]
      rfl
  · have l : i < g.length := by
      rcases Nat.lt_or_ge i g.length with l | l
      · exact l
      · rw [List.getElem?_append_right l] at e
        have : i - g.length = 0 := by
          have := (List.getElem?_eq_some_iff.mp e).1
          simp at this
          omega
        rw [this] at e
        cases e
    rw [List.getElem?_append_left l] at e
    obtain ⟨v', h1, h2⟩ := ok.bor i x e
    exact ⟨v', h1, by rw [List.getElem?_append_left (by rw [ok.len]; exact l)]; exact h2⟩
  · have l : j < g.length := by
      rcases Nat.lt_or_ge j g.length with l | l
      · exact l
      · rw [List.getElem?_append_right l] at e
        have : j - g.length = 0 := by
          have := (List.getElem?_eq_some_iff.mp e).1
          simp at this
          omega
        rw [this] at e
        cases e
    rw [List.getElem?_append_left l] at e
    obtain ⟨a, vs, v', h1, h2, h3, h4, h5, ts, h6⟩ := ok.al j i k e
    have li := nt_lt h6
    exact ⟨a, vs, v', by rw [List.getElem?_append_left (by rw [ok.len]; exact li)]; exact h1, h2, h3, h4, by rw [List.getElem?_append_left (by rw [ok.len]; exact l)]; exact h5, ts, by rw [nt_append_left li]; exact h6⟩
/-- a new list, whose items are the data vs -/
theorem StT.topD {ext : L2.St} {tmp : Ct} {v : V} {d : D} (ok : StT K V0 F0 H0 B F H (σ ++ [some v]) (g ++ [.tm (.dat d)])) (l : σ.length = g.length) : Dp K F v d := by
  obtain ⟨S, s1, _, _, _⟩ := ok.own
  obtain ⟨v', h1, h2⟩ := s1 g.length (.dat d) gt_push
  rw [List.getElem?_append_right (by omega)] at h1
  simp [l] at h1
  subst h1
  generalize S g.length = Si at h2
  cases h2 with
  | dat z => exact z
def kil (i : Nat) (g : Ct) : Ct := g.map fun c => match c with
  | .al j k => if j = i then .un else .al j k
  | c => c
theorem kil_get {i j : Nat} : (kil i g)[j]? = (g[j]?).map fun c => match c with
  | .al j k => if j = i then .un else .al j k
  | c => c := by
  unfold kil
  rw [List.getElem?_map]
theorem kil_gt {i j : Nat} : gt (kil i g) j = gt g j := by
  unfold gt
  rw [kil_get]
  cases g[j]? with
  | none => rfl
  | some c =>
    cases c with
    | al a b =>
      show (if a = i then Cl.un else Cl.al a b).tr = _
      split <;> rfl
    | _ => rfl
theorem kil_nt {i j : Nat} : nt (kil i g) j = nt g j := by
  unfold nt
  rw [kil_get]
  cases g[j]? with
  | none => rfl
  | some c =>
    cases c with
    | al a b =>
      show (if a = i then Cl.un else Cl.al a b).nm = _
      split <;> rfl
    | _ => rfl
theorem kil_b {i j : Nat} {x : T} (h : (kil i g)[j]? = some (Cl.b x)) : g[j]? = some (Cl.b x) := by
  rw [kil_get] at h
  cases e : g[j]? with
  | none => rw [e] at h; cases h
  | some c =>
    rw [e] at h
    cases c with
    | al a b =>
      have h' : (if a = i then Cl.un else Cl.al a b) = Cl.b x := Option.some.inj h
      split at h' <;> cases h'
    | b y => exact h
    | _ => cases h
theorem kil_al {i j a k : Nat} (h : (kil i g)[j]? = some (Cl.al a k)) : g[j]? = some (Cl.al a k) ∧ a ≠ i := by
  rw [kil_get] at h
  cases e : g[j]? with
  | none => rw [e] at h; cases h
  | some c =>
    rw [e] at h
    cases c with
    | al b m =>
      have h' : (if b = i then Cl.un else Cl.al b m) = Cl.al a k := Option.some.inj h
      split at h'
      · cases h'
      · rename_i n
        cases h'
        exact ⟨rfl, n⟩
    | _ => cases h
theorem kil_len {i : Nat} : (kil i g).length = g.length := by unfold kil; rw [List.length_map]
/-- whether a slot may be filled anew -/
def free1 (g : Ct) (i : Nat) : Bool := match g[i]? with
  | some (.b _) => false
  | _ => true
/-- the top goes to slot i -/
theorem StT.setTop {v : V} {x : T} {i : Nat} (ok : StT K V0 F0 H0 B F H (σ ++ [some v]) (g ++ [.tm x])) (l : σ.length = g.length) (hf : free1 g i = true) : StT K V0 F0 H0 B F H (σ.set i (some v)) ((kil i g).set i (.t x)) := by
  have nb : ∀ y, g[i]? ≠ some (Cl.b y) := fun y e => by
    unfold free1 at hf
    rw [e] at hf
    cases hf
  have g1 : ∀ j, gt ((kil i g).set i (.t x)) j = if i = j ∧ i < g.length then some x else gt g j := fun j => by
    by_cases e : i = j
    · subst e
      unfold gt
      by_cases li : i < g.length
      · rw [List.getElem?_set_self (by rw [kil_len]; exact li), if_pos ⟨rfl, li⟩]
        rfl
      · rw [if_neg (fun z => li z.2), List.getElem?_eq_none (by simp [kil_len]; omega), List.getElem?_eq_none (by omega)]
    · rw [if_neg (fun z => e z.1)]
      have : gt ((kil i g).set i (.t x)) j = gt (kil i g) j := by
        unfold gt
        rw [List.getElem?_set_ne e]
      rw [this, kil_gt]
  have n1 : ∀ j, i ≠ j → nt ((kil i g).set i (.t x)) j = nt g j := fun j e => by
    have : nt ((kil i g).set i (.t x)) j = nt (kil i g) j := by
      unfold nt
      rw [List.getElem?_set_ne e]
    rw [this, kil_nt]
  refine ok.pick (fun j => if j = i then g.length else j) (by simp [kil_len, l]) (fun a b ha hb e => ?_) (fun j y hy => ?_) (fun j y hy => ?_) (fun j a k e => ?_)
  · have la : a < g.length := by
      obtain ⟨y, hy⟩ := Option.isSome_iff_exists.mp ha
      have := gt_lt hy
      simpa [kil_len] using this
    have lb : b < g.length := by
      obtain ⟨y, hy⟩ := Option.isSome_iff_exists.mp hb
      have := gt_lt hy
      simpa [kil_len] using this
    split at e <;> split at e <;> omega
  · rw [g1] at hy
    by_cases e : i = j ∧ i < g.length
    · rw [if_pos e] at hy
      cases hy
      obtain ⟨rfl, li⟩ := e
      rw [if_pos rfl]
      exact ⟨gt_push, by rw [List.getElem?_set_self (by omega), List.getElem?_append_right (by omega)]; simp [l]⟩
    · rw [if_neg e] at hy
      have lj := gt_lt hy
      have ne : j ≠ i := fun z => e ⟨z.symm, by omega⟩
      rw [if_neg ne]
      exact ⟨by rw [gt_append_left lj]; exact hy, by rw [List.getElem?_set_ne (Ne.symm ne), List.getElem?_append_left (by omega)]⟩
  · by_cases e : i = j
    · subst e
      exfalso
      by_cases li : i < g.length
      · rw [List.getElem?_set_self (by rw [kil_len]; exact li)] at hy
        cases hy
      · rw [List.getElem?_eq_none (by simp [kil_len]; omega)] at hy
        cases hy
    · rw [List.getElem?_set_ne e] at hy
      have hb := kil_b hy
      have lj := (List.getElem?_eq_some_iff.mp hb).1
      exact ⟨⟨y, by rw [List.getElem?_append_left lj]; exact hb⟩, by rw [List.getElem?_set_ne e, List.getElem?_append_left (by omega)]⟩
  · by_cases z : i = j
    · subst z
      exfalso
      by_cases li : i < g.length
      · rw [List.getElem?_set_self (by rw [kil_len]; exact li)] at e
        cases e
      · rw [List.getElem?_eq_none (by simp [kil_len]; omega)] at e
        cases e
    · rw [List.getElem?_set_ne z] at e
      obtain ⟨e1, e2⟩ := kil_al e
      have lj := (List.getElem?_eq_some_iff.mp e1).1
      have e' : (g ++ [Cl.tm x])[j]? = some (Cl.al a k) := by rw [List.getElem?_append_left lj]; exact e1
      obtain ⟨_, _, _, _, _, _, _, _, ts, h6⟩ := ok.al j a k e'
      have la := nt_tmp (tmp := [.tm x]) (fun c hc => ⟨x, List.mem_singleton.mp hc⟩) h6
      exact ⟨e', by rw [List.getElem?_set_ne z, List.getElem?_append_left (by omega)], by rw [List.getElem?_set_ne (Ne.symm e2), List.getElem?_append_left (by omega)], by rw [n1 a (Ne.symm e2), nt_append_left la]⟩
end
end MI
set_option Elab.async false
set_option linter.all false
set_option maxRecDepth 100000
set_option maxHeartbeats 4000000
namespace MI
open PySem PySem.Spec PyProof.Rows L2
def repl (y : T) : Cl → Cl
  | .t _ => .t y
  | .b _ => .b y
  | .tm _ => .tm y
  | c => c
def setT (g : Ct) (i : Nat) (y : T) : Ct := match g[i]? with
  | some c => g.set i (repl y c)
  | none => g
theorem sub_one_ {F H : Hp} {r w : V} {p : List Nat} (h : Sub F H r p w) (e : p = []) : w = r := by
  subst e
  cases h
  rfl
section
variable {K : PySem.W.Frag} {V0 V1 : Nat → Option V} {F0 H0 F H F' H' : Hp} {B : Addr → Prop} {σ σ' : L2.St} {g g' : Ct}
theorem setT_len {i : Nat} {y : T} : (setT g i y).length = g.length := by
  unfold setT
  split <;> simp
theorem setT_get {i j : Nat} {y : T} : (setT g i y)[j]? = if j = i then (g[i]?).map (repl y) else g[j]? := by
  unfold setT
  cases e : g[i]? with
  | none =>
    dsimp only
    by_cases q : j = i
    · rw [if_pos q, q, e]; rfl
    · rw [if_neg q]
  | some c =>
    have li := (List.getElem?_eq_some_iff.mp e).1
    dsimp only
    by_cases q : j = i
    · rw [if_pos q, q, List.getElem?_set_self li]; rfl
    · rw [if_neg q, List.getElem?_set_ne (Ne.symm q)]
theorem setT_gt {i j : Nat} {x y : T} (hx : gt g i = some x) : gt (setT g i y) j = if j = i then some y else gt g j := by
  unfold gt at hx ⊢
  rw [setT_get]
  by_cases q : j = i
  · rw [if_pos q, if_pos q]
    cases e : g[i]? with
    | none => rw [e] at hx; cases hx
    | some c => rw [e] at hx; cases c <;> first | rfl | cases hx
  · rw [if_neg q, if_neg q]
theorem setT_nt {i j : Nat} {x y : T} (hx : nt g i = some x) : nt (setT g i y) j = if j = i then some y else nt g j := by
  unfold nt at hx ⊢
  rw [setT_get]
  by_cases q : j = i
  · rw [if_pos q, if_pos q]
    cases e : g[i]? with
    | none => rw [e] at hx; cases hx
    | some c => rw [e] at hx; cases c <;> first | rfl | cases hx
  · rw [if_neg q, if_neg q]
theorem setT_nt_ne {i j : Nat} {y : T} (q : j ≠ i) : nt (setT g i y) j = nt g j := by
  unfold nt
  rw [setT_get, if_neg q]
theorem setT_al {i j a k : Nat} {y : T} (h : (setT g i y)[j]? = some (Cl.al a k)) : g[j]? = some (Cl.al a k) := by
  rw [setT_get] at h
  by_cases q : j = i
  · rw [if_pos q] at h
    rw [q]
    cases e : g[i]? with
    | none => rw [e] at h; cases h
    | some c => rw [e] at h; cases c <;> first | exact h | cases h
  · rw [if_neg q] at h
    exact h
theorem setT_b {i j : Nat} {x y : T} (h : (setT g i y)[j]? = some (Cl.b x)) : ∃ z, g[j]? = some (Cl.b z) := by
  rw [setT_get] at h
  by_cases q : j = i
  · rw [if_pos q] at h
    rw [q]
    cases e : g[i]? with
    | none => rw [e] at h; cases h
    | some c =>
      rw [e] at h
      cases c with
      | b z => exact ⟨z, rfl⟩
      | _ => cases h
  · rw [if_neg q] at h
    exact ⟨x, h⟩
/-- a list at a place within slot i's tree changes -/
theorem StT.write (ok : StT K V0 F0 H0 B F H σ g) {i : Nat} {x : T} {p : List Nat} {ts : List T} (hx : gt g i = some x) (hp : x.get p = some (.lst ts)) :
    ∃ (r : V) (a : Addr) (vs : List V) (Sc : Addr → Prop), σ[i]? = some (some r) ∧ Sub F H r p (.ref a) ∧ H a = some (.lst vs) ∧ TRs K F H vs ts Sc ∧
      ∀ (vs' : List V) (ts' : List T) (Sc' : Addr → Prop), TRs K F H vs' ts' Sc' → (∀ b, Sc' b → Sc b) → (p = [] → ∀ (j k : Nat), g[j]? = some (Cl.al i k) → vs'[k]? = vs[k]?) → StT K V0 F0 H0 B F (upd H a (.lst vs')) σ (setT g i (x.put p (.lst ts'))) := by
  obtain ⟨S, s1, s2, s3, s4⟩ := ok.own
  obtain ⟨r, hr, tr⟩ := s1 i x hx
  obtain ⟨w, S1, O, f1, f2, f3, f4, f6, f5⟩ := tr_focus p tr hp
  generalize hS1 : S1 = S1' at f2
  cases f2 with
  | @lst a vs _ Sc q1 q2 q3 q4 =>
    subst hS1
    refine ⟨r, a, vs, Sc, hr, f1, q1, q3, fun vs' ts' Sc' h' hsub hal => ?_⟩
    have aS : S i a := (f3 a).mpr (.inl (.inl rfl))
    have h2 : TRs K F (upd H a (.lst vs')) vs' ts' Sc' := trs_mono (Same.refl F) h' fun b hb => ⟨upd_ne (fun e => q4 (e ▸ hsub b hb)), (trs_own h' b hb).choose_spec.2⟩
    have Sc'a : ¬ Sc' a := fun z => q4 (hsub a z)
    obtain ⟨S', t1, t2⟩ := f5 (Same.refl F) (fun b hb => ⟨upd_ne (fun e => f4 b (.inl e) hb), (tr_own tr b ((f3 b).mpr (.inr hb))).choose_spec.2⟩) (TR.lst (a := a) upd_same q2 h2 Sc'a) (fun b hb hO => by
      rcases hb with hb | hb
      · exact f4 b (.inl hb) hO
      · exact f4 b (.inr (hsub b hb)) hO)
    have sub' : ∀ b, S' b → S i b := fun b hb => by
      rcases (t2 b).mp hb with (z | z) | z
      · exact (f3 b).mpr (.inl (.inl z))
      · exact (f3 b).mpr (.inl (.inr (hsub b z)))
      · exact (f3 b).mpr (.inr z)
    refine ⟨ok.f, fun b o nb e => ?_, fun b o e => ?_, ok.n, by rw [setT_len]; exact ok.len, ⟨fun j => if j = i then S' else S j, fun j y hy => ?_, fun j b hb => ?_, fun j k b hj hk => ?_, fun j hj b hb => ?_⟩, fun j y hy => ?_, fun j m k e => ?_⟩
    · have : b ≠ a := fun z => by
        subst z
        rcases s2 i b aS with z | z
        · exact nb z
        · rw [z] at e; cases e
      rw [upd_ne this]
      exact ok.h b o nb e
    · have : b ≠ a := fun z => by
        subst z
        rw [q2] at e; cases e
      rw [upd_ne this]
      exact ok.s b o e
    · rw [setT_gt hx] at hy
      by_cases z : j = i
      · rw [if_pos z] at hy
        cases hy
        refine ⟨r, by rw [z]; exact hr, ?_⟩
        show TR K F _ r _ (if j = i then S' else S j)
        rw [if_pos z]
        exact t1
      · rw [if_neg z] at hy
        show ∃ v, _ ∧ TR K F _ v y (if j = i then S' else S j)
        rw [if_neg z]
        obtain ⟨v, h1, h2⟩ := s1 j y hy
        exact ⟨v, h1, tr_mono (Same.refl F) h2 fun b hb => ⟨upd_ne (fun e => z (s3 j i b hb (e ▸ aS))), (tr_own h2 b hb).choose_spec.2⟩⟩
    · dsimp only at hb
      split at hb
      · exact s2 i b (sub' b hb)
      · exact s2 j b hb
    · dsimp only at hj hk
      split at hj
      · rename_i e1
        split at hk
        · rename_i e2; rw [e1, e2]
        · rw [e1]; exact s3 i k b (sub' b hj) hk
      · split at hk
        · rename_i e2; rw [e2]; exact s3 j i b hj (sub' b hk)
        · exact s3 j k b hj hk
    · rw [setT_gt hx] at hj
      split at hj
      · cases hj
      · rename_i z
        rw [if_neg z] at hb
        exact s4 j hj b hb
    · obtain ⟨z, hz⟩ := setT_b hy
      exact ok.bor j z hz
    · have e0 := setT_al e
      obtain ⟨a', vs0, v, h1, h2, h3, h4, h5, ts0, h6⟩ := ok.al j m k e0
      by_cases z : m = i
      · subst z
        have hx' := h6
        rw [gt_nt h6] at hx
        cases hx
        rw [hr] at h1
        cases h1
        cases p with
        | nil =>
          have := sub_one_ f1 rfl
          cases this
          rw [q1] at h2
          cases h2
          exact ⟨a, vs', v, hr, upd_same, q2, (hal rfl j k e0).trans h4, h5, ts', by rw [setT_nt hx', if_pos rfl, T.put_nil]⟩
        | cons c q =>
          have ne : a' ≠ a := fun e => f6 a' ts0 rfl rfl (List.cons_ne_nil _ _) (.inl e)
          refine ⟨a', vs0, v, hr, by rw [upd_ne ne]; exact h2, h3, h4, h5, ?_⟩
          rw [setT_nt hx', if_pos rfl]
          unfold T.put
          split
          · exact ⟨_, rfl⟩
          · exact ⟨_, rfl⟩
      · obtain ⟨v', w1, w2⟩ := s1 m _ (gt_nt h6)
        rw [h1] at w1
        cases w1
        generalize hSm : S m = Sm at w2
        cases w2 with
        | lst y1 y2 y3 y4 =>
          have ne : a' ≠ a := fun e => z (s3 m i a' (by rw [hSm]; exact .inl rfl) (e ▸ aS))
          exact ⟨a', vs0, v, h1, by rw [upd_ne ne]; exact h2, h3, h4, h5, ts0, by rw [setT_nt_ne z]; exact h6⟩
/-- the tops become data and go -/
theorem StT.tops' {vs : List V} {ts : List T} (ok : StT K V0 F0 H0 B F H (σ ++ vs.map some) (g ++ ts.map Cl.tm)) (l : σ.length = g.length) : ∃ F1, Same F F1 ∧ StT K V0 F0 H0 B F1 H σ g ∧ DpAll K F1 vs (fzL ts) ∧ ∀ (j : Nat) (us : List T) (v : V), ts[j]? = some (.lst us) → vs[j]? = some v → ∃ b ws, v = .ref b ∧ H b = some (.lst ws) ∧ DpAll K F1 ws (fzL us) := by
  classical
  obtain ⟨S, s1, s2, s3, s4⟩ := ok.own
  let P : Addr → Prop := fun a => ∃ i, g.length ≤ i ∧ S i a
  let F1 : Hp := fun a => if P a then H a else F a
  have ow : ∀ i a, S i a → ∃ xs, H a = some (.lst xs) ∧ F a = none := fun i a q => by
    cases e : gt (g ++ ts.map Cl.tm) i with
    | none => exact (s4 i e a q).elim
    | some x =>
      obtain ⟨v, _, h2⟩ := s1 i x e
      exact tr_own h2 a q
  have f1 : Same F F1 := fun a o e => by
    show (if P a then H a else F a) = _
    by_cases h : P a
    · obtain ⟨i, _, q⟩ := h
      obtain ⟨_, _, z⟩ := ow i a q
      rw [z] at e; cases e
    · rw [if_neg h]; exact e
  have f1s : Same F1 H := fun a o e => by
    have e' : (if P a then H a else F a) = some o := e
    by_cases h : P a
    · rw [if_pos h] at e'; exact e'
    · rw [if_neg h] at e'; exact ok.s _ _ e'
  have out : ∀ i a, i < g.length → S i a → F1 a = none := fun i a li q => by
    show (if P a then H a else F a) = _
    rw [if_neg]
    · exact (ow i a q).choose_spec.2
    · rintro ⟨j, lj, q'⟩
      have := s3 i j a q q'
      omega
  have lens : vs.length = ts.length := by
    have := ok.len
    simp at this
    omega
  have topAt : ∀ (j : Nat) (v : V) (x : T), vs[j]? = some v → ts[j]? = some x → TR K F H v x (S (g.length + j)) := fun j v x hv hx => by
    obtain ⟨v', h1, h2⟩ := s1 (g.length + j) x (by
      unfold gt
      rw [List.getElem?_append_right (by omega)]
      simp [hx, Cl.tr])
    rw [List.getElem?_append_right (by omega)] at h1
    rw [show g.length + j - σ.length = j by omega, List.getElem?_map, hv] at h1
    cases h1
    exact h2
  refine ⟨F1, f1, ?_, ?_, fun j us v hx hv => ?_⟩
  · have tk := ok.take l (fun c hc => by
      obtain ⟨x, _, e⟩ := List.mem_map.mp hc
      exact ⟨x, e.symm⟩)
    refine ⟨ok.f.trans f1, ok.h, f1s, fun a o e n => ?_, l, ⟨fun i a => i < g.length ∧ S i a, fun i x hx => ?_, fun i a q => s2 i a q.2, fun i j a q r => s3 i j a q.2 r.2, fun i e a q => ?_⟩, tk.bor, fun j i k e => ?_⟩
    · have e' : (if P a then H a else F a) = some o := e
      by_cases h : P a
      · obtain ⟨i, _, q⟩ := h
        exact (s2 i a q).symm
      · rw [if_neg h] at e'
        exact ok.n a o e' n
    · have li := gt_lt hx
      obtain ⟨v, h1, h2⟩ := s1 i x (by rw [gt_append_left li]; exact hx)
      rw [List.getElem?_append_left (by omega)] at h1
      refine ⟨v, h1, ?_⟩
      have : (fun a => i < g.length ∧ S i a) = S i := by
        funext a
        simp [li]
      show TR K F1 H v x (fun a => i < g.length ∧ S i a)
      rw [this]
      exact tr_mono f1 h2 fun a q => ⟨rfl, out i a li q⟩
    · exact s4 i (by rw [gt_append_left q.1]; exact e) a q.2
    · obtain ⟨a, us, v, h1, h2, h3, h4, h5, ts0, h6⟩ := tk.al j i k e
      have li := nt_lt h6
      obtain ⟨v', w1, w2⟩ := s1 i _ (by rw [gt_append_left li]; exact gt_nt h6)
      rw [List.getElem?_append_left (by omega), h1] at w1
      cases w1
      generalize hSi : S i = Si at w2
      cases w2 with
      | lst y1 y2 y3 y4 =>
        exact ⟨a, us, v, h1, h2, out i a li (by rw [hSi]; exact .inl rfl), h4, h5, ts0, h6⟩
  · have key : ∀ (k : Nat) (vs : List V) (ts : List T), vs.length = ts.length → (∀ (j : Nat) (v : V) (x : T), vs[j]? = some v → ts[j]? = some x → ∃ i, g.length ≤ i ∧ TR K F H v x (S i)) → DpAll K F1 vs (fzL ts) := by
      intro k vs
      induction vs with
      | nil => intro ts hl _; cases ts with
        | nil => exact .nil
        | cons a b => simp at hl
      | cons v vs ih =>
        intro ts hl h
        cases ts with
        | nil => simp at hl
        | cons x ts =>
          obtain ⟨i, li, h2⟩ := h 0 v x rfl rfl
          refine .cons (tr_fz f1 h2 fun a q => ?_) (ih ts (by simpa using hl) fun j v x hv hx => h (j + 1) v x (by simpa using hv) (by simpa using hx))
          show (if P a then H a else F a) = _
          rw [if_pos ⟨i, li, q⟩]
    exact key 0 vs ts lens fun j v x hv hx => ⟨g.length + j, by omega, topAt j v x hv hx⟩
  · have h2 := topAt j v _ hv hx
    generalize hSj : S (g.length + j) = Sj at h2
    cases h2 with
    | @lst b ws _ Sc q1 q2 q3 q4 =>
      refine ⟨b, ws, rfl, q1, trs_fz f1 q3 fun a q => ?_⟩
      show (if P a then H a else F a) = _
      rw [if_pos ⟨g.length + j, by omega, by rw [hSj]; exact .inr q⟩]
theorem StT.tops {vs : List V} {ts : List T} (ok : StT K V0 F0 H0 B F H (σ ++ vs.map some) (g ++ ts.map Cl.tm)) (l : σ.length = g.length) : ∃ F1, Same F F1 ∧ StT K V0 F0 H0 B F1 H σ g ∧ DpAll K F1 vs (fzL ts) := by
  obtain ⟨F1, h1, h2, h3, _⟩ := ok.tops' l
  exact ⟨F1, h1, h2, h3⟩
/-- slot i's own tree becomes data -/
theorem StT.fzAt {i : Nat} {x : T} (ok : StT K V0 F0 H0 B F H σ g) (hx : g[i]? = some (.t x)) : ∃ F1, Same F F1 ∧ StT K V0 F0 H0 B F1 H σ ((kil i g).set i (.t (.dat (fz x)))) := by
  classical
  obtain ⟨S, s1, s2, s3, s4⟩ := ok.own
  let F1 : Hp := fun a => if S i a then H a else F a
  have gi := gt_of (.inl hx)
  have li := gt_lt gi
  obtain ⟨w, hw, tw⟩ := s1 i x gi
  have f1 : Same F F1 := fun a o e => by
    show (if S i a then H a else F a) = _
    by_cases h : S i a
    · obtain ⟨_, _, z⟩ := tr_own tw a h
      rw [z] at e; cases e
    · rw [if_neg h]; exact e
  have f1s : Same F1 H := fun a o e => by
    have e' : (if S i a then H a else F a) = some o := e
    by_cases h : S i a
    · rw [if_pos h] at e'; exact e'
    · rw [if_neg h] at e'; exact ok.s _ _ e'
  have out : ∀ j a, j ≠ i → S j a → F a = none → F1 a = none := fun j a lj q z => by
    show (if S i a then H a else F a) = _
    rw [if_neg (fun r => lj (s3 j i a q r))]
    exact z
  have g1 : ∀ j, gt ((kil i g).set i (.t (.dat (fz x)))) j = if j = i then some (.dat (fz x)) else gt g j := fun j => by
    by_cases e : j = i
    · subst e
      unfold gt
      rw [if_pos rfl, List.getElem?_set_self (by rw [kil_len]; exact li)]
      rfl
    · rw [if_neg e]
      have : gt ((kil i g).set i (.t (.dat (fz x)))) j = gt (kil i g) j := by
        unfold gt
        rw [List.getElem?_set_ne (Ne.symm e)]
      rw [this, kil_gt]
  refine ⟨F1, f1, ok.f.trans f1, ok.h, f1s, fun a o e n => ?_, by simp [kil_len, ok.len], ⟨fun j a => j ≠ i ∧ S j a, fun j y hy => ?_, fun j a q => s2 j a q.2, fun j k a q r => s3 j k a q.2 r.2, fun j e a q => ?_⟩, fun j y hy => ?_, fun j m k e => ?_⟩
  · have e' : (if S i a then H a else F a) = some o := e
    by_cases h : S i a
    · exact (s2 i a h).symm
    · rw [if_neg h] at e'
      exact ok.n a o e' n
  · rw [g1] at hy
    by_cases e : j = i
    · subst e
      rw [if_pos rfl] at hy
      cases hy
      refine ⟨w, hw, ?_⟩
      have : (fun a => j ≠ j ∧ S j a) = fun _ => False := by
        funext a
        simp
      show TR K F1 H w _ (fun a => j ≠ j ∧ S j a)
      rw [this]
      exact .dat (tr_fz f1 tw fun a q => if_pos q)
    · rw [if_neg e] at hy
      obtain ⟨v, h1, h2⟩ := s1 j y hy
      refine ⟨v, h1, ?_⟩
      have : (fun a => j ≠ i ∧ S j a) = S j := by
        funext a
        simp [e]
      show TR K F1 H v y (fun a => j ≠ i ∧ S j a)
      rw [this]
      exact tr_mono f1 h2 fun a q => ⟨rfl, out j a e q (tr_own h2 a q).choose_spec.2⟩
  · rw [g1, if_neg q.1] at e
    exact s4 j e a q.2
  · by_cases e : j = i
    · subst e
      rw [List.getElem?_set_self (by rw [kil_len]; exact li)] at hy
      cases hy
    · rw [List.getElem?_set_ne (Ne.symm e)] at hy
      exact ok.bor j y (kil_b hy)
  · by_cases z : j = i
    · subst z
      rw [List.getElem?_set_self (by rw [kil_len]; exact li)] at e
      cases e
    · rw [List.getElem?_set_ne (Ne.symm z)] at e
      obtain ⟨e1, e2⟩ := kil_al e
      obtain ⟨a, us, v, h1, h2, h3, h4, h5, ts0, h6⟩ := ok.al j m k e1
      obtain ⟨v', w1, w2⟩ := s1 m _ (gt_nt h6)
      rw [h1] at w1
      cases w1
      generalize hSm : S m = Sm at w2
      cases w2 with
      | lst y1 y2 y3 y4 =>
        refine ⟨a, us, v, h1, h2, out m a e2 (by rw [hSm]; exact .inl rfl) h3, h4, h5, ts0, ?_⟩
        have : nt ((kil i g).set i (.t (.dat (fz x)))) m = nt (kil i g) m := by
          unfold nt
          rw [List.getElem?_set_ne (Ne.symm e2)]
        rw [this, kil_nt]
        exact h6
end
end MI
set_option Elab.async false
set_option linter.all false
set_option maxRecDepth 100000
set_option maxHeartbeats 4000000
namespace MI
open PySem PySem.Spec PyProof.Rows L2
inductive RG (α : Type) where
  | ok (a : α) (g : Ct)
  | exc (c : Str) (p : Option D) (g : Ct)
  | bad
def RG.bind {α β : Type} (x : RG α) (f : α → Ct → RG β) : RG β := match x with
  | .ok a g => f a g
  | .exc c p g => .exc c p g
  | .bad => .bad
@[simp] theorem RG.bind_ok {α β : Type} (a : α) (g : Ct) (f : α → Ct → RG β) : (RG.ok a g).bind f = f a g := Eq.trans rfl rfl
@[simp] theorem RG.bind_exc {α β : Type} (c : Str) (p : Option D) (g : Ct) (f : α → Ct → RG β) : (RG.exc c p g : RG α).bind f = .exc c p g := Eq.trans rfl rfl
@[simp] theorem RG.bind_bad {α β : Type} (f : α → Ct → RG β) : (RG.bad : RG α).bind f = .bad := Eq.trans rfl rfl
/-- a result over data, the slots as they were -/
def RG.of {α : Type} (x : R α) (g : Ct) : RG α := match x with
  | .ok a => .ok a g
  | .exc c p => .exc c p g
  | .bad => .bad
abbrev XM := Ct → RG T
abbrev XA := Ct → RG (List T)
abbrev XT := Ct → RG Bool
/-- where an expression is reckoned: the slots, and what lies upon them -/
structure At (K : PySem.W.Frag) (V0 : Nat → Option V) (F0 H0 : Hp) (B : Addr → Prop) (ext : L2.St) (tmp : Ct) (F H : Hp) (σ : L2.St) (g : Ct) : Prop where
  st : StT K V0 F0 H0 B F H (σ ++ ext) (g ++ tmp)
  l : σ.length = g.length
  tm : Tm tmp
theorem VwOk.pre {K : PySem.W.Frag} {F : Hp} {σ τ : L2.St} {δ η : Vw} (h : VwOk K F τ η) (l : δ.length ≤ σ.length) (hd : ∀ (i : Nat) (d : D), δ[i]? = some (some d) → η[i]? = some (some d)) (hs : ∀ i, i < σ.length → σ[i]? = τ[i]?) : VwOk K F σ δ :=
  ⟨l, fun i d q => by
    obtain ⟨v, h1, h2⟩ := h.2 i d (hd i d q)
    have li := (List.getElem?_eq_some_iff.mp q).1
    exact ⟨v, by rw [hs i (by omega)]; exact h1, h2⟩⟩
theorem vd_pre {g tmp : Ct} {i : Nat} {d : D} (h : (tvd g)[i]? = some (some d)) : (tvd (g ++ tmp))[i]? = some (some d) := by
  unfold tvd at h ⊢
  rw [List.getElem?_map] at h ⊢
  cases e : g[i]? with
  | none => rw [e] at h; cases h
  | some c =>
    rw [e] at h
    have li := (List.getElem?_eq_some_iff.mp e).1
    rw [List.getElem?_append_left li, e]
    have h' : Cl.vd g c = some d := by simpa using h
    cases c with
    | al j k =>
      unfold Cl.vd at h'
      dsimp only at h'
      split at h'
      · rename_i ts ht
        show some (Cl.vd (g ++ tmp) (.al j k)) = _
        unfold Cl.vd
        dsimp only
        rw [nt_append_left (nt_lt ht), ht]
        exact congrArg some h'
      · cases h'
    | t x => cases x <;> first | exact congrArg some h' | cases h'
    | b x => cases x <;> first | exact congrArg some h' | cases h'
    | un => cases h'
    | tm x => cases h'
theorem va_pre {g tmp : Ct} {i : Nat} {d : D} (h : (tva g)[i]? = some (some d)) : (tva (g ++ tmp))[i]? = some (some d) := by
  unfold tva at h ⊢
  rw [List.getElem?_map] at h ⊢
  cases e : g[i]? with
  | none => rw [e] at h; cases h
  | some c =>
    rw [e] at h
    have li := (List.getElem?_eq_some_iff.mp e).1
    rw [List.getElem?_append_left li, e]
    have h' : Cl.va g c = some d := by simpa using h
    cases c with
    | al j k =>
      unfold Cl.va at h'
      dsimp only at h'
      split at h'
      · rename_i ts ht
        show some (Cl.va (g ++ tmp) (.al j k)) = _
        unfold Cl.va
        dsimp only
        rw [nt_append_left (nt_lt ht), ht]
        exact congrArg some h'
      · cases h'
    | t x => exact congrArg some h'
    | b x => exact congrArg some h'
    | un => cases h'
    | tm x => cases h'
section
variable {K : PySem.W.Frag} {V0 : Nat → Option V} {F0 H0 F H F' H' : Hp} {B : Addr → Prop} {σ ext : L2.St} {g tmp : Ct}
theorem At.mono (a : At K V0 F0 H0 B ext tmp F H σ g) (E : Ext F H F' H') : At K V0 F0 H0 B ext tmp F' H' σ g := ⟨a.st.mono E, a.l, a.tm⟩
theorem At.s (a : At K V0 F0 H0 B ext tmp F H σ g) : Same F H := a.st.s
theorem At.vd (a : At K V0 F0 H0 B ext tmp F H σ g) : VwOk K F σ (tvd g) :=
  a.st.vd.pre (by unfold tvd; rw [List.length_map, a.l]; exact Nat.le_refl _) (fun i d h => vd_pre h) fun i h => (List.getElem?_append_left h).symm
theorem At.va (a : At K V0 F0 H0 B ext tmp F H σ g) : ∃ F1, Same F1 H ∧ Same F F1 ∧ VwOk K F1 σ (tva g) ∧
    ∀ F' H', Ext F1 H F' H' → ∃ F2, At K V0 F0 H0 B ext tmp F2 H' σ g ∧ Same F F2 ∧ (∀ d v, Dp K F' v d → flat d = true → Dp K F2 v d) ∧ ∀ b o, F' b = some o → (∀ xs, o ≠ .lst xs) → F2 b = some o := by
  obtain ⟨F1, h1, h2, h3, h4⟩ := a.st.va
  refine ⟨F1, h1, h2, h3.pre (by unfold tva; rw [List.length_map, a.l]; exact Nat.le_refl _) (fun i d h => va_pre h) fun i h => (List.getElem?_append_left h).symm, fun F' H' E => ?_⟩
  obtain ⟨F2, q1, q2, q3, q4⟩ := h4 F' H' E
  exact ⟨F2, ⟨q1, a.l, a.tm⟩, q2, q3, q4⟩
theorem At.push {v : V} {d : D} (a : At K V0 F0 H0 B ext tmp F H σ g) (h : Dp K F v d) : At K V0 F0 H0 B (ext ++ [some v]) (tmp ++ [.tm (.dat d)]) F H σ g := by
  refine ⟨?_, a.l, fun c hc => ?_⟩
  · rw [← List.append_assoc, ← List.append_assoc]
    exact a.st.pushD h
  · rcases List.mem_append.mp hc with hc | hc
    · exact a.tm c hc
    · exact ⟨_, List.mem_singleton.mp hc⟩
theorem tm_map {ts : List T} : Tm (ts.map Cl.tm) := fun c hc => by
  obtain ⟨x, _, e⟩ := List.mem_map.mp hc
  exact ⟨x, e.symm⟩
theorem At.tops {vs : List V} {ts : List T} (ht : Tm tmp) (a : At K V0 F0 H0 B (ext ++ vs.map some) (tmp ++ ts.map Cl.tm) F H σ g) (hl : ext.length = tmp.length) : ∃ F1, Same F F1 ∧ At K V0 F0 H0 B ext tmp F1 H σ g ∧ DpAll K F1 vs (fzL ts) := by
  have st := a.st
  rw [← List.append_assoc, ← List.append_assoc] at st
  obtain ⟨F1, h1, h2, h3⟩ := st.tops (by simp [a.l, hl])
  exact ⟨F1, h1, ⟨h2, a.l, ht⟩, h3⟩
theorem At.len (a : At K V0 F0 H0 B ext tmp F H σ g) : ext.length = tmp.length := by
  have := a.st.len
  simp [a.l] at this
  exact this
end
section
variable (X : Cx) (W : WX) (V0 : Nat → Option V) (F0 H0 : Hp) (B : Addr → Prop) (ext : L2.St) (tmp : Ct) (σ : L2.St)
def XPost (Q : VK) : RG T → Prop
  | .ok t g => ∀ v F H, At X.K V0 F0 H0 B (ext ++ [some v]) (tmp ++ [.tm t]) F H σ g → Q v H
  | .exc c p g => ∀ cls od F H, At X.K V0 F0 H0 B ext tmp F H σ g → XV X.K X.mg F c p cls od → W cls od σ H
  | .bad => False
def XPostA (Q : List V → Hp → Prop) : RG (List T) → Prop
  | .ok ts g => ∀ vs F H, At X.K V0 F0 H0 B (ext ++ vs.map some) (tmp ++ ts.map Cl.tm) F H σ g → Q vs H
  | .exc c p g => ∀ cls od F H, At X.K V0 F0 H0 B ext tmp F H σ g → XV X.K X.mg F c p cls od → W cls od σ H
  | .bad => False
def XPostB (Q : Bool → Hp → Prop) : RG Bool → Prop
  | .ok b g => ∀ F H, At X.K V0 F0 H0 B ext tmp F H σ g → Q b H
  | .exc c p g => ∀ cls od F H, At X.K V0 F0 H0 B ext tmp F H σ g → XV X.K X.mg F c p cls od → W cls od σ H
  | .bad => False
end
def tX (X : Cx) (W : WX) (m : XM) : TE := fun σ H Q => ∃ V0 F0 H0 B ext tmp F g, At X.K V0 F0 H0 B ext tmp F H σ g ∧ XPost X W V0 F0 H0 B ext tmp σ Q (m g)
def tXA (X : Cx) (W : WX) (m : XA) : TA := fun σ H Q => ∃ V0 F0 H0 B ext tmp F g, At X.K V0 F0 H0 B ext tmp F H σ g ∧ XPostA X W V0 F0 H0 B ext tmp σ Q (m g)
def tXT (X : Cx) (W : WX) (m : XT) : TT := fun σ H Q => ∃ V0 F0 H0 B ext tmp F g, At X.K V0 F0 H0 B ext tmp F H σ g ∧ XPostB X W V0 F0 H0 B ext tmp σ Q (m g)
abbrev MX (X : Cx) (W : WX) (e : Expr) (m : XM) : Prop := PE X e (tX X W m)
abbrev MXA (X : Cx) (W : WX) (es : List Expr) (m : XA) : Prop := PA X es (tXA X W m)
abbrev MXT (X : Cx) (W : WX) (e : Expr) (m : XT) : Prop := PT X e (tXT X W m)
def xP (m : M) : XM := fun g => (RG.of (m (tvd g)) g).bind fun d g => .ok (.dat d) g
def xV (m : M) : XM := fun g => match m (tva g) with
  | .ok d => if flat d = true then .ok (.dat d) g else .bad
  | .exc c p => if flatO p = true then .exc c p g else .bad
  | .bad => .bad
def xTP (m : Vw → R Bool) : XT := fun g => match m (tva g) with
  | .ok b => .ok b g
  | .exc c p => if flatO p = true then .exc c p g else .bad
  | .bad => .bad
section
variable {X : Cx} {W : WX} {e : Expr}
theorem mx_p {m : M} (he : ME X W e m) : MX X W e (xP m) := by
  refine PE.imp he fun σ H Q ⟨V0, F0, H0, B, ext, tmp, F, g, a, h⟩ => ⟨F, tvd g, a.s, a.vd, ?_⟩
  unfold xP at h
  cases em : m (tvd g) with
  | ok d => rw [em] at h; exact fun v F' H' E hd => h v F' H' ((a.mono E).push hd)
  | exc c p => rw [em] at h; exact fun cls od F' H' E x => h cls od F' H' (a.mono E) x
  | bad => rw [em] at h; exact h
theorem mx_v {m : M} (he : ME X W e m) : MX X W e (xV m) := by
  refine PE.imp he fun σ H Q ⟨V0, F0, H0, B, ext, tmp, F, g, a, h⟩ => ?_
  obtain ⟨F1, s1, s2, vw, th⟩ := a.va
  refine ⟨F1, tva g, s1, vw, ?_⟩
  unfold xV at h
  cases em : m (tva g) with
  | ok d =>
    rw [em] at h
    dsimp only at h
    split at h
    · rename_i fl
      intro v F' H' E hd
      obtain ⟨F2, a2, _, q, _⟩ := th F' H' E
      exact h v F2 H' (a2.push (q d v hd fl))
    · exact h.elim
  | exc c p =>
    rw [em] at h
    dsimp only at h
    split at h
    · rename_i fl
      intro cls od F' H' E x
      obtain ⟨F2, a2, _, _, q⟩ := th F' H' E
      exact h cls od F2 H' a2 (xv_flat x fl q)
    · exact h.elim
  | bad => rw [em] at h; exact h
theorem mxt_p {m : Vw → R Bool} (he : MT X W e m) : MXT X W e (xTP m) := by
  refine PT.imp he fun σ H Q ⟨V0, F0, H0, B, ext, tmp, F, g, a, h⟩ => ?_
  obtain ⟨F1, s1, s2, vw, th⟩ := a.va
  refine ⟨F1, tva g, s1, vw, ?_⟩
  unfold xTP at h
  cases em : m (tva g) with
  | ok b =>
    rw [em] at h
    intro F' H' E
    obtain ⟨F2, a2, _⟩ := th F' H' E
    exact h F2 H' a2
  | exc c p =>
    rw [em] at h
    dsimp only at h
    split at h
    · rename_i fl
      intro cls od F' H' E x
      obtain ⟨F2, a2, _, _, q⟩ := th F' H' E
      exact h cls od F2 H' a2 (xv_flat x fl q)
    · exact h.elim
  | bad => rw [em] at h; exact h
end
def xOf (o : Option D) (g : Ct) : RG T := match o with
  | some d => .ok (.dat d) g
  | none => .bad
def xBin (f : D → D → Option D) (a b : XM) : XM := fun g => (a g).bind fun t g1 => (b g1).bind fun u g2 => xOf (f (fz t) (fz u)) g2
def xUn (f : D → Option D) (a : XM) : XM := fun g => (a g).bind fun t g1 => xOf (f (fz t)) g1
section
variable {X : Cx} {W : WX} {V0 : Nat → Option V} {F0 H0 : Hp} {B : Addr → Prop} {ext : L2.St} {tmp : Ct} {σ : L2.St} {F H : Hp} {g : Ct}
/-- an expression, then what follows -/
theorem tX_bind {m : XM} {f : T → Ct → RG T} {Q P : VK} (a : At X.K V0 F0 H0 B ext tmp F H σ g) (h : XPost X W V0 F0 H0 B ext tmp σ Q ((m g).bind f))
    (k : ∀ t v g1 F1 H1, m g = .ok t g1 → At X.K V0 F0 H0 B (ext ++ [some v]) (tmp ++ [.tm t]) F1 H1 σ g1 → XPost X W V0 F0 H0 B ext tmp σ Q (f t g1) → P v H1) : tX X W m σ H P := by
  refine ⟨V0, F0, H0, B, ext, tmp, F, g, a, ?_⟩
  cases e : m g with
  | ok t g1 => rw [e] at h; exact fun v F1 H1 a1 => k t v g1 F1 H1 e a1 h
  | exc c p g1 => rw [e] at h; exact h
  | bad => rw [e] at h; exact h
theorem tX_bindB {m : XM} {f : T → Ct → RG Bool} {Q : Bool → Hp → Prop} {P : VK} (a : At X.K V0 F0 H0 B ext tmp F H σ g) (h : XPostB X W V0 F0 H0 B ext tmp σ Q ((m g).bind f))
    (k : ∀ t v g1 F1 H1, m g = .ok t g1 → At X.K V0 F0 H0 B (ext ++ [some v]) (tmp ++ [.tm t]) F1 H1 σ g1 → XPostB X W V0 F0 H0 B ext tmp σ Q (f t g1) → P v H1) : tX X W m σ H P := by
  refine ⟨V0, F0, H0, B, ext, tmp, F, g, a, ?_⟩
  cases e : m g with
  | ok t g1 => rw [e] at h; exact fun v F1 H1 a1 => k t v g1 F1 H1 e a1 h
  | exc c p g1 => rw [e] at h; exact h
  | bad => rw [e] at h; exact h
theorem tXA_bind {m : XA} {f : List T → Ct → RG T} {Q : VK} {P : List V → Hp → Prop} (a : At X.K V0 F0 H0 B ext tmp F H σ g) (h : XPost X W V0 F0 H0 B ext tmp σ Q ((m g).bind f))
    (k : ∀ ts vs g1 F1 H1, m g = .ok ts g1 → At X.K V0 F0 H0 B (ext ++ vs.map some) (tmp ++ ts.map Cl.tm) F1 H1 σ g1 → XPost X W V0 F0 H0 B ext tmp σ Q (f ts g1) → P vs H1) : tXA X W m σ H P := by
  refine ⟨V0, F0, H0, B, ext, tmp, F, g, a, ?_⟩
  cases e : m g with
  | ok t g1 => rw [e] at h; exact fun v F1 H1 a1 => k t v g1 F1 H1 e a1 h
  | exc c p g1 => rw [e] at h; exact h
  | bad => rw [e] at h; exact h
theorem of_postX {Q : VK} {o : Option D} (h : XPost X W V0 F0 H0 B ext tmp σ Q (xOf o g)) : ∃ d, o = some d ∧ ∀ v F H, At X.K V0 F0 H0 B (ext ++ [some v]) (tmp ++ [.tm (.dat d)]) F H σ g → Q v H := by
  cases o with
  | none => exact h.elim
  | some d => exact ⟨d, rfl, h⟩
theorem At.top1 {v : V} {t : T} (ht : Tm tmp) (hl : ext.length = tmp.length) (a : At X.K V0 F0 H0 B (ext ++ [some v]) (tmp ++ [.tm t]) F H σ g) : ∃ F1, Same F F1 ∧ At X.K V0 F0 H0 B ext tmp F1 H σ g ∧ Dp X.K F1 v (fz t) := by
  obtain ⟨F1, h1, h2, h3⟩ := At.tops (vs := [v]) (ts := [t]) ht a hl
  cases h3 with
  | cons q _ => exact ⟨F1, h1, h2, q⟩
theorem At.top2 {v w : V} {t u : T} (ht : Tm tmp) (hl : ext.length = tmp.length) (a : At X.K V0 F0 H0 B (ext ++ [some v] ++ [some w]) (tmp ++ [.tm t] ++ [.tm u]) F H σ g) : ∃ F1, Same F F1 ∧ At X.K V0 F0 H0 B ext tmp F1 H σ g ∧ Dp X.K F1 v (fz t) ∧ Dp X.K F1 w (fz u) := by
  rw [List.append_assoc, List.append_assoc] at a
  obtain ⟨F1, h1, h2, h3⟩ := At.tops (vs := [v, w]) (ts := [t, u]) ht a hl
  cases h3 with
  | cons q r =>
    cases r with
    | cons r _ => exact ⟨F1, h1, h2, q, r⟩
end
section
variable {X : Cx} {W : WX} {pos : Pos} {a b c : Expr} {ma mb : XM}
theorem bin_tX {r : R2} {f : D → D → Option D} (hr : ∀ x y H Q, rD2 X.K f x y H Q → r x y H Q) {σ : L2.St} {H : Hp} {Q : VK} (h : tX X W (xBin f ma mb) σ H Q) : tOp r (tX X W ma) (tX X W mb) σ H Q := by
  obtain ⟨V0, F0, H0, B, ext, tmp, F, g, a, h⟩ := h
  refine tX_bind a h fun t v g1 F1 H1 _ a1 h1 => ?_
  refine ⟨V0, F0, H0, B, ext ++ [some v], tmp ++ [.tm t], F1, g1, a1, ?_⟩
  cases e : mb g1 with
  | ok u g2 =>
    rw [e] at h1
    intro w F2 H2 a2
    obtain ⟨d, e2, q⟩ := of_postX h1
    obtain ⟨F3, _, a3, p1, p2⟩ := At.top2 a.tm a.len a2
    exact hr _ _ _ _ ⟨F3, _, _, d, a3.s, p1, p2, e2, fun v' F' H' E hd => q v' F' H' ((a3.mono E).push hd)⟩
  | exc c p g2 =>
    rw [e] at h1
    intro cls od F2 H2 a2 x
    obtain ⟨F3, s3, a3, _⟩ := At.top1 a.tm a.len a2
    obtain ⟨C, x1, x2, x3⟩ := x
    refine h1 cls od F3 H2 a3 ⟨C, x1, x2, ?_⟩
    cases p with
    | none => exact x3
    | some d =>
      obtain ⟨dx, fl, v, q1, q2, q3, q4⟩ := x3
      exact ⟨dx, fl, v, q1, s3 _ _ q2, q3, dp_mono s3 d q4⟩
  | bad => rw [e] at h1; exact h1
theorem mx_op {op : Operator} {f : D → D → Option D} (ho : OpR X (binaryOp op) (rD2 X.K f)) (ha : MX X W a ma) (hb : MX X W b mb) : MX X W (.BinOp a op b pos) (xBin f ma mb) :=
  PE.imp (pe_op ho ha hb) fun _ _ _ h => bin_tX (fun _ _ _ _ z => z) h
theorem mx_ix (ha : MX X W a ma) (hb : MX X W b mb) (hs : PlainIx b := by exact fun _ _ => rfl) : MX X W (.Subscript a b pos) (xBin fIx ma mb) :=
  PE.imp (pe_ix ix_seq ha hb hs) fun _ _ _ h => bin_tX i_ix h
def xTru (m : XM) : XT := fun g => (m g).bind fun t g1 => match truthD (fz t) with
  | some b => .ok b g1
  | none => .bad
def xNot (t : XT) : XT := fun g => (t g).bind fun b g1 => .ok (!b) g1
theorem dp_bool_inv {K : PySem.W.Frag} {F : Hp} {v : V} {b : Bool} (h : Dp K F v (.bool b)) : v = .bl b := by cases h; rfl
theorem mxt_cmp {op : CmpOp} {f : D → D → Option D} (ho : OpR X (compareOp op) (rD2 X.K f)) (hb' : ∀ x y d, f x y = some d → ∃ z : Bool, d = .bool z) (ha : MX X W a ma) (hb : MX X W b mb) (hm : behindInMarks op b = false := by rfl) : MXT X W (.Compare a [op] [b] pos) (xTru (xBin f ma mb)) := by
  refine PT.imp (pt_cmpR ho ha hb hm) fun σ H Q ⟨V0, F0, H0, B, ext, tmp, F, g, a, h⟩ => ?_
  refine bin_tX (X := X) (W := W) (fun _ _ _ _ z => z) ?_
  refine tX_bindB a h fun t v g1 F1 H1 e a1 h1 => ?_
  have : ∃ z : Bool, t = .dat (.bool z) := by
    unfold xBin at e
    cases e3 : ma g with
    | ok t1 g2 =>
      rw [e3, RG.bind_ok] at e
      cases e4 : mb g2 with
      | ok t2 g3 =>
        rw [e4, RG.bind_ok] at e
        cases e5 : f (fz t1) (fz t2) with
        | none => rw [e5] at e; cases e
        | some z =>
          rw [e5] at e
          cases e
          obtain ⟨b, rfl⟩ := hb' _ _ _ e5
          exact ⟨b, rfl⟩
      | exc c p g3 => rw [e4] at e; cases e
      | bad => rw [e4] at e; cases e
    | exc c p g3 => rw [e3] at e; cases e
    | bad => rw [e3] at e; cases e
  obtain ⟨z, rfl⟩ := this
  obtain ⟨F3, _, a3, p1⟩ := At.top1 a.tm a.len a1
  exact ⟨z, dp_bool_inv p1, h1 F3 H1 a3⟩
def xAndT (t u : XT) : XT := fun g => (t g).bind fun b g1 => if b = true then u g1 else .ok false g1
def xOrT (t u : XT) : XT := fun g => (t g).bind fun b g1 => if b = true then .ok true g1 else u g1
variable {t u : XT}
def xIf (t : XT) (a b : XM) : XM := fun g => (t g).bind fun k g1 => if k = true then a g1 else b g1
def xNil : XA := fun g => .ok [] g
def xCons (a : XM) (r : XA) : XA := fun g => (a g).bind fun t g1 => (r g1).bind fun ts g2 => .ok (t :: ts) g2
theorem mxa_nil : MXA X W [] xNil := PA.imp pa_nil fun σ H Q ⟨V0, F0, H0, B, ext, tmp, F, g, a, h⟩ => h [] F H (by simpa using a)
theorem xv_mono {K : PySem.W.Frag} {mg : Str → Option Value} {F F' : Hp} {c : Str} {p : Option D} {cls : Value} {od : Option Addr} (s : Same F F') (x : XV K mg F c p cls od) : XV K mg F' c p cls od := by
  obtain ⟨C, x1, x2, x3⟩ := x
  refine ⟨C, x1, x2, ?_⟩
  cases p with
  | none => exact x3
  | some d =>
    obtain ⟨dx, fl, v, q1, q2, q3, q4⟩ := x3
    exact ⟨dx, fl, v, q1, s _ _ q2, q3, dp_mono s d q4⟩
theorem mxa_cons {es : List Expr} {mr : XA} (ha : MX X W a ma) (hr : MXA X W es mr) (hs : starEach (a :: es) X.env = (false, eval a X.env) :: starEach es X.env := by rfl) : MXA X W (a :: es) (xCons ma mr) := by
  refine PA.imp (pa_cons ha hr hs) fun σ H Q ⟨V0, F0, H0, B, ext, tmp, F, g, a, h⟩ => ?_
  refine ⟨V0, F0, H0, B, ext, tmp, F, g, a, ?_⟩
  unfold xCons at h
  cases e : ma g with
  | ok t g1 =>
    rw [e, RG.bind_ok] at h
    intro v F1 H1 a1
    refine ⟨V0, F0, H0, B, ext ++ [some v], tmp ++ [.tm t], F1, g1, a1, ?_⟩
    cases e2 : mr g1 with
    | ok ts g2 =>
      rw [e2] at h
      intro vs F2 H2 a2
      refine h (v :: vs) F2 H2 ?_
      rw [List.append_assoc, List.append_assoc] at a2
      exact a2
    | exc c p g2 =>
      rw [e2] at h
      intro cls od F2 H2 a2 x
      obtain ⟨F3, s3, a3, _⟩ := At.top1 a.tm a.len a2
      exact h cls od F3 H2 a3 (xv_mono s3 x)
    | bad => rw [e2] at h; exact h
  | exc c p g1 => rw [e] at h; exact h
  | bad => rw [e] at h; exact h
def xDs (f : List D → Option D) (a : XA) : XM := fun g => (a g).bind fun ts g1 => xOf (f (fzL ts)) g1
theorem ds_tX {f : List D → Option D} {m : XA} {σ : L2.St} {H : Hp} {Q : VK} {r : List V → Hp → VK → Prop} (hr : ∀ xs H Q, rDs X.K f xs H Q → r xs H Q) (h : tX X W (xDs f m) σ H Q) : tXA X W m σ H fun xs H1 => r xs H1 Q := by
  obtain ⟨V0, F0, H0, B, ext, tmp, F, g, a, h⟩ := h
  refine tXA_bind a h fun ts vs g1 F1 H1 _ a1 h1 => ?_
  obtain ⟨d, e2, q⟩ := of_postX h1
  obtain ⟨F3, _, a3, p1⟩ := At.tops a.tm a1 a.len
  exact hr _ _ _ ⟨F3, _, d, a3.s, p1, e2, fun v' F' H' E hd => q v' F' H' ((a3.mono E).push hd)⟩
theorem mx_tup {es : List Expr} {m : XA} {k} (h : MXA X W es m) : MX X W (.Tuple es k pos) (xDs dTup m) := by
  refine PE.imp (pe_tup h) fun σ H Q h => ds_tX (r := fun xs H Q => xs.length ≤ sizeLine ∧ ∀ p, H p = none → Q (.ref p) (upd H p (.tup xs))) (fun xs H Q ⟨F, ds, d, s, hx, e, q⟩ => ?_) h
  unfold dTup at e
  split at e
  · rename_i hl
    cases e
    refine ⟨by rw [dpa_len hx]; exact most_le hl, fun p hp => ?_⟩
    have E2 := Ext.new (o := .tup xs) s hp
    exact q _ _ _ E2 (.tup (SqT.of upd_same) (dpa_mono E2.f _ hx))
  · cases e
theorem mx_lst {es : List Expr} {m : XA} (h : MXA X W es m) : MX X W (.List es pos) (xDs dLst m) := by
  refine PE.imp (pe_lst h) fun σ H Q h => ds_tX (r := fun xs H Q => xs.length ≤ sizeLine ∧ ∀ p, H p = none → Q (.ref p) (upd H p (.lst xs))) (fun xs H Q ⟨F, ds, d, s, hx, e, q⟩ => ?_) h
  unfold dLst at e
  split at e
  · rename_i hl
    cases e
    refine ⟨by rw [dpa_len hx]; exact most_le hl, fun p hp => ?_⟩
    have E2 := Ext.new (o := .lst xs) s hp
    exact q _ _ _ E2 (.lst (SqL.of upd_same) (dpa_mono E2.f _ hx))
  · cases e
theorem mx_cT {x : Str} {p pos : Pos} {e : Expr} {es : List Expr} {m : XA} {T : String} {f : List D → Option D} (hc : CallR X (.type T) (rDs X.K f)) (hm : X.mg x = none) (ha : MXA X W (e :: es) m) (hg : Gl X x := by rfl) (hv : bootBuiltins x = some (.type T) := by decide +kernel) (hn : x ≠ "__name__" := by decide) (hdb : (x == ("__debug__" : Str)) = false := by decide)
    (he : starEach (e :: es) X.env = (false, eval e X.env) :: starEach es X.env := by rfl) (hpl : (backTo pos (starEach es X.env)).any (·.1) = false := by rfl) : MX X W (.Call (.Name x p) (e :: es) [] pos) (xDs f m) :=
  PE.imp (pe_callTy hc hg hm hv ha hn hdb he hpl) fun σ H Q h => ds_tX (fun _ _ _ z => z) h
/-- a def over data -/
def xCall (n : Nat) (f : List D → R D) (dds : List D) (a : XA) : XM := fun g => (a g).bind fun ts g1 => if (fzL ts ++ dds).length = n then (RG.of (f (fzL ts ++ dds)) g1).bind fun d g => .ok (.dat d) g else .bad
theorem mx_def {j k n : Nat} {x : Str} {p pos : Pos} {e : Expr} {es : List Expr} {m : XA} {fn : List D → R D} {dds : List (List D)} {dd : List D}
    (G : DefOk X.prog X.w X.K X.mg X.base k x n fn dds) (hr : Room j X.A) (tk : Takes X W) (ha : MXA X W (e :: es) m) (hmem : dd ∈ dds := by first | exact List.mem_cons_self | simp) (hk : k ≤ j := by decide) (hg : Gl X x := by rfl)
    (hdb : (x == ("__debug__" : Str)) = false := by decide) (he : starEach (e :: es) X.env = (false, eval e X.env) :: starEach es X.env := by rfl) (hpl : (backTo pos (starEach es X.env)).any (·.1) = false := by rfl) :
    MX X W (.Call (.Name x p) (e :: es) [] pos) (xCall n fn dd m) := by
  obtain ⟨fd, ps, kp, F, b⟩ := G.ex
  obtain ⟨dvs, ds, h1, h2, h3⟩ := b dd hmem
  refine PE.imp (pe_callSD (E := WE W) F (hr.mono hk) hg G.gl kp h3 h1 (fun σ => passAt tk σ) ha hdb he hpl) fun σ H Q ⟨V0, F0, H0, B, ext, tmp, F, g, a, h⟩ => ?_
  refine tXA_bind a h fun ts vs g1 F1 H1 _ a1 h4 => ?_
  obtain ⟨F3, _, a3, p1⟩ := At.tops a.tm a1 a.len
  split at h4
  · rename_i hl
    refine ⟨F3, fzL ts ++ dd, a3.s, dpa_append p1 (h2 F3), hl, ?_⟩
    cases q : fn (fzL ts ++ dd) with
    | ok d => rw [q] at h4; exact fun v F' H' E hd => h4 v F' H' ((a3.mono E).push hd)
    | exc c p => rw [q] at h4; exact fun cls od F' H' E x => h4 cls od F' H' (a3.mono E) x
    | bad => rw [q] at h4; exact h4
  · exact h4.elim
/-- a method that changes nothing -/
def xMt (T : String) (f : D → List D → Option D) (o : XM) (a : XA) : XM := fun g => (o g).bind fun t g1 => if tyD (fz t) = T ∧ (T = "str" ∨ T = "list") then (a g1).bind fun ts g2 => xOf (f (fz t) (fzL ts)) g2 else .bad
theorem mx_mt {T name id : String} {f : D → List D → Option D} {o e : Expr} {es : List Expr} {mo : XM} {ma : XA} {apos cpos : Pos} (pa : PlainAttrs T) (slot : Slot T name id) (hty : typeOf (.builtin id) = pure (.type "method_descriptor")) (hm : MtR X id (rM X.K f)) (ho : MX X W o mo) (ha : MXA X W (e :: es) ma)
    (hbase : attributeBase o name X.env (eval o X.env) = eval o X.env := by rfl)
    (hfew : ((backTo cpos (starEach (e :: es) X.env)).all (fun x => !x.1) && (backToKw cpos (keywordEach [] X.env)).all (fun x => x.1.isSome)
      && decide ((e :: es).length + ([] : List Keyword).length + (if ([] : List Keyword).isEmpty then 0 else 1) < 30)) = true := by rfl)
    (hline : (apos.endLine == cpos.line) = true := by rfl) (hs : starEach (e :: es) X.env = (false, eval e X.env) :: starEach es X.env := by rfl) (hplain : (backTo cpos (starEach es X.env)).any (·.1) = false := by rfl) :
    MX X W (.Call (.Attribute o name apos) (e :: es) [] cpos) (xMt T f mo ma) := by
  refine PE.imp (pe_bm pa slot hty hm ho ha hbase hfew hline hs hplain) fun σ H Q ⟨V0, F0, H0, B, ext, tmp, F, g, a, h⟩ => ?_
  refine tX_bind a h fun t v g1 F1 H1 _ a1 h1 => ?_
  split at h1
  · rename_i c
    obtain ⟨F1', s1', a1', p1'⟩ := At.top1 a.tm a.len a1
    refine ⟨tyV_of a1'.s p1' c, ?_⟩
    refine ⟨V0, F0, H0, B, ext ++ [some v], tmp ++ [.tm t], F1, g1, a1, ?_⟩
    cases e : ma g1 with
    | ok ts g2 =>
      rw [e] at h1
      intro vs F2 H2 a2
      obtain ⟨d, e2, q⟩ := of_postX h1
      rw [List.append_assoc, List.append_assoc] at a2
      obtain ⟨F3, _, a3, p3⟩ := At.tops (vs := v :: vs) (ts := t :: ts) a.tm a2 a.len
      cases p3 with
      | cons p3 p4 => exact ⟨F3, _, _, d, a3.s, p3, p4, e2, fun v' F' H' E hd => q v' F' H' ((a3.mono E).push hd)⟩
    | exc c p g2 =>
      rw [e] at h1
      intro cls od F2 H2 a2 x
      obtain ⟨F3, s3, a3, _⟩ := At.top1 a.tm a.len a2
      exact h1 cls od F3 H2 a3 (xv_mono s3 x)
    | bad => rw [e] at h1; exact h1
  · exact h1.elim
end
end MI
set_option Elab.async false
set_option linter.all false
set_option maxRecDepth 100000
set_option maxHeartbeats 4000000
namespace MI
open PySem PySem.Spec PyProof.Rows L2
inductive OutT where
  | nx (g : Ct)
  | rt (t : T) (g : Ct)
  | bk (g : Ct)
  | ct (g : Ct)
  | ex (c : Str) (p : Option D) (g : Ct)
  | bad
abbrev ST := Ct → OutT
section
variable (K : PySem.W.Frag) (mg : Str → Option Value) (W : WX) (V0 : Nat → Option V) (F0 H0 : Hp) (B : Addr → Prop)
def SPT (D : Ends) : OutT → Prop
  | .nx g => ∀ F H σ, StT K V0 F0 H0 B F H σ g → D.nx σ H
  | .rt t g => ∀ v F H σ, StT K V0 F0 H0 B F H (σ ++ [some v]) (g ++ [.tm t]) → σ.length = g.length → D.rt v H
  | .bk g => ∀ F H σ, StT K V0 F0 H0 B F H σ g → D.bk σ H
  | .ct g => ∀ F H σ, StT K V0 F0 H0 B F H σ g → D.ct σ H
  | .ex c p g => ∀ cls od F H σ, StT K V0 F0 H0 B F H σ g → XV K mg F c p cls od → W cls od σ H
  | .bad => False
end
def tSt (K : PySem.W.Frag) (mg : Str → Option Value) (W : WX) (m : ST) : TS := fun D σ H => ∃ V0 F0 H0 B F g, StT K V0 F0 H0 B F H σ g ∧ SPT K mg W V0 F0 H0 B D (m g)
abbrev MTS (X : Cx) (W : WX) (st : Stmt) (m : ST) : Prop := PS X st (tSt X.K X.mg W m)
abbrev MTSs (X : Cx) (W : WX) (st : List Stmt) (m : ST) : Prop := PSs X st (tSt X.K X.mg W m)
def RG.to {α : Type} (x : RG α) (k : α → Ct → OutT) : OutT := match x with
  | .ok a g => k a g
  | .exc c p g => .ex c p g
  | .bad => .bad
@[simp] theorem RG.to_ok {α : Type} (a : α) (g : Ct) (k : α → Ct → OutT) : (RG.ok a g).to k = k a g := Eq.trans rfl rfl
@[simp] theorem RG.to_exc {α : Type} (c : Str) (p : Option D) (g : Ct) (k : α → Ct → OutT) : (RG.exc c p g : RG α).to k = .ex c p g := Eq.trans rfl rfl
@[simp] theorem RG.to_bad {α : Type} (k : α → Ct → OutT) : (RG.bad : RG α).to k = .bad := Eq.trans rfl rfl
section
variable {K : PySem.W.Frag} {mg : Str → Option Value} {W : WX} {V0 : Nat → Option V} {F0 H0 F H : Hp} {B B' : Addr → Prop} {D : Ends} {o : OutT}
theorem SPT.base (b : ∀ V1 F' H' σ' g', StT K V1 F H B' F' H' σ' g' → StT K V1 F0 H0 B F' H' σ' g') (h : SPT K mg W V0 F0 H0 B D o) : SPT K mg W V0 F H B' D o := by
  cases o with
  | nx g => exact fun F' H' σ ok => h F' H' σ (b _ _ _ _ _ ok)
  | rt t g => exact fun v F' H' σ ok l => h v F' H' σ (b _ _ _ _ _ ok) l
  | bk g => exact fun F' H' σ ok => h F' H' σ (b _ _ _ _ _ ok)
  | ct g => exact fun F' H' σ ok => h F' H' σ (b _ _ _ _ _ ok)
  | ex c p g => exact fun cls od F' H' σ ok x => h cls od F' H' σ (b _ _ _ _ _ ok) x
  | bad => exact h
theorem StT.at0 {σ : L2.St} {g : Ct} (ok : StT K V0 F0 H0 B F H σ g) : At K V0 F0 H0 B [] [] F H σ g := ⟨by simpa using ok, ok.len, fun c h => by cases h⟩
theorem At.st0 {σ : L2.St} {g : Ct} (a : At K V0 F0 H0 B [] [] F H σ g) : StT K V0 F0 H0 B F H σ g := by simpa using a.st
end
section
variable {X : Cx} {W : WX} {V0 : Nat → Option V} {F0 H0 F H : Hp} {B : Addr → Prop} {D : Ends} {σ : L2.St} {g : Ct}
theorem evX {m : XM} {k : T → Ct → OutT} {Q : VK} (ok : StT X.K V0 F0 H0 B F H σ g) (h : SPT X.K X.mg W V0 F0 H0 B D ((m g).to k))
    (q : ∀ t v g1 F1 H1, m g = .ok t g1 → StT X.K V0 F0 H0 B F1 H1 (σ ++ [some v]) (g1 ++ [.tm t]) → σ.length = g1.length → SPT X.K X.mg W V0 F0 H0 B D (k t g1) → Q v H1) : tX X W m σ H Q := by
  refine ⟨V0, F0, H0, B, [], [], F, g, ok.at0, ?_⟩
  cases e : m g with
  | ok t g1 => rw [e] at h; exact fun v F1 H1 a => q t v g1 F1 H1 e a.st a.l h
  | exc c p g1 => rw [e] at h; exact fun cls od F1 H1 a x => h cls od F1 H1 σ a.st0 x
  | bad => rw [e] at h; exact h
theorem evXT {m : XT} {k : Bool → Ct → OutT} {Q : Bool → Hp → Prop} (ok : StT X.K V0 F0 H0 B F H σ g) (h : SPT X.K X.mg W V0 F0 H0 B D ((m g).to k))
    (q : ∀ b g1 F1 H1, m g = .ok b g1 → StT X.K V0 F0 H0 B F1 H1 σ g1 → SPT X.K X.mg W V0 F0 H0 B D (k b g1) → Q b H1) : tXT X W m σ H Q := by
  refine ⟨V0, F0, H0, B, [], [], F, g, ok.at0, ?_⟩
  cases e : m g with
  | ok t g1 => rw [e] at h; exact fun F1 H1 a => q t g1 F1 H1 e a.st0 h
  | exc c p g1 => rw [e] at h; exact fun cls od F1 H1 a x => h cls od F1 H1 σ a.st0 x
  | bad => rw [e] at h; exact h
theorem StT.drop1 {K : PySem.W.Frag} {v : V} {t : T} (ok : StT K V0 F0 H0 B F H (σ ++ [some v]) (g ++ [.tm t])) (l : σ.length = g.length) : StT K V0 F0 H0 B F H σ g :=
  ok.take l fun c hc => ⟨t, List.mem_singleton.mp hc⟩
theorem StT.top1 {K : PySem.W.Frag} {v : V} {t : T} (ok : StT K V0 F0 H0 B F H (σ ++ [some v]) (g ++ [.tm t])) (l : σ.length = g.length) : ∃ F1, Same F F1 ∧ StT K V0 F0 H0 B F1 H σ g ∧ Dp K F1 v (fz t) := by
  obtain ⟨F1, h1, h2, h3⟩ := StT.tops (vs := [v]) (ts := [t]) ok l
  cases h3 with
  | cons q _ => exact ⟨F1, h1, h2, q⟩
theorem StT.setD {K : PySem.W.Frag} {v : V} {d : MI.D} {i : Nat} (ok : StT K V0 F0 H0 B F H σ g) (h : Dp K F v d) (hf : free1 g i = true) : StT K V0 F0 H0 B F H (σ.set i (some v)) ((kil i g).set i (.t (.dat d))) :=
  (ok.pushD h).setTop ok.len hf
end
def tNop : ST := .nx
def tSeq (a b : ST) : ST := fun g => match a g with
  | .nx g' => b g'
  | o => o
def tIf (t : XT) (a b : ST) : ST := fun g => (t g).to fun k g1 => if k = true then a g1 else b g1
def tRet (m : XM) : ST := fun g => (m g).to fun t g1 => .rt t g1
def tRetN : ST := fun g => .rt (.dat .none) g
def tBreak : ST := .bk
def tCont : ST := .ct
def tExpr (m : XM) : ST := fun g => (m g).to fun _ g1 => .nx g1
/-- slot i takes a tree -/
def putC (i : Nat) (t : T) (g : Ct) : OutT := if free1 g i = true then .nx ((kil i g).set i (.t t)) else .bad
def tSet (i : Nat) (m : XM) : ST := fun g => (m g).to fun t g1 => putC i t g1
/-- slot i takes data -/
def tSetD (i : Nat) (m : XM) : ST := fun g => (m g).to fun t g1 => putC i (.dat (fz t)) g1
def tRaise (c : Str) : ST := fun g => .ex c none g
/-- from here on slot i is data -/
def tFrz (i : Nat) (m : ST) : ST := fun g => match g[i]? with
  | some (.t x) => m ((kil i g).set i (.t (.dat (fz x))))
  | _ => m g
section
variable {X : Cx} {W : WX} {pos : Pos} {st : Stmt} {rest : List Stmt} {a b : ST}
theorem mtss_nil : MTSs X W [] tNop := PSs.imp pss_nil fun D σ H ⟨V0, F0, H0, B, F, g, ok, h⟩ => h F H σ ok
theorem mtss_cons (h1 : MTS X W st a) (h2 : MTSs X W rest b) : MTSs X W (st :: rest) (tSeq a b) := by
  refine PSs.imp (pss_cons h1 h2) fun D σ H ⟨V0, F0, H0, B, F, g, ok, h⟩ => ⟨V0, F0, H0, B, F, g, ok, ?_⟩
  unfold tSeq at h
  cases e : a g with
  | nx g' =>
    rw [e] at h
    exact fun F' H' σ' ok' => ⟨V0, F0, H0, B, F', g', ok', h⟩
  | rt d g' => rw [e] at h; exact h
  | bk g' => rw [e] at h; exact h
  | ct g' => rw [e] at h; exact h
  | ex c p g' => rw [e] at h; exact h
  | bad => rw [e] at h; exact h
theorem mtss_one (h1 : MTS X W st a) : MTSs X W [st] a := pss_one h1
theorem mts_if {c : Expr} {p q : List Stmt} {t : XT} (hc : MXT X W c t) (ha : MTSs X W p a) (hb : MTSs X W q b) : MTS X W (.If c p q pos) (tIf t a b) := by
  refine PS.imp (ps_if hc ha hb) fun D σ H ⟨V0, F0, H0, B, F, g, ok, h⟩ => evXT ok h fun k g1 F1 H1 e ok1 h1 => ?_
  cases k with
  | true => exact ⟨V0, F0, H0, B, F1, g1, ok1, h1⟩
  | false => exact ⟨V0, F0, H0, B, F1, g1, ok1, h1⟩
theorem mts_ret {e : Expr} {m : XM} (he : MX X W e m) : MTS X W (.Return (some e) pos) (tRet m) :=
  PS.imp (ps_ret he) fun D σ H ⟨V0, F0, H0, B, F, g, ok, h⟩ => evX ok h fun t v g1 F1 H1 e ok1 l h1 => h1 v F1 H1 σ ok1 l
theorem mts_set (i : Nat) {x : Str} {e : Expr} {m : XM} {pos' : Pos} (hN : X.N.Nodup) (he : MX X W e m) (hi : X.N[i]? = some x := by rfl) (hx : Loc X.env.scope x := by first | exact Or.inl rfl | exact Or.inr rfl) (hs : swapsWith e (some (.Name x pos')) pos.line X.env = pure false := by rfl) (hf : X.fn x = true ∨ X.env.scope.names.lookup x = some .local := by first | exact .inl rfl | exact .inr rfl) :
    MTS X W (.Assign [.Name x pos'] e pos) (tSet i m) := by
  refine PS.imp (ps_set hN hi hx he hs hf) fun D σ H ⟨V0, F0, H0, B, F, g, ok, h⟩ => ?_
  refine evX (Q := fun v H1 => D.nx (σ.set i (some v)) H1) ok h fun t v g1 F1 H1 e ok1 l h1 => ?_
  unfold putC at h1
  split at h1
  · rename_i f
    exact h1 F1 H1 _ (ok1.setTop l f)
  · exact h1.elim
theorem mts_setD (i : Nat) {x : Str} {e : Expr} {m : XM} {pos' : Pos} (hN : X.N.Nodup) (he : MX X W e m) (hi : X.N[i]? = some x := by rfl) (hx : Loc X.env.scope x := by first | exact Or.inl rfl | exact Or.inr rfl) (hs : swapsWith e (some (.Name x pos')) pos.line X.env = pure false := by rfl) (hf : X.fn x = true ∨ X.env.scope.names.lookup x = some .local := by first | exact .inl rfl | exact .inr rfl) :
    MTS X W (.Assign [.Name x pos'] e pos) (tSetD i m) := by
  refine PS.imp (ps_set hN hi hx he hs hf) fun D σ H ⟨V0, F0, H0, B, F, g, ok, h⟩ => ?_
  refine evX (Q := fun v H1 => D.nx (σ.set i (some v)) H1) ok h fun t v g1 F1 H1 e ok1 l h1 => ?_
  obtain ⟨F2, _, ok2, hd⟩ := ok1.top1 l
  unfold putC at h1
  split at h1
  · rename_i f
    exact h1 F2 H1 _ (ok2.setD hd f)
  · exact h1.elim
theorem mtss_frz (i : Nat) {ss : List Stmt} (h : MTSs X W ss a) : MTSs X W ss (tFrz i a) := by
  refine PSs.imp h fun D σ H ⟨V0, F0, H0, B, F, g, ok, q⟩ => ?_
  unfold tFrz at q
  split at q
  · rename_i x e
    obtain ⟨F1, _, ok1⟩ := ok.fzAt e
    exact ⟨V0, F0, H0, B, F1, _, ok1, q⟩
  · exact ⟨V0, F0, H0, B, F, g, ok, q⟩
end
abbrev TgT := D → Ct → Option Ct
abbrev TgsT := List D → Ct → Option Ct
def uN (i : Nat) : TgT := fun d g => if free1 g i = true then some ((kil i g).set i (.t (.dat d))) else none
def usNil : TgsT := fun ds g => match ds with
  | [] => some g
  | _ => none
def usCons (t : TgT) (u : TgsT) : TgsT := fun ds g => match ds with
  | d :: r => (t d g).bind (u r)
  | [] => none
/-- of a tuple or a list -/
def uT (u : TgsT) : TgT := fun d g => match d with
  | .tuple ds => u ds g
  | .list ds => u ds g
  | _ => none
def UOk (K : PySem.W.Frag) (r : TG) (t : TgT) : Prop := ∀ (V0 : Nat → Option V) (F0 H0 : Hp) (B : Addr → Prop) (F H : Hp) (σ : L2.St) (g g' : Ct) (v : V) (d : D) (Q : L2.St → Hp → Prop),
  StT K V0 F0 H0 B F H σ g → Dp K F v d → t d g = some g' → (∀ σ', StT K V0 F0 H0 B F H σ' g' → Q σ' H) → r v σ H Q
def UsOk (K : PySem.W.Frag) (n : Nat) (r : TGs) (t : TgsT) : Prop := (∀ ds g g', t ds g = some g' → ds.length = n) ∧ ∀ (V0 : Nat → Option V) (F0 H0 : Hp) (B : Addr → Prop) (F H : Hp) (σ : L2.St) (g g' : Ct) (vs : List V) (ds : List D) (Q : L2.St → Hp → Prop),
  StT K V0 F0 H0 B F H σ g → DpAll K F vs ds → t ds g = some g' → (∀ σ', StT K V0 F0 H0 B F H σ' g' → Q σ' H) → r vs σ H Q
theorem uN_ok {K : PySem.W.Frag} {i : Nat} : UOk K (gName i) (uN i) := fun V0 F0 H0 B F H σ g g' v d Q ok hd e q => by
  unfold uN at e
  split at e
  · rename_i f
    cases e
    exact q _ (ok.setD hd f)
  · cases e
theorem usNil_ok {K : PySem.W.Frag} : UsOk K 0 gNil usNil := by
  refine ⟨fun ds g g' e => ?_, fun V0 F0 H0 B F H σ g g' vs ds Q ok hd e q => ?_⟩
  · cases ds with
    | nil => rfl
    | cons a b => cases e
  · cases hd with
    | nil =>
      cases e
      exact ⟨rfl, q _ ok⟩
    | cons a b => cases e
theorem usCons_ok {K : PySem.W.Frag} {n : Nat} {r : TG} {rs : TGs} {t : TgT} {ts : TgsT} (h1 : UOk K r t) (h2 : UsOk K n rs ts) : UsOk K (n + 1) (gCons r rs) (usCons t ts) := by
  refine ⟨fun ds g g' e => ?_, fun V0 F0 H0 B F H σ g g' vs ds Q ok hd e Q' => ?_⟩
  · cases ds with
    | nil => cases e
    | cons d ds =>
      have e' : (t d g).bind (ts ds) = some g' := e
      cases q : t d g with
      | none => rw [q] at e'; cases e'
      | some g1 =>
        rw [q] at e'
        exact congrArg Nat.succ (h2.1 ds g1 g' e')
  · cases hd with
    | nil => cases e
    | @cons v vs d ds a b =>
      have e' : (t d g).bind (ts ds) = some g' := e
      cases q : t d g with
      | none => rw [q] at e'; cases e'
      | some g1 =>
        rw [q] at e'
        exact ⟨v, vs, rfl, h1 V0 F0 H0 B F H σ g g1 v d _ ok a q fun σ' ok' => h2.2 V0 F0 H0 B F H σ' g1 g' vs ds Q ok' b e' Q'⟩
theorem uT_ok {K : PySem.W.Frag} {n : Nat} {r : TGs} {t : TgsT} (h : UsOk K n r t) : UOk K (gSeq K n r) (uT t) := fun V0 F0 H0 B F H σ g g' v d Q ok hd e q => by
  cases hd with
  | lst a b => exact .inr ⟨_, _, rfl, ok.s.seq a, (dpa_len b).trans (h.1 _ _ _ e), h.2 V0 F0 H0 B F H σ g g' _ _ Q ok b e q⟩
  | tup a b => exact .inl ⟨_, _, rfl, same_t ok.s a, (dpa_len b).trans (h.1 _ _ _ e), h.2 V0 F0 H0 B F H σ g g' _ _ Q ok b e q⟩
  | _ => cases e
def tAsg (t : TgT) (m : XM) : ST := fun g => (m g).to fun x g1 => match t (fz x) g1 with
  | some g' => .nx g'
  | none => .bad
theorem mts_asg {X : Cx} {W : WX} {pos : Pos} {tg e : Expr} {m : XM} {r : TG} {t : TgT} (he : MX X W e m) (hg : PG X tg r) (ht : UOk X.K r t) (hs : swapsWithSole [tg] e pos.line X.env = pure false := by rfl) (hw : swappedStores [tg] e X.env = pure none := by rfl) (h1 : (assignEach [tg] X.env).map (·.2) = [assign tg X.env] := by rfl) : MTS X W (.Assign [tg] e pos) (tAsg t m) := by
  refine PS.imp (ps_asg he hg hs hw h1) fun D σ H ⟨V0, F0, H0, B, F, g, ok, h⟩ => ?_
  refine evX (Q := fun v H1 => r v σ H1 D.nx) ok h fun x v g1 F1 H1 e ok1 l h1 => ?_
  obtain ⟨F2, _, ok2, hd⟩ := ok1.top1 l
  cases q : t (fz x) g1 with
  | none => rw [q] at h1; exact h1.elim
  | some g' =>
    rw [q] at h1
    exact ht V0 F0 H0 B F2 H1 σ g1 g' v _ D.nx ok2 hd q fun σ' ok3 => h1 F2 H1 σ' ok3
def tPar (i j : Nat) (m : XA) : ST := fun g => (m g).to fun ts g1 => match ts with
  | [x, y] => (match uN i (fz x) g1 with
    | some g2 => (match uN j (fz y) g2 with
      | some g3 => .nx g3
      | none => .bad)
    | none => .bad)
  | _ => .bad
end MI
set_option Elab.async false
set_option linter.all false
set_option maxRecDepth 100000
set_option maxHeartbeats 4000000
namespace MI
open PySem PySem.Spec PyProof.Rows L2
def loopT (t : TgT) (b : ST) : List D → ST
  | [], g => .nx g
  | d :: ds, g => match t d g with
    | none => .bad
    | some g1 => match b g1 with
      | .nx g2 => loopT t b ds g2
      | .ct g2 => loopT t b ds g2
      | .bk g2 => .nx g2
      | o => o
abbrev XI := Ct → RG (List D)
def XPostI (X : Cx) (W : WX) (V0 : Nat → Option V) (F0 H0 : Hp) (B : Addr → Prop) (ext : L2.St) (tmp : Ct) (σ : L2.St) (Q : L2.It → Hp → Prop) : RG (List D) → Prop
  | .ok ds g => ∀ F H J, At X.K V0 F0 H0 B ext tmp F H σ g → ItOk X.K F J ds → Q J H
  | .exc c p g => ∀ cls od F H, At X.K V0 F0 H0 B ext tmp F H σ g → XV X.K X.mg F c p cls od → W cls od σ H
  | .bad => False
def tXI (X : Cx) (W : WX) (m : XI) : TI := fun σ H Q => ∃ V0 F0 H0 B ext tmp F g, At X.K V0 F0 H0 B ext tmp F H σ g ∧ XPostI X W V0 F0 H0 B ext tmp σ Q (m g)
abbrev MXI (X : Cx) (W : WX) (tg e : Expr) (m : XI) : Prop := PI X tg e (tXI X W m)
def xiP (m : Vw → R (List D)) : XI := fun g => RG.of (m (tvd g)) g
def xiRng (f : List D → Option (List D)) (m : XA) : XI := fun g => (m g).bind fun ts g1 => match f (fzL ts) with
  | some ds => .ok ds g1
  | none => .bad
def xiItems (m : XM) : XI := fun g => (m g).bind fun t g1 => match fz t with
  | .list ds => .ok ds g1
  | .tuple ds => .ok ds g1
  | _ => .bad
section
variable {X : Cx} {W : WX} {tg : Expr}
theorem mxi_p {e : Expr} {m : Vw → R (List D)} (hi : MIt X W tg e m) : MXI X W tg e (xiP m) := by
  refine PI.imp hi fun σ H Q ⟨V0, F0, H0, B, ext, tmp, F, g, a, h⟩ => ⟨F, tvd g, a.s, a.vd, ?_⟩
  unfold xiP at h
  cases em : m (tvd g) with
  | ok d => rw [em] at h; exact fun F' H' J E io => h F' H' J (a.mono E) io
  | exc c p => rw [em] at h; exact fun cls od F' H' E x => h cls od F' H' (a.mono E) x
  | bad => rw [em] at h; exact h
theorem xi_rng {f : List D → Option (List D)} {m : XA} {V0 : Nat → Option V} {F0 H0 : Hp} {B : Addr → Prop} {ext : L2.St} {tmp : Ct} {F H : Hp} {σ : L2.St} {g : Ct} {Q : L2.It → Hp → Prop} {P : List V → Hp → Prop} (a : At X.K V0 F0 H0 B ext tmp F H σ g) (h : XPostI X W V0 F0 H0 B ext tmp σ Q (xiRng f m g))
    (k : ∀ ds vs F1 H1 ys, DpAll X.K F1 vs ds → f ds = some ys → (∀ J, ItOk X.K F1 J ys → Q J H1) → P vs H1) : tXA X W m σ H P := by
  refine ⟨V0, F0, H0, B, ext, tmp, F, g, a, ?_⟩
  unfold xiRng at h
  cases e : m g with
  | ok ts g1 =>
    rw [e, RG.bind_ok] at h
    intro vs F1 H1 a1
    obtain ⟨F2, _, a2, hd⟩ := At.tops a.tm a1 a.len
    cases q : f (fzL ts) with
    | none => rw [q] at h; exact h.elim
    | some ys => rw [q] at h; exact k _ vs F2 H1 ys hd q fun J io => h F2 H1 J a2 io
  | exc c p g1 => rw [e] at h; exact h
  | bad => rw [e] at h; exact h
theorem mxi_rng1 {a : Expr} {m : XA} {p pos : Pos} (hm : X.mg "range" = none) (ha : MXA X W [a] m) (hG : Gl X "range" := by rfl) (hst : starEach [a] X.env = [(false, eval a X.env)] := by rfl) : MXI X W tg (.Call (.Name "range" p) [a] [] pos) (xiRng rng1 m) := by
  refine PI.imp (pi_range1 hG hm ha hst) fun σ H Q ⟨V0, F0, H0, B, ext, tmp, F, g, a, h⟩ => xi_rng a h fun ds xs F' H' ys hx e q => ?_
  unfold rng1 at e
  split at e
  · split at e
    · rename_i l
      cases e
      obtain ⟨x, rfl, hv⟩ := dpa1 hx
      cases dp_int hv
      unfold lim62 at l
      rw [Bool.and_eq_true, decide_eq_true_eq, decide_eq_true_eq] at l
      exact ⟨_, rfl, l.1, l.2, q _ it_rng⟩
    · cases e
  · cases e
end
def tFor (it : XI) (t : TgT) (b : ST) : ST := fun g => (it g).to fun ds g1 => loopT t b ds g1
theorem loopT_turn {K : PySem.W.Frag} {mg : Str → Option Value} {W : WX} {V0 : Nat → Option V} {F0 H0 F H : Hp} {B : Addr → Prop} {σ : L2.St} {g : Ct} {D : Ends} {r : TG} {t : TgT} {b : ST} {d : MI.D} {ds : List MI.D} {x : V} {N : L2.St → Hp → Prop} (ht : UOk K r t)
    (ok : StT K V0 F0 H0 B F H σ g) (hd : Dp K F x d) (h : SPT K mg W V0 F0 H0 B D (loopT t b (d :: ds) g))
    (n : ∀ F' H' σ' g', StT K V0 F0 H0 B F' H' σ' g' → SPT K mg W V0 F0 H0 B D (loopT t b ds g') → N σ' H') :
    r x σ H fun σ2 H2 => tSt K mg W b { D with nx := N, ct := N, bk := D.nx } σ2 H2 := by
  unfold loopT at h
  cases q : t d g with
  | none => rw [q] at h; exact h.elim
  | some g1 =>
    rw [q] at h
    refine ht V0 F0 H0 B F H σ g g1 x d _ ok hd q fun σ' ok' => ⟨V0, F0, H0, B, F, g1, ok', ?_⟩
    dsimp only at h
    cases e : b g1 with
    | nx g2 => rw [e] at h; exact fun F' H' σ2 ok2 => n F' H' σ2 g2 ok2 h
    | ct g2 => rw [e] at h; exact fun F' H' σ2 ok2 => n F' H' σ2 g2 ok2 h
    | bk g2 => rw [e] at h; exact fun F' H' σ2 ok2 => h F' H' σ2 ok2
    | rt v g2 => rw [e] at h; exact h
    | ex c p g2 => rw [e] at h; exact h
    | bad => rw [e] at h; exact h
theorem mts_for {X : Cx} {W : WX} {pos : Pos} {tg iter : Expr} {body : List Stmt} {it : XI} {r : TG} {t : TgT} {b : ST} (hp : PassesOwn (model X.prog X.w) X.A X.env X.xe) (hi : MXI X W tg iter it) (hg : PG X tg r) (ht : UOk X.K r t) (hb : MTSs X W body b) (hc : X.calm = true := by rfl)
    (hs : ∀ x, foldedSetIterable iter X.env x = pure x := by intro _; rfl) : MTS X W (.For tg iter body [] pos) (tFor it t b) := by
  refine PS.imp (ps_for hp hc hi hg hb hs) fun D σ H ⟨V0, F0, H0, B, F, g, ok, h⟩ => ⟨V0, F0, H0, B, [], [], F, g, ok.at0, ?_⟩
  unfold tFor at h
  cases ei : it g with
  | exc c p g1 => rw [ei] at h; exact fun cls od F1 H1 a x => h cls od F1 H1 σ a.st0 x
  | bad => rw [ei] at h; exact h.elim
  | ok ds g1 =>
    rw [ei] at h
    have h : SPT X.K X.mg W V0 F0 H0 B D (loopT t b ds g1) := h
    intro F1 H1 J a1 io
    obtain ⟨B1, ok1, _, back⟩ := a1.st0.base
    have h := h.base (B' := B1) back
    refine ⟨fun i m σ H => m = ds.length - i ∧ i ≤ ds.length ∧ ∃ F2 g2, StT X.K V0 F1 H1 B1 F2 H σ g2 ∧ SPT X.K X.mg W V0 F1 H1 B1 D (loopT t b (ds.drop i) g2), ⟨ds.length, by simp, Nat.zero_le _, F1, g1, ok1, by simpa using h⟩, ?_⟩
    rintro i m σ H ⟨rfl, hi, F2, g2, ok2, h2⟩
    by_cases hlt : i < ds.length
    · have ed : ds[i]? = some ds[i] := List.getElem?_eq_getElem hlt
      obtain ⟨go, yl⟩ := io.go i H _ (ok2.f.trans ok2.s) ed
      refine .inr ⟨go, fun σ' H' => ∃ F2 g2, StT X.K V0 F1 H1 B1 F2 H' σ' g2 ∧ SPT X.K X.mg W V0 F1 H1 B1 D (loopT t b (ds.drop (i + 1)) g2), fun σ' H' q => ⟨ds.length - (i + 1), by omega, rfl, hlt, q⟩, fun x H' hy => ?_⟩
      obtain ⟨F3, E3, dx⟩ := yl x H' F2 ok2.f ok2.s hy
      rw [drop_get ed] at h2
      exact loopT_turn ht (ok2.mono E3) dx h2 fun F4 H4 σ4 g4 ok4 h4 => ⟨F4, g4, ok4, h4⟩
    · have e : i = ds.length := by omega
      subst e
      rw [List.drop_length] at h2
      exact .inl ⟨io.stop _ H (ok2.f.trans ok2.s) (Nat.le_refl _), h2 F2 H σ ok2⟩
end MI
set_option Elab.async false
set_option linter.all false
set_option maxRecDepth 100000
set_option maxHeartbeats 4000000
namespace MI
open PySem PySem.Spec PyProof.Rows L2
section
variable {K : PySem.W.Frag} {V0 : Nat → Option V} {F0 H0 F H : Hp} {B : Addr → Prop} {σ ext : L2.St} {g tmp : Ct}
theorem trs_of {S : Nat → Addr → Prop} (dis : ∀ i j a, S i a → S j a → i = j) : ∀ (vs : List V) (ts : List T) (n : Nat), vs.length = ts.length → (∀ (j : Nat) (v : V) (x : T), vs[j]? = some v → ts[j]? = some x → TR K F H v x (S (n + j))) → ∃ S', TRs K F H vs ts S' ∧ ∀ a, S' a → ∃ j, n ≤ j ∧ S j a
  | [], [], n, _, _ => ⟨_, .nil, fun _ h => h.elim⟩
  | v :: vs, x :: ts, n, hl, h => by
    obtain ⟨S', h1, h2⟩ := trs_of dis vs ts (n + 1) (by simpa using hl) fun j w y hw hy => by
      have := h (j + 1) w y (by simpa using hw) (by simpa using hy)
      rw [show n + (j + 1) = n + 1 + j by omega] at this
      exact this
    refine ⟨_, .cons (h 0 v x rfl rfl) h1 (fun a p q => ?_), fun a q => ?_⟩
    · obtain ⟨j, l, r⟩ := h2 a q
      have := dis _ _ a p r
      omega
    · rcases q with q | q
      · exact ⟨n, Nat.le_refl _, q⟩
      · obtain ⟨j, l, r⟩ := h2 a q
        exact ⟨j, by omega, r⟩
  | [], _ :: _, _, hl, _ => by simp at hl
  | _ :: _, [], _, hl, _ => by simp at hl
/-- the tops become the items of a new list -/
theorem StT.mkL {vs : List V} {ts : List T} {p : Addr} (ok : StT K V0 F0 H0 B F H (σ ++ vs.map some) (g ++ ts.map Cl.tm)) (l : σ.length = g.length) (hp : H p = none) : StT K V0 F0 H0 B F (upd H p (.lst vs)) (σ ++ [some (.ref p)]) (g ++ [.tm (.lst ts)]) := by
  obtain ⟨S, s1, s2, s3, s4⟩ := ok.own
  have lens : vs.length = ts.length := by
    have := ok.len
    simp at this
    omega
  have hF := ok.s.free hp
  have h0 : B p ∨ H0 p = none := by
    by_cases b : B p
    · exact .inl b
    · cases w : H0 p with
      | none => exact .inr rfl
      | some u => rw [ok.h p u b w] at hp; cases hp
  have nS : ∀ i, ¬ S i p := fun i q => by
    cases e : gt (g ++ ts.map Cl.tm) i with
    | none => exact s4 i e p q
    | some x =>
      obtain ⟨v, _, h2⟩ := s1 i x e
      obtain ⟨xs, z, _⟩ := tr_own h2 p q
      rw [hp] at z; cases z
  obtain ⟨S', t1, t2⟩ := trs_of (K := K) (F := F) (H := H) s3 vs ts g.length lens fun j v x hv hx => by
    obtain ⟨v', h1, h2⟩ := s1 (g.length + j) x (by
      unfold gt
      rw [List.getElem?_append_right (by omega)]
      simp [hx, Cl.tr])
    rw [List.getElem?_append_right (by omega), show g.length + j - σ.length = j by omega, List.getElem?_map, hv] at h1
    cases h1
    exact h2
  have np : ¬ S' p := fun q => by
    obtain ⟨j, _, r⟩ := t2 p q
    exact nS j r
  have up : ∀ {v : V} {x : T} {i : Nat}, TR K F H v x (S i) → TR K F (upd H p (.lst vs)) v x (S i) := fun {v x i} h => tr_mono (Same.refl F) h fun a q => ⟨upd_ne (fun e => nS i (e ▸ q)), (tr_own h a q).choose_spec.2⟩
  have tk := ok.take l tm_map
  refine ⟨ok.f, fun a o nb e => ?_, fun a o e => ?_, ok.n, by simp [l], ⟨fun i a => if i < g.length then S i a else (i = g.length ∧ (a = p ∨ S' a)), fun i x hx => ?_, fun i a q => ?_, fun i j a q r => ?_, fun i e a q => ?_⟩, fun i x e => ?_, fun j i k e => ?_⟩
  · have : a ≠ p := fun z => by
      subst z
      rcases h0 with z | z
      · exact nb z
      · rw [z] at e; cases e
    rw [upd_ne this]
    exact ok.h a o nb e
  · have : a ≠ p := fun z => by
      subst z
      rw [hF] at e; cases e
    rw [upd_ne this]
    exact ok.s a o e
  · have li := gt_lt hx
    simp at li
    rcases Nat.lt_or_ge i g.length with c | c
    · rw [gt_append_left c] at hx
      obtain ⟨v, h1, h2⟩ := s1 i x (by rw [gt_append_left c]; exact hx)
      rw [List.getElem?_append_left (by omega)] at h1
      refine ⟨v, by rw [List.getElem?_append_left (by omega)]; exact h1, ?_⟩
      have : (fun a => if i < g.length then S i a else (i = g.length ∧ (a = p ∨ S' a))) = S i := by
        funext a
        rw [if_pos c]
      show TR K F _ v x (fun a => if i < g.length then S i a else (i = g.length ∧ (a = p ∨ S' a)))
      rw [this]
      exact up h2
    · have e : i = g.length := by omega
      subst e
      rw [gt_push] at hx
      cases hx
      refine ⟨.ref p, by rw [List.getElem?_append_right (by omega)]; simp [l], ?_⟩
      have : (fun a => if g.length < g.length then S g.length a else (g.length = g.length ∧ (a = p ∨ S' a))) = fun a => a = p ∨ S' a := by
        funext a
        rw [if_neg (Nat.lt_irrefl _)]
        simp
      show TR K F _ _ _ (fun a => if g.length < g.length then S g.length a else (g.length = g.length ∧ (a = p ∨ S' a)))
      rw [this]
      exact .lst upd_same hF (trs_mono (Same.refl F) t1 fun a q => ⟨upd_ne (fun e => np (e ▸ q)), (trs_own t1 a q).choose_spec.2⟩) np
  · dsimp only at q
    split at q
    · exact s2 i a q
    · rcases q.2 with q | q
      · rw [q]; exact h0
      · obtain ⟨j, _, r⟩ := t2 a q
        exact s2 j a r
  · dsimp only at q r
    split at q
    · split at r
      · exact s3 i j a q r
      · rcases r.2 with z | z
        · subst z; exact (nS i q).elim
        · obtain ⟨m, lm, w⟩ := t2 a z
          have := s3 i m a q w
          omega
    · split at r
      · rcases q.2 with z | z
        · subst z; exact (nS j r).elim
        · obtain ⟨m, lm, w⟩ := t2 a z
          have := s3 j m a r w
          omega
      · omega
  · dsimp only at q
    split at q
    · rename_i c
      rw [gt_append_left c] at e
      exact s4 i (by rw [gt_append_left c]; exact e) a q
    · rw [q.1, gt_push] at e
      cases e
  · have li := (List.getElem?_eq_some_iff.mp e).1
    simp at li
    rcases Nat.lt_or_ge i g.length with c | c
    · rw [List.getElem?_append_left c] at e
      obtain ⟨v, h1, h2⟩ := tk.bor i x e
      exact ⟨v, h1, by rw [List.getElem?_append_left (by omega)]; exact h2⟩
    · rw [List.getElem?_append_right c, show i - g.length = 0 by omega] at e
      cases e
  · have lj := (List.getElem?_eq_some_iff.mp e).1
    simp at lj
    rcases Nat.lt_or_ge j g.length with c | c
    · rw [List.getElem?_append_left c] at e
      obtain ⟨a, us, v, h1, h2, h3, h4, h5, ts0, h6⟩ := tk.al j i k e
      have li := nt_lt h6
      have ne : a ≠ p := fun z => by rw [z, hp] at h2; cases h2
      exact ⟨a, us, v, by rw [List.getElem?_append_left (by omega)]; exact h1, by rw [upd_ne ne]; exact h2, h3, h4, by rw [List.getElem?_append_left (by omega)]; exact h5, ts0, by rw [nt_append_left li]; exact h6⟩
    · rw [List.getElem?_append_right c, show j - g.length = 0 by omega] at e
      cases e
end
theorem At.mkL {K : PySem.W.Frag} {V0 : Nat → Option V} {F0 H0 F H : Hp} {B : Addr → Prop} {σ ext : L2.St} {g tmp : Ct} {vs : List V} {ts : List T} {p : Addr} (ht : Tm tmp) (a : At K V0 F0 H0 B (ext ++ vs.map some) (tmp ++ ts.map Cl.tm) F H σ g) (hl : ext.length = tmp.length) (hp : H p = none) : At K V0 F0 H0 B (ext ++ [some (.ref p)]) (tmp ++ [.tm (.lst ts)]) F (upd H p (.lst vs)) σ g := by
  have st := a.st
  rw [← List.append_assoc, ← List.append_assoc] at st
  refine ⟨?_, a.l, fun c hc => ?_⟩
  · rw [← List.append_assoc, ← List.append_assoc]
    exact st.mkL (by simp [a.l, hl]) hp
  · rcases List.mem_append.mp hc with hc | hc
    · exact ht c hc
    · exact ⟨_, List.mem_singleton.mp hc⟩
/-- [e, ..], a list of its own -/
def xLs (m : XA) : XM := fun g => (m g).bind fun ts g1 => if ts.length ≤ most then .ok (.lst ts) g1 else .bad
theorem mx_own {X : Cx} {W : WX} {es : List Expr} {m : XA} {pos : Pos} (h : MXA X W es m) : MX X W (.List es pos) (xLs m) := by
  refine PE.imp (pe_lst h) fun σ H Q ⟨V0, F0, H0, B, ext, tmp, F, g, a, h⟩ => ?_
  refine tXA_bind a h fun ts vs g1 F1 H1 _ a1 h1 => ?_
  split at h1
  · rename_i l
    have lens : vs.length = ts.length := by
      have h := a1.len
      have h2 := a.len
      simp at h
      omega
    exact ⟨by rw [lens]; exact most_le l, fun p hp => h1 (.ref p) F1 _ (At.mkL a.tm a1 a.len hp)⟩
  · exact h1.elim
/-- list(e), a list of its own -/
def xListOf (m : XM) : XM := fun g => (m g).bind fun t g1 => match fz t with
  | .list ds => .ok (.lst (ds.map T.dat)) g1
  | .tuple ds => .ok (.lst (ds.map T.dat)) g1
  | _ => .bad
theorem At.dats {K : PySem.W.Frag} {V0 : Nat → Option V} {F0 H0 F H : Hp} {B : Addr → Prop} {σ : L2.St} {g : Ct} : ∀ {ds : List D} {vs : List V} {ext : L2.St} {tmp : Ct}, At K V0 F0 H0 B ext tmp F H σ g → DpAll K F vs ds → At K V0 F0 H0 B (ext ++ vs.map some) (tmp ++ (ds.map T.dat).map Cl.tm) F H σ g
  | [], _, ext, tmp, a, h => by
    cases h
    simpa using a
  | d :: ds, _, ext, tmp, a, h => by
    cases h with
    | @cons v vs _ _ x y =>
      have := At.dats (a.push x) y
      simp only [List.append_assoc] at this
      simpa using this
/-- a name's tree, the name given up -/
def xMv (i : Nat) : XM := fun g => match g[i]? with
  | some (.t x) => .ok x ((kil i g).set i .un)
  | _ => .bad
theorem mx_mv (i : Nat) {X : Cx} {W : WX} {x : Str} {pos : Pos} (hN : X.N[i]? = some x := by rfl) (hv : Vis X.env.scope x := by first | exact Or.inl rfl | exact Or.inr (Or.inl rfl) | exact Or.inr (Or.inr rfl)) (hd : (x == ("__debug__" : Str)) = false := by decide) (hcd : (x == ("__classdict__" : Str)) = false := by decide) : MX X W (.Name x pos) (xMv i) := by
  refine PE.imp (pe_var hN hv hd hcd) fun σ H Q ⟨V0, F0, H0, B, ext, tmp, F, g, a, h⟩ => ?_
  unfold xMv at h
  split at h
  · rename_i t e
    have li := (List.getElem?_eq_some_iff.mp e).1
    have lst := a.st
    have ll := a.len
    have al := a.l
    obtain ⟨S, s1, _, _, _⟩ := a.st.own
    have e' : (g ++ tmp)[i]? = some (Cl.t t) := by rw [List.getElem?_append_left li]; exact e
    obtain ⟨v, hv, _⟩ := s1 i t (gt_of (.inl e'))
    rw [List.getElem?_append_left (by omega)] at hv
    refine ⟨v, hv, h v F H ⟨?_, by simp [kil_len, a.l], fun c hc => ?_⟩⟩
    · have g1 : ∀ j, gt ((kil i g).set i .un ++ (tmp ++ [.tm t])) j = if j = i then none else if j = g.length + tmp.length then some t else gt (g ++ tmp) j := fun j => by
        unfold gt
        rcases Nat.lt_or_ge j g.length with c | c
        · rw [List.getElem?_append_left (by simp [kil_len]; exact c), List.getElem?_append_left c]
          by_cases z : j = i
          · rw [if_pos z, z, List.getElem?_set_self (by rw [kil_len]; exact li)]; rfl
          · rw [if_neg z, if_neg (by omega), List.getElem?_set_ne (Ne.symm z)]
            exact kil_gt
        · rw [if_neg (by omega), List.getElem?_append_right (by simp [kil_len]; exact c)]
          simp only [List.length_set, kil_len]
          by_cases z : j = g.length + tmp.length
          · rw [if_pos z, List.getElem?_append_right (by omega), show j - g.length - tmp.length = 0 by omega]; rfl
          · rw [if_neg z, List.getElem?_append_right c]
            rcases Nat.lt_or_ge (j - g.length) tmp.length with c2 | c2
            · rw [List.getElem?_append_left c2]
            · rw [List.getElem?_eq_none (by simp; omega), List.getElem?_eq_none (by omega)]
      have s1 : ∀ j, j ≠ g.length + tmp.length → j < g.length + tmp.length + 1 → (σ ++ (ext ++ [some v]))[j]? = (σ ++ ext)[j]? := fun j hj hl => by
        rw [← List.append_assoc, List.getElem?_append_left (by simp; omega)]
      refine lst.pick (fun j => if j = g.length + tmp.length then i else j) (by simp [kil_len]; omega) (fun x y hx hy q => ?_) (fun j y hy => ?_) (fun j y hy => ?_) (fun j m k q => ?_)
      · rw [g1] at hx hy
        have hx0 : x ≠ i := fun z => by rw [if_pos z] at hx; cases hx
        have hy0 : y ≠ i := fun z => by rw [if_pos z] at hy; cases hy
        split at q <;> split at q <;> omega
      · rw [g1] at hy
        split at hy
        · cases hy
        · rename_i z
          split at hy
          · rename_i z2
            cases hy
            rw [if_pos z2, z2]
            refine ⟨gt_of (.inl e'), ?_⟩
            rw [← List.append_assoc, List.getElem?_append_right (by simp; omega), show g.length + tmp.length - (σ ++ ext).length = 0 by simp; omega, List.getElem?_append_left (by omega), hv]
            rfl
          · rename_i z2
            rw [if_neg z2]
            have := gt_lt hy
            simp at this
            exact ⟨hy, s1 j z2 (by omega)⟩
      · have lj := (List.getElem?_eq_some_iff.mp hy).1
        simp [kil_len] at lj
        rcases Nat.lt_or_ge j g.length with c | c
        · rw [List.getElem?_append_left (by simp [kil_len]; exact c)] at hy
          have z : j ≠ i := fun z => by
            rw [z, List.getElem?_set_self (by rw [kil_len]; exact li)] at hy
            cases hy
          rw [List.getElem?_set_ne (Ne.symm z)] at hy
          exact ⟨⟨y, by rw [List.getElem?_append_left c]; exact kil_b hy⟩, s1 j (by omega) (by omega)⟩
        · exfalso
          rw [List.getElem?_append_right (by simp [kil_len]; exact c)] at hy
          have mem := List.mem_of_getElem? hy
          rcases List.mem_append.mp mem with mem | mem
          · obtain ⟨w, hw⟩ := a.tm _ mem
            cases hw
          · have := List.mem_singleton.mp mem
            cases this
      · have lj := (List.getElem?_eq_some_iff.mp q).1
        simp [kil_len] at lj
        rcases Nat.lt_or_ge j g.length with c | c
        · rw [List.getElem?_append_left (by simp [kil_len]; exact c)] at q
          have z : j ≠ i := fun z => by
            rw [z, List.getElem?_set_self (by rw [kil_len]; exact li)] at q
            cases q
          rw [List.getElem?_set_ne (Ne.symm z)] at q
          obtain ⟨q1, q2⟩ := kil_al q
          have q3 : (g ++ tmp)[j]? = some (Cl.al m k) := by rw [List.getElem?_append_left c]; exact q1
          obtain ⟨_, _, _, _, _, _, _, _, ts0, h6⟩ := lst.al j m k q3
          have lm := nt_tmp a.tm h6
          refine ⟨q3, s1 j (by omega) (by omega), s1 m (by omega) (by omega), ?_⟩
          rw [nt_append_left lm]
          have : nt ((kil i g).set i .un ++ (tmp ++ [.tm t])) m = nt ((kil i g).set i .un) m := nt_append_left (by simp [kil_len]; exact lm)
          rw [this]
          unfold nt
          rw [List.getElem?_set_ne (Ne.symm q2)]
          exact kil_nt
        · exfalso
          rw [List.getElem?_append_right (by simp [kil_len]; exact c)] at q
          have mem := List.mem_of_getElem? q
          rcases List.mem_append.mp mem with mem | mem
          · obtain ⟨w, hw⟩ := a.tm _ mem
            cases hw
          · have := List.mem_singleton.mp mem
            cases this
    · rcases List.mem_append.mp hc with hc | hc
      · exact a.tm c hc
      · exact ⟨_, List.mem_singleton.mp hc⟩
  · exact h.elim
end MI
set_option Elab.async false
set_option linter.all false
set_option maxRecDepth 100000
set_option maxHeartbeats 4000000
namespace MI
open PySem PySem.Spec PyProof.Rows L2
def locS (g : Ct) (j : Nat) : Option (Nat × List Nat) := match g[j]? with
  | some (.t _) => some (j, [])
  | some (.b _) => some (j, [])
  | some (.al i k) => some (i, [k])
  | _ => none
def asL : T → Option (List T)
  | .lst ts => some ts
  | _ => none
/-- the items of the list at ks below the name j -/
def locT (g : Ct) (j : Nat) (ks : List Nat) : Option (List T) := match locS g j with
  | some (i, p) => (match nt g i with
    | some x => (x.get (p ++ ks)).bind asL
    | none => none)
  | none => none
def putL (g : Ct) (j : Nat) (ks : List Nat) (ts : List T) : Ct := match locS g j with
  | some (i, p) => (match nt g i with
    | some x => setT g i (x.put (p ++ ks) (.lst ts))
    | none => g)
  | none => g
theorem asL_some {t : T} {ts : List T} (h : asL t = some ts) : t = .lst ts := by
  cases t <;> first | (cases h; rfl) | cases h
theorem sub_app {F H : Hp} : ∀ (p q : List Nat) {v w : V}, Sub F H v (p ++ q) w → ∃ u, Sub F H v p u ∧ Sub F H u q w
  | [], q, v, w, h => ⟨v, .nil, h⟩
  | k :: p, q, _, w, .lst h1 h2 h3 => by
    obtain ⟨u, a, b⟩ := sub_app p q h3
    exact ⟨u, .lst h1 h2 a, b⟩
  | k :: p, q, _, w, .tup h1 h2 h3 => by
    obtain ⟨u, a, b⟩ := sub_app p q h3
    exact ⟨u, .tup h1 h2 a, b⟩
section
variable {K : PySem.W.Frag} {V0 : Nat → Option V} {F0 H0 F H : Hp} {B : Addr → Prop} {σ ext : L2.St} {g tmp : Ct}
theorem StT.named (ok : StT K V0 F0 H0 B F H σ g) {j : Nat} {ks : List Nat} {ts : List T} (h : locT g j ks = some ts) :
    ∃ (w : V) (a : Addr) (vs : List V) (Sc : Addr → Prop), σ[j]? = some (some w) ∧ Sub F H w ks (.ref a) ∧ H a = some (.lst vs) ∧ TRs K F H vs ts Sc ∧
      ∀ (vs' : List V) (ts' : List T) (Sc' : Addr → Prop), TRs K F H vs' ts' Sc' → (∀ b, Sc' b → Sc b) → (ks = [] → ∀ (m k : Nat), g[m]? = some (Cl.al j k) → vs'[k]? = vs[k]?) → StT K V0 F0 H0 B F (upd H a (.lst vs')) σ (putL g j ks ts') := by
  unfold locT at h
  cases e : locS g j with
  | none => rw [e] at h; cases h
  | some ip =>
    obtain ⟨i, p⟩ := ip
    rw [e] at h
    dsimp only at h
    cases ex : nt g i with
    | none => rw [ex] at h; cases h
    | some x =>
      rw [ex] at h
      dsimp only at h
      cases eg : x.get (p ++ ks) with
      | none => rw [eg] at h; cases h
      | some u =>
        rw [eg] at h
        have hu := asL_some h
        subst hu
        obtain ⟨r, a, vs, Sc, h1, h2, h3, h4, h5⟩ := ok.write (gt_nt ex) eg
        have pe : ∀ ts', putL g j ks ts' = setT g i (x.put (p ++ ks) (.lst ts')) := fun ts' => by
          unfold putL
          rw [e]
          dsimp only
          rw [ex]
        unfold locS at e
        cases ej : g[j]? with
        | none => rw [ej] at e; cases e
        | some c =>
          rw [ej] at e
          cases c with
          | t y =>
            cases e
            exact ⟨r, a, vs, Sc, h1, h2, h3, h4, fun vs' ts' Sc' q1 q2 q3 => by rw [pe]; exact h5 vs' ts' Sc' q1 q2 fun z => q3 z⟩
          | b y =>
            cases e
            exact ⟨r, a, vs, Sc, h1, h2, h3, h4, fun vs' ts' Sc' q1 q2 q3 => by rw [pe]; exact h5 vs' ts' Sc' q1 q2 fun z => q3 z⟩
          | al i' k =>
            cases e
            obtain ⟨a0, us, v, w1, w2, w3, w4, w5, _⟩ := ok.al j i k ej
            rw [w1] at h1
            cases h1
            obtain ⟨u, s1, s2⟩ := sub_app [k] ks h2
            have uv : u = v := by
              cases s1 with
              | lst z1 z2 z3 =>
                rw [w2] at z1
                cases z1
                rw [w4] at z2
                cases z2
                cases z3
                rfl
              | tup z1 z2 z3 =>
                rw [w3] at z1
                cases z1
            subst uv
            exact ⟨u, a, vs, Sc, w5, s2, h3, h4, fun vs' ts' Sc' q1 q2 q3 => by rw [pe]; exact h5 vs' ts' Sc' q1 q2 fun z => by simp at z⟩
          | un => cases e
          | tm y => cases e
theorem locS_app {j : Nat} (l : j < g.length) : locS (g ++ tmp) j = locS g j := by
  unfold locS
  rw [List.getElem?_append_left l]
theorem locT_lt {j : Nat} {ks : List Nat} {ts : List T} (h : locT g j ks = some ts) : j < g.length := by
  unfold locT locS at h
  cases e : g[j]? with
  | none => rw [e] at h; cases h
  | some c => exact (List.getElem?_eq_some_iff.mp e).1
theorem nt_app {i : Nat} {x : T} (h : nt g i = some x) : nt (g ++ tmp) i = some x := by rw [nt_append_left (nt_lt h)]; exact h
theorem locT_app {j : Nat} {ks : List Nat} {ts : List T} (h : locT g j ks = some ts) : locT (g ++ tmp) j ks = some ts ∧ ∀ ts', putL (g ++ tmp) j ks ts' = putL g j ks ts' ++ tmp := by
  have l := locT_lt h
  unfold locT at h ⊢
  unfold putL
  rw [locS_app l]
  cases e : locS g j with
  | none => rw [e] at h; cases h
  | some ip =>
    obtain ⟨i, p⟩ := ip
    rw [e] at h
    dsimp only at h ⊢
    cases ex : nt g i with
    | none => rw [ex] at h; cases h
    | some x =>
      rw [ex] at h
      rw [nt_app ex]
      refine ⟨h, fun ts' => ?_⟩
      dsimp only
      have li := nt_lt ex
      unfold setT
      rw [List.getElem?_append_left li]
      cases eg : g[i]? with
      | none => rfl
      | some c =>
        dsimp only
        rw [List.set_append_left _ _ li]
theorem putL_len {j : Nat} {ks : List Nat} {ts : List T} : (putL g j ks ts).length = g.length := by
  unfold putL
  split
  · split
    · exact setT_len
    · rfl
  · rfl
theorem At.named (a : At K V0 F0 H0 B ext tmp F H σ g) {j : Nat} {ks : List Nat} {ts : List T} (h : locT g j ks = some ts) :
    ∃ (w : V) (b : Addr) (vs : List V) (Sc : Addr → Prop), σ[j]? = some (some w) ∧ Sub F H w ks (.ref b) ∧ H b = some (.lst vs) ∧ TRs K F H vs ts Sc ∧
      ∀ (vs' : List V) (ts' : List T) (Sc' : Addr → Prop), TRs K F H vs' ts' Sc' → (∀ c, Sc' c → Sc c) → (ks = [] → ∀ (m k : Nat), g[m]? = some (Cl.al j k) → vs'[k]? = vs[k]?) → At K V0 F0 H0 B ext tmp F (upd H b (.lst vs')) σ (putL g j ks ts') := by
  obtain ⟨h1, h2⟩ := locT_app (tmp := tmp) h
  obtain ⟨w, b, vs, Sc, q1, q2, q3, q4, q5⟩ := a.st.named h1
  have l := locT_lt h
  rw [List.getElem?_append_left (by rw [a.l]; exact l)] at q1
  refine ⟨w, b, vs, Sc, q1, q2, q3, q4, fun vs' ts' Sc' r1 r2 r3 => ⟨?_, by rw [putL_len]; exact a.l, a.tm⟩⟩
  rw [← h2]
  refine q5 vs' ts' Sc' r1 r2 fun z m k hm => ?_
  rcases Nat.lt_or_ge m g.length with c | c
  · rw [List.getElem?_append_left c] at hm
    exact r3 z m k hm
  · rw [List.getElem?_append_right c] at hm
    obtain ⟨x, e⟩ := a.tm _ (List.mem_of_getElem? hm)
    cases e
theorem trs_appD {vs : List V} {ts : List T} {S : Addr → Prop} {v : V} {d : D} (h : TRs K F H vs ts S) (hd : Dp K F v d) : ∃ S', TRs K F H (vs ++ [v]) (ts ++ [.dat d]) S' ∧ ∀ a, S' a → S a := by
  obtain ⟨S', q1, q2⟩ := trs_append h (.cons (.dat hd) .nil (fun _ z => z.elim)) (fun _ _ z => by rcases z with z | z <;> exact z)
  exact ⟨S', q1, fun a z => by rcases (q2 a).mp z with z | z | z; exact z; exact z.elim; exact z.elim⟩
/-- the names of child k of slot j's list are given up -/
def kilk (j k : Nat) (g : Ct) : Ct := g.map fun c => match c with
  | .al a b => if a = j ∧ b = k then .un else .al a b
  | c => c
theorem kilk_get {j k i : Nat} : (kilk j k g)[i]? = (g[i]?).map fun c => match c with
  | .al a b => if a = j ∧ b = k then .un else .al a b
  | c => c := by
  unfold kilk
  rw [List.getElem?_map]
theorem kilk_gt {j k i : Nat} : gt (kilk j k g) i = gt g i := by
  unfold gt
  rw [kilk_get]
  cases g[i]? with
  | none => rfl
  | some c =>
    cases c with
    | al a b =>
      show (if a = j ∧ b = k then Cl.un else Cl.al a b).tr = _
      split <;> rfl
    | _ => rfl
theorem kilk_nt {j k i : Nat} : nt (kilk j k g) i = nt g i := by
  unfold nt
  rw [kilk_get]
  cases g[i]? with
  | none => rfl
  | some c =>
    cases c with
    | al a b =>
      show (if a = j ∧ b = k then Cl.un else Cl.al a b).nm = _
      split <;> rfl
    | _ => rfl
theorem kilk_al {j k i a b : Nat} (h : (kilk j k g)[i]? = some (Cl.al a b)) : g[i]? = some (Cl.al a b) ∧ ¬ (a = j ∧ b = k) := by
  rw [kilk_get] at h
  cases e : g[i]? with
  | none => rw [e] at h; cases h
  | some c =>
    rw [e] at h
    cases c with
    | al x y =>
      have h' : (if x = j ∧ y = k then Cl.un else Cl.al x y) = Cl.al a b := Option.some.inj h
      split at h'
      · cases h'
      · rename_i n
        cases h'
        exact ⟨rfl, n⟩
    | _ => cases h
theorem kilk_b {j k i : Nat} {x : T} (h : (kilk j k g)[i]? = some (Cl.b x)) : g[i]? = some (Cl.b x) := by
  rw [kilk_get] at h
  cases e : g[i]? with
  | none => rw [e] at h; cases h
  | some c =>
    rw [e] at h
    cases c with
    | al x y =>
      have h' : (if x = j ∧ y = k then Cl.un else Cl.al x y) = Cl.b _ := Option.some.inj h
      split at h' <;> cases h'
    | b y => exact h
    | _ => cases h
theorem At.kilk (a : At K V0 F0 H0 B ext tmp F H σ g) (j k : Nat) : At K V0 F0 H0 B ext tmp F H σ (kilk j k g) := by
  have e : MI.kilk j k tmp = tmp := by
    unfold MI.kilk
    have : ∀ c ∈ tmp, (match c with
      | .al a b => if a = j ∧ b = k then Cl.un else .al a b
      | c => c) = c := fun c hc => by
      obtain ⟨x, rfl⟩ := a.tm c hc
      rfl
    rw [List.map_congr_left this, List.map_id']
  have e2 : MI.kilk j k g ++ tmp = MI.kilk j k (g ++ tmp) := by
    conv => lhs; rw [← e]
    unfold MI.kilk
    rw [List.map_append]
  refine ⟨?_, by unfold MI.kilk; rw [List.length_map]; exact a.l, a.tm⟩
  rw [e2]
  exact a.st.pick id (by unfold MI.kilk; rw [List.length_map]; exact a.st.len) (fun _ _ _ _ z => z) (fun i x hx => ⟨by rw [kilk_gt] at hx; exact hx, rfl⟩) (fun i x hx => ⟨⟨x, kilk_b hx⟩, rfl⟩) (fun i m k h => ⟨(kilk_al h).1, rfl, rfl, kilk_nt⟩)
end
def tApp (j : Nat) (m : XM) : ST := fun g => match locT g j [] with
  | some _ => (m g).to fun t g1 => (match locT g1 j [] with
    | some ts => if ts.length < most then .nx (putL g1 j [] (ts ++ [.dat (fz t)])) else .bad
    | none => .bad)
  | none => .bad
def tIns (j : Nat) (m : XA) : ST := fun g => match locT g j [] with
  | some _ => (m g).to fun us g1 => (match us with
    | [i, t] => (match fz i with
      | .int i => (match locT (kil j g1) j [] with
        | some ts => if ts.length < most ∧ 0 ≤ i ∧ i < 2 ^ 63 then .nx (putL (kil j g1) j [] (ts.take i.toNat ++ [.dat (fz t)] ++ ts.drop i.toNat)) else .bad
        | none => .bad)
      | _ => .bad)
    | _ => .bad)
  | none => .bad
def tExt (j : Nat) (m : XM) : ST := fun g => match locT g j [] with
  | some _ => (m g).to fun t g1 => (match t with
    | .lst us => (match locT g1 j [] with
      | some ts => if ts.length + us.length ≤ most then .nx (putL g1 j [] (ts ++ (fzL us).map T.dat)) else .bad
      | none => .bad)
    | _ => .bad)
  | none => .bad
def tClr (j : Nat) : ST := fun g => match locT (kil j g) j [] with
  | some _ => .nx (putL (kil j g) j [] [])
  | none => .bad
def tRev (j : Nat) : ST := fun g => match locT (kil j g) j [] with
  | some ts => .nx (putL (kil j g) j [] ts.reverse)
  | none => .bad
def tPut (j : Nat) (mi m : XM) : ST := fun g => (m g).to fun t g1 => match locT g1 j [] with
  | some _ => (mi g1).to fun i g2 => (match fz i with
    | .int i => (match locT g2 j [] with
      | some ts => (match ixN ts.length i with
        | some k => .nx (putL (kilk j k g2) j [] (ts.set k (.dat (fz t))))
        | none => .bad)
      | none => .bad)
    | _ => .bad)
  | none => .bad
theorem locT_kilk {g : Ct} {i k j : Nat} {ts : List T} (h : locT g j [] = some ts) (n : ∀ a, g[j]? ≠ some (Cl.al i a)) : locT (kilk i k g) j [] = some ts := by
  unfold locT at h ⊢
  have e : locS (kilk i k g) j = locS g j := by
    unfold locS
    rw [kilk_get]
    cases q : g[j]? with
    | none => rfl
    | some c =>
      cases c with
      | al a b =>
        have : ¬ (a = i ∧ b = k) := fun z => n b (by rw [q, z.1])
        show (match some (if a = i ∧ b = k then Cl.un else Cl.al a b) with
          | some (.t _) => some (j, [])
          | some (.b _) => some (j, [])
          | some (.al i k) => some (i, [k])
          | _ => none) = _
        rw [if_neg this]
      | _ => rfl
  rw [e]
  cases q : locS g j with
  | none => rw [q] at h; cases h
  | some ip =>
    rw [q] at h
    obtain ⟨a, b⟩ := ip
    dsimp only at h ⊢
    rw [kilk_nt]
    exact h
end MI
set_option Elab.async false
set_option linter.all false
set_option maxRecDepth 100000
set_option maxHeartbeats 4000000
namespace MI
open PySem PySem.Spec PyProof.Rows L2
section
variable {X : Cx} {W : WX} {V0 : Nat → Option V} {F0 H0 F H : Hp} {B : Addr → Prop} {D : Ends} {σ : L2.St} {g : Ct}
theorem sub0 {F H : Hp} {w : V} {a : Addr} (h : Sub F H w [] (.ref a)) : w = .ref a := by cases h; rfl
/-- the keep of names of items by an append -/
theorem keepA {K : PySem.W.Frag} {ext : L2.St} {tmp : Ct} (a : At K V0 F0 H0 B ext tmp F H σ g) {j : Nat} {b : Addr} {vs ws : List V} (hσ : σ[j]? = some (some (.ref b))) (hb : H b = some (.lst vs)) : ∀ (m k : Nat), g[m]? = some (Cl.al j k) → (vs ++ ws)[k]? = vs[k]? := fun m k e => by
  have lm := (List.getElem?_eq_some_iff.mp e).1
  obtain ⟨b', us, v, h1, h2, h3, h4, h5, ts0, h6⟩ := a.st.al m j k (by rw [List.getElem?_append_left lm]; exact e)
  have lj := (List.getElem?_eq_some_iff.mp hσ).1
  rw [List.getElem?_append_left lj, hσ] at h1
  cases h1
  rw [hb] at h2
  cases h2
  rw [List.getElem?_append_left (List.getElem?_eq_some_iff.mp h4).1]
theorem mts_app (j : Nat) {x : Str} {e : Expr} {m : XM} {px apos cpos pos : Pos} (he : MX X W e m) (hx : PE X (.Name x px) (tVar j))
    (hbase : attributeBase (.Name x px) "append" X.env (eval (.Name x px) X.env) = eval (.Name x px) X.env := by rfl)
    (hfew : ((backTo cpos (starEach (e :: []) X.env)).all (fun x => !x.1) && (backToKw cpos (keywordEach [] X.env)).all (fun x => x.1.isSome)
      && decide ((e :: []).length + ([] : List Keyword).length + (if ([] : List Keyword).isEmpty then 0 else 1) < 30)) = true := by rfl)
    (hline : (apos.endLine == cpos.line) = true := by rfl) (hs : starEach (e :: []) X.env = (false, eval e X.env) :: starEach [] X.env := by rfl) (hplain : (backTo cpos (starEach [] X.env)).any (·.1) = false := by rfl)
    (hw : swapsWith (.Call (.Attribute (.Name x px) "append" apos) [e] [] cpos) none pos.line X.env = pure false := by rfl) :
    MTS X W (.Expr (.Call (.Attribute (.Name x px) "append" apos) [e] [] cpos) pos) (tApp j m) := by
  refine PS.imp (ps_expr (pe_bm PySem.F.plainAttrs_list PySem.F.slot_list_append PySem.F.type_list_append mt_append hx (pa_cons he pa_nil hs) hbase hfew hline hs hplain) hw) fun D σ H ⟨V0, F0, H0, B, F, g, ok, h⟩ => ?_
  unfold tApp at h
  cases q0 : locT g j [] with
  | none => rw [q0] at h; exact h.elim
  | some ts0 =>
    rw [q0] at h
    obtain ⟨w, a, vs0, Sc0, hσ, hsub, hH0, _, _⟩ := ok.at0.named q0
    have := sub0 hsub
    subst this
    refine ⟨_, hσ, .inl ⟨rfl, vs0, SqL.of hH0⟩, ?_⟩
    refine evX (Q := fun y H1 => rAppend (.ref a) [y] H1 fun _ H2 => D.nx σ H2) ok h fun t v g1 F1 H1 e1 ok1 l1 h1 => ?_
    obtain ⟨F2, _, ok2, hd⟩ := ok1.top1 l1
    cases q1 : locT g1 j [] with
    | none => rw [q1] at h1; exact h1.elim
    | some ts =>
      rw [q1] at h1
      dsimp only at h1
      split at h1
      · rename_i l
        obtain ⟨w', a', vs, Sc, hσ', hsub', hH, htr, wr⟩ := ok2.at0.named q1
        rw [hσ] at hσ'
        cases hσ'
        have := sub0 hsub'
        cases this
        obtain ⟨S', z1, z2⟩ := trs_appD htr hd
        exact ⟨a, vs, v, rfl, rfl, hH, by rw [trs_len htr]; exact Nat.lt_of_lt_of_le l (Nat.le_of_eq most_eq), h1 F2 _ σ (wr _ _ _ z1 z2 fun _ => keepA ok2.at0 hσ hH).st0⟩
      · exact h1.elim
/-- x.pop() -/
def xPop (j : Nat) : XM := fun g => match locT (kil j g) j [] with
  | some ts => (match ts[ts.length - 1]? with
    | some (.dat d) => .ok (.dat d) (putL (kil j g) j [] (ts.eraseIdx (ts.length - 1)))
    | _ => .bad)
  | none => .bad
theorem mts_put (j : Nat) {x : Str} {ei e : Expr} {mi m : XM} {px pt pos : Pos} (he : MX X W e m) (hi : MX X W ei mi) (hg : PG X (.Subscript (.Name x px) ei pt) (gSub (tVar j) (tX X W mi) rSetL))
    (hs : swapsWithSole [.Subscript (.Name x px) ei pt] e pos.line X.env = pure false := by rfl) (hw : swappedStores [.Subscript (.Name x px) ei pt] e X.env = pure none := by rfl) (h1 : (assignEach [.Subscript (.Name x px) ei pt] X.env).map (·.2) = [assign (.Subscript (.Name x px) ei pt) X.env] := by rfl) :
    MTS X W (.Assign [.Subscript (.Name x px) ei pt] e pos) (tPut j mi m) := by
  refine PS.imp (ps_asg he hg hs hw h1) fun D σ H ⟨V0, F0, H0, B, F, g, ok, h⟩ => ?_
  unfold tPut at h
  refine evX (Q := fun v H1 => gSub (tVar j) (tX X W mi) rSetL v σ H1 D.nx) ok h fun t v g1 F1 H1 e1 ok1 l1 h1 => ?_
  cases q0 : locT g1 j [] with
  | none => rw [q0] at h1; exact h1.elim
  | some ts0 =>
    rw [q0] at h1
    dsimp only at h1
    have a1 : At X.K V0 F0 H0 B [some v] [.tm t] F1 H1 σ g1 := ⟨ok1, l1, fun c hc => ⟨t, List.mem_singleton.mp hc⟩⟩
    obtain ⟨w, a, vs0, Sc0, hσ, hsub, hH0, _, _⟩ := a1.named q0
    have := sub0 hsub
    subst this
    refine ⟨_, hσ, V0, F0, H0, B, [some v], [.tm t], F1, g1, a1, ?_⟩
    cases e2 : mi g1 with
    | ok i g2 =>
      rw [e2] at h1
      intro vi F2 H2 a2
      obtain ⟨F3, _, a3, hdv, hdi⟩ := At.top2 (ext := []) (tmp := []) (fun c hc => by cases hc) rfl a2
      have h1 : SPT X.K X.mg W V0 F0 H0 B D (match fz i with
        | .int i => (match locT g2 j [] with
          | some ts => (match ixN ts.length i with
            | some k => .nx (putL (kilk j k g2) j [] (ts.set k (.dat (fz t))))
            | none => .bad)
          | none => .bad)
        | _ => .bad) := h1
      split at h1
      · rename_i ii ei
        rw [ei] at hdi
        cases dp_int hdi
        cases q1 : locT g2 j [] with
        | none => rw [q1] at h1; exact h1.elim
        | some ts =>
          rw [q1] at h1
          dsimp only at h1
          split at h1
          · rename_i k hk
            have ak := a3.kilk j k
            have q2 : locT (MI.kilk j k g2) j [] = some ts := locT_kilk q1 fun b hb => by
              obtain ⟨b', us, v', w1, w2, w3, w4, w5, ts', w6⟩ := a3.st0.al j j b hb
              unfold nt at w6
              rw [hb] at w6
              cases w6
            obtain ⟨w', a', vs, Sc, hσ', hsub', hH, htr, wr⟩ := ak.named q2
            rw [hσ] at hσ'
            cases hσ'
            have := sub0 hsub'
            cases this
            obtain ⟨S', z1, z2⟩ := trs_setD (k := k) htr hdv
            refine ⟨a, vs, ii, k, rfl, rfl, hH, by rw [trs_len htr]; exact hk, ?_⟩
            refine h1 F3 _ σ (wr _ _ _ z1 z2 fun _ m k' e => ?_).st0
            have := (kilk_al e).2
            rw [List.getElem?_set_ne (fun z => this ⟨rfl, z.symm⟩)]
          · exact h1.elim
      · exact h1.elim
    | exc c p g2 =>
      rw [e2] at h1
      intro cls od F2 H2 a2 xv
      obtain ⟨F3, s3, a3, _⟩ := At.top1 (ext := []) (tmp := []) (fun c hc => by cases hc) rfl a2
      exact h1 cls od F3 H2 σ a3.st0 (xv_mono s3 xv)
    | bad => rw [e2] at h1; exact h1.elim
/-- y = x[k], another name of that list -/
def tAl (y j k : Nat) : ST := fun g => match nt g j with
  | some (.lst ts) => (match ts[k]? with
    | some (.lst _) => if free1 g y = true ∧ y ≠ j ∧ y < g.length then .nx ((kil y g).set y (.al j k)) else .bad
    | _ => .bad)
  | _ => .bad
end
end MI
set_option Elab.async false
set_option linter.all false
set_option maxRecDepth 100000
set_option maxHeartbeats 4000000
namespace MI
open PySem PySem.Spec PyProof.Rows L2
inductive RF where
  | ok (t : T) (bs : Ct)
  | exc (c : Str) (p : Option D) (bs : Ct)
  | bad
/-- an argument: lent, or given -/
abbrev Us := List (Bool × T)
def cellOf : Bool × T → Cl
  | (true, x) => .b x
  | (false, x) => .t x
/-- what comes back of the lent ones -/
def bback : Us → Ct → Option Ct
  | [], _ => some []
  | (true, _) :: us, .b x :: g => (bback us g).map fun r => .t x :: r
  | (false, _) :: us, _ :: g => (bback us g).map fun r => .un :: r
  | _, _ => none
theorem bback_len : ∀ {us : Us} {g bs : Ct}, bback us g = some bs → bs.length = us.length
  | [], _, _, h => by cases h; rfl
  | (true, _) :: us, .b x :: g, bs, h => by
    have h' : (bback us g).map (fun r => Cl.t x :: r) = some bs := h
    cases e : bback us g with
    | none => rw [e] at h'; cases h'
    | some r => rw [e] at h'; cases h'; exact congrArg Nat.succ (bback_len e)
  | (false, _) :: us, c :: g, bs, h => by
    have h' : (bback us g).map (fun r => Cl.un :: r) = some bs := by cases c <;> exact h
    cases e : bback us g with
    | none => rw [e] at h'; cases h'
    | some r => rw [e] at h'; cases h'; exact congrArg Nat.succ (bback_len e)
  | (true, _) :: us, [], _, h => by cases h
  | (false, _) :: us, [], _, h => by cases h
  | (true, _) :: us, .un :: g, _, h => by cases h
  | (true, _) :: us, .t _ :: g, _, h => by cases h
  | (true, _) :: us, .tm _ :: g, _, h => by cases h
  | (true, _) :: us, .al _ _ :: g, _, h => by cases h
theorem bback_get : ∀ {us : Us} {g bs : Ct} {i : Nat} {x : T}, bback us g = some bs → gt bs i = some x → (∃ y, us[i]? = some (true, y)) ∧ g[i]? = some (.b x)
  | [], _, _, i, x, h, q => by cases h; unfold gt at q; simp at q
  | (true, y) :: us, .b z :: g, bs, i, x, h, q => by
    have h' : (bback us g).map (fun r => Cl.t z :: r) = some bs := h
    cases e : bback us g with
    | none => rw [e] at h'; cases h'
    | some r =>
      rw [e] at h'
      cases h'
      cases i with
      | zero =>
        have q' : some z = some x := q
        cases q'
        exact ⟨⟨y, rfl⟩, rfl⟩
      | succ i =>
        obtain ⟨a, b⟩ := bback_get (i := i) (x := x) e (by unfold gt at q ⊢; simpa using q)
        exact ⟨by simpa using a, by simpa using b⟩
  | (false, y) :: us, c :: g, bs, i, x, h, q => by
    have h' : (bback us g).map (fun r => Cl.un :: r) = some bs := by cases c <;> exact h
    cases e : bback us g with
    | none => rw [e] at h'; cases h'
    | some r =>
      rw [e] at h'
      cases h'
      cases i with
      | zero => cases q
      | succ i =>
        obtain ⟨a, b⟩ := bback_get (i := i) (x := x) e (by unfold gt at q ⊢; simpa using q)
        exact ⟨by simpa using a, by simpa using b⟩
  | (true, _) :: us, [], _, _, _, h, _ => by cases h
  | (false, _) :: us, [], _, _, _, h, _ => by cases h
  | (true, _) :: us, .un :: g, _, _, _, h, _ => by cases h
  | (true, _) :: us, .t _ :: g, _, _, _, h, _ => by cases h
  | (true, _) :: us, .tm _ :: g, _, _, _, h, _ => by cases h
  | (true, _) :: us, .al _ _ :: g, _, _, _, h, _ => by cases h
/-- cells that are filled or not, nothing else -/
def Pl (bs : Ct) : Prop := ∀ c ∈ bs, c = Cl.un ∨ ∃ x, c = Cl.t x
theorem bback_pl : ∀ {us : Us} {g bs : Ct}, bback us g = some bs → Pl bs
  | [], _, _, h => by cases h; intro c hc; cases hc
  | (true, _) :: us, .b x :: g, bs, h => by
    have h' : (bback us g).map (fun r => Cl.t x :: r) = some bs := h
    cases e : bback us g with
    | none => rw [e] at h'; cases h'
    | some r =>
      rw [e] at h'; cases h'
      intro c hc
      rcases List.mem_cons.mp hc with hc | hc
      · exact .inr ⟨x, hc⟩
      · exact bback_pl e c hc
  | (false, _) :: us, c :: g, bs, h => by
    have h' : (bback us g).map (fun r => Cl.un :: r) = some bs := by cases c <;> exact h
    cases e : bback us g with
    | none => rw [e] at h'; cases h'
    | some r =>
      rw [e] at h'; cases h'
      intro c hc
      rcases List.mem_cons.mp hc with hc | hc
      · exact .inl hc
      · exact bback_pl e c hc
  | (true, _) :: us, [], _, h => by cases h
  | (false, _) :: us, [], _, h => by cases h
  | (true, _) :: us, .un :: g, _, h => by cases h
  | (true, _) :: us, .t _ :: g, _, h => by cases h
  | (true, _) :: us, .tm _ :: g, _, h => by cases h
  | (true, _) :: us, .al _ _ :: g, _, h => by cases h
def runT (n N : Nat) (m : ST) (us : Us) : RF := if us.length = n then (match m (us.map cellOf ++ List.replicate (N - n) Cl.un) with
  | .nx g => (match bback us g with
    | some bs => .ok (.dat .none) bs
    | none => .bad)
  | .rt t g => (match bback us g with
    | some bs => .ok t bs
    | none => .bad)
  | .ex c p g => (match bback us g with
    | some bs => .exc c p bs
    | none => .bad)
  | _ => .bad) else .bad
def FPT (K : PySem.W.Frag) (mg : Str → Option Value) (V0 : Nat → Option V) (F0 H0 : Hp) (B : Addr → Prop) (vs : List V) (Q : VK) (E : XK) : RF → Prop
  | .ok t bs => ∀ v F H, StT K V0 F0 H0 B F H (vs.map some ++ [some v]) (bs ++ [.tm t]) → Q v H
  | .exc c p bs => ∀ cls od F H, StT K V0 F0 H0 B F H (vs.map some) bs → XV K mg F c p cls od → E cls od H
  | .bad => False
def spT (K : PySem.W.Frag) (mg : Str → Option Value) (n : Nat) (f : Us → RF) : Sp := fun vs H Q E => ∃ (V0 : Nat → Option V) (F0 H0 : Hp) (B : Addr → Prop) (F : Hp) (us : Us), StT K V0 F0 H0 B F H (vs.map some) (us.map cellOf) ∧ us.length = n ∧ FPT K mg V0 F0 H0 B vs Q E (f us)
section
variable {K : PySem.W.Frag} {V0 : Nat → Option V} {F0 H0 F H : Hp} {B : Addr → Prop}
theorem StT.start {vs : List V} {us : Us} {N : List Str} (ok : StT K V0 F0 H0 B F H (vs.map some) (us.map cellOf)) (l : us.length ≤ N.length) : StT K V0 F0 H0 B F H (L2.start N vs) (us.map cellOf ++ List.replicate (N.length - us.length) Cl.un) := by
  have lv : vs.length = us.length := by have := ok.len; simpa using this
  have g1 : ∀ i, gt (us.map cellOf ++ List.replicate (N.length - us.length) Cl.un) i = gt (us.map cellOf) i := fun i => by
    rcases Nat.lt_or_ge i (us.map cellOf).length with c | c
    · exact gt_append_left c
    · unfold gt
      rw [List.getElem?_append_right c, List.getElem?_replicate, List.getElem?_eq_none c]
      split <;> rfl
  have un : ∀ (i : Nat) (c : Cl), (us.map cellOf ++ List.replicate (N.length - us.length) Cl.un)[i]? = some c → c ≠ .un → (us.map cellOf)[i]? = some c ∧ i < us.length := fun i c h n => by
    rcases Nat.lt_or_ge i (us.map cellOf).length with k | k
    · rw [List.getElem?_append_left k] at h
      exact ⟨h, by simpa using k⟩
    · rw [List.getElem?_append_right k, List.getElem?_replicate] at h
      split at h
      · cases h; exact absurd rfl n
      · cases h
  have sg : ∀ i, i < us.length → (L2.start N vs)[i]? = (vs.map some)[i]? := fun i h => by
    unfold L2.start
    rw [List.getElem?_append_left (by simp; omega)]
  refine ok.pick id (by unfold L2.start; simp; omega) (fun _ _ _ _ e => e) (fun i x hx => ?_) (fun i x hx => ?_) (fun j i k e => ?_)
  · rw [g1] at hx
    have := gt_lt hx
    exact ⟨hx, sg i (by simpa using this)⟩
  · obtain ⟨a, b⟩ := un i _ hx (by intro z; cases z)
    exact ⟨⟨x, a⟩, sg i b⟩
  · obtain ⟨a, b⟩ := un j _ e (by intro z; cases z)
    rw [List.getElem?_map] at a
    cases q : us[j]? with
    | none => rw [q] at a; cases a
    | some u =>
      rw [q] at a
      obtain ⟨bb, x⟩ := u
      cases bb <;> cases a
theorem StT.finish {vs : List V} {us : Us} {σ : L2.St} {g bs : Ct} {v : V} {t : T} {F1 H1 : Hp} (ok0 : StT K V0 F0 H0 B F H (vs.map some) (us.map cellOf)) (ok : StT K V0 F0 H0 B F1 H1 (σ ++ [some v]) (g ++ [.tm t])) (l : σ.length = g.length) (hb : bback us g = some bs) : StT K V0 F0 H0 B F1 H1 (vs.map some ++ [some v]) (bs ++ [.tm t]) := by
  have lb := bback_len hb
  have lv : vs.length = us.length := by have := ok0.len; simpa using this
  have pl := bback_pl hb
  have val : ∀ i x, gt bs i = some x → (vs.map some)[i]? = σ[i]? ∧ gt g i = some x := fun i x hx => by
    obtain ⟨⟨y, h1⟩, h2⟩ := bback_get hb hx
    have li := (List.getElem?_eq_some_iff.mp h2).1
    obtain ⟨w, q1, q2⟩ := ok.bor i x (by rw [List.getElem?_append_left li]; exact h2)
    obtain ⟨w', r1, r2⟩ := ok0.bor i y (by rw [List.getElem?_map, h1]; rfl)
    rw [r1] at q1
    cases q1
    rw [List.getElem?_append_left (by omega)] at q2
    exact ⟨r2.trans q2.symm, gt_of (.inr h2)⟩
  refine ok.pick (fun i => if i = bs.length then g.length else i) (by simp; omega) (fun i j hi hj e => ?_) (fun i x hx => ?_) (fun i x hx => ?_) (fun j i k e => ?_)
  · have li : i < bs.length + 1 := by
      obtain ⟨x, hx⟩ := Option.isSome_iff_exists.mp hi
      have := gt_lt hx
      simpa using this
    have lj : j < bs.length + 1 := by
      obtain ⟨x, hx⟩ := Option.isSome_iff_exists.mp hj
      have := gt_lt hx
      simpa using this
    have small : ∀ i, (gt (bs ++ [Cl.tm t]) i).isSome = true → i ≠ bs.length → i < g.length := fun i hi n => by
      obtain ⟨x, hx⟩ := Option.isSome_iff_exists.mp hi
      have := gt_lt hx
      simp at this
      rw [gt_append_left (by omega)] at hx
      exact gt_lt (val i x hx).2
    split at e
    · split at e
      · omega
      · rename_i n
        have := small j hj n
        omega
    · rename_i n
      split at e
      · have := small i hi n
        omega
      · exact e
  · have := gt_lt hx
    simp at this
    by_cases n : i = bs.length
    · rw [if_pos n]
      rw [n, gt_push] at hx
      cases hx
      refine ⟨gt_push, ?_⟩
      rw [n, List.getElem?_append_right (by simp; omega), List.getElem?_append_right (by omega)]
      simp [lb, lv, l]
    · rw [if_neg n]
      rw [gt_append_left (by omega)] at hx
      obtain ⟨a, b⟩ := val i x hx
      have lg := gt_lt b
      exact ⟨by rw [gt_append_left lg]; exact b, by rw [List.getElem?_append_left (by simp; omega), List.getElem?_append_left (by omega)]; exact a⟩
  · exfalso
    have mem := List.mem_of_getElem? hx
    rcases List.mem_append.mp mem with mem | mem
    · rcases pl _ mem with z | ⟨y, z⟩ <;> cases z
    · have := List.mem_singleton.mp mem
      cases this
  · exfalso
    have mem := List.mem_of_getElem? e
    rcases List.mem_append.mp mem with mem | mem
    · rcases pl _ mem with z | ⟨y, z⟩ <;> cases z
    · have := List.mem_singleton.mp mem
      cases this
end
theorem fn_okT {P : Program} {w : World} {K : PySem.W.Frag} {mg : Str → Option Value} {base : Heap} {x qual : Str} {params : Arguments} {body : List Stmt} {scope : Scope} {dvs : List V} {kws : List (Str × V)} {f : Addr} {fd : FuncData} {N ps : List Str} {k : Nat} {m : ST}
    (F : FunD K x qual params body scope dvs kws f fd) (Sc : FnScope N ps scope)
    (hbody : ∀ (cdv : Value) (A : Around) (outer : List Env) (s : Shared) (H : Hp) (E : XK), Room k (A.deeper (envOfC qual scope s.heap.objs.size f cdv)) →
      MTSs (cxOf (L2.CX P w) P w K mg base N qual scope f cdv A outer s H E) (WD E) body m) :
    FnOk P w K mg base (L2.CX P w) (k + 1) f fd ps (spT K mg ps.length (runT ps.length N.length m)) := by
  have lp : ps.length ≤ N.length := by
    have := congrArg List.length Sc.pre
    rw [List.length_take] at this
    omega
  refine F.ok Sc (fun vs H Q E ⟨V0, F0, H0, B, F, us, ok, l, _⟩ => (by have := ok.len; simp at this; omega)) fun cdv A outer s H vs Q E hr ⟨V0, F0, H0, B, F, us, ok, l, hp⟩ => ⟨_, hbody cdv A outer s H E hr, V0, F0, H0, B, F, _, StT.start (N := N) ok (by omega), ?_⟩
  unfold runT at hp
  rw [if_pos l] at hp
  rw [l]
  cases e : m (us.map cellOf ++ List.replicate (N.length - ps.length) Cl.un) with
  | nx g =>
    rw [e] at hp
    dsimp only at hp
    cases hb : bback us g with
    | none => rw [hb] at hp; exact (show False from hp).elim
    | some bs =>
      rw [hb] at hp
      exact fun F' H' σ ok' => hp .non F' H' (ok.finish (ok'.pushD .non) ok'.len hb)
  | rt t g =>
    rw [e] at hp
    dsimp only at hp
    cases hb : bback us g with
    | none => rw [hb] at hp; exact (show False from hp).elim
    | some bs =>
      rw [hb] at hp
      exact fun v F' H' σ ok' l' => hp v F' H' (ok.finish ok' l' hb)
  | ex c p g =>
    rw [e] at hp
    dsimp only at hp
    cases hb : bback us g with
    | none => rw [hb] at hp; exact (show False from hp).elim
    | some bs =>
      rw [hb] at hp
      intro cls od F' H' σ ok' xv
      have o2 := ok.finish (ok'.pushD .non) ok'.len hb
      have lb := bback_len hb
      have lv : vs.length = us.length := by have := ok.len; simpa using this
      exact hp cls od F' H' (o2.drop1 (by simp; omega)) xv
  | bk g => rw [e] at hp; exact (show False from hp).elim
  | ct g => rw [e] at hp; exact (show False from hp).elim
  | bad => rw [e] at hp; exact (show False from hp).elim
end MI
set_option Elab.async false
set_option linter.all false
set_option maxRecDepth 100000
set_option maxHeartbeats 4000000
namespace MI
open PySem PySem.Spec PyProof.Rows L2
section
variable {K : PySem.W.Frag} {V0 : Nat → Option V} {F0 H0 F H : Hp} {B : Addr → Prop}
theorem nodup_at {ps : List Nat} (nd : ps.Nodup) {i j p : Nat} (h1 : ps[i]? = some p) (h2 : ps[j]? = some p) : i = j := by
  obtain ⟨l1, e1⟩ := List.getElem?_eq_some_iff.mp h1
  obtain ⟨l2, e2⟩ := List.getElem?_eq_some_iff.mp h2
  have pw := List.pairwise_iff_getElem.mp nd
  rcases Nat.lt_trichotomy i j with c | c | c
  · exact absurd (e1.trans e2.symm) (pw i j l1 l2 c)
  · exact c
  · exact absurd (e2.trans e1.symm) (pw j i l2 l1 c)
theorem StT.call {τ : L2.St} {γ : Ct} (ok : StT K V0 F0 H0 B F H τ γ) {vs : List V} {us : Us} {ps : List Nat} (lv : vs.length = us.length) (lp : ps.length = us.length) (nd : ps.Nodup)
    (hp : ∀ (k : Nat) (v : V) (b : Bool) (x : T) (p : Nat), vs[k]? = some v → us[k]? = some (b, x) → ps[k]? = some p → τ[p]? = some (some v) ∧ gt γ p = some x) :
    ∃ (V1 : Nat → Option V) (B' : Addr → Prop), StT K V1 F H B' F H (vs.map some) (us.map cellOf) ∧
      ∀ (F' H' : Hp) (v : V) (t : T) (bs : Ct) (τ' : L2.St) (γ' : Ct) (top : Nat), StT K V1 F H B' F' H' (vs.map some ++ [some v]) (bs ++ [.tm t]) → bs.length = us.length → τ'.length = γ'.length →
        (∀ p x, gt γ' p = some x → (p = top ∧ x = t ∧ τ'[p]? = some (some v)) ∨ (p ≠ top ∧ τ'[p]? = τ[p]? ∧ ((∃ k : Nat, ps[k]? = some p ∧ gt bs k = some x) ∨ (gt γ p = some x ∧ ∀ k : Nat, ps[k]? ≠ some p)))) →
        (∀ (p : Nat) (x : T), γ'[p]? = some (Cl.b x) → (∃ y, γ[p]? = some (Cl.b y)) ∧ τ'[p]? = τ[p]?) →
        (∀ (j i k : Nat), γ'[j]? = some (Cl.al i k) → γ[j]? = some (Cl.al i k) ∧ nt γ' i = nt γ i ∧ τ'[i]? = τ[i]? ∧ τ'[j]? = τ[j]? ∧ ∀ m : Nat, ps[m]? ≠ some i) → StT K V0 F0 H0 B F' H' τ' γ' := by
  obtain ⟨S, s1, s2, s3, s4⟩ := ok.own
  have un : ∀ (k : Nat) (c : Cl), (us.map cellOf)[k]? = some c → ∃ b x, us[k]? = some (b, x) ∧ c = cellOf (b, x) := fun k c h => by
    rw [List.getElem?_map] at h
    cases e : us[k]? with
    | none => rw [e] at h; cases h
    | some u => rw [e] at h; cases h; exact ⟨u.1, u.2, rfl, rfl⟩
  have gtu : ∀ (k : Nat) (x : T), gt (us.map cellOf) k = some x → ∃ b v p, us[k]? = some (b, x) ∧ vs[k]? = some v ∧ ps[k]? = some p := fun k x h => by
    have hk := h
    unfold gt at h
    cases e : (us.map cellOf)[k]? with
    | none => rw [e] at h; cases h
    | some c =>
      rw [e] at h
      obtain ⟨b, y, h1, h2⟩ := un k c e
      subst h2
      have lk := (List.getElem?_eq_some_iff.mp h1).1
      cases b <;> cases h <;> exact ⟨_, vs[k], ps[k], h1, List.getElem?_eq_getElem (by omega), List.getElem?_eq_getElem (by omega)⟩
  refine ⟨fun k => vs[k]?, fun a => ∃ (k p : Nat), ps[k]? = some p ∧ S p a, ⟨Same.refl F, fun a o _ e => e, ok.s, fun a o e n => (by rw [n] at e; cases e), by simp [lv], ⟨fun k a => ∃ p : Nat, ps[k]? = some p ∧ S p a, fun k x hx => ?_, fun k a ⟨p, q, r⟩ => .inl ⟨k, p, q, r⟩, fun i j a ⟨p, q, r⟩ ⟨p', q', r'⟩ => ?_, fun k e a ⟨p, q, r⟩ => ?_⟩, fun k x e => ?_, fun j i k e => ?_⟩, fun F' H' v t bs τ' γ' top ok' lb ll r1 r2 r3 => ?_⟩
  · obtain ⟨b, w, p, h1, h2, h3⟩ := gtu k x hx
    obtain ⟨q1, q2⟩ := hp k w b x p h2 h1 h3
    obtain ⟨w', z1, z2⟩ := s1 p x q2
    rw [q1] at z1
    cases z1
    refine ⟨w, by rw [List.getElem?_map, h2]; rfl, ?_⟩
    have : (fun a => ∃ p : Nat, ps[k]? = some p ∧ S p a) = S p := by
      funext a
      rw [h3]
      simp
    show TR K F H w x (fun a => ∃ p : Nat, ps[k]? = some p ∧ S p a)
    rw [this]
    exact z2
  · have := s3 p p' a r r'
    subst this
    exact nodup_at nd q q'
  · have lk := (List.getElem?_eq_some_iff.mp q).1
    have : gt (us.map cellOf) k = some us[k].2 := by
      unfold gt
      rw [List.getElem?_map, List.getElem?_eq_getElem (by omega)]
      generalize us[k] = u
      obtain ⟨b, x⟩ := u
      cases b <;> rfl
    rw [this] at e
    cases e
  · obtain ⟨b, y, h1, h2⟩ := un k _ e
    have lk := (List.getElem?_eq_some_iff.mp h1).1
    exact ⟨vs[k], List.getElem?_eq_getElem (by omega), by rw [List.getElem?_map, List.getElem?_eq_getElem (by omega)]; rfl⟩
  · obtain ⟨b, y, h1, h2⟩ := un j _ e
    cases b <;> cases h2
  · obtain ⟨Sc, c1, c2, c3, c4⟩ := ok'.own
    have inB : ∀ a, (∃ (k p : Nat), ps[k]? = some p ∧ S p a) → B a ∨ H0 a = none := fun a ⟨k, p, _, q⟩ => s2 p a q
    have lift : ∀ a, H a = none → B a ∨ H0 a = none := fun a q => by
      by_cases b : B a
      · exact .inl b
      · cases w : H0 a with
        | none => exact .inr rfl
        | some u => rw [ok.h a u b w] at q; cases q
    have cB : ∀ k a, Sc k a → B a ∨ H0 a = none := fun k a q => by
      rcases c2 k a q with z | z
      · exact inB a z
      · exact lift a z
    -- what stands apart from the arguments
    have apart : ∀ p a, (∀ k : Nat, ps[k]? ≠ some p) → S p a → ¬ (∃ (k p : Nat), ps[k]? = some p ∧ S p a) := fun p a n q ⟨k, p', z, w⟩ => by
      have := s3 p p' a q w
      subst this
      exact n k z
    have SH : ∀ p a, S p a → ∃ xs, H a = some (.lst xs) ∧ F a = none := fun p a q => by
      cases e : gt γ p with
      | none => exact (s4 p e a q).elim
      | some x =>
        obtain ⟨w, _, z⟩ := s1 p x e
        exact tr_own z a q
    have keep : ∀ p a, (∀ k : Nat, ps[k]? ≠ some p) → S p a → H' a = H a ∧ F' a = none := fun p a n q => by
      obtain ⟨xs, z1, z2⟩ := SH p a q
      have nb := apart p a n q
      refine ⟨(ok'.h a _ nb z1).trans z1.symm, ?_⟩
      cases w : F' a with
      | none => rfl
      | some u =>
        rcases ok'.n a u w z2 with y | y
        · rw [z1] at y; cases y
        · exact (nb y).elim
    have cross : ∀ p k a, (∀ k : Nat, ps[k]? ≠ some p) → S p a → Sc k a → False := fun p k a n q z => by
      rcases c2 k a z with y | y
      · exact apart p a n q y
      · obtain ⟨xs, z1, _⟩ := SH p a q
        rw [z1] at y; cases y
    refine ⟨ok.f.trans ok'.f, fun a o nb e => ?_, ok'.s, fun a o e n => ?_, ll, ⟨fun p a => (gt γ' p).isSome = true ∧ ((p = top ∧ Sc bs.length a) ∨ (p ≠ top ∧ ((∃ k : Nat, ps[k]? = some p ∧ k < bs.length ∧ Sc k a) ∨ ((∀ k : Nat, ps[k]? ≠ some p) ∧ S p a)))), fun p x hx => ?_, fun p a ⟨_, q⟩ => ?_, fun p p' a ⟨_, q⟩ ⟨_, q'⟩ => ?_, fun p e a q => ?_⟩, fun p x e => ?_, fun j i k e => ?_⟩
    · refine ok'.h a o (fun q => ?_) (ok.h a o nb e)
      rcases inB a q with z | z
      · exact nb z
      · rw [z] at e; cases e
    · cases w : F a with
      | some u => exact ok.n a u w n
      | none =>
        rcases ok'.n a o e w with z | z
        · exact (lift a z).symm
        · exact (inB a z).symm
    · have some_ : (gt γ' p).isSome = true := by rw [hx]; rfl
      rcases r1 p x hx with ⟨e1, e2, e3⟩ | ⟨e1, e2, e3⟩
      · subst e2
        obtain ⟨w, z1, z2⟩ := c1 bs.length x gt_push
        rw [List.getElem?_append_right (by simp; omega)] at z1
        simp [lb, lv] at z1
        subst z1
        refine ⟨v, e3, ?_⟩
        have : (fun a => (gt γ' p).isSome = true ∧ ((p = top ∧ Sc bs.length a) ∨ (p ≠ top ∧ ((∃ k : Nat, ps[k]? = some p ∧ k < bs.length ∧ Sc k a) ∨ ((∀ k : Nat, ps[k]? ≠ some p) ∧ S p a))))) = Sc bs.length := by
          funext a
          rw [some_]
          simp [e1]
        show TR K F' H' v x (fun a => _)
        rw [this]
        exact z2
      · rcases e3 with ⟨k, h1, h2⟩ | ⟨h1, h2⟩
        · have lk := gt_lt h2
          obtain ⟨w, z1, z2⟩ := c1 k x (by rw [gt_append_left lk]; exact h2)
          rw [List.getElem?_append_left (by simp; omega), List.getElem?_map, List.getElem?_eq_getElem (by omega)] at z1
          have z1 : vs[k]'(by omega) = w := by simpa using z1
          have q := (hp k (vs[k]'(by omega)) (us[k]'(by omega)).1 (us[k]'(by omega)).2 p (List.getElem?_eq_getElem (by omega)) (List.getElem?_eq_getElem (by omega)) h1).1
          rw [z1] at q
          refine ⟨w, e2.trans q, ?_⟩
          have : (fun a => (gt γ' p).isSome = true ∧ ((p = top ∧ Sc bs.length a) ∨ (p ≠ top ∧ ((∃ k : Nat, ps[k]? = some p ∧ k < bs.length ∧ Sc k a) ∨ ((∀ k : Nat, ps[k]? ≠ some p) ∧ S p a))))) = Sc k := by
            funext a
            apply propext
            constructor
            · rintro ⟨_, ⟨y, _⟩ | ⟨_, ⟨k', y1, _, y2⟩ | ⟨y, _⟩⟩⟩
              · exact absurd y e1
              · have := nodup_at nd y1 h1
                subst this
                exact y2
              · exact absurd h1 (y k)
            · exact fun y => ⟨some_, .inr ⟨e1, .inl ⟨k, h1, lk, y⟩⟩⟩
          show TR K F' H' w x (fun a => _)
          rw [this]
          exact z2
        · obtain ⟨w, z1, z2⟩ := s1 p x h1
          refine ⟨w, e2.trans z1, ?_⟩
          have : (fun a => (gt γ' p).isSome = true ∧ ((p = top ∧ Sc bs.length a) ∨ (p ≠ top ∧ ((∃ k : Nat, ps[k]? = some p ∧ k < bs.length ∧ Sc k a) ∨ ((∀ k : Nat, ps[k]? ≠ some p) ∧ S p a))))) = S p := by
            funext a
            apply propext
            constructor
            · rintro ⟨_, ⟨y, _⟩ | ⟨_, ⟨k', y1, _⟩ | ⟨_, y⟩⟩⟩
              · exact absurd y e1
              · exact absurd y1 (h2 k')
              · exact y
            · exact fun y => ⟨some_, .inr ⟨e1, .inr ⟨h2, y⟩⟩⟩
          show TR K F' H' w x (fun a => _)
          rw [this]
          exact tr_mono ok'.f z2 fun a q => keep p a h2 q
    · rcases q with ⟨_, q⟩ | ⟨_, ⟨k, _, _, q⟩ | ⟨_, q⟩⟩
      · exact cB _ a q
      · exact cB _ a q
      · exact s2 p a q
    · rcases q with ⟨y, q⟩ | ⟨y, ⟨k, z, lk, q⟩ | ⟨z, q⟩⟩ <;> rcases q' with ⟨y', q'⟩ | ⟨y', ⟨k', z', lk', q'⟩ | ⟨z', q'⟩⟩
      · rw [y, y']
      · have := c3 _ _ a q q'; omega
      · exact (cross p' _ a z' q' q).elim
      · have := c3 _ _ a q q'; omega
      · have := c3 _ _ a q q'
        subst this
        rw [z] at z'
        exact Option.some.inj z'
      · exact (cross p' _ a z' q' q).elim
      · exact (cross p _ a z q q').elim
      · exact (cross p _ a z q q').elim
      · exact s3 p p' a q q'
    · have q1 := q.1
      rw [e] at q1
      cases q1
    · obtain ⟨⟨y, q1⟩, q2⟩ := r2 p x e
      obtain ⟨w, z1, z2⟩ := ok.bor p y q1
      exact ⟨w, z1, q2.trans z2⟩
    · obtain ⟨q1, q2, q3, q4, q5⟩ := r3 j i k e
      obtain ⟨a, us0, w, h1, h2, h3, h4, h5, ts0, h6⟩ := ok.al j i k q1
      obtain ⟨w', z1, z2⟩ := s1 i _ (gt_nt h6)
      rw [h1] at z1
      cases z1
      generalize hSi : S i = Si at z2
      cases z2 with
      | lst y1 y2 y3 y4 =>
        obtain ⟨k1, k2⟩ := keep i a q5 (by rw [hSi]; exact .inl rfl)
        exact ⟨a, us0, w, q3.trans h1, k1.trans h2, k2, h4, q4.trans h5, ts0, q2.trans h6⟩
end
inductive Ar where
  | v (t : T)
  | b (i : Nat)
abbrev XR := Ct → RG (List Ar)
inductive ArR (σ : L2.St) : List Ar → List V → List V → List T → Prop
  | nil : ArR σ [] [] [] []
  | v {t : T} {v : V} {as : List Ar} {vs ws : List V} {ts : List T} : ArR σ as vs ws ts → ArR σ (.v t :: as) (v :: vs) (v :: ws) (t :: ts)
  | b {i : Nat} {v : V} {as : List Ar} {vs ws : List V} {ts : List T} : σ[i]? = some (some v) → ArR σ as vs ws ts → ArR σ (.b i :: as) (v :: vs) ws ts
def XPostR (X : Cx) (W : WX) (V0 : Nat → Option V) (F0 H0 : Hp) (B : Addr → Prop) (ext : L2.St) (tmp : Ct) (σ : L2.St) (Q : List V → Hp → Prop) : RG (List Ar) → Prop
  | .ok as g => ∀ vs ws ts F H, ArR σ as vs ws ts → At X.K V0 F0 H0 B (ext ++ ws.map some) (tmp ++ ts.map Cl.tm) F H σ g → Q vs H
  | .exc c p g => ∀ cls od F H, At X.K V0 F0 H0 B ext tmp F H σ g → XV X.K X.mg F c p cls od → W cls od σ H
  | .bad => False
def tXR (X : Cx) (W : WX) (m : XR) : TA := fun σ H Q => ∃ V0 F0 H0 B ext tmp F g, At X.K V0 F0 H0 B ext tmp F H σ g ∧ XPostR X W V0 F0 H0 B ext tmp σ Q (m g)
abbrev MXR (X : Cx) (W : WX) (es : List Expr) (m : XR) : Prop := PA X es (tXR X W m)
def rNil : XR := fun g => .ok [] g
def rVal (a : XM) (r : XR) : XR := fun g => (a g).bind fun t g1 => (r g1).bind fun as g2 => .ok (.v t :: as) g2
def rBor (i : Nat) (r : XR) : XR := fun g => match nt g i with
  | some _ => (r g).bind fun as g2 => .ok (.b i :: as) g2
  | none => .bad
section
variable {X : Cx} {W : WX} {a : Expr} {ma : XM}
theorem mxr_nil : MXR X W [] rNil := PA.imp pa_nil fun σ H Q ⟨V0, F0, H0, B, ext, tmp, F, g, a, h⟩ => h [] [] [] F H .nil (by simpa using a)
theorem mxr_val {es : List Expr} {mr : XR} (ha : MX X W a ma) (hr : MXR X W es mr) (hs : starEach (a :: es) X.env = (false, eval a X.env) :: starEach es X.env := by rfl) : MXR X W (a :: es) (rVal ma mr) := by
  refine PA.imp (pa_cons ha hr hs) fun σ H Q ⟨V0, F0, H0, B, ext, tmp, F, g, a, h⟩ => ?_
  refine ⟨V0, F0, H0, B, ext, tmp, F, g, a, ?_⟩
  unfold rVal at h
  cases e : ma g with
  | ok t g1 =>
    rw [e, RG.bind_ok] at h
    intro v F1 H1 a1
    refine ⟨V0, F0, H0, B, ext ++ [some v], tmp ++ [.tm t], F1, g1, a1, ?_⟩
    cases e2 : mr g1 with
    | ok as g2 =>
      rw [e2] at h
      intro vs ws ts F2 H2 ar a2
      refine h (v :: vs) (v :: ws) (t :: ts) F2 H2 (.v ar) ?_
      rw [List.append_assoc, List.append_assoc] at a2
      exact a2
    | exc c p g2 =>
      rw [e2] at h
      intro cls od F2 H2 a2 x
      obtain ⟨F3, s3, a3, _⟩ := At.top1 a.tm a.len a2
      exact h cls od F3 H2 a3 (xv_mono s3 x)
    | bad => rw [e2] at h; exact h
  | exc c p g1 => rw [e] at h; exact h
  | bad => rw [e] at h; exact h
theorem mxr_bor (i : Nat) {x : Str} {pos : Pos} {es : List Expr} {mr : XR} (hr : MXR X W es mr) (hx : PE X (.Name x pos) (tVar i)) (hs : starEach (.Name x pos :: es) X.env = (false, eval (.Name x pos) X.env) :: starEach es X.env := by rfl) : MXR X W (.Name x pos :: es) (rBor i mr) := by
  refine PA.imp (pa_cons hx hr hs) fun σ H Q ⟨V0, F0, H0, B, ext, tmp, F, g, a, h⟩ => ?_
  unfold rBor at h
  cases e : nt g i with
  | none => rw [e] at h; exact h.elim
  | some x =>
    rw [e] at h
    dsimp only at h
    have li := nt_lt e
    obtain ⟨S, s1, _, _, _⟩ := a.st.own
    obtain ⟨v, hv, _⟩ := s1 i x (gt_nt (nt_app e))
    rw [List.getElem?_append_left (by rw [a.l]; exact li)] at hv
    refine ⟨v, hv, V0, F0, H0, B, ext, tmp, F, g, a, ?_⟩
    cases e2 : mr g with
    | ok as g2 => rw [e2] at h; exact fun vs ws ts F2 H2 ar a2 => h (v :: vs) ws ts F2 H2 (.b hv ar) a2
    | exc c p g2 => rw [e2] at h; exact h
    | bad => rw [e2] at h; exact h
end
def usOf (g : Ct) : List Ar → Option Us
  | [] => some []
  | .v t :: as => (usOf g as).map fun r => (false, t) :: r
  | .b i :: as => match nt g i with
    | some x => (usOf g as).map fun r => (true, x) :: r
    | none => none
def brs : List Ar → List Nat
  | [] => []
  | .v _ :: as => brs as
  | .b i :: as => i :: brs as
/-- the slots behind the call -/
def backG : List Ar → Ct → Ct → Option Ct
  | .v _ :: as, _ :: bs, g => backG as bs g
  | .b i :: as, .t x :: bs, g => backG as bs (setT (kil i g) i x)
  | [], _, g => some g
  | _, _, _ => none
def xFn (f : Us → RF) (n : Nat) (dds : List D) (r : XR) : XM := fun g => (r g).bind fun as g1 => match usOf g1 as with
  | some us => if (us ++ dds.map fun d => (false, T.dat d)).length = n ∧ (brs as).Nodup then (match f (us ++ dds.map fun d => (false, T.dat d)) with
    | .ok t bs => (match backG as bs g1 with
      | some g2 => .ok t g2
      | none => .bad)
    | .exc c p bs => (match backG as bs g1 with
      | some g2 => .exc c p g2
      | none => .bad)
    | .bad => .bad) else .bad
  | none => .bad
def posOf : List Ar → Nat → List Nat
  | [], _ => []
  | .b i :: as, n => i :: posOf as n
  | .v _ :: as, n => n :: posOf as (n + 1)
theorem mem_pos : ∀ {as : List Ar} {n p : Nat}, p ∈ posOf as n → p ∈ brs as ∨ n ≤ p
  | .b i :: as, n, p, h => by
    rcases List.mem_cons.mp h with h | h
    · exact .inl (List.mem_cons.mpr (.inl h))
    · rcases mem_pos h with h | h
      · exact .inl (List.mem_cons.mpr (.inr h))
      · exact .inr h
  | .v _ :: as, n, p, h => by
    rcases List.mem_cons.mp h with h | h
    · exact .inr (by omega)
    · rcases mem_pos h with h | h
      · exact .inl h
      · exact .inr (by omega)
theorem pos_nodup : ∀ {as : List Ar} {n : Nat}, (brs as).Nodup → (∀ i ∈ brs as, i < n) → (posOf as n).Nodup
  | [], _, _, _ => List.nodup_nil
  | .b i :: as, n, h, l => by
    obtain ⟨h1, h2⟩ := List.nodup_cons.mp h
    refine List.nodup_cons.mpr ⟨fun q => ?_, pos_nodup h2 fun j hj => l j (List.mem_cons.mpr (.inr hj))⟩
    rcases mem_pos q with q | q
    · exact h1 q
    · have := l i (List.mem_cons.mpr (.inl rfl))
      omega
  | .v _ :: as, n, h, l => by
    refine List.nodup_cons.mpr ⟨fun q => ?_, pos_nodup h fun j hj => Nat.lt_succ_of_lt (l j hj)⟩
    rcases mem_pos q with q | q
    · have := l n q
      omega
    · omega
theorem ar_pos {σ : L2.St} {g : Ct} : ∀ {as : List Ar} {vs ws : List V} {ts : List T} {us : Us}, ArR σ as vs ws ts → usOf g as = some us → vs.length = us.length ∧ ∀ n : Nat, (posOf as n).length = us.length ∧
    ∀ (k : Nat) (v : V) (b : Bool) (x : T) (p : Nat), vs[k]? = some v → us[k]? = some (b, x) → (posOf as n)[k]? = some p → (p ∈ brs as ∧ σ[p]? = some (some v) ∧ nt g p = some x) ∨ (∃ j : Nat, p = n + j ∧ ws[j]? = some v ∧ ts[j]? = some x)
  | _, _, _, _, us, .nil, h => by
    cases h
    exact ⟨rfl, fun n => ⟨rfl, fun k v b x p hv => by simp at hv⟩⟩
  | _, _, _, _, us, .v (t := t) (v := v) (as := as) ar, h => by
    unfold usOf at h
    cases e : usOf g as with
    | none => rw [e] at h; cases h
    | some r =>
      rw [e] at h
      cases h
      obtain ⟨l1, h1⟩ := ar_pos ar e
      refine ⟨congrArg Nat.succ l1, fun n => ?_⟩
      obtain ⟨l2, h2⟩ := h1 (n + 1)
      refine ⟨congrArg Nat.succ l2, fun k w b x p hv hu hp => ?_⟩
      cases k with
      | zero =>
        simp [posOf] at hv hu hp
        exact .inr ⟨0, by omega, by simp [hv], by simp [hu.2]⟩
      | succ k =>
        rcases h2 k w b x p (by simpa using hv) (by simpa using hu) (by simpa [posOf] using hp) with q | ⟨j, q1, q2, q3⟩
        · exact .inl q
        · exact .inr ⟨j + 1, by omega, by simpa using q2, by simpa using q3⟩
  | _, _, _, _, us, .b (i := i) (v := v) (as := as) hi ar, h => by
    unfold usOf at h
    cases en : nt g i with
    | none => rw [en] at h; cases h
    | some y =>
      rw [en] at h
      dsimp only at h
      cases e : usOf g as with
      | none => rw [e] at h; cases h
      | some r =>
        rw [e] at h
        cases h
        obtain ⟨l1, h1⟩ := ar_pos ar e
        refine ⟨congrArg Nat.succ l1, fun n => ?_⟩
        obtain ⟨l2, h2⟩ := h1 n
        refine ⟨congrArg Nat.succ l2, fun k w b x p hv hu hp => ?_⟩
        cases k with
        | zero =>
          simp [posOf] at hv hu hp
          subst hp
          exact .inl ⟨List.mem_cons.mpr (.inl rfl), by rw [← hv]; exact hi, by rw [← hu.2]; exact en⟩
        | succ k =>
          rcases h2 k w b x p (by simpa using hv) (by simpa using hu) (by simpa [posOf] using hp) with ⟨q1, q2⟩ | q
          · exact .inl ⟨List.mem_cons.mpr (.inr q1), q2⟩
          · exact .inr q
theorem us_brs {g : Ct} : ∀ {as : List Ar} {us : Us}, usOf g as = some us → ∀ i ∈ brs as, ∃ x, nt g i = some x
  | .v _ :: as, us, h, i, hi => by
    unfold usOf at h
    cases e : usOf g as with
    | none => rw [e] at h; cases h
    | some r => exact us_brs e i hi
  | .b j :: as, us, h, i, hi => by
    unfold usOf at h
    cases en : nt g j with
    | none => rw [en] at h; cases h
    | some y =>
      rw [en] at h
      dsimp only at h
      cases e : usOf g as with
      | none => rw [e] at h; cases h
      | some r =>
        rcases List.mem_cons.mp hi with hi | hi
        · exact ⟨y, by rw [hi]; exact en⟩
        · exact us_brs e i hi
theorem backG_ok : ∀ (as : List Ar) (bs g g2 : Ct), backG as bs g = some g2 → (brs as).Nodup → g2.length = g.length ∧ (∀ i, i ∉ brs as → gt g2 i = gt g i ∧ nt g2 i = nt g i) ∧ (∀ (j i k : Nat), g2[j]? = some (Cl.al i k) → g[j]? = some (Cl.al i k) ∧ i ∉ brs as) ∧
    (∀ (p : Nat) (x : T), g2[p]? = some (Cl.b x) → ∃ y, g[p]? = some (Cl.b y)) ∧ ∀ i ∈ brs as, ∀ n : Nat, ∃ (k : Nat) (x : T), (posOf as n)[k]? = some i ∧ gt bs k = some x ∧ ((gt g i).isSome = true → gt g2 i = some x)
  | [], bs, g, g2, h, _ => by
    have : g2 = g := by cases bs <;> (cases h; rfl)
    subst this
    exact ⟨rfl, fun _ _ => ⟨rfl, rfl⟩, fun j i k e => ⟨e, by intro z; cases z⟩, fun p x e => ⟨x, e⟩, fun i hi => by cases hi⟩
  | .v t :: as, [], g, g2, h, _ => by cases h
  | .v t :: as, b :: bs, g, g2, h, nd => by
    have h' : backG as bs g = some g2 := by cases b <;> exact h
    obtain ⟨h1, h2, h3, h4, h5⟩ := backG_ok as bs g g2 h' nd
    refine ⟨h1, h2, h3, h4, fun i hi n => ?_⟩
    obtain ⟨k, x, q1, q2, q3⟩ := h5 i hi (n + 1)
    exact ⟨k + 1, x, by simpa [posOf] using q1, by unfold gt at q2 ⊢; simpa using q2, q3⟩
  | .b j :: as, [], g, g2, h, _ => by cases h
  | .b j :: as, .un :: bs, g, g2, h, _ => by cases h
  | .b j :: as, .b _ :: bs, g, g2, h, _ => by cases h
  | .b j :: as, .tm _ :: bs, g, g2, h, _ => by cases h
  | .b j :: as, .al _ _ :: bs, g, g2, h, _ => by cases h
  | .b j :: as, .t y :: bs, g, g2, h, nd => by
    have h' : backG as bs (setT (kil j g) j y) = some g2 := h
    obtain ⟨n1, n2⟩ := List.nodup_cons.mp nd
    obtain ⟨h1, h2, h3, h4, h5⟩ := backG_ok as bs _ g2 h' n2
    refine ⟨by rw [h1, setT_len, kil_len], fun i hi => ?_, fun m i k e => ?_, fun p x e => ?_, fun i hi n => ?_⟩
    · have a1 : i ≠ j := fun z => hi (List.mem_cons.mpr (.inl z))
      have a2 : i ∉ brs as := fun z => hi (List.mem_cons.mpr (.inr z))
      obtain ⟨q1, q2⟩ := h2 i a2
      have q3 : gt (setT (kil j g) j y) i = gt (kil j g) i := by
        unfold gt
        rw [setT_get, if_neg a1]
      exact ⟨by rw [q1, q3, kil_gt], by rw [q2, setT_nt_ne a1, kil_nt]⟩
    · obtain ⟨q1, q2⟩ := h3 m i k e
      obtain ⟨q3, q4⟩ := kil_al (setT_al q1)
      exact ⟨q3, fun z => by rcases List.mem_cons.mp z with z | z; exact q4 z; exact q2 z⟩
    · obtain ⟨z, hz⟩ := h4 p x e
      obtain ⟨w, hw⟩ := setT_b hz
      exact ⟨w, kil_b hw⟩
    · by_cases c : i = j
      · subst c
        refine ⟨0, y, rfl, rfl, fun s => ?_⟩
        obtain ⟨z, hz⟩ := Option.isSome_iff_exists.mp s
        rw [(h2 i n1).1, setT_gt (x := z) (by rw [kil_gt]; exact hz), if_pos rfl]
      · have hi' : i ∈ brs as := by
          rcases List.mem_cons.mp hi with z | z
          · exact absurd z c
          · exact z
        obtain ⟨k, x, q1, q2, q3⟩ := h5 i hi' n
        refine ⟨k + 1, x, by simpa [posOf] using q1, by unfold gt at q2 ⊢; simpa using q2, fun s => q3 ?_⟩
        have : gt (setT (kil j g) j y) i = gt (kil j g) i := by
          unfold gt
          rw [setT_get, if_neg c]
        rw [this, kil_gt]
        exact s
section
variable {K : PySem.W.Frag} {V0 : Nat → Option V} {F0 H0 F H : Hp} {B : Addr → Prop} {σ ext : L2.St} {g tmp : Ct}
theorem At.callR {as : List Ar} {vs ws : List V} {ts : List T} {us : Us} (ht : Tm tmp) (hl : ext.length = tmp.length) (a : At K V0 F0 H0 B (ext ++ ws.map some) (tmp ++ ts.map Cl.tm) F H σ g) (ar : ArR σ as vs ws ts) (hu : usOf g as = some us) (nd : (brs as).Nodup) :
    ∃ (V1 : Nat → Option V) (B' : Addr → Prop), StT K V1 F H B' F H (vs.map some) (us.map cellOf) ∧
      ∀ (F' H' : Hp) (v : V) (t : T) (bs g2 : Ct), StT K V1 F H B' F' H' (vs.map some ++ [some v]) (bs ++ [.tm t]) → backG as bs g = some g2 → At K V0 F0 H0 B (ext ++ [some v]) (tmp ++ [.tm t]) F' H' σ g2 := by
  obtain ⟨lv, pos⟩ := ar_pos ar hu
  obtain ⟨lp, pf⟩ := pos (g.length + tmp.length)
  have lb : ∀ i ∈ brs as, i < g.length := fun i hi => by
    obtain ⟨x, hx⟩ := us_brs hu i hi
    exact nt_lt hx
  have al := a.l
  obtain ⟨V1, B', h1, h2⟩ := a.st.call (vs := vs) (us := us) (ps := posOf as (g.length + tmp.length)) lv lp (pos_nodup nd fun i hi => by have := lb i hi; omega) (fun k v b x p hv hu' hp => by
    rcases pf k v b x p hv hu' hp with ⟨q1, q2, q3⟩ | ⟨j, q1, q2, q3⟩
    · have := lb p q1
      exact ⟨by rw [List.getElem?_append_left (by omega)]; exact q2, gt_nt (nt_app q3)⟩
    · subst q1
      refine ⟨?_, ?_⟩
      · rw [List.getElem?_append_right (by omega), List.getElem?_append_right (by omega), show g.length + tmp.length + j - σ.length - ext.length = j by omega, List.getElem?_map, q2]
        rfl
      · unfold gt
        rw [List.getElem?_append_right (by omega), List.getElem?_append_right (by omega), show g.length + tmp.length + j - g.length - tmp.length = j by omega, List.getElem?_map, q3]
        rfl)
  refine ⟨V1, B', h1, fun F' H' v t bs g2 ok' hb => ?_⟩
  obtain ⟨b1, b2, b3, b4, b5⟩ := backG_ok as bs g g2 hb nd
  have lbs : bs.length = us.length := by
    have := ok'.len
    simp at this
    omega
  refine ⟨h2 F' H' v t bs _ _ (g.length + tmp.length) ok' lbs (by simp [b1]; omega) (fun p x hx => ?_) (fun p x hx => ?_) (fun j i k e => ?_), by rw [b1]; exact al, fun c hc => ?_⟩
  · have lpx := gt_lt hx
    simp at lpx
    rcases Nat.lt_or_ge p g.length with c | c
    · refine .inr ⟨by omega, by rw [List.getElem?_append_left (by omega), List.getElem?_append_left (by omega)], ?_⟩
      rw [gt_append_left (by omega)] at hx
      by_cases m : p ∈ brs as
      · obtain ⟨k, y, q1, q2, q3⟩ := b5 p m (g.length + tmp.length)
        obtain ⟨z, hz⟩ := us_brs hu p m
        have := q3 (by rw [gt_nt hz]; rfl)
        rw [hx] at this
        cases this
        exact .inl ⟨k, q1, q2⟩
      · rw [(b2 p m).1] at hx
        refine .inr ⟨by rw [gt_append_left c]; exact hx, fun k e => ?_⟩
        rcases mem_pos (List.mem_of_getElem? e) with z | z
        · exact m z
        · omega
    · rcases Nat.lt_or_ge p (g.length + tmp.length) with c2 | c2
      · have e1 : (σ ++ (ext ++ [some v]))[p]? = ext[p - σ.length]? := by rw [List.getElem?_append_right (by omega), List.getElem?_append_left (by omega)]
        have e2 : (σ ++ (ext ++ ws.map some))[p]? = ext[p - σ.length]? := by rw [List.getElem?_append_right (by omega), List.getElem?_append_left (by omega)]
        refine .inr ⟨by omega, e1.trans e2.symm, .inr ⟨?_, fun k e => ?_⟩⟩
        · unfold gt at hx ⊢
          rw [List.getElem?_append_right (by omega), List.getElem?_append_left (by omega), b1] at hx
          rw [List.getElem?_append_right c, List.getElem?_append_left (by omega)]
          exact hx
        · rcases mem_pos (List.mem_of_getElem? e) with z | z
          · have := lb p z; omega
          · omega
      · have e : p = g.length + tmp.length := by omega
        subst e
        refine .inl ⟨rfl, ?_, ?_⟩
        · unfold gt at hx
          rw [List.getElem?_append_right (by omega), List.getElem?_append_right (by omega), b1] at hx
          simp [Cl.tr] at hx
          exact hx.symm
        · rw [List.getElem?_append_right (by omega), List.getElem?_append_right (by omega), show g.length + tmp.length - σ.length - ext.length = 0 by omega]
          rfl
  · have lpx := (List.getElem?_eq_some_iff.mp hx).1
    simp at lpx
    rcases Nat.lt_or_ge p g.length with c | c
    · rw [List.getElem?_append_left (by omega)] at hx
      obtain ⟨y, hy⟩ := b4 p x hx
      exact ⟨⟨y, by rw [List.getElem?_append_left c]; exact hy⟩, by rw [List.getElem?_append_left (by omega), List.getElem?_append_left (by omega)]⟩
    · exfalso
      rw [List.getElem?_append_right (by omega)] at hx
      rcases List.mem_append.mp (List.mem_of_getElem? hx) with z | z
      · obtain ⟨w, hw⟩ := ht _ z
        cases hw
      · have := List.mem_singleton.mp z
        cases this
  · have lj := (List.getElem?_eq_some_iff.mp e).1
    simp at lj
    rcases Nat.lt_or_ge j g.length with c | c
    · rw [List.getElem?_append_left (by omega)] at e
      obtain ⟨q1, q2⟩ := b3 j i k e
      have q3 : (g ++ (tmp ++ ts.map Cl.tm))[j]? = some (Cl.al i k) := by rw [List.getElem?_append_left c]; exact q1
      obtain ⟨_, _, _, _, _, _, _, _, ts0, h6⟩ := a.st.al j i k q3
      have li := nt_tmp a.tm h6
      refine ⟨q3, ?_, by rw [List.getElem?_append_left (by omega), List.getElem?_append_left (by omega)], by rw [List.getElem?_append_left (by omega), List.getElem?_append_left (by omega)], fun m z => ?_⟩
      · rw [nt_append_left (by omega), nt_append_left li, (b2 i q2).2]
      · rcases mem_pos (List.mem_of_getElem? z) with w | w
        · exact q2 w
        · omega
    · exfalso
      rw [List.getElem?_append_right (by omega)] at e
      rcases List.mem_append.mp (List.mem_of_getElem? e) with z | z
      · obtain ⟨w, hw⟩ := ht _ z
        cases hw
      · have := List.mem_singleton.mp z
        cases this
  · rcases List.mem_append.mp hc with z | z
    · exact ht c z
    · exact ⟨t, List.mem_singleton.mp z⟩
end
theorem ArR.dats {σ : L2.St} {K : PySem.W.Frag} {F : Hp} {dvs : List V} {dds : List D} (hd : DpAll K F dvs dds) : ∀ {as : List Ar} {vs ws : List V} {ts : List T}, ArR σ as vs ws ts → ArR σ (as ++ dds.map fun d => Ar.v (.dat d)) (vs ++ dvs) (ws ++ dvs) (ts ++ dds.map T.dat)
  | _, _, _, _, .nil => by
    have key : ∀ {dvs : List V} {dds : List D}, DpAll K F dvs dds → ArR σ (dds.map fun d => Ar.v (.dat d)) dvs dvs (dds.map T.dat) := fun {dvs} => by
      induction dvs with
      | nil => intro dds h; cases h; exact .nil
      | cons v vs ih => intro dds h; cases h with
        | cons a b => exact .v (ih b)
    exact key hd
  | _, _, _, _, .v ar => .v (ArR.dats hd ar)
  | _, _, _, _, .b h ar => .b h (ArR.dats hd ar)
theorem usOf_dats {g : Ct} (dds : List D) : ∀ {as : List Ar} {us : Us}, usOf g as = some us → usOf g (as ++ dds.map fun d => Ar.v (.dat d)) = some (us ++ dds.map fun d => (false, T.dat d))
  | [], us, h => by
    cases h
    induction dds with
    | nil => rfl
    | cons d ds ih =>
      show (usOf g (ds.map fun d => Ar.v (.dat d))).map (fun r => (false, T.dat d) :: r) = _
      have ih' : usOf g (ds.map fun d => Ar.v (.dat d)) = some (ds.map fun d => (false, T.dat d)) := ih
      rw [ih']
      rfl
  | .v t :: as, us, h => by
    unfold usOf at h
    cases e : usOf g as with
    | none => rw [e] at h; cases h
    | some r =>
      rw [e] at h
      cases h
      show (usOf g (as ++ _)).map _ = _
      rw [usOf_dats dds e]
      rfl
  | .b i :: as, us, h => by
    unfold usOf at h
    cases en : nt g i with
    | none => rw [en] at h; cases h
    | some y =>
      rw [en] at h
      dsimp only at h
      cases e : usOf g as with
      | none => rw [e] at h; cases h
      | some r =>
        rw [e] at h
        cases h
        show (match nt g i with
          | some x => (usOf g (as ++ _)).map _
          | none => none) = _
        rw [en, usOf_dats dds e]
        rfl
theorem brs_dats (dds : List D) : ∀ as : List Ar, brs (as ++ dds.map fun d => Ar.v (.dat d)) = brs as
  | [] => by
    induction dds with
    | nil => rfl
    | cons d ds ih => exact ih
  | .v _ :: as => brs_dats dds as
  | .b i :: as => congrArg (i :: ·) (brs_dats dds as)
theorem backG_dats (dds : List D) : ∀ {as : List Ar} {bs g g2 : Ct}, backG as bs g = some g2 → bs.length = as.length + dds.length → backG (as ++ dds.map fun d => Ar.v (.dat d)) bs g = some g2
  | [], bs, g, g2, h, l => by
    have : g2 = g := by cases bs <;> (cases h; rfl)
    subst this
    clear h
    induction dds generalizing bs with
    | nil => cases bs <;> rfl
    | cons d ds ih =>
      cases bs with
      | nil => simp at l
      | cons b bs =>
        have := ih (bs := bs) (by simp at l ⊢; omega)
        cases b <;> exact this
  | .v t :: as, [], g, g2, h, l => by cases h
  | .v t :: as, b :: bs, g, g2, h, l => by
    have h' : backG as bs g = some g2 := by cases b <;> exact h
    have := backG_dats dds h' (by simp at l; omega)
    cases b <;> exact this
  | .b j :: as, [], g, g2, h, _ => by cases h
  | .b j :: as, .un :: bs, g, g2, h, _ => by cases h
  | .b j :: as, .b _ :: bs, g, g2, h, _ => by cases h
  | .b j :: as, .tm _ :: bs, g, g2, h, _ => by cases h
  | .b j :: as, .al _ _ :: bs, g, g2, h, _ => by cases h
  | .b j :: as, .t y :: bs, g, g2, h, l => backG_dats (as := as) dds (show backG as bs (setT (kil j g) j y) = some g2 from h) (by simp at l; omega)
/-- a def of the row, with what it tells of lists that it changes -/
structure DefOkT (P : Program) (w : World) (K : PySem.W.Frag) (mg : Str → Option Value) (base : Heap) (k : Nat) (x : Str) (n : Nat) (f : Us → RF) (dds : List (List D)) : Prop where
  gl : mg x = some (.ref (He.ga K x))
  ex : ∃ (fd : FuncData) (ps : List Str), PySem.W.keepIn K (.ref (He.ga K x)) = true ∧ FnOk P w K mg base (L2.CX P w) k (He.ga K x) fd ps (spT K mg n f) ∧ ∀ dd ∈ dds, ∃ (dvs : List V) (ds : List Value), Vals dvs ds ∧ (∀ F, DpAll K F dvs dd) ∧ Binds K fd ps ds
theorem def_okT {P : Program} {w : World} {K : PySem.W.Frag} {mg : Str → Option Value} {base : Heap} {d : He.DefD} {k n : Nat} {f : Us → RF} {dds : List (List D)} {fd : FuncData} {ps : List Str} (gl : mg d.name = some (.ref (He.ga K d.name)))
    (F : FunD K d.name d.qual d.params d.body d.scope (d.dvs K) (d.kws K) (He.ga K d.name) fd) (G : FnOk P w K mg base (L2.CX P w) k (He.ga K d.name) fd ps (spT K mg n f))
    (b : ∀ dd ∈ dds, ∃ (dvs : List V) (ds : List Value), Vals dvs ds ∧ (∀ F, DpAll K F dvs dd) ∧ Binds K fd ps ds) : DefOkT P w K mg base k d.name n f dds := ⟨gl, fd, ps, F.kp, G, b⟩
theorem ar_len {σ : L2.St} : ∀ {as : List Ar} {vs ws : List V} {ts : List T}, ArR σ as vs ws ts → vs.length = as.length
  | _, _, _, _, .nil => rfl
  | _, _, _, _, .v ar => congrArg Nat.succ (ar_len ar)
  | _, _, _, _, .b _ ar => congrArg Nat.succ (ar_len ar)
theorem mx_fn {X : Cx} {W : WX} {j k n : Nat} {x : Str} {p pos : Pos} {e : Expr} {es : List Expr} {m : XR} {fn : Us → RF} {dds : List (List D)} {dd : List D}
    (G : DefOkT X.prog X.w X.K X.mg X.base k x n fn dds) (hr : Room j X.A) (tk : Takes X W) (ha : MXR X W (e :: es) m) (hmem : dd ∈ dds := by first | exact List.mem_cons_self | simp) (hk : k ≤ j := by decide) (hg : Gl X x := by rfl)
    (hdb : (x == ("__debug__" : Str)) = false := by decide) (he : starEach (e :: es) X.env = (false, eval e X.env) :: starEach es X.env := by rfl) (hpl : (backTo pos (starEach es X.env)).any (·.1) = false := by rfl) :
    MX X W (.Call (.Name x p) (e :: es) [] pos) (xFn fn n dd m) := by
  obtain ⟨fd, ps, kp, F, b⟩ := G.ex
  obtain ⟨dvs, ds, h1, h2, h3⟩ := b dd hmem
  refine PE.imp (pe_callSD (E := WE W) F (hr.mono hk) hg G.gl kp h3 h1 (fun σ => passAt tk σ) ha hdb he hpl) fun σ H Q ⟨V0, F0, H0, B, ext, tmp, F, g, a, h⟩ => ⟨V0, F0, H0, B, ext, tmp, F, g, a, ?_⟩
  unfold xFn at h
  cases em : m g with
  | exc c p g1 => rw [em] at h; exact h
  | bad => rw [em] at h; exact h
  | ok as g1 =>
    rw [em, RG.bind_ok] at h
    intro vs ws ts F1 H1 ar a1
    cases eu : usOf g1 as with
    | none => rw [eu] at h; exact h.elim
    | some us =>
      rw [eu] at h
      dsimp only at h
      split at h
      · rename_i hc
        have a2 := a1.dats (h2 F1)
        have ar2 := ar.dats (h2 F1)
        have eu2 := usOf_dats dd eu
        have nd2 : (brs (as ++ dd.map fun d => Ar.v (.dat d))).Nodup := by rw [brs_dats]; exact hc.2
        have ew : ext ++ ws.map some ++ dvs.map some = ext ++ (ws ++ dvs).map some := by simp
        have et : tmp ++ ts.map Cl.tm ++ (dd.map T.dat).map Cl.tm = tmp ++ (ts ++ dd.map T.dat).map Cl.tm := by simp
        rw [ew, et] at a2
        obtain ⟨V1, B', c1, c2⟩ := At.callR a.tm a.len a2 ar2 eu2 nd2
        refine ⟨V1, F1, H1, B', F1, _, c1, hc.1, ?_⟩
        have lar := ar_len ar
        have ldd := dpa_len (h2 F1)
        cases ef : fn (us ++ dd.map fun d => (false, T.dat d)) with
        | ok t bs =>
          rw [ef] at h
          dsimp only at h
          cases eb : backG as bs g1 with
          | none => rw [eb] at h; exact h.elim
          | some g2 =>
            rw [eb] at h
            intro v F' H' ok'
            have lbs : bs.length = as.length + dd.length := by
              have := ok'.len
              simp at this
              omega
            exact h v F' H' (c2 F' H' v t bs g2 ok' (backG_dats dd eb lbs))
        | exc c p bs =>
          rw [ef] at h
          dsimp only at h
          cases eb : backG as bs g1 with
          | none => rw [eb] at h; exact h.elim
          | some g2 =>
            rw [eb] at h
            intro cls od F' H' ok' xv
            have lbs : bs.length = as.length + dd.length := by
              have := ok'.len
              simp at this
              omega
            have a3 := c2 F' H' .non (.dat .none) bs g2 (ok'.pushD .non) (backG_dats dd eb lbs)
            obtain ⟨F3, s3, a4, _⟩ := At.top1 a.tm a.len a3
            exact h cls od F3 H' a4 (xv_mono s3 xv)
        | bad => rw [ef] at h; exact h.elim
      · exact h.elim
end MI
set_option Elab.async false
set_option linter.all false
set_option maxRecDepth 100000
set_option maxHeartbeats 4000000
namespace MI
open PySem PySem.Spec PyProof.Rows L2
section
variable {K : PySem.W.Frag} {V0 : Nat → Option V} {F0 H0 F H F' H' : Hp} {B : Addr → Prop} {σ ext : L2.St} {g tmp : Ct}
theorem kil_app (ht : Tm tmp) {i : Nat} : kil i (g ++ tmp) = kil i g ++ tmp := by
  unfold kil
  rw [List.map_append]
  congr 1
  apply List.ext_getElem?
  intro j
  rw [List.getElem?_map]
  cases q : tmp[j]? with
  | none => rfl
  | some c =>
    obtain ⟨x, rfl⟩ := ht c (List.mem_of_getElem? q)
    rfl
theorem At.setD {i : Nat} {v : V} {d : D} (a : At K V0 F0 H0 B ext tmp F H σ g) (h : Dp K F v d) (hf : free1 g i = true) (hi : i < g.length) : At K V0 F0 H0 B ext tmp F H (σ.set i (some v)) ((MI.kil i g).set i (.t (.dat d))) := by
  have f : free1 (g ++ tmp) i = true := by
    unfold free1 at hf ⊢
    rw [List.getElem?_append_left hi]
    exact hf
  have := a.st.setD h f
  rw [kil_app a.tm, List.set_append_left _ _ (by rw [a.l]; exact hi), List.set_append_left _ _ (by rw [kil_len]; exact hi)] at this
  exact ⟨this, by simp [kil_len, a.l], a.tm⟩
theorem StT.unset (ok : StT K V0 F0 H0 B F H σ g) (i : Nat) (o : Option V) : StT K V0 F0 H0 B F H (σ.set i o) ((kil i g).set i .un) := by
  have un : ∀ j, j = i → ((kil i g).set i .un)[j]? = none ∨ ((kil i g).set i .un)[j]? = some .un := fun j e => by
    subst e
    rcases Nat.lt_or_ge j g.length with c | c
    · exact .inr (List.getElem?_set_self (by rw [kil_len]; exact c))
    · exact .inl (List.getElem?_eq_none (by simp [kil_len]; exact c))
  have ne : ∀ (j : Nat) (c : Cl), ((kil i g).set i .un)[j]? = some c → c ≠ .un → j ≠ i := fun j c h n z => by
    rcases un j z with q | q
    · rw [q] at h; cases h
    · rw [q] at h; cases h; exact n rfl
  refine ok.pick id (by simp [kil_len, ok.len]) (fun _ _ _ _ e => e) (fun j x hx => ?_) (fun j x hx => ?_) (fun j m k e => ?_)
  · have nj : j ≠ i := fun z => by
      unfold gt at hx
      rcases un j z with q | q <;> rw [q] at hx <;> cases hx
    have : gt ((kil i g).set i .un) j = gt (kil i g) j := by
      unfold gt
      rw [List.getElem?_set_ne (Ne.symm nj)]
    rw [this, kil_gt] at hx
    exact ⟨hx, by rw [List.getElem?_set_ne (Ne.symm nj)]; rfl⟩
  · have nj := ne j _ hx (by intro z; cases z)
    rw [List.getElem?_set_ne (Ne.symm nj)] at hx
    exact ⟨⟨x, kil_b hx⟩, by rw [List.getElem?_set_ne (Ne.symm nj)]⟩
  · have nj := ne j _ e (by intro z; cases z)
    rw [List.getElem?_set_ne (Ne.symm nj)] at e
    obtain ⟨q1, q2⟩ := kil_al e
    refine ⟨q1, by rw [List.getElem?_set_ne (Ne.symm nj)], by rw [List.getElem?_set_ne (Ne.symm q2)], ?_⟩
    have : nt ((kil i g).set i .un) m = nt (kil i g) m := by
      unfold nt
      rw [List.getElem?_set_ne (Ne.symm q2)]
    rw [this, kil_nt]
def wipeG : List Nat → Ct → Ct
  | [], g => g
  | v :: vs, g => (kil v (wipeG vs g)).set v .un
theorem wipeG_len : ∀ vs : List Nat, (wipeG vs g).length = g.length
  | [] => rfl
  | v :: vs => by
    unfold wipeG
    rw [List.length_set, kil_len, wipeG_len vs]
theorem At.wipe (a : At K V0 F0 H0 B ext tmp F H σ g) : ∀ vs : List Nat, (∀ v ∈ vs, v < g.length) → At K V0 F0 H0 B ext tmp F H (L2.wipe σ vs) (wipeG vs g)
  | [], _ => a
  | v :: vs, h => by
    have ih := At.wipe a vs fun w hw => h w (List.mem_cons_of_mem _ hw)
    have lv := h v (List.mem_cons_self ..)
    have := ih.st.unset v none
    rw [kil_app ih.tm, List.set_append_left _ _ (by rw [ih.l, wipeG_len]; exact lv), List.set_append_left _ _ (by rw [kil_len, wipeG_len]; exact lv)] at this
    exact ⟨this, by unfold L2.wipe wipeG; simp [kil_len, ih.l], a.tm⟩
theorem wipeG_un : ∀ (vs : List Nat) (v : Nat), v ∈ vs → v < g.length → (wipeG vs g)[v]? = some .un
  | w :: vs, v, h, l => by
    unfold wipeG
    by_cases e : w = v
    · subst e
      exact List.getElem?_set_self (by rw [kil_len, wipeG_len]; exact l)
    · have h' : v ∈ vs := by
        rcases List.mem_cons.mp h with z | z
        · exact absurd z.symm e
        · exact z
      rw [List.getElem?_set_ne e, kil_get, wipeG_un vs v h' l]
      rfl
/-- slots that hold nothing ask nothing -/
theorem At.unwipe {vs : List Nat} (a : At K V0 F0 H0 B ext tmp F H (L2.wipe σ vs) g) (hu : ∀ v ∈ vs, v < g.length → g[v]? = some .un) : At K V0 F0 H0 B ext tmp F H σ g := by
  have wl : (L2.wipe σ vs).length = σ.length := wipe_length _ _
  have sg : ∀ i, i ∉ vs → (L2.wipe σ vs)[i]? = σ[i]? := fun i h => by rw [wipe_get, if_neg h]
  have lw := a.l
  have nv : ∀ (i : Nat) (c : Cl), g[i]? = some c → c ≠ .un → i ∉ vs := fun i c h n m => by
    have := hu i m (List.getElem?_eq_some_iff.mp h).1
    rw [this] at h
    cases h
    exact n rfl
  have ss : ∀ i, i ∉ vs → (σ ++ ext)[i]? = (L2.wipe σ vs ++ ext)[i]? := fun i h => by
    rcases Nat.lt_or_ge i σ.length with c | c
    · rw [List.getElem?_append_left c, List.getElem?_append_left (by omega), sg i h]
    · rw [List.getElem?_append_right c, List.getElem?_append_right (by omega), wl]
  have sr : ∀ i, g.length ≤ i → (σ ++ ext)[i]? = (L2.wipe σ vs ++ ext)[i]? := fun i h => by
    rw [List.getElem?_append_right (by omega), List.getElem?_append_right (by omega), wl]
  have both : ∀ (i : Nat) (c : Cl), (g ++ tmp)[i]? = some c → c ≠ .un → (σ ++ ext)[i]? = (L2.wipe σ vs ++ ext)[i]? := fun i c h n => by
    rcases Nat.lt_or_ge i g.length with k | k
    · rw [List.getElem?_append_left k] at h
      exact ss i (nv i c h n)
    · exact sr i k
  have bg : ∀ (i : Nat) (x : T), gt (g ++ tmp) i = some x → (σ ++ ext)[i]? = (L2.wipe σ vs ++ ext)[i]? := fun i x h => by
    unfold gt at h
    cases e : (g ++ tmp)[i]? with
    | none => rw [e] at h; cases h
    | some c => exact both i c e (fun z => by rw [e, z] at h; cases h)
  refine ⟨a.st.pick id (by have := a.st.len; simp at this ⊢; omega) (fun _ _ _ _ e => e) (fun i x hx => ⟨hx, bg i x hx⟩) (fun i x hx => ⟨⟨x, hx⟩, both i _ hx (by intro z; cases z)⟩) (fun j i k e => ⟨e, both j _ e (by intro z; cases z), ?_, rfl⟩), by omega, a.tm⟩
  obtain ⟨_, _, _, _, _, _, _, _, ts0, h6⟩ := a.st.al j i k e
  exact bg i _ (gt_nt h6)
theorem At.base (a : At K V0 F0 H0 B ext tmp F H σ g) : ∃ B' : Addr → Prop, At K V0 F H B' ext tmp F H σ g ∧ ∀ V1 ext' tmp' F' H' σ' g', At K V1 F H B' ext' tmp' F' H' σ' g' → At K V1 F0 H0 B ext' tmp' F' H' σ' g' := by
  obtain ⟨B', h1, _, h2⟩ := a.st.base
  exact ⟨B', ⟨h1, a.l, a.tm⟩, fun V1 ext' tmp' F' H' σ' g' a' => ⟨h2 _ _ _ _ _ a'.st, a'.l, a'.tm⟩⟩
/-- data put behind the items of the top list -/
theorem At.topApp {p : Addr} {ts : List T} {v : V} {d : D} (ht : Tm tmp) (hl : ext.length = tmp.length) (a : At K V0 F0 H0 B (ext ++ [some (.ref p)]) (tmp ++ [.tm (.lst ts)]) F H σ g) (hd : Dp K F v d) :
    ∃ vs, H p = some (.lst vs) ∧ vs.length = ts.length ∧ At K V0 F0 H0 B (ext ++ [some (.ref p)]) (tmp ++ [.tm (.lst (ts ++ [.dat d]))]) F (upd H p (.lst (vs ++ [v]))) σ g := by
  have st := a.st
  have al := a.l
  rw [← List.append_assoc, ← List.append_assoc] at st
  have gp : gt (g ++ tmp ++ [.tm (.lst ts)]) (g ++ tmp).length = some (.lst ts) := gt_push
  obtain ⟨r, q, vs, Sc, h1, h2, h3, h4, h5⟩ := st.write gp (T.get_nil _)
  rw [List.getElem?_append_right (by simp; omega)] at h1
  simp [al, hl] at h1
  have hq := sub0 h2
  rw [hq] at h1
  cases h1
  obtain ⟨S', z1, z2⟩ := trs_appD h4 hd
  have := h5 _ _ _ z1 z2 (fun _ j k e => by
    exfalso
    obtain ⟨_, _, _, _, _, _, _, _, ts0, h6⟩ := st.al j _ k e
    have := nt_tmp (g := g ++ tmp) (tmp := [.tm (.lst ts)]) (fun c hc => ⟨_, List.mem_singleton.mp hc⟩) h6
    omega)
  rw [T.put_nil] at this
  refine ⟨vs, h3, trs_len h4, ?_, a.l, fun c hc => ?_⟩
  · rw [← List.append_assoc, ← List.append_assoc]
    have e : setT (g ++ tmp ++ [.tm (.lst ts)]) (g ++ tmp).length (.lst (ts ++ [.dat d])) = g ++ tmp ++ [.tm (.lst (ts ++ [.dat d]))] := by
      unfold setT
      rw [List.getElem?_append_right (Nat.le_refl _)]
      simp [repl]
    rw [e] at this
    exact this
  · rcases List.mem_append.mp hc with hc | hc
    · exact ht c hc
    · exact ⟨_, List.mem_singleton.mp hc⟩
end
def UVOk (K : PySem.W.Frag) (vs : List Nat) (r : TG) (t : TgT) : Prop := ∀ (V0 : Nat → Option V) (F0 H0 : Hp) (B : Addr → Prop) (ext : L2.St) (tmp : Ct) (F H : Hp) (σ : L2.St) (g g' : Ct) (v : V) (d : D) (Q : L2.St → Hp → Prop),
  At K V0 F0 H0 B ext tmp F H σ g → Dp K F v d → t d g = some g' → (∀ σ', At K V0 F0 H0 B ext tmp F H σ' g' → wipe σ' vs = wipe σ vs → g'.length = g.length → Q σ' H) → r v σ H Q
def uV (i : Nat) : TgT := fun d g => if free1 g i = true ∧ i < g.length then some ((kil i g).set i (.t (.dat d))) else none
theorem uV_ok {K : PySem.W.Frag} {vs : List Nat} {i : Nat} (h : i ∈ vs) : UVOk K vs (gName i) (uV i) := fun V0 F0 H0 B ext tmp F H σ g g' v d Q a hd e q => by
  unfold uV at e
  split at e
  · rename_i f
    cases e
    exact q _ (a.setD hd f.1 f.2) (wipe_set h) (by simp [kil_len])
  · cases e
def loopCT (t : TgT) (tt : XT) (te : XM) (vs : List Nat) : List D → List T → Ct → RG (List T)
  | [], acc, g => .ok acc g
  | d :: ds, acc, g => match t d g with
    | none => .bad
    | some g1 => match tt g1 with
      | .ok true g2 => (match te g2 with
        | .ok y g3 => if acc.length < most ∧ g3.length = g.length then loopCT t tt te vs ds (acc ++ [.dat (fz y)]) (wipeG vs g3) else .bad
        | _ => .bad)
      | .ok false g2 => if g2.length = g.length then loopCT t tt te vs ds acc (wipeG vs g2) else .bad
      | _ => .bad
def xLc (it : XI) (vs : List Nat) (t : TgT) (tt : XT) (te : XM) : XM := fun g => (it g).bind fun ds g1 => if vs.all (fun v => decide (v < g1.length)) = true then (loopCT t tt te vs ds [] (wipeG vs g1)).bind fun acc g2 => .ok (.lst acc) g2 else .bad
def xYes : XT := fun g => .ok true g
abbrev MXTs (X : Cx) (ifs : List Expr) (m : XT) : Prop := PTs X ifs (tXT X W0 m)
theorem mxts_nil {X : Cx} : MXTs X [] xYes := ⟨fun pins s σ H Q I ⟨V0, F0, H0, B, ext, tmp, F, g, a, h⟩ => pts_nil.run pins s σ H Q I (h F H a)⟩
theorem loopCT_exc {t : TgT} {tt : XT} {te : XM} {vs : List Nat} : ∀ (ds : List D) (acc : List T) (g : Ct) (c : Str) (p : Option D) (g' : Ct), loopCT t tt te vs ds acc g ≠ .exc c p g'
  | [], acc, g, c, p, g', e => by cases e
  | d :: ds, acc, g, c, p, g', e => by
    unfold loopCT at e
    split at e
    · cases e
    · split at e
      · split at e
        · split at e
          · exact loopCT_exc ds _ _ c p g' e
          · cases e
        · cases e
      · split at e
        · exact loopCT_exc ds _ _ c p g' e
        · cases e
      · cases e
theorem xlc_read {X : Cx} {W : WX} {it : XI} {vs : List Nat} {gg : TG} {t : TgT} {tt : XT} {te : XM} (hv : UVOk X.K vs gg t) {σ : L2.St} {H : Hp} {Q : VK} (h : tX X W (xLc it vs t tt te) σ H Q) : tLc (tXI X W it) gg (tXT X W0 tt) (tX X W0 te) vs σ H Q := by
  obtain ⟨V0, F0, H0, B, ext, tmp, F, g, a, h⟩ := h
  refine ⟨V0, F0, H0, B, ext, tmp, F, g, a, ?_⟩
  unfold xLc at h
  cases ei : it g with
  | exc c p g1 => rw [ei] at h; exact h
  | bad => rw [ei] at h; exact h.elim
  | ok ds g1 =>
    rw [ei, RG.bind_ok] at h
    intro F1 H1 J a1 io
    split at h
    rotate_left
    · exact h.elim
    rename_i hvs
    have hvs : ∀ v ∈ vs, v < g1.length := fun v m => of_decide_eq_true (List.all_eq_true.mp hvs v m)
    cases el : loopCT t tt te vs ds [] (wipeG vs g1) with
    | exc c p g' => exact absurd el (loopCT_exc _ _ _ _ _ _)
    | bad => rw [el] at h; exact h.elim
    | ok res gf =>
      rw [el, RG.bind_ok] at h
      obtain ⟨B1, a1', back⟩ := a1.base
      intro Dl hD
      have a0 := At.mkL (vs := []) (ts := []) a.tm (by simpa using a1') a.len hD
      have a0 := a0.wipe vs hvs
      let Pv : Nat → Hp → Prop := fun i H => ∃ F2 acc g2, At X.K V0 F1 H1 B1 (ext ++ [some (.ref Dl)]) (tmp ++ [.tm (.lst acc)]) F2 H (L2.wipe σ vs) g2 ∧ g2.length = g1.length ∧ (∀ v ∈ vs, g2[v]? = some .un) ∧ i ≤ ds.length ∧ loopCT t tt te vs (ds.drop i) acc g2 = .ok res gf
      refine ⟨fun i m H => m = ds.length - i ∧ Pv i H, ⟨ds.length, by simp, F1, [], wipeG vs g1, a0, wipeG_len vs, fun v m => wipeG_un vs v m (hvs v m), Nat.zero_le _, by simpa using el⟩, ?_⟩
      rintro i m H2 ⟨rfl, F2, acc, g2, a2, l2, u2, hi, hl⟩
      by_cases hlt : i < ds.length
      · have ed : ds[i]? = some ds[i] := List.getElem?_eq_getElem hlt
        obtain ⟨go, yl⟩ := io.go i H2 _ (a2.st.f.trans a2.s) ed
        refine .inr ⟨go, Pv (i + 1), fun H' p' => ⟨ds.length - (i + 1), by omega, rfl, p'⟩, fun x H' hy => ?_⟩
        obtain ⟨F3, E3, dx⟩ := yl x H' F2 a2.st.f a2.s hy
        rw [drop_get ed] at hl
        unfold loopCT at hl
        cases et : t ds[i] g2 with
        | none => rw [et] at hl; cases hl
        | some g3 =>
          rw [et] at hl
          refine hv V0 F1 H1 B1 _ _ F3 H' (L2.wipe σ vs) g2 g3 x _ _ (a2.mono E3) dx et fun σ2 a3 hw l3 => ⟨hw.trans wipe_idem, ?_⟩
          rw [wipe_idem] at hw
          dsimp only at hl
          refine ⟨V0, F1, H1, B1, _, _, F3, g3, a3, ?_⟩
          cases ett : tt g3 with
          | ok b g4 =>
            rw [ett] at hl
            intro F4 H4 a4
            cases b with
            | false =>
              rw [if_neg Bool.false_ne_true]
              dsimp only at hl
              split at hl
              · rename_i lg
                have a5 := a4.wipe vs fun v m => by rw [lg, l2]; exact hvs v m
                rw [hw] at a5
                exact ⟨F4, acc, wipeG vs g4, a5, by rw [wipeG_len, lg, l2], fun v m => wipeG_un vs v m (by rw [lg, l2]; exact hvs v m), hlt, hl⟩
              · cases hl
            | true =>
              rw [if_pos rfl]
              dsimp only at hl
              refine ⟨V0, F1, H1, B1, _, _, F4, g4, a4, ?_⟩
              cases ete : te g4 with
              | ok y g5 =>
                rw [ete] at hl
                dsimp only at hl
                split at hl
                · rename_i lm
                  intro w F5 H5 a5
                  have ht' : Tm (tmp ++ [Cl.tm (.lst acc)]) := a4.tm
                  obtain ⟨F6, _, a6, hd⟩ := At.top1 ht' a4.len a5
                  obtain ⟨av, q1, q2, q3⟩ := At.topApp a.tm a.len a6 hd
                  refine ⟨av, q1, by rw [q2]; exact Nat.lt_of_lt_of_le lm.1 (Nat.le_of_eq most_eq), ?_⟩
                  have a7 := q3.wipe vs fun v m => by rw [lm.2, l2]; exact hvs v m
                  rw [hw] at a7
                  exact ⟨F6, acc ++ [.dat (fz y)], wipeG vs g5, a7, by rw [wipeG_len, lm.2, l2], fun v m => wipeG_un vs v m (by rw [lm.2, l2]; exact hvs v m), hlt, hl⟩
                · cases hl
              | exc c p g5 => rw [ete] at hl; cases hl
              | bad => rw [ete] at hl; cases hl
          | exc c p g4 => rw [ett] at hl; cases hl
          | bad => rw [ett] at hl; cases hl
      · have e : i = ds.length := by omega
        subst e
        rw [List.drop_length] at hl
        cases hl
        exact .inl ⟨io.stop _ H2 (a2.st.f.trans a2.s) (Nat.le_refl _), h (.ref Dl) F2 H2 (back _ _ _ _ _ _ _ (a2.unwipe fun v m _ => u2 v m))⟩
theorem mx_lc {X : Cx} {W : WX} {elt tg iter : Expr} {ifs : List Expr} {scope : Scope} {own : List (Str × Nat)} {pos : Pos} {it : XI} {g : TG} {t : TgT} {tt : XT} {te : XM} (hN : X.N.Nodup) (hi : MXI X W tg iter it) (ok : BlkOk X.N X.env.scope scope own) (hv : UVOk X.K (own.map (·.2)) g t)
    (hg : ∀ (s : Shared) (H : Hp) (C : Addr) (cl : List (Str × Addr)) (fp : List Addr), PG (X.blk s H scope (compEnvC scope cl C X.env) fp) tg g) (ht : ∀ (s : Shared) (H : Hp) (C : Addr) (cl : List (Str × Addr)) (fp : List Addr), MXTs (X.blk s H scope (compEnvC scope cl C X.env) fp) ifs tt)
    (he : ∀ (s : Shared) (H : Hp) (C : Addr) (cl : List (Str × Addr)) (fp : List Addr), MX (X.blk s H scope (compEnvC scope cl C X.env) fp) W0 elt te) (hc : X.calm = true := by rfl) (hs : ∀ x, foldedSetIterable iter X.env x = pure x := by intro _; rfl) :
    MX X W (.ListComp elt [⟨tg, iter, ifs, 0⟩] scope pos) (xLc it (own.map (·.2)) t tt te) :=
  PE.imp (pe_lc hc hN hi ok hg (fun s H C cl fp => ht s H C cl fp) (fun s H C cl fp => he s H C cl fp) hs) fun σ H Q h => xlc_read hv h
/-- y = [..], a statement of its own in the model -/
theorem mts_setLc (j : Nat) {X : Cx} {W : WX} {elt tg iter : Expr} {ifs : List Expr} {scope : Scope} {own : List (Str × Nat)} {pos : Pos} {it : XI} {g : TG} {t : TgT} {tt : XT} {te : XM} (hN : X.N.Nodup) (hi : MXI X W tg iter it) (ok : BlkOk X.N X.env.scope scope own) (hv : UVOk X.K (own.map (·.2)) g t)
    (hg : ∀ (s : Shared) (H : Hp) (C : Addr) (cl : List (Str × Addr)) (fp : List Addr), PG (X.blk s H scope (compEnvC scope cl C X.env) fp) tg g) (ht : ∀ (s : Shared) (H : Hp) (C : Addr) (cl : List (Str × Addr)) (fp : List Addr), MXTs (X.blk s H scope (compEnvC scope cl C X.env) fp) ifs tt)
    (he : ∀ (s : Shared) (H : Hp) (C : Addr) (cl : List (Str × Addr)) (fp : List Addr), MX (X.blk s H scope (compEnvC scope cl C X.env) fp) W0 elt te) {y : Str} {py spos : Pos} (hy : X.N[j]? = some y := by rfl) (hyl : X.env.scope.names.lookup y = some .local := by rfl) (hsw : swapsWith (.ListComp elt [⟨tg, iter, ifs, 0⟩] scope pos) (some (.Name y py)) spos.line X.env = pure true := by exact sw_true rfl rfl rfl (by decide +kernel)) (hc : X.calm = true := by rfl) (hs : ∀ x, foldedSetIterable iter X.env x = pure x := by intro _; rfl) :
    MTS X W (.Assign [.Name y py] (.ListComp elt [⟨tg, iter, ifs, 0⟩] scope pos) spos) (tSet j (xLc it (own.map (·.2)) t tt te)) := by
  refine PS.imp (ps_setLc (tt := tXT X W0 tt) (te := tX X W0 te) hc hN hy hyl hsw hi ok hg (fun s H C cl fp => ht s H C cl fp) (fun s H C cl fp => he s H C cl fp) hs) fun D σ H ⟨V0, F0, H0, B, F, g, ok, h⟩ => ?_
  refine xlc_read hv (evX (Q := fun v H1 => D.nx (σ.set j (some v)) H1) ok h fun t v g1 F1 H1 e ok1 l h1 => ?_)
  unfold putC at h1
  split at h1
  · rename_i f
    exact h1 F1 H1 _ (ok1.setTop l f)
  · exact h1.elim
def xN (m : Vw → R (List D)) : XM := fun g => (RG.of (m (tvd g)) g).bind fun ds g => .ok (.lst (ds.map T.dat)) g
theorem spT_law {K : PySem.W.Frag} {mg : Str → Option Value} {f : Us → RF} {H : Hp} {a : Addr} {ns : List Int} {bs : Ct} (hO : Only H) (hS : SqL K H a (ns.map V.int)) (h : f [(false, .dat (.list (ns.map .int)))] = .ok (.dat (.bool true)) bs) :
    spT K mg 1 f [.ref a] H (fun v _ => v = .bl true) fun _ _ _ => False := by
  have intsD : ∀ ns : List Int, DpAll K H (ns.map V.int) (ns.map PyData.int) := fun ns => by
    induction ns with
    | nil => exact .nil
    | cons n ns ih => exact .cons (.int n) ih
  have st0 : StT K (fun _ => none) H H (fun _ => False) H H [] [] := ⟨Same.refl H, fun _ _ _ e => e, Same.refl H, fun a o e n => (by rw [n] at e; cases e), rfl, ⟨fun _ _ => False, fun i x hx => (by unfold gt at hx; simp at hx), fun _ _ q => q.elim, fun _ _ _ q => q.elim, fun _ _ _ q => q⟩, fun i x e => (by simp at e), fun j i k e => (by simp at e)⟩
  have st1 : StT K (fun _ => none) H H (fun _ => False) H H [some (.ref a)] [.tm (.dat (.list (ns.map .int)))] := st0.pushD (.lst hS (intsD ns))
  have st2 : StT K (fun _ => none) H H (fun _ => False) H H [some (.ref a)] [.t (.dat (.list (ns.map .int)))] := st1.pick id rfl (fun _ _ _ _ e => e) (fun i x hx => by
    have := gt_lt hx
    simp at this
    subst this
    exact ⟨hx, rfl⟩) (fun i x e => by
    have := (List.getElem?_eq_some_iff.mp e).1
    simp at this
    subst this
    cases e) (fun j i k e => by
    have := (List.getElem?_eq_some_iff.mp e).1
    simp at this
    subst this
    cases e)
  refine ⟨_, H, H, _, H, [(false, .dat (.list (ns.map .int)))], st2, rfl, ?_⟩
  rw [h]
  intro v F' H' ok
  have ok' : StT K _ H H _ F' H' ([some (V.ref a)] ++ [some v]) (bs ++ [.tm (.dat (.bool true))]) := ok
  have lb : bs.length = 1 := by
    have := ok.len
    simp at this
    omega
  have := ok'.topD (ext := []) (tmp := []) (by simp [lb])
  exact dp_bool_inv this
theorem walk_miT {l : PySem.W.OpenLaw} {n k : Nat} {q : Program} {loose : List Str} {XP : (Str → Option Value) → Heap → Prop} {YP : World → Heap → Prop} {d : DefRec} {x : Str} {f : Us → RF}
    (hn : l.most = some n) (hn2 : n ≤ sizeLine) (hdf : d.params.defaults = []) (hr : Room k callerA)
    (G : ∀ (w : World) (mg : Str → Option Value) (fa : Addr) (h : Heap), YP w h → h.Ns mainGlobals mg → mg d.name = some (.ref fa) →
      ∃ (K : PySem.W.Frag) (fd : FuncData), K.In h ∧ (∀ (s : Shared) (u : Value), BindsTo s fd ⟨[u], []⟩ [(x, u)]) ∧
        ∀ base : Heap, K.In base → base.Ns mainGlobals mg → FnOk l.prog w K mg base (L2.CX l.prog w) k fa fd [x] (spT K mg 1 f))
    (hf : ∀ ns : List Int, ns.length ≤ n → (∀ z ∈ ns, Builtin.Int.intBits z ≤ 1048576) → ∃ bs, f [(false, .dat (.list (ns.map .int)))] = .ok (.dat (.bool true)) bs) :
    PySem.W.WalkO q loose XP YP l.row.toRowW d [] (fun f vs => PySem.call f vs) := by
  refine Att.attach_callB hn hdf fun w s0 s1 mg mb fa o pm cd doc a vs ns Gr Y ho hd hcd hmg hobj hints hlen hbits hg => ?_
  obtain ⟨K, fd, KX, hb, hF⟩ := G w mg fa _ Y Gr.T.g hmg
  obtain ⟨bs, hf'⟩ := hf ns hlen hbits
  refine law_call KX Gr.T.g Gr.T.b Gr.T.builtins Gr.T.nolimit hg hobj hints (Nat.le_trans hlen hn2) hr hF hb (fun H hO hS => spT_law hO hS hf') fun H e s' z => ?_
  obtain ⟨_, _, _, _, _, _, _, _, _, _, _, _, z⟩ := z
  exact z.elim
end MI
set_option Elab.async false
set_option linter.all false
set_option maxRecDepth 100000
set_option maxHeartbeats 4000000
namespace MI
open PySem PySem.Spec PyProof.Rows L2
def xItem (j : Nat) (mi : XM) : XM := fun g => match locT g j [] with
  | some _ => (mi g).bind fun i g1 => (match fz i with
    | .int i => (match locT g1 j [] with
      | some ts => (match atI ts i with
        | some (.dat d) => .ok (.dat d) g1
        | _ => .bad)
      | none => .bad)
    | _ => .bad)
  | none => .bad
section
variable {X : Cx} {W : WX} {a b : Expr} {ma mb : XM} {pos : Pos} {rest : List Expr}
def xAndV (a b : XM) : XM := fun g => (a g).bind fun t g1 => match fz t with
  | .bool true => b g1
  | .bool false => .ok (.dat (.bool false)) g1
  | _ => .bad
def xOrV (a b : XM) : XM := fun g => (a g).bind fun t g1 => match fz t with
  | .bool true => .ok (.dat (.bool true)) g1
  | .bool false => b g1
  | _ => .bad
def xNotV (a : XM) : XM := fun g => (a g).bind fun t g1 => match fz t with
  | .bool c => .ok (.dat (.bool !c)) g1
  | _ => .bad
end
end MI
set_option Elab.async false
set_option linter.all false
set_option maxRecDepth 100000
set_option maxHeartbeats 4000000
namespace MI
open PySem
@[simp] theorem to_ok {α : Type} (a : α) (g : Ce) (k : α → Out) : (R.ok a).to g k = k a := Eq.trans rfl rfl
@[simp] theorem to_exc {α : Type} (c : Str) (g : Ce) (k : α → Out) : (R.exc c none : R α).to g k = .ex c none g := Eq.trans rfl rfl
@[simp] theorem to_bad {α : Type} (g : Ce) (k : α → Out) : (R.bad : R α).to g k = .bad := Eq.trans rfl rfl
@[simp] theorem vd_cons (c : Cell) (g : Ce) : vd (c :: g) = c.vd :: vd g := Eq.trans rfl rfl
@[simp] theorem vd_nil : vd [] = [] := Eq.trans rfl rfl
@[simp] theorem va_cons (c : Cell) (g : Ce) : va (c :: g) = c.va :: va g := Eq.trans rfl rfl
@[simp] theorem va_nil : va [] = [] := Eq.trans rfl rfl
@[simp] theorem vd_dat (d : D) : (Cell.dat d).vd = some d := Eq.trans rfl rfl
@[simp] theorem vd_un : Cell.un.vd = none := Eq.trans rfl rfl
@[simp] theorem vd_own (ds : List D) : (Cell.own ds).vd = none := Eq.trans rfl rfl
@[simp] theorem va_dat (d : D) : (Cell.dat d).va = some d := Eq.trans rfl rfl
@[simp] theorem va_un : Cell.un.va = none := Eq.trans rfl rfl
@[simp] theorem va_own (ds : List D) : (Cell.own ds).va = some (.list ds) := Eq.trans rfl rfl
@[simp] theorem sNop_ap (c0 : Cell) (g0 : Ce) : sNop (c0 :: g0) = .nx (c0 :: g0) := Eq.trans rfl rfl
@[simp] theorem sSeq_ap (a b : S) (c0 : Cell) (g0 : Ce) : sSeq a b (c0 :: g0) = match a (c0 :: g0) with
  | .nx g' => b g'
  | o => o := Eq.trans rfl rfl
@[simp] theorem sIf_ap (t : Vw → R Bool) (a b : S) (c0 : Cell) (g0 : Ce) : sIf t a b (c0 :: g0) = (t (va (c0 :: g0))).to (c0 :: g0) fun k => if k = true then a (c0 :: g0) else b (c0 :: g0) := Eq.trans rfl rfl
@[simp] theorem sRet_ap (m : M) (c0 : Cell) (g0 : Ce) : sRet m (c0 :: g0) = match m (va (c0 :: g0)) with
  | .ok d => .rt d
  | .exc c p => if flatO p = true then .ex c p (c0 :: g0) else .bad
  | .bad => .bad := Eq.trans rfl rfl
@[simp] theorem sRetN_ap (c0 : Cell) (g0 : Ce) : sRetN (c0 :: g0) = .rt .none := Eq.trans rfl rfl
@[simp] theorem sBreak_ap (c0 : Cell) (g0 : Ce) : sBreak (c0 :: g0) = .bk (c0 :: g0) := Eq.trans rfl rfl
@[simp] theorem sCont_ap (c0 : Cell) (g0 : Ce) : sCont (c0 :: g0) = .ct (c0 :: g0) := Eq.trans rfl rfl
@[simp] theorem sExpr_ap (m : M) (c0 : Cell) (g0 : Ce) : sExpr m (c0 :: g0) = (m (va (c0 :: g0))).to (c0 :: g0) fun _ => .nx (c0 :: g0) := Eq.trans rfl rfl
@[simp] theorem sSet_ap (i : Nat) (m : M) (c0 : Cell) (g0 : Ce) : sSet i m (c0 :: g0) = (m (vd (c0 :: g0))).to (c0 :: g0) fun d => .nx ((c0 :: g0).set i (.dat d)) := Eq.trans rfl rfl
@[simp] theorem sSetF_ap (i : Nat) (m : M) (c0 : Cell) (g0 : Ce) : sSetF i m (c0 :: g0) = (m (va (c0 :: g0))).to (c0 :: g0) fun d => if flat d = true then .nx ((c0 :: g0).set i (.dat d)) else .bad := Eq.trans rfl rfl
@[simp] theorem sPar_ap (i j : Nat) (m : Vw → R (List D)) (c0 : Cell) (g0 : Ce) : sPar i j m (c0 :: g0) = (m (vd (c0 :: g0))).to (c0 :: g0) fun ds => match ds with
  | [x, y] => .nx (((c0 :: g0).set i (.dat x)).set j (.dat y))
  | _ => .bad := Eq.trans rfl rfl
@[simp] theorem sRaise_ap (c : Str) (c0 : Cell) (g0 : Ce) : sRaise c (c0 :: g0) = .ex c none (c0 :: g0) := Eq.trans rfl rfl
@[simp] theorem sAsg_ap (t : Tg) (m : M) (c0 : Cell) (g0 : Ce) : sAsg t m (c0 :: g0) = (m (vd (c0 :: g0))).to (c0 :: g0) fun d => match t d (c0 :: g0) with
  | some g' => .nx g'
  | none => .bad := Eq.trans rfl rfl
@[simp] theorem sTry_ap (sub : Str → Option Bool) (b u : S) (c0 : Cell) (g0 : Ce) : sTry sub b u (c0 :: g0) = match b (c0 :: g0) with
  | .ex c p g' => (match sub c with
    | some true => (match u g' with
      | .ex _ _ _ => .bad
      | o => o)
    | some false => .ex c p g'
    | none => .bad)
  | o => o := Eq.trans rfl rfl
@[simp] theorem gN_ap (i : Nat) (d : D) (g : Ce) : gN i d g = some (g.set i (.dat d)) := Eq.trans rfl rfl
@[simp] theorem gT_ap (u : Tgs) (ds : List D) (g : Ce) : gT u (.tuple ds) g = u ds g := Eq.trans rfl rfl
@[simp] theorem gL_ap (u : Tgs) (ds : List D) (g : Ce) : gL u (.list ds) g = u ds g := Eq.trans rfl rfl
@[simp] theorem gX_l (u : Tgs) (ds : List D) (g : Ce) : gX u (.list ds) g = u ds g := Eq.trans rfl rfl
@[simp] theorem gX_t (u : Tgs) (ds : List D) (g : Ce) : gX u (.tuple ds) g = u ds g := Eq.trans rfl rfl
@[simp] theorem gsNil_ap (g : Ce) : gsNil [] g = some g := Eq.trans rfl rfl
@[simp] theorem gsCons_ap (t : Tg) (u : Tgs) (d : D) (r : List D) (g : Ce) : gsCons t u (d :: r) g = (t d g).bind (u r) := Eq.trans rfl rfl
@[simp] theorem mVar_ap (i : Nat) (δ : Vw) : mVar i δ = match δ[i]? with
  | some (some d) => .ok d
  | _ => .bad := Eq.trans rfl rfl
@[simp] theorem mC_ap (d : D) (δ : Vw) : mC d δ = .ok d := Eq.trans rfl rfl
@[simp] theorem mBin_ap (f : D → D → Option D) (a b : M) (δ : Vw) : mBin f a b δ = (a δ).bind fun x => (b δ).bind fun y => R.of (f x y) := Eq.trans rfl rfl
@[simp] theorem mUn_ap (f : D → Option D) (a : M) (δ : Vw) : mUn f a δ = (a δ).bind fun x => R.of (f x) := Eq.trans rfl rfl
@[simp] theorem mDs_ap (f : List D → Option D) (a : Vw → R (List D)) (δ : Vw) : mDs f a δ = (a δ).bind fun x => R.of (f x) := Eq.trans rfl rfl
@[simp] theorem mNil_ap (δ : Vw) : mNil δ = .ok [] := Eq.trans rfl rfl
@[simp] theorem mCons_ap (a : M) (r : Vw → R (List D)) (δ : Vw) : mCons a r δ = (a δ).bind fun x => (r δ).bind fun y => .ok (x :: y) := Eq.trans rfl rfl
@[simp] theorem mTru_ap (m : M) (δ : Vw) : mTru m δ = (m δ).bind fun d => R.of (truthD d) := Eq.trans rfl rfl
@[simp] theorem mNot_ap (t : Vw → R Bool) (δ : Vw) : mNot t δ = (t δ).bind fun b => .ok (!b) := Eq.trans rfl rfl
@[simp] theorem mAndT_ap (t u : Vw → R Bool) (δ : Vw) : mAndT t u δ = (t δ).bind fun b => if b = true then u δ else .ok false := Eq.trans rfl rfl
@[simp] theorem mOrT_ap (t u : Vw → R Bool) (δ : Vw) : mOrT t u δ = (t δ).bind fun b => if b = true then .ok true else u δ := Eq.trans rfl rfl
@[simp] theorem mAndV_ap (a b : M) (δ : Vw) : mAndV a b δ = (a δ).bind fun x => (R.of (truthD x)).bind fun k => if k = true then b δ else .ok x := Eq.trans rfl rfl
@[simp] theorem mOrV_ap (a b : M) (δ : Vw) : mOrV a b δ = (a δ).bind fun x => (R.of (truthD x)).bind fun k => if k = true then .ok x else b δ := Eq.trans rfl rfl
@[simp] theorem mIf_ap (t : Vw → R Bool) (a b : M) (δ : Vw) : mIf t a b δ = (t δ).bind fun k => if k = true then a δ else b δ := Eq.trans rfl rfl
@[simp] theorem mNotV_ap (a : M) (δ : Vw) : mNotV a δ = (a δ).bind fun x => (R.of (truthD x)).bind fun k => .ok (.bool (!k)) := Eq.trans rfl rfl
@[simp] theorem mCall_ap (n : Nat) (f : List D → R D) (dds : List D) (m : Vw → R (List D)) (δ : Vw) : mCall n f dds m δ = (m δ).bind fun ds => if (ds ++ dds).length = n then f (ds ++ dds) else .bad := Eq.trans rfl rfl
@[simp] theorem mIsi_ap (T : String) (a : M) (δ : Vw) : mIsi T a δ = (a δ).bind fun d => R.of ((isT T d).map .bool) := Eq.trans rfl rfl
@[simp] theorem mNoPart_ap (δ : Vw) : mNoPart δ = .ok none := Eq.trans rfl rfl
@[simp] theorem mPart_ap (m : M) (δ : Vw) : mPart m δ = (m δ).bind fun d => match d with
  | .int i => .ok (some i)
  | _ => .bad := Eq.trans rfl rfl
@[simp] theorem mSl_ap (m : M) (lo hi : Vw → R (Option Int)) (δ : Vw) : mSl m lo hi δ = (m δ).bind fun d => (lo δ).bind fun l => (hi δ).bind fun h => R.of (fSl d l h) := Eq.trans rfl rfl
theorem forG {it : Vw → R (List D)} {t : Tg} {b : S} {g : Ce} {ds : List D} (h1 : it (vd g) = .ok ds) : sFor it t b g = loopF t b ds g := by
  show (it (vd g)).to g (fun ds => loopF t b ds g) = _
  rw [h1, to_ok]
theorem run_eq (n N : Nat) (m : S) (ds : List D) (h : ds.length = n) : run n N m ds = match m (ds.map Cell.dat ++ List.replicate (N - n) Cell.un) with
  | .nx _ => .ok .none
  | .rt d => .ok d
  | .ex c p _ => .exc c p
  | _ => .bad := by
  unfold run
  refine (if_pos h).trans ?_
  cases m (ds.map Cell.dat ++ List.replicate (N - n) Cell.un) <;> rfl
@[simp] theorem mItems_ap (m : M) (δ : Vw) : mItems m δ = (m δ).bind fun d => match d with
  | .list ds => .ok ds
  | .tuple ds => .ok ds
  | _ => .bad := Eq.trans rfl rfl
@[simp] theorem mRng_ap (f : List D → Option (List D)) (m : Vw → R (List D)) (δ : Vw) : mRng f m δ = (m δ).bind fun ds => R.of (f ds) := Eq.trans rfl rfl
@[simp] theorem mL_ap (m : Vw → R (List D)) (δ : Vw) : mL m δ = (m δ).bind fun ds => .ok (.list ds) := Eq.trans rfl rfl
@[simp] theorem nLst_ap (m : Vw → R (List D)) (δ : Vw) : nLst m δ = (m δ).bind fun ds => if ds.length ≤ most then .ok ds else .bad := Eq.trans rfl rfl
@[simp] theorem nOf_ap (m : M) (δ : Vw) : nOf m δ = (m δ).bind fun d => match d with
  | .list ds => .ok ds
  | .tuple ds => .ok ds
  | _ => .bad := Eq.trans rfl rfl
@[simp] theorem sOwn_ap (i : Nat) (m : Vw → R (List D)) (c0 : Cell) (g0 : Ce) : sOwn i m (c0 :: g0) = (m (vd (c0 :: g0))).to (c0 :: g0) fun ds => .nx ((c0 :: g0).set i (.own ds)) := Eq.trans rfl rfl
@[simp] theorem sPut_ap (j : Nat) (mi m : M) (c0 : Cell) (g0 : Ce) : sPut j mi m (c0 :: g0) = match (c0 :: g0)[j]? with
  | some (.own ds) => (m (vd (c0 :: g0))).to (c0 :: g0) fun d => (mi (vd (c0 :: g0))).to (c0 :: g0) fun i => match i with
    | .int i => (match L2.ixN ds.length i with
      | some k => .nx ((c0 :: g0).set j (.own (ds.set k d)))
      | none => .bad)
    | _ => .bad
  | _ => .bad := Eq.trans rfl rfl
@[simp] theorem sApp_ap (i : Nat) (m : M) (c0 : Cell) (g0 : Ce) : sApp i m (c0 :: g0) = match (c0 :: g0)[i]? with
  | some (.own ds) => (m (vd (c0 :: g0))).to (c0 :: g0) fun d => if ds.length < most then .nx ((c0 :: g0).set i (.own (ds ++ [d]))) else .bad
  | _ => .bad := Eq.trans rfl rfl
@[simp] theorem sPutF_ap (j : Nat) (mi m : M) (c0 : Cell) (g0 : Ce) : sPutF j mi m (c0 :: g0) = match (c0 :: g0)[j]? with
  | some (.own ds) => (m (va (c0 :: g0))).to (c0 :: g0) fun d => if flat d = true then (mi (vd (c0 :: g0))).to (c0 :: g0) fun i => (match i with
    | .int i => (match L2.ixN ds.length i with
      | some k => .nx ((c0 :: g0).set j (.own (ds.set k d)))
      | none => .bad)
    | _ => .bad) else .bad
  | _ => .bad := Eq.trans rfl rfl
@[simp] theorem sAsgF_ap (t : Tg) (m : M) (c0 : Cell) (g0 : Ce) : sAsgF t m (c0 :: g0) = (m (va (c0 :: g0))).to (c0 :: g0) fun d => if flat d = true then (match t d (c0 :: g0) with
  | some g' => .nx g'
  | none => .bad) else .bad := Eq.trans rfl rfl
@[simp] theorem sAppF_ap (i : Nat) (m : M) (c0 : Cell) (g0 : Ce) : sAppF i m (c0 :: g0) = match (c0 :: g0)[i]? with
  | some (.own ds) => (m (va (c0 :: g0))).to (c0 :: g0) fun d => if flat d = true ∧ ds.length < most then .nx ((c0 :: g0).set i (.own (ds ++ [d]))) else .bad
  | _ => .bad := Eq.trans rfl rfl
@[simp] theorem most_val : most = 16777216 := Eq.trans rfl rfl
@[simp] theorem sTryAs_ap (sub : Str → Option Bool) (i : Nat) (b : S) (u : Str → S) (c0 : Cell) (g0 : Ce) : sTryAs sub i b u (c0 :: g0) = match b (c0 :: g0) with
  | .ex c p g' => (match sub c with
    | some true => if p.isNone = true ∧ i < g'.length then (match u c (g'.set i .un) with
      | .nx g2 => .nx (g2.set i .un)
      | .bk g2 => .bk (g2.set i .un)
      | .ct g2 => .ct (g2.set i .un)
      | .rt d => .rt d
      | _ => .bad) else .bad
    | some false => .ex c p g'
    | none => .bad)
  | o => o := Eq.trans rfl rfl
@[simp] theorem fAdd_ii (i j : Int) : fAdd (.int i) (.int j) = some (.int (i + j)) := Eq.trans rfl rfl
@[simp] theorem fAddL_ii (i j : Int) : fAddL (.int i) (.int j) = some (.int (i + j)) := Eq.trans rfl rfl
@[simp] theorem fAddL_ss (a b : Str) : fAddL (.str a) (.str b) = fAdd (.str a) (.str b) := Eq.trans rfl rfl
@[simp] theorem fIntT_i (i : Int) : fIntT [.int i] = some (.int i) := Eq.trans rfl rfl
@[simp] theorem fIntT_b (b : Bool) : fIntT [.bool b] = some (.int (if b then 1 else 0)) := Eq.trans rfl rfl
@[simp] theorem fSub_ii (i j : Int) : fSub (.int i) (.int j) = some (.int (i - j)) := Eq.trans rfl rfl
theorem fMul_ii {i j : Int} (h : okMul i j = true) : fMul (.int i) (.int j) = some (.int (i * j)) := by
  show (if okMul i j = true then some (PyData.int (i * j)) else none) = _
  rw [if_pos h]
theorem fFdv_ii {i j : Int} (h : okDiv j = true) : fFdv (.int i) (.int j) = some (.int (i.fdiv j)) := by
  show (if okDiv j = true then some (PyData.int (i.fdiv j)) else none) = _
  rw [if_pos h]
theorem fFdv_pos {i j : Int} (h : 0 < j) (l : j.natAbs.log2 < 9000) : fFdv (.int i) (.int j) = some (.int (i / j)) := by
  rw [fFdv_ii, Int.fdiv_eq_ediv_of_nonneg i (by omega)]
  unfold okDiv
  rw [Bool.and_eq_true, decide_eq_true_eq, decide_eq_true_eq]
  exact ⟨by omega, l⟩
theorem fMod_ii {i j : Int} (h : j ≠ 0) : fMod (.int i) (.int j) = some (.int (i.fmod j)) := by
  show (if j ≠ 0 then some (PyData.int (i.fmod j)) else none) = _
  rw [if_pos h]
theorem fMod_pos {i j : Int} (h : 0 < j) : fMod (.int i) (.int j) = some (.int (i % j)) := by
  rw [fMod_ii (by omega), Int.fmod_eq_emod_of_nonneg i (by omega)]
theorem fPow_ii {i j : Int} (h : 0 ≤ j ∧ j ≤ 1000000 ∧ i.natAbs < 2 ^ 64) : fPow (.int i) (.int j) = some (.int (i ^ j.toNat)) := by
  show (if 0 ≤ j ∧ j ≤ 1000000 ∧ i.natAbs < 2 ^ 64 then some (PyData.int (i ^ j.toNat)) else none) = _
  rw [if_pos h]
@[simp] theorem fNeg_i (i : Int) : fNeg (.int i) = some (.int (-i)) := Eq.trans rfl rfl
@[simp] theorem fLt_ii (i j : Int) : fLt (.int i) (.int j) = some (.bool (decide (i < j))) := Eq.trans rfl rfl
@[simp] theorem fLe_ii (i j : Int) : fLe (.int i) (.int j) = some (.bool (decide (i ≤ j))) := Eq.trans rfl rfl
@[simp] theorem fGt_ii (i j : Int) : fGt (.int i) (.int j) = some (.bool (decide (j < i))) := Eq.trans rfl rfl
@[simp] theorem fGe_ii (i j : Int) : fGe (.int i) (.int j) = some (.bool (decide (j ≤ i))) := Eq.trans rfl rfl
@[simp] theorem fEq_ii (i j : Int) : fEq (.int i) (.int j) = some (.bool (decide (i = j))) := Eq.trans rfl rfl
@[simp] theorem fEq_ss (i j : Str) : fEq (.str i) (.str j) = some (.bool (decide (i = j))) := Eq.trans rfl rfl
@[simp] theorem fEq_bb (i j : Bool) : fEq (.bool i) (.bool j) = some (.bool (decide (i = j))) := Eq.trans rfl rfl
@[simp] theorem fNe_ii (i j : Int) : fNe (.int i) (.int j) = some (.bool (!decide (i = j))) := Eq.trans rfl rfl
@[simp] theorem fNe_ss (i j : Str) : fNe (.str i) (.str j) = some (.bool (!decide (i = j))) := Eq.trans rfl rfl
@[simp] theorem fNe_bb (i j : Bool) : fNe (.bool i) (.bool j) = some (.bool (!decide (i = j))) := Eq.trans rfl rfl
@[simp] theorem truth_b (b : Bool) : truthD (.bool b) = some b := Eq.trans rfl rfl
@[simp] theorem fAbs_i (i : Int) : fAbs [.int i] = some (.int (if i < 0 then -i else i)) := Eq.trans rfl rfl
@[simp] theorem fLen_l (ds : List D) : fLen [.list ds] = some (.int ds.length) := Eq.trans rfl rfl
@[simp] theorem fLen_t (ds : List D) : fLen [.tuple ds] = some (.int ds.length) := Eq.trans rfl rfl
@[simp] theorem fMax_ii (i j : Int) : fMax [.int i, .int j] = some (.int (if j > i then j else i)) := Eq.trans rfl rfl
@[simp] theorem fMin_ii (i j : Int) : fMin [.int i, .int j] = some (.int (if j < i then j else i)) := Eq.trans rfl rfl
@[simp] theorem fInt_i (i : Int) : fInt [.int i] = some (.int i) := Eq.trans rfl rfl
@[simp] theorem fInt_b (b : Bool) : fInt [.bool b] = some (.int (if b then 1 else 0)) := Eq.trans rfl rfl
theorem fIx_t {ds : List D} {j : Nat} {d : D} (h : ds[j]? = some d) : fIx (.tuple ds) (.int (j : Int)) = some d := L2.atI_nat h
theorem fIx_l {ds : List D} {j : Nat} {d : D} (h : ds[j]? = some d) : fIx (.list ds) (.int (j : Int)) = some d := L2.atI_nat h
@[simp] theorem fIx_t0 (a : D) (r : List D) : fIx (.tuple (a :: r)) (.int 0) = some a := fIx_t (j := 0) rfl
@[simp] theorem fIx_t1 (a b : D) (r : List D) : fIx (.tuple (a :: b :: r)) (.int 1) = some b := fIx_t (j := 1) rfl
@[simp] theorem fIx_t2 (a b c : D) (r : List D) : fIx (.tuple (a :: b :: c :: r)) (.int 2) = some c := fIx_t (j := 2) rfl
@[simp] theorem dTup_1 (a : D) : dTup [a] = some (.tuple [a]) := Eq.trans rfl rfl
@[simp] theorem dTup_2 (a b : D) : dTup [a, b] = some (.tuple [a, b]) := Eq.trans rfl rfl
@[simp] theorem dTup_3 (a b c : D) : dTup [a, b, c] = some (.tuple [a, b, c]) := Eq.trans rfl rfl
@[simp] theorem isT_int_none  : isT "int" (.none) = some false := show L2.kitB "NoneType" "int" = some false by decide +kernel
@[simp] theorem isT_int_bool (b : Bool) : isT "int" (.bool b) = some true := show L2.kitB "bool" "int" = some true by decide +kernel
@[simp] theorem isT_int_int (i : Int) : isT "int" (.int i) = some true := show L2.kitB "int" "int" = some true by decide +kernel
@[simp] theorem isT_int_str (z : Str) : isT "int" (.str z) = some false := show L2.kitB "str" "int" = some false by decide +kernel
@[simp] theorem isT_int_list (ds : List D) : isT "int" (.list ds) = some false := show L2.kitB "list" "int" = some false by decide +kernel
@[simp] theorem isT_int_tuple (ds : List D) : isT "int" (.tuple ds) = some false := show L2.kitB "tuple" "int" = some false by decide +kernel
@[simp] theorem isT_bool_none  : isT "bool" (.none) = some false := show L2.kitB "NoneType" "bool" = some false by decide +kernel
@[simp] theorem isT_bool_bool (b : Bool) : isT "bool" (.bool b) = some true := show L2.kitB "bool" "bool" = some true by decide +kernel
@[simp] theorem isT_bool_int (i : Int) : isT "bool" (.int i) = some false := show L2.kitB "int" "bool" = some false by decide +kernel
@[simp] theorem isT_bool_str (z : Str) : isT "bool" (.str z) = some false := show L2.kitB "str" "bool" = some false by decide +kernel
@[simp] theorem isT_bool_list (ds : List D) : isT "bool" (.list ds) = some false := show L2.kitB "list" "bool" = some false by decide +kernel
@[simp] theorem isT_bool_tuple (ds : List D) : isT "bool" (.tuple ds) = some false := show L2.kitB "tuple" "bool" = some false by decide +kernel
@[simp] theorem isT_tuple_none  : isT "tuple" (.none) = some false := show L2.kitB "NoneType" "tuple" = some false by decide +kernel
@[simp] theorem isT_tuple_bool (b : Bool) : isT "tuple" (.bool b) = some false := show L2.kitB "bool" "tuple" = some false by decide +kernel
@[simp] theorem isT_tuple_int (i : Int) : isT "tuple" (.int i) = some false := show L2.kitB "int" "tuple" = some false by decide +kernel
@[simp] theorem isT_tuple_str (z : Str) : isT "tuple" (.str z) = some false := show L2.kitB "str" "tuple" = some false by decide +kernel
@[simp] theorem isT_tuple_list (ds : List D) : isT "tuple" (.list ds) = some false := show L2.kitB "list" "tuple" = some false by decide +kernel
@[simp] theorem isT_tuple_tuple (ds : List D) : isT "tuple" (.tuple ds) = some true := show L2.kitB "tuple" "tuple" = some true by decide +kernel
@[simp] theorem isT_str_none  : isT "str" (.none) = some false := show L2.kitB "NoneType" "str" = some false by decide +kernel
@[simp] theorem isT_str_bool (b : Bool) : isT "str" (.bool b) = some false := show L2.kitB "bool" "str" = some false by decide +kernel
@[simp] theorem isT_str_int (i : Int) : isT "str" (.int i) = some false := show L2.kitB "int" "str" = some false by decide +kernel
@[simp] theorem isT_str_str (z : Str) : isT "str" (.str z) = some true := show L2.kitB "str" "str" = some true by decide +kernel
@[simp] theorem isT_str_list (ds : List D) : isT "str" (.list ds) = some false := show L2.kitB "list" "str" = some false by decide +kernel
@[simp] theorem isT_str_tuple (ds : List D) : isT "str" (.tuple ds) = some false := show L2.kitB "tuple" "str" = some false by decide +kernel
@[simp] theorem isT_list_none  : isT "list" (.none) = some false := show L2.kitB "NoneType" "list" = some false by decide +kernel
@[simp] theorem isT_list_bool (b : Bool) : isT "list" (.bool b) = some false := show L2.kitB "bool" "list" = some false by decide +kernel
@[simp] theorem isT_list_int (i : Int) : isT "list" (.int i) = some false := show L2.kitB "int" "list" = some false by decide +kernel
@[simp] theorem isT_list_str (z : Str) : isT "list" (.str z) = some false := show L2.kitB "str" "list" = some false by decide +kernel
@[simp] theorem isT_list_list (ds : List D) : isT "list" (.list ds) = some true := show L2.kitB "list" "list" = some true by decide +kernel
@[simp] theorem isT_list_tuple (ds : List D) : isT "list" (.tuple ds) = some false := show L2.kitB "tuple" "list" = some false by decide +kernel
@[simp] theorem tyD_str (x : Str) : tyD (.str x) = "str" := Eq.trans rfl rfl
@[simp] theorem tyD_list (x : List D) : tyD (.list x) = "list" := Eq.trans rfl rfl
@[simp] theorem tyD_tuple (x : List D) : tyD (.tuple x) = "tuple" := Eq.trans rfl rfl
@[simp] theorem tyD_int (x : Int) : tyD (.int x) = "int" := Eq.trans rfl rfl
@[simp] theorem tyD_bool (x : Bool) : tyD (.bool x) = "bool" := Eq.trans rfl rfl
theorem loopF_cons {t : Tg} {b : S} {d : D} {ds : List D} {g g1 g2 : Ce} (ht : t d g = some g1) (hb : b g1 = .nx g2) : loopF t b (d :: ds) g = loopF t b ds g2 := by
  rw [loopF, ht]
  dsimp only
  rw [hb]
theorem loopW_ap (t : Vw → R Bool) (b : S) (n : Nat) (g : Ce) : loopW t b (n + 1) g = (t (va g)).to g fun k => if k = true then (match b g with
      | .nx g2 => loopW t b n g2
      | .ct g2 => loopW t b n g2
      | .bk g2 => .nx g2
      | o => o) else .nx g := rfl
theorem cut_take (ds : List D) (n : Nat) : fSl (.list ds) none (some (n : Int)) = some (.list (ds.take n)) := by
  have : cutD ds none (some (n : Int)) = ds.take n := by
    unfold cutD
    rw [HT.sIx_nat, HT.sIx_none]
    simp
  show some (PyData.list (cutD ds none (some (n : Int)))) = _
  rw [this]
theorem log2_lt {i : Int} {a : Nat} (h : i.natAbs < 2 ^ a) (h0 : 0 < a) : i.natAbs.log2 < a := PySem.Flt.log2_lt_of h0 h
theorem okMul_bd {i j : Int} (a b : Nat) (ha : i.natAbs < 2 ^ a) (hb : j.natAbs < 2 ^ b) (h0 : 0 < a) (h1 : 0 < b) (h : a + b ≤ 100000000) : okMul i j = true := by
  have x := log2_lt ha h0
  have y := log2_lt hb h1
  unfold okMul
  rw [decide_eq_true_eq]
  omega
theorem okDiv_bd {j : Int} (a : Nat) (hj : j ≠ 0) (ha : j.natAbs < 2 ^ a) (h0 : 0 < a) (h : a ≤ 9000) : okDiv j = true := by
  have x := log2_lt ha h0
  unfold okDiv
  rw [Bool.and_eq_true, decide_eq_true_eq, decide_eq_true_eq]
  exact ⟨hj, by omega⟩
theorem natAbs_mul_lt {i j : Int} {a b : Nat} (ha : i.natAbs < a) (hb : j.natAbs < b) : (i * j).natAbs < a * b := by
  rw [Int.natAbs_mul]
  exact Nat.mul_lt_mul'' ha hb
end MI
set_option Elab.async false
set_option linter.all false
set_option maxRecDepth 100000
set_option maxHeartbeats 4000000
namespace MI
open PySem PySem.Spec PyProof.Rows L2
def kl (i : Nat) : Cl → Cl
  | .al j k => if j = i then .un else .al j k
  | c => c
def nb : Cl → Bool
  | .b _ => false
  | _ => true
@[simp] theorem kl_t (i : Nat) (x : T) : kl i (.t x) = .t x := Eq.trans rfl rfl
@[simp] theorem kl_b (i : Nat) (x : T) : kl i (.b x) = .b x := Eq.trans rfl rfl
@[simp] theorem kl_un (i : Nat) : kl i .un = .un := Eq.trans rfl rfl
@[simp] theorem kl_al (i j k : Nat) : kl i (.al j k) = if j = i then .un else .al j k := Eq.trans rfl rfl
@[simp] theorem nb_t (x : T) : nb (.t x) = true := Eq.trans rfl rfl
@[simp] theorem nb_b (x : T) : nb (.b x) = false := Eq.trans rfl rfl
@[simp] theorem nb_un : nb .un = true := Eq.trans rfl rfl
@[simp] theorem nb_al (j k : Nat) : nb (.al j k) = true := Eq.trans rfl rfl
@[simp] theorem kil_nil (i : Nat) : kil i [] = [] := Eq.trans rfl rfl
@[simp] theorem kil_cons (i : Nat) (c : Cl) (g : Ct) : kil i (c :: g) = kl i c :: kil i g := by
  cases c <;> rfl
@[simp] theorem free1_nil (i : Nat) : free1 [] i = true := Eq.trans rfl rfl
@[simp] theorem free1_0 (c : Cl) (g : Ct) : free1 (c :: g) 0 = nb c := by cases c <;> rfl
@[simp] theorem free1_s (c : Cl) (g : Ct) (i : Nat) : free1 (c :: g) (i + 1) = free1 g i := Eq.trans rfl rfl
/-- a cell that may be set: nothing, or a thing of this def's -/
def Fr (c : Cl) : Prop := c = .un ∨ ∃ x, c = .t x
@[simp] theorem fr_un : Fr .un := .inl rfl
@[simp] theorem fr_t (x : T) : Fr (.t x) := .inr ⟨x, rfl⟩
@[simp] theorem kl_fr {c : Cl} (h : Fr c) (i : Nat) : kl i c = c := by
  rcases h with rfl | ⟨x, rfl⟩ <;> rfl
@[simp] theorem nb_fr {c : Cl} (h : Fr c) : nb c = true := by
  rcases h with rfl | ⟨x, rfl⟩ <;> rfl
@[simp] theorem tvd_ap (c0 : Cl) (g0 : Ct) : tvd (c0 :: g0) = (c0 :: g0).map (Cl.vd (c0 :: g0)) := Eq.trans rfl rfl
@[simp] theorem tva_ap (c0 : Cl) (g0 : Ct) : tva (c0 :: g0) = (c0 :: g0).map (Cl.va (c0 :: g0)) := Eq.trans rfl rfl
@[simp] theorem clvd_t (g : Ct) (d : D) : Cl.vd g (.t (.dat d)) = some d := Eq.trans rfl rfl
@[simp] theorem clvd_tl (g : Ct) (ts : List T) : Cl.vd g (.t (.lst ts)) = none := Eq.trans rfl rfl
@[simp] theorem clvd_b (g : Ct) (d : D) : Cl.vd g (.b (.dat d)) = some d := Eq.trans rfl rfl
@[simp] theorem clvd_bl (g : Ct) (ts : List T) : Cl.vd g (.b (.lst ts)) = none := Eq.trans rfl rfl
@[simp] theorem clvd_un (g : Ct) : Cl.vd g .un = none := Eq.trans rfl rfl
@[simp] theorem clva_t (g : Ct) (x : T) : Cl.va g (.t x) = some (fz x) := Eq.trans rfl rfl
@[simp] theorem clva_b (g : Ct) (x : T) : Cl.va g (.b x) = some (fz x) := Eq.trans rfl rfl
@[simp] theorem clva_un (g : Ct) : Cl.va g .un = none := Eq.trans rfl rfl
@[simp] theorem fz_dat (d : D) : fz (.dat d) = d := by unfold fz; rfl
@[simp] theorem fz_lst (ts : List T) : fz (.lst ts) = .list (fzL ts) := by rw [fz]
@[simp] theorem fzL_nil : fzL [] = [] := by rw [fzL]
@[simp] theorem fzL_cons (t : T) (ts : List T) : fzL (t :: ts) = fz t :: fzL ts := by rw [fzL]
theorem fzL_dats : ∀ ds : List D, fzL (ds.map T.dat) = ds
  | [] => fzL_nil
  | d :: ds => by rw [List.map_cons, fzL_cons, fz_dat, fzL_dats ds]
@[simp] theorem rg_of_ok {α : Type} (a : α) (g : Ct) : RG.of (.ok a) g = .ok a g := Eq.trans rfl rfl
@[simp] theorem rg_of_exc {α : Type} (c : Str) (p : Option D) (g : Ct) : RG.of (.exc c p : R α) g = .exc c p g := Eq.trans rfl rfl
@[simp] theorem rg_of_bad {α : Type} (g : Ct) : RG.of (.bad : R α) g = .bad := Eq.trans rfl rfl
@[simp] theorem xP_ap (m : M) (c0 : Cl) (g0 : Ct) : xP m (c0 :: g0) = (RG.of (m (tvd (c0 :: g0))) (c0 :: g0)).bind fun d h => .ok (.dat d) h := Eq.trans rfl rfl
@[simp] theorem xV_ap (m : M) (c0 : Cl) (g0 : Ct) : xV m (c0 :: g0) = match m (tva (c0 :: g0)) with
  | .ok d => if flat d = true then .ok (.dat d) (c0 :: g0) else .bad
  | .exc c p => if flatO p = true then .exc c p (c0 :: g0) else .bad
  | .bad => .bad := Eq.trans rfl rfl
@[simp] theorem xTP_ap (m : Vw → R Bool) (c0 : Cl) (g0 : Ct) : xTP m (c0 :: g0) = match m (tva (c0 :: g0)) with
  | .ok b => .ok b (c0 :: g0)
  | .exc c p => if flatO p = true then .exc c p (c0 :: g0) else .bad
  | .bad => .bad := Eq.trans rfl rfl
@[simp] theorem flat_i (i : Int) : flat (.int i) = true := Eq.trans rfl rfl
@[simp] theorem flat_b (i : Bool) : flat (.bool i) = true := Eq.trans rfl rfl
@[simp] theorem flat_s (i : Str) : flat (.str i) = true := Eq.trans rfl rfl
@[simp] theorem flat_n : flat .none = true := Eq.trans rfl rfl
@[simp] theorem flatO_n : flatO none = true := Eq.trans rfl rfl
@[simp] theorem xOf_some (d : D) (g : Ct) : xOf (some d) g = .ok (.dat d) g := Eq.trans rfl rfl
@[simp] theorem xOf_none (g : Ct) : xOf none g = .bad := Eq.trans rfl rfl
@[simp] theorem xBin_ap (f : D → D → Option D) (a b : XM) (c0 : Cl) (g0 : Ct) : xBin f a b (c0 :: g0) = (a (c0 :: g0)).bind fun t g1 => (b g1).bind fun u g2 => xOf (f (fz t) (fz u)) g2 := Eq.trans rfl rfl
@[simp] theorem xUn_ap (f : D → Option D) (a : XM) (c0 : Cl) (g0 : Ct) : xUn f a (c0 :: g0) = (a (c0 :: g0)).bind fun t g1 => xOf (f (fz t)) g1 := Eq.trans rfl rfl
@[simp] theorem xTru_ap (m : XM) (c0 : Cl) (g0 : Ct) : xTru m (c0 :: g0) = (m (c0 :: g0)).bind fun t g1 => match truthD (fz t) with
  | some b => .ok b g1
  | none => .bad := Eq.trans rfl rfl
@[simp] theorem xNot_ap (t : XT) (c0 : Cl) (g0 : Ct) : xNot t (c0 :: g0) = (t (c0 :: g0)).bind fun b g1 => .ok (!b) g1 := Eq.trans rfl rfl
@[simp] theorem xAndT_ap (t u : XT) (c0 : Cl) (g0 : Ct) : xAndT t u (c0 :: g0) = (t (c0 :: g0)).bind fun b g1 => if b = true then u g1 else .ok false g1 := Eq.trans rfl rfl
@[simp] theorem xOrT_ap (t u : XT) (c0 : Cl) (g0 : Ct) : xOrT t u (c0 :: g0) = (t (c0 :: g0)).bind fun b g1 => if b = true then .ok true g1 else u g1 := Eq.trans rfl rfl
@[simp] theorem xIf_ap (t : XT) (a b : XM) (c0 : Cl) (g0 : Ct) : xIf t a b (c0 :: g0) = (t (c0 :: g0)).bind fun k g1 => if k = true then a g1 else b g1 := Eq.trans rfl rfl
@[simp] theorem xNil_ap (c0 : Cl) (g0 : Ct) : xNil (c0 :: g0) = .ok [] (c0 :: g0) := Eq.trans rfl rfl
@[simp] theorem xCons_ap (a : XM) (r : XA) (c0 : Cl) (g0 : Ct) : xCons a r (c0 :: g0) = (a (c0 :: g0)).bind fun t g1 => (r g1).bind fun ts g2 => .ok (t :: ts) g2 := Eq.trans rfl rfl
@[simp] theorem xDs_ap (f : List D → Option D) (a : XA) (c0 : Cl) (g0 : Ct) : xDs f a (c0 :: g0) = (a (c0 :: g0)).bind fun ts g1 => xOf (f (fzL ts)) g1 := Eq.trans rfl rfl
@[simp] theorem xCall_ap (n : Nat) (f : List D → R D) (dds : List D) (a : XA) (c0 : Cl) (g0 : Ct) : xCall n f dds a (c0 :: g0) = (a (c0 :: g0)).bind fun ts g1 => if (fzL ts ++ dds).length = n then (RG.of (f (fzL ts ++ dds)) g1).bind fun d h => .ok (.dat d) h else .bad := Eq.trans rfl rfl
@[simp] theorem xMt_ap (T : String) (f : D → List D → Option D) (o : XM) (a : XA) (c0 : Cl) (g0 : Ct) : xMt T f o a (c0 :: g0) = (o (c0 :: g0)).bind fun t g1 => if tyD (fz t) = T ∧ (T = "str" ∨ T = "list") then (a g1).bind fun ts g2 => xOf (f (fz t) (fzL ts)) g2 else .bad := Eq.trans rfl rfl
@[simp] theorem xAndV_ap (a b : XM) (c0 : Cl) (g0 : Ct) : xAndV a b (c0 :: g0) = (a (c0 :: g0)).bind fun t g1 => match fz t with
  | .bool true => b g1
  | .bool false => .ok (.dat (.bool false)) g1
  | _ => .bad := Eq.trans rfl rfl
@[simp] theorem xOrV_ap (a b : XM) (c0 : Cl) (g0 : Ct) : xOrV a b (c0 :: g0) = (a (c0 :: g0)).bind fun t g1 => match fz t with
  | .bool true => .ok (.dat (.bool true)) g1
  | .bool false => b g1
  | _ => .bad := Eq.trans rfl rfl
@[simp] theorem xNotV_ap (a : XM) (c0 : Cl) (g0 : Ct) : xNotV a (c0 :: g0) = (a (c0 :: g0)).bind fun t g1 => match fz t with
  | .bool c => .ok (.dat (.bool !c)) g1
  | _ => .bad := Eq.trans rfl rfl
@[simp] theorem xLs_ap (m : XA) (c0 : Cl) (g0 : Ct) : xLs m (c0 :: g0) = (m (c0 :: g0)).bind fun ts g1 => if ts.length ≤ most then .ok (.lst ts) g1 else .bad := Eq.trans rfl rfl
@[simp] theorem xListOf_ap (m : XM) (c0 : Cl) (g0 : Ct) : xListOf m (c0 :: g0) = (m (c0 :: g0)).bind fun t g1 => match fz t with
  | .list ds => .ok (.lst (ds.map T.dat)) g1
  | .tuple ds => .ok (.lst (ds.map T.dat)) g1
  | _ => .bad := Eq.trans rfl rfl
@[simp] theorem xMv_ap (i : Nat) (c0 : Cl) (g0 : Ct) : xMv i (c0 :: g0) = match (c0 :: g0)[i]? with
  | some (.t x) => .ok x ((kil i (c0 :: g0)).set i .un)
  | _ => .bad := Eq.trans rfl rfl
@[simp] theorem xN_ap (m : Vw → R (List D)) (c0 : Cl) (g0 : Ct) : xN m (c0 :: g0) = (RG.of (m (tvd (c0 :: g0))) (c0 :: g0)).bind fun ds h => .ok (.lst (ds.map T.dat)) h := Eq.trans rfl rfl
@[simp] theorem xiP_ap (m : Vw → R (List D)) (c0 : Cl) (g0 : Ct) : xiP m (c0 :: g0) = RG.of (m (tvd (c0 :: g0))) (c0 :: g0) := Eq.trans rfl rfl
@[simp] theorem xiRng_ap (f : List D → Option (List D)) (m : XA) (c0 : Cl) (g0 : Ct) : xiRng f m (c0 :: g0) = (m (c0 :: g0)).bind fun ts g1 => match f (fzL ts) with
  | some ds => .ok ds g1
  | none => .bad := Eq.trans rfl rfl
@[simp] theorem xiItems_ap (m : XM) (c0 : Cl) (g0 : Ct) : xiItems m (c0 :: g0) = (m (c0 :: g0)).bind fun t g1 => match fz t with
  | .list ds => .ok ds g1
  | .tuple ds => .ok ds g1
  | _ => .bad := Eq.trans rfl rfl
@[simp] theorem rNil_ap (c0 : Cl) (g0 : Ct) : rNil (c0 :: g0) = .ok [] (c0 :: g0) := Eq.trans rfl rfl
@[simp] theorem rVal_ap (a : XM) (r : XR) (c0 : Cl) (g0 : Ct) : rVal a r (c0 :: g0) = (a (c0 :: g0)).bind fun t g1 => (r g1).bind fun as g2 => .ok (.v t :: as) g2 := Eq.trans rfl rfl
@[simp] theorem rBor_ap (i : Nat) (r : XR) (c0 : Cl) (g0 : Ct) : rBor i r (c0 :: g0) = match nt (c0 :: g0) i with
  | some _ => (r (c0 :: g0)).bind fun as g2 => .ok (.b i :: as) g2
  | none => .bad := Eq.trans rfl rfl
@[simp] theorem usOf_nil (g : Ct) : usOf g [] = some [] := Eq.trans rfl rfl
@[simp] theorem usOf_v (g : Ct) (t : T) (as : List Ar) : usOf g (.v t :: as) = (usOf g as).map fun r => (false, t) :: r := Eq.trans rfl rfl
@[simp] theorem usOf_b (g : Ct) (i : Nat) (as : List Ar) : usOf g (.b i :: as) = match nt g i with
    | some x => (usOf g as).map fun r => (true, x) :: r
    | none => none := Eq.trans rfl rfl
@[simp] theorem brs_nil : brs [] = [] := Eq.trans rfl rfl
@[simp] theorem brs_v (t : T) (as : List Ar) : brs (.v t :: as) = brs as := Eq.trans rfl rfl
@[simp] theorem brs_b (i : Nat) (as : List Ar) : brs (.b i :: as) = i :: brs as := Eq.trans rfl rfl
@[simp] theorem backG_v (t : T) (as : List Ar) (c : Cl) (bs g : Ct) : backG (.v t :: as) (c :: bs) g = backG as bs g := by conv => lhs; unfold backG
@[simp] theorem backG_b (i : Nat) (as : List Ar) (x : T) (bs g : Ct) : backG (.b i :: as) (.t x :: bs) g = backG as bs (setT (kil i g) i x) := by rw [backG]
@[simp] theorem backG_nil (bs g : Ct) : backG [] bs g = some g := by unfold backG; rfl
@[simp] theorem xFn_ap (f : Us → RF) (n : Nat) (dds : List D) (r : XR) (c0 : Cl) (g0 : Ct) : xFn f n dds r (c0 :: g0) = (r (c0 :: g0)).bind fun as g1 => match usOf g1 as with
  | some us => if (us ++ dds.map fun d => (false, T.dat d)).length = n ∧ (brs as).Nodup then (match f (us ++ dds.map fun d => (false, T.dat d)) with
    | .ok t bs => (match backG as bs g1 with
      | some g2 => .ok t g2
      | none => .bad)
    | .exc c p bs => (match backG as bs g1 with
      | some g2 => .exc c p g2
      | none => .bad)
    | .bad => .bad) else .bad
  | none => .bad := Eq.trans rfl rfl
@[simp] theorem nt_0t (x : T) (g : Ct) : nt (.t x :: g) 0 = some x := Eq.trans rfl rfl
@[simp] theorem nt_0b (x : T) (g : Ct) : nt (.b x :: g) 0 = some x := Eq.trans rfl rfl
@[simp] theorem nt_s (c : Cl) (g : Ct) (i : Nat) : nt (c :: g) (i + 1) = nt g i := by unfold nt; rw [List.getElem?_cons_succ]
@[simp] theorem setT_0t (x y : T) (g : Ct) : setT (.t x :: g) 0 y = .t y :: g := Eq.trans rfl rfl
@[simp] theorem setT_0b (x y : T) (g : Ct) : setT (.b x :: g) 0 y = .b y :: g := Eq.trans rfl rfl
@[simp] theorem setT_s (c : Cl) (g : Ct) (i : Nat) (y : T) : setT (c :: g) (i + 1) y = c :: setT g i y := by
  unfold setT
  rw [List.getElem?_cons_succ]
  cases g[i]? with
  | none => rfl
  | some c' => rfl
@[simp] theorem tNop_ap (c0 : Cl) (g0 : Ct) : tNop (c0 :: g0) = .nx (c0 :: g0) := Eq.trans rfl rfl
@[simp] theorem tSeq_ap (a b : ST) (c0 : Cl) (g0 : Ct) : tSeq a b (c0 :: g0) = match a (c0 :: g0) with
  | .nx g' => b g'
  | o => o := Eq.trans rfl rfl
@[simp] theorem tIf_ap (t : XT) (a b : ST) (c0 : Cl) (g0 : Ct) : tIf t a b (c0 :: g0) = (t (c0 :: g0)).to fun k g1 => if k = true then a g1 else b g1 := Eq.trans rfl rfl
@[simp] theorem tRet_ap (m : XM) (c0 : Cl) (g0 : Ct) : tRet m (c0 :: g0) = (m (c0 :: g0)).to fun t g1 => .rt t g1 := Eq.trans rfl rfl
@[simp] theorem tRetN_ap (c0 : Cl) (g0 : Ct) : tRetN (c0 :: g0) = .rt (.dat .none) (c0 :: g0) := Eq.trans rfl rfl
@[simp] theorem tBreak_ap (c0 : Cl) (g0 : Ct) : tBreak (c0 :: g0) = .bk (c0 :: g0) := Eq.trans rfl rfl
@[simp] theorem tCont_ap (c0 : Cl) (g0 : Ct) : tCont (c0 :: g0) = .ct (c0 :: g0) := Eq.trans rfl rfl
@[simp] theorem tExpr_ap (m : XM) (c0 : Cl) (g0 : Ct) : tExpr m (c0 :: g0) = (m (c0 :: g0)).to fun _ g1 => .nx g1 := Eq.trans rfl rfl
@[simp] theorem putC_ap (i : Nat) (t : T) (c0 : Cl) (g0 : Ct) : putC i t (c0 :: g0) = if free1 (c0 :: g0) i = true then .nx ((kil i (c0 :: g0)).set i (.t t)) else .bad := Eq.trans rfl rfl
@[simp] theorem tSet_ap (i : Nat) (m : XM) (c0 : Cl) (g0 : Ct) : tSet i m (c0 :: g0) = (m (c0 :: g0)).to fun t g1 => putC i t g1 := Eq.trans rfl rfl
@[simp] theorem tSetD_ap (i : Nat) (m : XM) (c0 : Cl) (g0 : Ct) : tSetD i m (c0 :: g0) = (m (c0 :: g0)).to fun t g1 => putC i (.dat (fz t)) g1 := Eq.trans rfl rfl
@[simp] theorem tRaise_ap (c : Str) (c0 : Cl) (g0 : Ct) : tRaise c (c0 :: g0) = .ex c none (c0 :: g0) := Eq.trans rfl rfl
@[simp] theorem tFrz_ap (i : Nat) (m : ST) (c0 : Cl) (g0 : Ct) : tFrz i m (c0 :: g0) = match (c0 :: g0)[i]? with
  | some (.t x) => m ((kil i (c0 :: g0)).set i (.t (.dat (fz x))))
  | _ => m (c0 :: g0) := Eq.trans rfl rfl
@[simp] theorem uN_ap (i : Nat) (d : D) (c0 : Cl) (g0 : Ct) : uN i d (c0 :: g0) = if free1 (c0 :: g0) i = true then some ((kil i (c0 :: g0)).set i (.t (.dat d))) else none := Eq.trans rfl rfl
@[simp] theorem usNil_ap (c0 : Cl) (g0 : Ct) : usNil [] (c0 :: g0) = some (c0 :: g0) := Eq.trans rfl rfl
@[simp] theorem usCons_ap (t : TgT) (u : TgsT) (d : D) (r : List D) (c0 : Cl) (g0 : Ct) : usCons t u (d :: r) (c0 :: g0) = (t d (c0 :: g0)).bind (u r) := Eq.trans rfl rfl
@[simp] theorem uT_t (u : TgsT) (ds : List D) (g : Ct) : uT u (.tuple ds) g = u ds g := Eq.trans rfl rfl
@[simp] theorem uT_l (u : TgsT) (ds : List D) (g : Ct) : uT u (.list ds) g = u ds g := Eq.trans rfl rfl
@[simp] theorem tAsg_ap (t : TgT) (m : XM) (c0 : Cl) (g0 : Ct) : tAsg t m (c0 :: g0) = (m (c0 :: g0)).to fun x g1 => match t (fz x) g1 with
  | some g' => .nx g'
  | none => .bad := Eq.trans rfl rfl
@[simp] theorem tPar_ap (i j : Nat) (m : XA) (c0 : Cl) (g0 : Ct) : tPar i j m (c0 :: g0) = (m (c0 :: g0)).to fun ts g1 => match ts with
  | [x, y] => (match uN i (fz x) g1 with
    | some g2 => (match uN j (fz y) g2 with
      | some g3 => .nx g3
      | none => .bad)
    | none => .bad)
  | _ => .bad := Eq.trans rfl rfl
@[simp] theorem locS_0t (x : T) (g : Ct) : locS (.t x :: g) 0 = some (0, []) := Eq.trans rfl rfl
theorem locT_b {g : Ct} {j : Nat} {ts : List T} (h : g[j]? = some (.b (.lst ts))) : locT g j [] = some ts := by
  unfold locT locS
  rw [h]
  dsimp only
  unfold nt
  rw [h]
  rfl
theorem putL_b {g : Ct} {j : Nat} {ts us : List T} (h : g[j]? = some (.b (.lst ts))) : putL g j [] us = g.set j (.b (.lst us)) := by
  unfold putL locS nt setT
  rw [h]
  dsimp only
  rw [h]
  rfl
theorem tPut_ap (j : Nat) (mi m : XM) (g : Ct) : tPut j mi m g = (m g).to fun t g1 => match locT g1 j [] with
  | some _ => (mi g1).to fun i g2 => (match fz i with
    | .int i => (match locT g2 j [] with
      | some ts => (match ixN ts.length i with
        | some k => .nx (putL (kilk j k g2) j [] (ts.set k (.dat (fz t))))
        | none => .bad)
      | none => .bad)
    | _ => .bad)
  | none => .bad := Eq.trans rfl rfl
theorem runT_eq (n N : Nat) (m : ST) (us : Us) (h : us.length = n) : runT n N m us = match m (us.map cellOf ++ List.replicate (N - n) Cl.un) with
  | .nx g => (match bback us g with
    | some bs => .ok (.dat .none) bs
    | none => .bad)
  | .rt t g => (match bback us g with
    | some bs => .ok t bs
    | none => .bad)
  | .ex c p g => (match bback us g with
    | some bs => .exc c p bs
    | none => .bad)
  | _ => .bad := by
  unfold runT
  exact if_pos h
@[simp] theorem cellOf_t (x : T) : cellOf (false, x) = .t x := Eq.trans rfl rfl
@[simp] theorem cellOf_b (x : T) : cellOf (true, x) = .b x := Eq.trans rfl rfl
@[simp] theorem bback_nil (g : Ct) : bback [] g = some [] := by unfold bback; rfl
@[simp] theorem bback_f (x : T) (us : Us) (c : Cl) (g : Ct) : bback ((false, x) :: us) (c :: g) = (bback us g).map fun r => .un :: r := by cases c <;> rfl
@[simp] theorem bback_t (x y : T) (us : Us) (g : Ct) : bback ((true, x) :: us) (.b y :: g) = (bback us g).map fun r => .t y :: r := by rw [bback]
theorem runT_go (n N : Nat) (m : ST) (us : Us) (g : Ct) (h : us.length = n) (hg : us.map cellOf ++ List.replicate (N - n) Cl.un = g) : runT n N m us = match m g with
  | .nx g => (match bback us g with
    | some bs => .ok (.dat .none) bs
    | none => .bad)
  | .rt t g => (match bback us g with
    | some bs => .ok t bs
    | none => .bad)
  | .ex c p g => (match bback us g with
    | some bs => .exc c p bs
    | none => .bad)
  | _ => .bad := by
  rw [runT_eq n N m us h, hg]
def klk (j k : Nat) : Cl → Cl
  | .al a b => if a = j ∧ b = k then .un else .al a b
  | c => c
theorem kilk_cons (j k : Nat) (c : Cl) (g : Ct) : kilk j k (c :: g) = klk j k c :: kilk j k g := by
  cases c <;> rfl
@[simp] theorem klk_t (j k : Nat) (x : T) : klk j k (.t x) = .t x := Eq.trans rfl rfl
@[simp] theorem klk_b (j k : Nat) (x : T) : klk j k (.b x) = .b x := Eq.trans rfl rfl
@[simp] theorem klk_un (j k : Nat) : klk j k .un = .un := Eq.trans rfl rfl
@[simp] theorem klk_fr {c : Cl} (h : Fr c) (j k : Nat) : klk j k c = c := by
  rcases h with rfl | ⟨x, rfl⟩ <;> rfl
/-- a store into a lent list -/
theorem tPut_b {j k : Nat} {mi m : XM} {g g1 : Ct} {t : T} {i : Int} {ts : List T} (hm : m g = .ok t g1) (hl : g1[j]? = some (.b (.lst ts))) (hi : mi g1 = .ok (.dat (.int i)) g1) (hk : ixN ts.length i = some k) (hg : kilk j k g1 = g1) :
    tPut j mi m g = .nx (g1.set j (.b (.lst (ts.set k (.dat (fz t)))))) := by
  rw [tPut_ap, hm, RG.to_ok, locT_b hl]
  dsimp only
  rw [hi, RG.to_ok, fz_dat]
  dsimp only
  rw [locT_b hl]
  dsimp only
  rw [hk]
  dsimp only
  rw [hg, putL_b hl]
end MI
set_option Elab.async false
set_option linter.all false
set_option maxRecDepth 100000
set_option maxHeartbeats 4000000
namespace MI
open PySem PySem.Spec PyProof.Rows L2
section
end
section
end
def isV : D → Bool
  | .none => true
  | .bool _ => true
  | .int _ => true
  | .str _ => true
  | _ => false
def fIsB : D → D → Option D
  | .bool a, .bool b => some (.bool (decide (a = b)))
  | _, _ => none
def fNotB : D → D → Option D
  | .bool a, .bool b => some (.bool (!decide (a = b)))
  | _, _ => none
section
variable {X : Cx}
theorem o_isB : OpR X (compareOp .Is) (rD2 X.K fIsB) := opr_of fun x y H Q ⟨F, d1, d2, d, s, h1, h2, e, q⟩ => by
  unfold fIsB at e
  split at e
  · cases e
    cases dp_bl h1
    cases dp_bl h2
    exact ⟨_, op_isBl, _, _, rfl, rfl, q _ F H (Ext.refl s) (.bl _)⟩
  · cases e
theorem o_notB : OpR X (compareOp .IsNot) (rD2 X.K fNotB) := opr_of fun x y H Q ⟨F, d1, d2, d, s, h1, h2, e, q⟩ => by
  unfold fNotB at e
  split at e
  · cases e
    cases dp_bl h1
    cases dp_bl h2
    exact ⟨_, op_notBl, _, _, rfl, rfl, q _ F H (Ext.refl s) (.bl _)⟩
  · cases e
end
theorem bl_notB : ∀ x y d, fNotB x y = some d → ∃ z : Bool, d = .bool z := fun x y d e => by
  unfold fNotB at e
  split at e
  · cases e; exact ⟨_, rfl⟩
  · cases e
@[simp] theorem fIsB_b (a b : Bool) : fIsB (.bool a) (.bool b) = some (.bool (decide (a = b))) := Eq.trans rfl rfl
@[simp] theorem fNotB_b (a b : Bool) : fNotB (.bool a) (.bool b) = some (.bool (!decide (a = b))) := Eq.trans rfl rfl
end MI
set_option Elab.async false
set_option linter.all false
set_option maxRecDepth 100000
set_option maxHeartbeats 4000000
namespace MI
open PySem PySem.Spec PyProof.Rows L2
def strsD : List D → Option (List Str)
  | [] => some []
  | .str i :: ds => (strsD ds).map fun r => i :: r
  | _ => none
theorem dpa_strs {K : PySem.W.Frag} {F : Hp} : ∀ {ds : List D} {xs : List V} {ns : List Str}, DpAll K F xs ds → strsD ds = some ns → xs = ns.map V.str
  | [], _, ns, h, e => by
    cases e
    cases h
    rfl
  | .str i :: ds, _, ns, h, e => by
    cases h with
    | cons a b =>
      cases dp_str a
      unfold strsD at e
      cases q : strsD ds with
      | none => rw [q] at e; cases e
      | some r =>
        rw [q] at e
        cases e
        rw [dpa_strs b q]
        rfl
  | .int _ :: _, _, _, _, e => by cases e
  | .none :: _, _, _, _, e => by cases e
  | .bool _ :: _, _, _, _, e => by cases e
  | .list _ :: _, _, _, _, e => by cases e
  | .tuple _ :: _, _, _, _, e => by cases e
  | .dict _ :: _, _, _, _, e => by cases e
def joinD (a : Str) (ds : List D) : Option D := match strsD ds with
  | some ys => if (ys.map (·.length)).sum + ys.length * a.length ≤ most then some (.str (Txt.join a ys)) else none
  | none => none
def fJoin : D → List D → Option D
  | .str a, [.list ds] => joinD a ds
  | .str a, [.tuple ds] => joinD a ds
  | _, _ => none
theorem m_join {X : Cx} : MtR X "str.join" (rM X.K fJoin) := mtr_of fun x xs H Q ⟨F, d, ds, r, s, h1, h2, e, q⟩ => by
  unfold fJoin at e
  split at e
  · unfold joinD at e
    split at e
    · rename_i ys ey
      split at e
      · rename_i l
        cases e
        obtain ⟨v, rfl, hv⟩ := dpa1 h2
        cases dp_str h1
        cases hv with
        | lst a b =>
          have := dpa_strs b ey
          subst this
          exact ⟨_, mt_join, _, _, ys, rfl, rfl, .inl (s.seq a), l, q _ F H (Ext.refl s) (.str _)⟩
      · cases e
    · cases e
  · unfold joinD at e
    split at e
    · rename_i ys ey
      split at e
      · rename_i l
        cases e
        obtain ⟨v, rfl, hv⟩ := dpa1 h2
        cases dp_str h1
        cases hv with
        | tup a b =>
          have := dpa_strs b ey
          subst this
          exact ⟨_, mt_join, _, _, ys, rfl, rfl, .inr (same_t s a), l, q _ F H (Ext.refl s) (.str _)⟩
      · cases e
    · cases e
  · cases e
def maxI : Int → List Int → Int
  | a, [] => a
  | a, b :: r => maxI (if a < b then b else a) r
/-- a built-in function of one thing, with one keyword -/
def mDf (f : List D → List D → Option D) (a b : M) : M := fun δ => (a δ).bind fun x => (b δ).bind fun y => R.of (f [x] [y])
@[simp] theorem mDf_ap (f : List D → List D → Option D) (a b : M) (δ : Vw) : mDf f a b δ = (a δ).bind fun x => (b δ).bind fun y => R.of (f [x] [y]) := Eq.trans rfl rfl
def boolsD : List D → Option (List Bool)
  | [] => some []
  | .bool i :: ds => (boolsD ds).map fun r => i :: r
  | _ => none
theorem dpa_bools {K : PySem.W.Frag} {F : Hp} : ∀ {ds : List D} {xs : List V} {ns : List Bool}, DpAll K F xs ds → boolsD ds = some ns → xs = ns.map V.bl
  | [], _, ns, h, e => by
    cases e
    cases h
    rfl
  | .bool i :: ds, _, ns, h, e => by
    cases h with
    | cons a b =>
      cases dp_bl a
      unfold boolsD at e
      cases q : boolsD ds with
      | none => rw [q] at e; cases e
      | some r =>
        rw [q] at e
        cases e
        rw [dpa_bools b q]
        rfl
  | .int _ :: _, _, _, _, e => by cases e
  | .none :: _, _, _, _, e => by cases e
  | .str _ :: _, _, _, _, e => by cases e
  | .list _ :: _, _, _, _, e => by cases e
  | .tuple _ :: _, _, _, _, e => by cases e
  | .dict _ :: _, _, _, _, e => by cases e
theorem reads_bools {h : Heap} : ∀ {bs : List Bool} {its : List Value}, Vals (bs.map V.bl) its → ∃ as, ReadsAll h its (bs.map PyData.bool) as
  | [], _, r => by
    cases r
    exact ⟨_, .nil⟩
  | b :: bs, _, r => by
    cases r with
    | cons r1 rr =>
      cases r1
      obtain ⟨as, q⟩ := reads_bools rr
      exact ⟨_, .cons (.bool b) q⟩
theorem plain_bools : ∀ bs : List Bool, PyData.plainAll (bs.map PyData.bool) = true
  | [] => rfl
  | b :: bs => by
    show (true && _) = true
    exact plain_bools bs
theorem all_bools : ∀ bs : List Bool, (bs.map PyData.bool).all PyData.truthy = bs.all id
  | [] => rfl
  | b :: bs => by
    rw [List.map_cons, List.all_cons, List.all_cons, all_bools bs]
    rfl
def fAll : List D → Option D
  | [.list ds] => (boolsD ds).map fun bs => .bool (bs.all id)
  | _ => none
theorem c_all {X : Cx} (hc : X.calm = true) : CallR X (.builtin "all") (rDs X.K fAll) := by
  intro pins s σ H xs us Q I r ⟨F, ds, d, sF, h, e, q⟩
  unfold fAll at e
  split at e
  · rename_i ds
    cases eb : boolsD ds with
    | none => rw [eb] at e; cases e
    | some bs =>
      rw [eb] at e
      cases e
      obtain ⟨v, rfl, hv⟩ := dpa1 h
      cases hv with
      | lst a b =>
        have := dpa_bools b eb
        subst this
        obtain ⟨its, rv, hl, _⟩ := I.list (sF.seq a)
        obtain rfl := Vals.ref1 r
        obtain ⟨as, ra⟩ := reads_bools (h := s.heap) rv
        refine PySem.W.all_list_data (I.ok.hd hc) hl.isList ra (plain_bools bs) (fun x hx => ?_) fun h' tk hk => ?_
        · obtain ⟨b, _, rfl⟩ := List.mem_map.mp hx
          trivial
        · rw [all_bools]
          exact ⟨.bl _, H, I.kept hk, rfl, q _ F H (Ext.refl sF) (.bl _)⟩
  · cases e
theorem epost_ext {X : Cx} {W : WX} {F H F' H' : Hp} {σ : L2.St} {Q : VK} {r : R D} (h : EPost X W F H σ Q r) (E : Ext F H F' H') : EPost X W F' H' σ Q r := by
  cases r with
  | ok d => exact fun v F2 H2 e => h v F2 H2 (E.trans e)
  | exc c p => exact fun cls od F2 H2 e => h cls od F2 H2 (E.trans e)
  | bad => exact h
def mChain (f f' : D → D → Option D) (a b c : M) : M := fun δ => (a δ).bind fun x => (b δ).bind fun y => match f x y with
  | some (.bool true) => (c δ).bind fun z => R.of (f' y z)
  | some (.bool false) => .ok (.bool false)
  | _ => .bad
theorem chain_tM {X : Cx} {W : WX} {f f' : D → D → Option D} {ma mb mc : M} {σ : L2.St} {H : Hp} {Q : VK} (hh : tM X W (mChain f f' ma mb mc) σ H Q) : tChain (rD2 X.K f) (rD2 X.K f') (tM X W ma) (tM X W mb) (tM X W mc) σ H Q := by
  obtain ⟨F, δ, s, v, h⟩ := hh
  refine tM_bind s v h fun x1 v1 F1 H1 _ E hx h1 => ?_
  refine tM_bind E.s (v.mono E.f) h1 fun x2 v2 F2 H2 _ E2 hx2 h2 => ?_
  split at h2
  · rename_i e
    refine ⟨F2, x1, x2, .bool true, E2.s, dp_mono E2.f x1 hx, hx2, e, fun z F3 H3 E3 hz => ?_⟩
    refine ⟨true, dp_bl hz, ?_⟩
    rw [if_pos rfl]
    refine tM_bind E3.s (((v.mono E.f).mono E2.f).mono E3.f) (epost_ext (Q := Q) h2 E3) fun x3 v3 F4 H4 _ E4 hx3 h3 => ?_
    obtain ⟨r, e2, q⟩ := of_post h3
    exact ⟨F4, x2, x3, r, E4.s, dp_mono E4.f x2 (dp_mono E3.f x2 hx2), hx3, e2, q⟩
  · rename_i e
    refine ⟨F2, x1, x2, .bool false, E2.s, dp_mono E2.f x1 hx, hx2, e, fun z F3 H3 E3 hz => ?_⟩
    refine ⟨false, dp_bl hz, ?_⟩
    rw [if_neg Bool.false_ne_true]
    exact h2 _ F3 H3 E3 (.bl false)
  · exact h2.elim
theorem mt_chain {X : Cx} {W : WX} {op op' : CmpOp} {f f' : D → D → Option D} {pos : Pos} {a b c : Expr} {ma mb mc : M} (ho : OpR X (compareOp op) (rD2 X.K f)) (ho' : OpR X (compareOp op') (rD2 X.K f')) (hb' : ∀ x y d, f' x y = some d → ∃ z : Bool, d = .bool z) (ha : ME X W a ma) (hb : ME X W b mb) (hc : ME X W c mc)
    (hm : lastMarks [op, op'] [b, c] = false := by with_unfolding_all rfl) : MT X W (.Compare a [op, op'] [b, c] pos) (mTru (mChain f f' ma mb mc)) := by
  refine PT.imp (pt_chain ho ho' ha hb hc hm) fun σ H Q ⟨F, δ, s, v, h⟩ => ?_
  refine chain_tM ?_
  refine tM_bindB s v h fun d x F1 H1 e E hx h1 => ?_
  obtain ⟨k, e2, q⟩ := of_postB h1
  have : ∃ z : Bool, d = .bool z := by
    unfold mChain at e
    cases e3 : ma δ with
    | ok d1 =>
      rw [e3, R.bind_ok] at e
      cases e4 : mb δ with
      | ok d2 =>
        rw [e4, R.bind_ok] at e
        split at e
        · cases e5 : mc δ with
          | ok d3 =>
            rw [e5, R.bind_ok] at e
            cases e6 : f' d2 d3 with
            | none => rw [e6] at e; cases e
            | some z => rw [e6] at e; cases e; exact hb' _ _ _ e6
          | exc c p => rw [e5] at e; cases e
          | bad => rw [e5] at e; cases e
        · cases e; exact ⟨false, rfl⟩
        · cases e
      | exc c p => rw [e4] at e; cases e
      | bad => rw [e4] at e; cases e
    | exc c p => rw [e3] at e; cases e
    | bad => rw [e3] at e; cases e
  obtain ⟨b0, rfl⟩ := this
  cases dp_bl hx
  cases e2
  exact ⟨_, rfl, q F1 H1 (Ext.refl E.s)⟩
@[simp] theorem mChain_ap (f f' : D → D → Option D) (a b c : M) (δ : Vw) : mChain f f' a b c δ = (a δ).bind fun x => (b δ).bind fun y => match f x y with
  | some (.bool true) => (c δ).bind fun z => R.of (f' y z)
  | some (.bool false) => .ok (.bool false)
  | _ => .bad := Eq.trans rfl rfl
end MI
set_option Elab.async false
set_option linter.all false
set_option maxRecDepth 100000
set_option maxHeartbeats 4000000
namespace MI
open PySem PySem.Spec PyProof.Rows L2
theorem me_dict0 {X : Cx} {W : WX} {pos : Pos} : ME X W (.Dict [] [] pos) (mC (.dict [])) := by
  refine PE.imp pe_dnewK fun σ H Q ⟨F, δ, s, v, h⟩ p hp => ?_
  exact h (.ref p) _ _ (Ext.new s hp) (.dct0 upd_same)
def fRev : D → Option D
  | .list ds => some (.list ds.reverse)
  | _ => none
def isT2 (T U : String) (d : D) : Option Bool := match isT T d with
  | some true => some true
  | some false => isT U d
  | none => none
def mIsi2 (T U : String) (a : M) : M := fun δ => (a δ).bind fun d => R.of ((isT2 T U d).map .bool)
end MI
set_option Elab.async false
set_option linter.all false
set_option maxRecDepth 100000
set_option maxHeartbeats 4000000
namespace MI
open PySem PySem.Spec PyProof.Rows L2
def repD (n : Int) (ds : List D) : List D := (List.replicate n.toNat ds).flatten
def nRep (m : Vw → R (List D)) (b : M) : Vw → R (List D) := fun δ => (m δ).bind fun xs => if xs.length ≤ most then (b δ).bind fun y => (match y with
  | .int k => if -(2 ^ 63) ≤ k ∧ k < 2 ^ 63 ∧ xs.length * k.toNat ≤ most then .ok (repD k xs) else .bad
  | _ => .bad) else .bad
section
end
section
end
section
end
end MI
set_option Elab.async false
set_option linter.all false
set_option maxRecDepth 100000
set_option maxHeartbeats 4000000
namespace MI
open PySem PySem.Spec PyProof.Rows L2
section
end
def kidsT : Option T → Option (List T)
  | some (.lst ts) => some ts
  | some (.tup ts) => some ts
  | _ => none
@[simp] theorem kidsT_l (ts : List T) : kidsT (some (.lst ts)) = some ts := Eq.trans rfl rfl
@[simp] theorem kidsT_t (ts : List T) : kidsT (some (.tup ts)) = some ts := Eq.trans rfl rfl
section
end
def datsT : List T → Option (List D)
  | [] => some []
  | .dat d :: ts => (datsT ts).map fun r => d :: r
  | _ => none
@[simp] theorem datsT_map : ∀ ds : List D, datsT (ds.map T.dat) = some ds
  | [] => rfl
  | d :: ds => by
    show (datsT (ds.map T.dat)).map _ = _
    rw [datsT_map ds]
    rfl
section
open Classical
end
section
end
def nCat (a b : M) : Vw → R (List D) := fun δ => (a δ).bind fun x => (b δ).bind fun y => match x, y with
  | .list xs, .list ys => if xs.length + ys.length ≤ most then .ok (xs ++ ys) else .bad
  | _, _ => .bad
def nSl (m : M) (lo hi : Vw → R (Option Int)) : Vw → R (List D) := fun δ => (m δ).bind fun d => (lo δ).bind fun l => (hi δ).bind fun h => match d with
  | .list ds => .ok (cutD ds l h)
  | _ => .bad
section
end
/-- what was made is data from now on -/
def xFz (m : XM) : XM := fun g => (m g).bind fun t g1 => .ok (.dat (fz t)) g1
end MI
set_option Elab.async false
set_option linter.all false
set_option maxRecDepth 100000
set_option maxHeartbeats 4000000
namespace MI
open PySem PySem.Spec PyProof.Rows L2
theorem At.vaS {K : PySem.W.Frag} {V0 : Nat → Option V} {F0 H0 F H : Hp} {B : Addr → Prop} {ext : L2.St} {tmp : Ct} {σ : L2.St} {g : Ct} (a : At K V0 F0 H0 B ext tmp F H σ g) : ∃ F1, Same F1 H ∧ Same F F1 ∧ VwOk K F1 σ (tva g) ∧
    ∀ F' H', Ext F1 H F' H' → ∃ F2, At K V0 F0 H0 B ext tmp F2 H' σ g ∧ Same F F2 ∧ (∀ d v, Dp K F' v d → flat d = true → Dp K F2 v d) ∧ Same F2 F' ∧ Ext F H F2 H' ∧ (∀ b o, F' b = some o → (∀ xs, o ≠ .lst xs) → F2 b = some o) := by
  obtain ⟨F1, h1, h2, h3, h4⟩ := a.st.vaS
  refine ⟨F1, h1, h2, h3.pre (by unfold tva; rw [List.length_map, a.l]; exact Nat.le_refl _) (fun i d h => va_pre h) fun i h => (List.getElem?_append_left h).symm, fun F' H' E => ?_⟩
  obtain ⟨F2, q1, q2, q3, q4, q5, q6⟩ := h4 F' H' E
  exact ⟨F2, ⟨q1, a.l, a.tm⟩, q2, q3, q5, ⟨q2, E.h, q1.s, fun b o e n => E.n b o (q5 b o e) (q6 b o e n)⟩, q4⟩
end MI
set_option Elab.async false
set_option linter.all false
set_option maxRecDepth 100000
set_option maxHeartbeats 4000000
namespace MI
open PySem PySem.Spec PyProof.Rows L2
section
end
/-- (e, ..), with lists of one's own in it -/
def xTs (m : XA) : XM := fun g => (m g).bind fun ts g1 => if ts.length ≤ most then .ok (.tup ts) g1 else .bad
end MI
set_option Elab.async false
set_option linter.all false
set_option maxRecDepth 100000
set_option maxHeartbeats 4000000
namespace MI
open PySem PySem.Spec PyProof.Rows L2
end MI
set_option Elab.async false
set_option linter.all false
set_option maxRecDepth 100000
set_option maxHeartbeats 4000000
namespace MI
open PySem PySem.Spec PyProof.Rows L2
end MI
set_option Elab.async false
set_option linter.all false
set_option maxRecDepth 100000
set_option maxHeartbeats 4000000
namespace MI
open PySem PySem.Spec PyProof.Rows L2
def fMulS : D → D → Option D
  | .str x, .int n => if 0 ≤ n ∧ n ≤ 1000 ∧ x.length ≤ 1000 then some (.str (Txt.mul x n)) else none
  | x, y => fMul x y
section
variable {X : Cx}
theorem op_mulS : OpR X (binaryOp .Mult) (fun x y H Q => ∃ z n, x = .str z ∧ y = .int n ∧ (0 ≤ n ∧ n ≤ 1000 ∧ z.length ≤ 1000) ∧ Q (.str (Txt.mul z n)) H) := by
  intro pins s σ H x y v u Q I rx ry h
  obtain ⟨z, n, rfl, rfl, ⟨h1, h2, h3⟩, q⟩ := h
  obtain ⟨t, rfl⟩ := rx
  obtain ⟨t', rfl⟩ := ry
  refine PySem.SB.mul ⟨?_, fun a _ => ?_, fun a _ => ?_⟩ (fun t' tk => ⟨.str _, H, I.tok _, ⟨_, rfl⟩, q⟩)
  · have e : (2 : Int) ^ 63 = 9223372036854775808 := by decide
    simp [e]
    omega
  · have e : (2 : Int) ^ 63 = 9223372036854775808 := by decide
    rw [e]
    have : (9223372036854775808 - 1 : Int) / 1000 ≤ (9223372036854775808 - 1) / n := by
      refine Int.le_ediv_of_mul_le (by omega) ?_
      have : (9223372036854775808 - 1 : Int) / 1000 = 9223372036854775 := by decide
      rw [this]
      omega
    have e2 : (9223372036854775808 - 1 : Int) / 1000 = 9223372036854775 := by decide
    omega
  · obtain ⟨k, rfl⟩ := Int.eq_ofNat_of_zero_le h1
    have : z.length * k ≤ 1000 * 1000 := Nat.mul_le_mul h3 (by omega)
    show decide (z.length * ((k : Nat) : Int).toNat > sizeLine) = false
    rw [sizeLine_eq]
    simp
    omega
theorem o_mulS : OpR X (binaryOp .Mult) (rD2 X.K fMulS) := opr_of fun x y H Q ⟨F, d1, d2, d, s, h1, h2, e, q⟩ => by
  unfold fMulS at e
  split at e
  · split at e
    · rename_i l
      cases e
      cases dp_str h1
      cases dp_int h2
      exact ⟨_, op_mulS, _, _, rfl, rfl, l, q _ F H (Ext.refl s) (.str _)⟩
    · cases e
  · exact ⟨_, o_mul, F, d1, d2, d, s, h1, h2, e, q⟩
end
end MI
set_option Elab.async false
set_option linter.all false
set_option maxRecDepth 100000
set_option maxHeartbeats 4000000
namespace PySem
namespace W
open Sem (wp)
open PySem.Calls PyProof.Rows
end W
end PySem
namespace MI
open PySem PySem.Spec PyProof.Rows L2
/-- the class's name, the field, of data that stand for an exception -/
def clsD : D → Option Str
  | .dict [(.none, .str c), (.none, _)] => some c
  | _ => none
def fldD (f : Str) : D → Option D
  | .dict [(.none, .str c), (.none, .tuple [d])] => if xfield c = some f then some d else none
  | _ => none
@[simp] theorem clsD_x (c : Str) (p : Option D) : clsD (excD c p) = some c := Eq.trans rfl rfl
@[simp] theorem fldD_x (f c : Str) (d : D) : fldD f (excD c (some d)) = if xfield c = some f then some d else none := Eq.trans rfl rfl
section
end
end MI
set_option Elab.async false
set_option linter.all false
set_option maxRecDepth 100000
set_option maxHeartbeats 4000000
namespace MI
open PySem PySem.Spec PyProof.Rows L2
end MI
set_option Elab.async false
set_option linter.all false
set_option maxRecDepth 100000
set_option maxHeartbeats 4000000
namespace MI
open PySem PySem.Spec PyProof.Rows L2
end MI
set_option Elab.async false
set_option linter.all false
set_option maxRecDepth 100000
set_option maxHeartbeats 4000000
namespace MI
open PySem PySem.Spec PyProof.Rows L2 PySem.SeqAt
section
variable {X : Cx} {pins : List (Addr × Obj)} {σ : L2.St} {H : Hp} {s : Shared}
theorem all_tt (n : Nat) : ((List.range n).all fun _ => true) = true := List.all_eq_true.mpr fun _ _ => rfl
end
section
end
def isSD : D → Bool
  | .str _ => true
  | _ => false
def hasS (a : Str) : List D → Bool
  | [] => false
  | .str b :: r => decide (b = a) || hasS a r
  | _ :: r => hasS a r
def fInT (neg : Bool) (d e : D) : Option D := match d, e with
  | .str a, .tuple ds => if ds.all isSD = true then some (.bool (if neg = true then !hasS a ds else hasS a ds)) else none
  | d, e => fIn neg d e
theorem inT_ok {K : PySem.W.Frag} {F : Hp} {a : Str} : ∀ {xs : List V} {ds : List D}, DpAll K F xs ds → ds.all isSD = true → xs.all flatV = true ∧ inV (.str a) xs = hasS a ds
  | _, _, .nil, _ => ⟨rfl, rfl⟩
  | _, _, .cons (d := d) h1 h2, q => by
    rw [List.all_cons, Bool.and_eq_true] at q
    obtain ⟨e1, e2⟩ := inT_ok (a := a) h2 q.2
    cases h1 with
    | str z =>
      refine ⟨by rw [List.all_cons, e1]; rfl, ?_⟩
      show (eqV (.str z) (.str a) || inV (.str a) _) = (decide (z = a) || hasS a _)
      rw [e2]
      rfl
    | _ => cases q.1
section
variable {X : Cx}
theorem o_inT (hu : X.A.units + 65 < cLine) : OpR X (compareOp .In) (rD2 X.K (fInT false)) := by
  intro pins s σ H x y v u Q I rx ry h
  obtain ⟨F, d1, d2, d, sm, h1, h2, e, q⟩ := h
  unfold fInT at e
  split at e
  · split at e
    · rename_i l
      cases e
      cases dp_str h1
      cases h2 with
      | tup sa ha =>
        obtain ⟨e1, e2⟩ := inT_ok ha l
        exact op_in_seq pins s σ H _ _ v u Q I rx ry ⟨_, _, rfl, .inr (same_t sm sa), rfl, e1, by rw [e2]; exact q _ F H (Ext.refl sm) (.bl _)⟩
    · cases e
  · exact o_in hu pins s σ H x y v u Q I rx ry ⟨F, _, _, d, sm, h1, h2, e, q⟩
end
end MI
set_option Elab.async false
set_option linter.all false
set_option maxRecDepth 100000
set_option maxHeartbeats 4000000
namespace MI
open PySem PySem.Spec PyProof.Rows L2
section
end
end MI
set_option Elab.async false
set_option linter.all false
set_option maxRecDepth 100000
set_option maxHeartbeats 4000000
namespace MI
open PySem PySem.Spec PyProof.Rows L2
def fAddT : D → D → Option D
  | .tuple a, .tuple b => if a.length + b.length ≤ most then some (.tuple (a ++ b)) else none
  | x, y => fAddL x y
theorem o_addT {X : Cx} : OpR X (binaryOp .Add) (rD2 X.K fAddT) := opr_of fun x y H Q ⟨F, d1, d2, d, s, h1, h2, e, q⟩ => by
  unfold fAddT at e
  split at e
  · split at e
    · rename_i l
      cases e
      cases h1 with
      | tup a b =>
        cases h2 with
        | tup a2 b2 =>
          refine ⟨_, op_catA, _, _, _, _, rfl, rfl, same_t s a, same_t s a2, by rw [dpa_len b, dpa_len b2]; exact most_le l, fun z => ?_, fun _ z => ?_, fun _ _ p hp => q _ _ _ (Ext.new s hp) (.tup (SqT.of upd_same) (dpa_mono (Ext.new (o := .tup _) s hp).f _ (dpa_append b b2)))⟩
          · subst z
            cases b
            exact q _ F H (Ext.refl s) (.tup a2 b2)
          · subst z
            cases b2
            rw [List.append_nil] at q
            exact q _ F H (Ext.refl s) (.tup a b)
    · cases e
  · exact ⟨_, o_addL, F, d1, d2, d, s, h1, h2, e, q⟩
theorem add_tt {a b : List D} (h : a.length + b.length ≤ 1000) : fAddT (.tuple a) (.tuple b) = some (.tuple (a ++ b)) := if_pos (by show a.length + b.length ≤ 16777216; omega)
end MI
set_option Elab.async false
set_option linter.all false
set_option maxRecDepth 100000
set_option maxHeartbeats 4000000
namespace MI
open PySem PySem.Spec PyProof.Rows L2
abbrev RoomH := L2H.RoomH
/-- a def's promise, whatever is handled -/
structure FnN (P : Program) (w : World) (K : PySem.W.Frag) (mg : Str → Option Value) (base : Heap) (CX : CXT) (k : Nat) (f : Addr) (fd : FuncData) (ps : List Str) (sp : Sp) : Prop where
  len : ∀ vs H Q E, sp vs H Q E → vs.length = ps.length
  run : ∀ (A : Around) (outer : List Env) (s : Shared) (H : Hp) (args : Args) (us : List Value) (vs : List V) (Q : VK) (E : XK), RoomH k A → Env0 P w K mg base A outer s H → BindsTo s fd args (ps.zip us) → Vals vs us → sp vs H Q E →
    codeAny (model P w) A (.call (.ref f) args) (CR CX outer P w H s Q E) s
theorem FnN.ok {P : Program} {w : World} {K : PySem.W.Frag} {mg : Str → Option Value} {base : Heap} {CX : CXT} {k : Nat} {f : Addr} {fd : FuncData} {ps : List Str} {sp : Sp} (F : FnN P w K mg base CX k f fd ps sp) : FnOk P w K mg base CX k f fd ps sp :=
  ⟨F.len, fun A outer s H args us vs Q E hr => F.run A outer s H args us vs Q E (L2H.roomH_of hr)⟩
structure DefOkN (P : Program) (w : World) (K : PySem.W.Frag) (mg : Str → Option Value) (base : Heap) (k : Nat) (x : Str) (n : Nat) (f : List D → R D) (dds : List (List D)) : Prop where
  gl : mg x = some (.ref (He.ga K x))
  ex : ∃ (fd : FuncData) (ps : List Str), PySem.W.keepIn K (.ref (He.ga K x)) = true ∧ FnN P w K mg base (L2.CX P w) k (He.ga K x) fd ps (spD K mg n f) ∧ ∀ dd ∈ dds, ∃ (dvs : List V) (ds : List Value), Vals dvs ds ∧ (∀ F, DpAll K F dvs dd) ∧ Binds K fd ps ds
theorem DefOkN.ok {P : Program} {w : World} {K : PySem.W.Frag} {mg : Str → Option Value} {base : Heap} {k n : Nat} {x : Str} {f : List D → R D} {dds : List (List D)} (G : DefOkN P w K mg base k x n f dds) : DefOk P w K mg base k x n f dds := by
  obtain ⟨fd, ps, kp, F, b⟩ := G.ex
  exact ⟨G.gl, fd, ps, kp, F.ok, b⟩
end MI
set_option Elab.async false
set_option linter.all false
set_option maxRecDepth 100000
set_option maxHeartbeats 4000000
namespace MI
open PySem PySem.Spec PyProof.Rows L2
section
end
@[simp] theorem isV_none : isV PyData.none = true := Eq.trans rfl rfl
@[simp] theorem isV_int (i : Int) : isV (PyData.int i) = true := Eq.trans rfl rfl
@[simp] theorem isV_str (z : Str) : isV (PyData.str z) = true := Eq.trans rfl rfl
end MI
set_option Elab.async false
set_option linter.all false
set_option maxRecDepth 100000
set_option maxHeartbeats 4000000
namespace MI
open PySem PySem.Spec PyProof.Rows L2
def lookD (z : Str) : List (D × D) → Option D
  | [] => none
  | (.str y, d) :: r => if y = z then some d else lookD z r
  | _ :: r => none
def fDix : D → D → Option D
  | .dict ((.str k, d) :: r), .str z => lookD z ((.str k, d) :: r)
  | _, _ => none
section
variable {X : Cx} {W : WX} {pos : Pos} {a b : Expr} {ma mb : M}
def mPairs : List (M × M) → Vw → R (List (D × D))
  | [], _ => .ok []
  | (k, v) :: r, δ => (k δ).bind fun a => (v δ).bind fun b => (mPairs r δ).bind fun q => .ok ((a, b) :: q)
inductive PD (K : PySem.W.Frag) (F : Hp) : List (V × V) → List (D × D) → Prop
  | nil : PD K F [] []
  | cons {x y : V} {d e : D} {ps : List (V × V)} {q : List (D × D)} : Dp K F x d → Dp K F y e → PD K F ps q → PD K F ((x, y) :: ps) ((d, e) :: q)
def keysD : List (D × D) → Option (List Str)
  | [] => some []
  | (.str k, _) :: r => (keysD r).map (k :: ·)
  | _ :: _ => none
def fDisp (ps : List (D × D)) : Option D := match keysD ps with
  | some (k :: ks) => if (k :: ks).Nodup ∧ ps.length ≤ 15 then some (.dict ps) else none
  | _ => none
def mDisp (ms : List (M × M)) : M := fun δ => (mPairs ms δ).bind fun ps => R.of (fDisp ps)
end
@[simp] theorem fDix_d (k z : Str) (d : D) (r : List (D × D)) : fDix (.dict ((.str k, d) :: r)) (.str z) = if k = z then some d else lookD z r := Eq.trans rfl rfl
@[simp] theorem lookD_c (k z : Str) (d : D) (r : List (D × D)) : lookD z ((.str k, d) :: r) = if k = z then some d else lookD z r := Eq.trans rfl rfl
@[simp] theorem lookD_n (z : Str) : lookD z [] = none := Eq.trans rfl rfl
@[simp] theorem mPairs_n (δ : Vw) : mPairs [] δ = .ok [] := Eq.trans rfl rfl
@[simp] theorem mPairs_c (k v : M) (r : List (M × M)) (δ : Vw) : mPairs ((k, v) :: r) δ = (k δ).bind fun a => (v δ).bind fun b => (mPairs r δ).bind fun q => .ok ((a, b) :: q) := Eq.trans rfl rfl
@[simp] theorem mDisp_ap (ms : List (M × M)) (δ : Vw) : mDisp ms δ = (mPairs ms δ).bind fun ps => R.of (fDisp ps) := Eq.trans rfl rfl
end MI
set_option Elab.async false
set_option linter.all false
set_option maxRecDepth 100000
set_option maxHeartbeats 4000000
namespace MI
open PySem PySem.Spec PyProof.Rows L2
section
end
end MI
noncomputable section
set_option Elab.async false
set_option linter.all false
set_option maxRecDepth 100000
set_option maxHeartbeats 4000000
namespace Pg
open PySem MI
def s_p_is_whole (fu : Nat) : S := sRet (mAndV (mIsi "int" (mVar 0)) (mNotV (mIsi "bool" (mVar 0))))
def f_p_is_whole (fu : Nat) : List MI.D → R MI.D := run 1 1 (s_p_is_whole fu)
def b_p_divisor_1 (fu : Nat) : S := sPar 0 1 (mCons (mVar 1) (mCons (mBin fMod (mVar 0) (mVar 1)) (mNil)))
def s_p_divisor (fu : Nat) : S := sSeq (loopW (mTru (mBin fNe (mVar 1) (mC (.int 0)))) (b_p_divisor_1 fu) fu) (sRet (mDs fAbs (mCons (mVar 0) (mNil))))
def f_p_divisor (fu : Nat) : List MI.D → R MI.D := run 2 2 (s_p_divisor fu)
def s_p_lowest (fu : Nat) : S := sSeq (sSet 2 (mCall 2 (Pg.f_p_divisor fu) [] (mCons (mVar 0) (mCons (mVar 1) (mNil))))) (sSeq (sIf (mTru (mBin fLt (mVar 1) (mC (.int 0)))) (sSet 2 (mBin fSub (mC (.int 0)) (mVar 2))) (sNop)) (sRet (mDs dTup (mCons (mBin fFdv (mVar 0) (mVar 2)) (mCons (mBin fFdv (mVar 1) (mVar 2)) (mNil))))))
def f_p_lowest (fu : Nat) : List MI.D → R MI.D := run 2 3 (s_p_lowest fu)
def s_p_number (fu : Nat) : S := sSeq (sIf (mOrT (mNot (mTru (mCall 1 (Pg.f_p_is_whole fu) [] (mCons (mVar 0) (mNil))))) (mOrT (mNot (mTru (mCall 1 (Pg.f_p_is_whole fu) [] (mCons (mVar 1) (mNil))))) (mTru (mBin fEq (mVar 1) (mC (.int 0)))))) (sRaise "NoNumber") (sNop)) (sRet (mCall 2 (Pg.f_p_lowest fu) [] (mCons (mVar 0) (mCons (mVar 1) (mNil)))))
def f_p_number (fu : Nat) : List MI.D → R MI.D := run 2 2 (s_p_number fu)
def s_law_cell_at (fu : Nat) : S := sSeq (sIf (mTru (mBin fLt (mVar 1) (mDs fLen (mCons (mVar 0) (mNil))))) (sRet (mBin fIx (mVar 0) (mVar 1))) (sNop)) (sRet (mC (.int 0)))
def f_law_cell_at (fu : Nat) : List MI.D → R MI.D := run 2 2 (s_law_cell_at fu)
def s_p_plus (fu : Nat) : S := sRet (mCall 2 (Pg.f_p_lowest fu) [] (mCons (mBin fAddL (mBin fMul (mBin fIx (mVar 0) (mC (.int 0))) (mBin fIx (mVar 1) (mC (.int 1)))) (mBin fMul (mBin fIx (mVar 1) (mC (.int 0))) (mBin fIx (mVar 0) (mC (.int 1))))) (mCons (mBin fMul (mBin fIx (mVar 0) (mC (.int 1))) (mBin fIx (mVar 1) (mC (.int 1)))) (mNil))))
def f_p_plus (fu : Nat) : List MI.D → R MI.D := run 2 2 (s_p_plus fu)
def s_p_times (fu : Nat) : S := sRet (mCall 2 (Pg.f_p_lowest fu) [] (mCons (mBin fMul (mBin fIx (mVar 0) (mC (.int 0))) (mBin fIx (mVar 1) (mC (.int 0)))) (mCons (mBin fMul (mBin fIx (mVar 0) (mC (.int 1))) (mBin fIx (mVar 1) (mC (.int 1)))) (mNil))))
def f_p_times (fu : Nat) : List MI.D → R MI.D := run 2 2 (s_p_times fu)
def s_p_under (fu : Nat) : S := sRet (mBin fLt (mBin fMul (mBin fIx (mVar 0) (mC (.int 0))) (mBin fIx (mVar 1) (mC (.int 1)))) (mBin fMul (mBin fIx (mVar 1) (mC (.int 0))) (mBin fIx (mVar 0) (mC (.int 1)))))
def f_p_under (fu : Nat) : List MI.D → R MI.D := run 2 2 (s_p_under fu)
def s_law_made (fu : Nat) : S := sSeq (sIf (mOrT (mNot (mTru (mIsi "tuple" (mVar 0)))) (mTru (mBin fNe (mDs fLen (mCons (mVar 0) (mNil))) (mC (.int 2))))) (sRet (mC (.bool false))) (sNop)) (sSeq (sIf (mOrT (mNot (mTru (mCall 1 (Pg.f_p_is_whole fu) [] (mCons (mBin fIx (mVar 0) (mC (.int 0))) (mNil))))) (mOrT (mNot (mTru (mCall 1 (Pg.f_p_is_whole fu) [] (mCons (mBin fIx (mVar 0) (mC (.int 1))) (mNil))))) (mTru (mBin fLt (mBin fIx (mVar 0) (mC (.int 1))) (mC (.int 1)))))) (sRet (mC (.bool false))) (sNop)) (sRet (mAndV (mBin fEq (mCall 2 (Pg.f_p_divisor fu) [] (mCons (mBin fIx (mVar 0) (mC (.int 0))) (mCons (mBin fIx (mVar 0) (mC (.int 1))) (mNil)))) (mC (.int 1))) (mBin fEq (mBin fMul (mBin fIx (mVar 0) (mC (.int 0))) (mVar 2)) (mBin fMul (mVar 1) (mBin fIx (mVar 0) (mC (.int 1))))))))
def f_law_made (fu : Nat) : List MI.D → R MI.D := run 3 3 (s_law_made fu)
def s_p_stretch_on (fu : Nat) : S := sSeq (sSet 2 (mBin fIx (mVar 0) (mC (.int 1)))) (sSeq (sSet 3 (mMt "list" fIndex (mVar 2) (mCons (mVar 1) (mNil)))) (sRet (mDs dTup (mCons (mCall 2 (Pg.f_p_lowest fu) [] (mCons (mBin fMul (mVar 3) (mBin fIx (mVar 0) (mC (.int 2)))) (mCons (mDs fLen (mCons (mVar 2) (mNil))) (mNil)))) (mCons (mCall 2 (Pg.f_p_lowest fu) [] (mCons (mBin fMul (mBin fAddL (mVar 3) (mC (.int 1))) (mBin fIx (mVar 0) (mC (.int 2)))) (mCons (mDs fLen (mCons (mVar 2) (mNil))) (mNil)))) (mNil))))))
def f_p_stretch_on (fu : Nat) : List MI.D → R MI.D := run 2 4 (s_p_stretch_on fu)
def s_p_amid (fu : Nat) : S := sRet (mCall 2 (Pg.f_p_times fu) [] (mCons (mCall 2 (Pg.f_p_plus fu) [] (mCons (mBin fIx (mVar 0) (mC (.int 0))) (mCons (mBin fIx (mVar 0) (mC (.int 1))) (mNil)))) (mCons (mDs dTup (mCons (mC (.int 1)) (mCons (mC (.int 2)) (mNil)))) (mNil))))
def f_p_amid (fu : Nat) : List MI.D → R MI.D := run 1 1 (s_p_amid fu)
def s_p_along_order (fu : Nat) : S := sSeq (sIf (mTru (mBin (fIn true) (mVar 1) (mBin fIx (mVar 0) (mC (.int 1))))) (sRet (mC (.str "unknown"))) (sNop)) (sRet (mCall 1 (Pg.f_p_amid fu) [] (mCons (mCall 2 (Pg.f_p_stretch_on fu) [] (mCons (mVar 0) (mCons (mVar 1) (mNil)))) (mNil))))
def f_p_along_order (fu : Nat) : List MI.D → R MI.D := run 2 2 (s_p_along_order fu)
def s_law_lowest (fu : Nat) : S := sSeq (sSet 2 (mCall 2 (Pg.f_p_divisor fu) [] (mCons (mVar 0) (mCons (mVar 1) (mNil))))) (sRet (mDs dTup (mCons (mBin fFdv (mVar 0) (mVar 2)) (mCons (mBin fFdv (mVar 1) (mVar 2)) (mNil)))))
def f_law_lowest (fu : Nat) : List MI.D → R MI.D := run 2 3 (s_law_lowest fu)
def b_law_ends_1 (fu : Nat) : S := sSeq (sSet 5 (mCall 2 (Pg.f_law_cell_at fu) [] (mCons (mVar 0) (mCons (mBin fAddL (mC (.int 2)) (mVar 4)) (mNil))))) (sSeq (sSet 6 (mBin fAddL (mC (.int 1)) (mBin fMod (mVar 5) (mC (.int 60))))) (sSeq (sIf (mTru (mBin fGe (mVar 5) (mBin fPow (mC (.int 10)) (mC (.int 18))))) (sSet 6 (mBin fAddL (mC (.int 1)) (mBin fMod (mVar 5) (mBin fPow (mC (.int 10)) (mC (.int 29)))))) (sNop)) (sAppF 3 (mBin fAddL (mBin fIx (mVar 3) (mUn fNeg (mC (.int 1)))) (mVar 6)))))
def s_law_ends (fu : Nat) : S := sSeq (sSet 2 (mBin fMod (mBin fFdv (mCall 2 (Pg.f_law_cell_at fu) [] (mCons (mVar 0) (mCons (mC (.int 1)) (mNil)))) (mC (.int 2))) (mBin fPow (mC (.int 10)) (mC (.int 24))))) (sSeq (sIf (mTru (mBin fEq (mBin fMod (mCall 2 (Pg.f_law_cell_at fu) [] (mCons (mVar 0) (mCons (mC (.int 1)) (mNil)))) (mC (.int 2))) (mC (.int 1)))) (sSet 2 (mBin fSub (mC (.int 0)) (mVar 2))) (sNop)) (sSeq (sOwn 3 (nLst (mCons (mVar 2) (mNil)))) (sSeq (sFor (mRng rng1 (mCons (mVar 1) (mNil))) (gN 4) (b_law_ends_1 fu)) (sFz (sRet (mVar 3))))))
def f_law_ends (fu : Nat) : List MI.D → R MI.D := run 2 7 (s_law_ends fu)
def s_sr_source (fu : Nat) : ST := tSeq (tSet 2 (xP (mCall 2 (Pg.f_law_cell_at fu) [] (mCons (mVar 0) (mCons (mVar 1) (mNil)))))) (tSeq (tSet 3 (xP (mBin fMod (mBin fMul (mBin fAddL (mBin fAddL (mBin fMod (mVar 2) (mC (.int 2147483647))) (mBin fMul (mC (.int 104729)) (mVar 1))) (mC (.int 7))) (mC (.int 48271))) (mC (.int 2147483629))))) (tRet (xLs (xCons (xP (mBin fMul (mVar 2) (mDs fIntT (mCons (mBin fGe (mVar 2) (mBin fPow (mC (.int 10)) (mC (.int 18)))) (mNil))))) (xCons (xP (mBin fMod (mBin fMul (mVar 3) (mVar 3)) (mC (.int 2147483587)))) (xNil))))))
def f_sr_source (fu : Nat) : Us → RF := runT 2 4 (s_sr_source fu)
def s_sr_draw (fu : Nat) : ST := tSeq (tIf (xTP (mTru (mBin fGt (mBin fIx (mVar 0) (mC (.int 0))) (mC (.int 0))))) (tSeq (tSet 2 (xV (mBin fMod (mBin fIx (mVar 0) (mC (.int 0))) (mVar 1)))) (tSeq (tPut 0 (xP (mC (.int 0))) (xV (mBin fFdv (mBin fIx (mVar 0) (mC (.int 0))) (mVar 1)))) (tRet (xP (mVar 2))))) (tNop)) (tSeq (tPut 0 (xP (mC (.int 1))) (xV (mBin fMod (mBin fAddL (mBin fMul (mBin fIx (mVar 0) (mC (.int 1))) (mC (.int 48271))) (mC (.int 11))) (mC (.int 2147483647))))) (tRet (xV (mBin fMod (mBin fFdv (mBin fMod (mBin fMul (mBin fIx (mVar 0) (mC (.int 1))) (mBin fIx (mVar 0) (mC (.int 1)))) (mC (.int 2147483629))) (mC (.int 64))) (mVar 1)))))
def f_sr_draw (fu : Nat) : Us → RF := runT 2 3 (s_sr_draw fu)
def b_sr_great_1 (fu : Nat) : ST := tSetD 2 (xBin fAddL (xP (mBin fMul (mVar 2) (mC (.int 1000003)))) (xFn (Pg.f_sr_draw fu) 2 [] (rBor 0 (rVal (xP (mC (.int 1000003))) (rNil)))))
def s_sr_great (fu : Nat) : ST := tSeq (tSet 2 (xP (mC (.int 0)))) (tSeq (tFor (xiP (mRng rng1 (mCons (mC (.int 4)) (mNil)))) (uN 3) (b_sr_great_1 fu)) (tRet (xP (mBin fMod (mVar 2) (mVar 1)))))
def f_sr_great (fu : Nat) : Us → RF := runT 2 4 (s_sr_great fu)
def b_sr_low_1 (fu : Nat) : S := sPar 2 3 (mCons (mVar 3) (mCons (mBin fMod (mVar 2) (mVar 3)) (mNil)))
def s_sr_low (fu : Nat) : S := sSeq (sSet 2 (mDs fAbs (mCons (mVar 0) (mNil)))) (sSeq (sSet 3 (mVar 1)) (sSeq (loopW (mTru (mBin fGt (mVar 3) (mC (.int 0)))) (b_sr_low_1 fu) fu) (sRet (mDs dTup (mCons (mBin fFdv (mVar 0) (mVar 2)) (mCons (mBin fFdv (mVar 1) (mVar 2)) (mNil)))))))
def f_sr_low (fu : Nat) : List MI.D → R MI.D := run 2 4 (s_sr_low fu)
def s_bx_draw (fu : Nat) : ST := tSeq (tAl 2 0 0) (tSeq (tIf (xTP (mTru (mBin fEq (mDs fLen (mCons (mVar 2) (mNil))) (mC (.int 0))))) (tApp 2 (xP (mC (.int 0)))) (tNop)) (tSeq (tSet 3 (xV (mBin fMod (mBin fIx (mVar 0) (mC (.int 1))) (mDs fLen (mCons (mVar 2) (mNil)))))) (tSeq (tSetD 4 (xItem 2 (xP (mVar 3)))) (tSeq (tPut 0 (xP (mC (.int 2))) (xV (mBin fAddL (mBin fIx (mVar 0) (mC (.int 2))) (mC (.int 1))))) (tSeq (tIf (xTP (mTru (mBin fGe (mVar 4) (mBin fPow (mC (.int 10)) (mC (.int 18)))))) (tSeq (tPut 2 (xP (mVar 3)) (xP (mBin fFdv (mVar 4) (mVar 1)))) (tRet (xP (mBin fMod (mVar 4) (mVar 1))))) (tNop)) (tSeq (tPut 0 (xP (mC (.int 1))) (xP (mBin fAddL (mVar 3) (mC (.int 1))))) (tSeq (tSet 5 (xV (mBin fMod (mBin fAddL (mVar 4) (mBin fMul (mBin fMul (mC (.int 48271)) (mBin fIx (mVar 0) (mC (.int 2)))) (mBin fIx (mVar 0) (mC (.int 2))))) (mC (.int 2147483647))))) (tSeq (tSet 5 (xP (mBin fMod (mBin fMul (mVar 5) (mVar 5)) (mC (.int 2147483647))))) (tSeq (tSet 5 (xV (mBin fMod (mBin fMul (mBin fAddL (mVar 5) (mBin fMul (mC (.int 69621)) (mBin fIx (mVar 0) (mC (.int 2))))) (mVar 5)) (mC (.int 2147483629))))) (tRet (xP (mBin fMod (mBin fFdv (mVar 5) (mC (.int 64))) (mVar 1)))))))))))))
def f_bx_draw (fu : Nat) : Us → RF := runT 2 6 (s_bx_draw fu)
def b_bx_low_1 (fu : Nat) : S := sPar 2 3 (mCons (mVar 3) (mCons (mBin fMod (mVar 2) (mVar 3)) (mNil)))
def s_bx_low (fu : Nat) : S := sSeq (sSet 2 (mDs fAbs (mCons (mVar 0) (mNil)))) (sSeq (sSet 3 (mVar 1)) (sSeq (loopW (mTru (mBin fNe (mVar 3) (mC (.int 0)))) (b_bx_low_1 fu) fu) (sRet (mDs dTup (mCons (mBin fFdv (mVar 0) (mVar 2)) (mCons (mBin fFdv (mVar 1) (mVar 2)) (mNil)))))))
def f_bx_low (fu : Nat) : List MI.D → R MI.D := run 2 4 (s_bx_low fu)
def s_dw_number (fu : Nat) : S := sSeq (sSet 1 (mBin fIx (mDs dLst (mCons (mBin fMod (mBin fIx (mVar 0) (mC (.int 2))) (mC (.int 10))) (mCons (mBin fMod (mBin fIx (mVar 0) (mC (.int 2))) (mC (.int 1000))) (mCons (mBin fIx (mVar 0) (mC (.int 2))) (mCons (mBin fAddL (mBin fMul (mBin fIx (mVar 0) (mC (.int 2))) (mBin fPow (mC (.int 10)) (mC (.int 9)))) (mBin fIx (mVar 0) (mC (.int 3)))) (mNil)))))) (mBin fIx (mVar 0) (mC (.int 1))))) (sSeq (sSet 2 (mBin fIx (mDs dLst (mCons (mBin fAddL (mBin fIx (mVar 0) (mC (.int 4))) (mC (.int 1))) (mCons (mC (.int 1)) (mNil)))) (mDs fIntT (mCons (mBin fGe (mBin fIx (mVar 0) (mC (.int 4))) (mC (.int 60))) (mNil))))) (sSeq (sSet 3 (mCall 2 (Pg.f_p_divisor fu) [] (mCons (mVar 1) (mCons (mVar 2) (mNil))))) (sRet (mDs dTup (mCons (mBin fFdv (mBin fMul (mBin fSub (mC (.int 1)) (mBin fMul (mC (.int 2)) (mBin fIx (mVar 0) (mC (.int 0))))) (mVar 1)) (mVar 3)) (mCons (mBin fFdv (mVar 2) (mVar 3)) (mNil)))))))
def f_dw_number (fu : Nat) : List MI.D → R MI.D := run 1 4 (s_dw_number fu)
def s_dw_plus (fu : Nat) : S := sRet (mCall 2 (Pg.f_law_lowest fu) [] (mCons (mBin fAddL (mBin fMul (mBin fIx (mVar 0) (mC (.int 0))) (mBin fIx (mVar 1) (mC (.int 1)))) (mBin fMul (mBin fIx (mVar 1) (mC (.int 0))) (mBin fIx (mVar 0) (mC (.int 1))))) (mCons (mBin fMul (mBin fIx (mVar 0) (mC (.int 1))) (mBin fIx (mVar 1) (mC (.int 1)))) (mNil))))
def f_dw_plus (fu : Nat) : List MI.D → R MI.D := run 2 2 (s_dw_plus fu)
def s_p_is_number (fu : Nat) : S := sSeq (sIf (mOrT (mNot (mTru (mIsi "tuple" (mVar 0)))) (mTru (mBin fNe (mDs fLen (mCons (mVar 0) (mNil))) (mC (.int 2))))) (sRet (mC (.bool false))) (sNop)) (sSeq (sAsg (gT (gsCons (gN 1) (gsCons (gN 2) (gsNil)))) (mVar 0)) (sSeq (sIf (mOrT (mNot (mTru (mCall 1 (Pg.f_p_is_whole fu) [] (mCons (mVar 1) (mNil))))) (mNot (mTru (mCall 1 (Pg.f_p_is_whole fu) [] (mCons (mVar 2) (mNil)))))) (sRet (mC (.bool false))) (sNop)) (sRet (mAndV (mBin fGt (mVar 2) (mC (.int 0))) (mBin fEq (mCall 2 (Pg.f_p_divisor fu) [] (mCons (mVar 1) (mCons (mVar 2) (mNil)))) (mC (.int 1)))))))
def f_p_is_number (fu : Nat) : List MI.D → R MI.D := run 1 3 (s_p_is_number fu)
def s_p_is_told (fu : Nat) : S := sRet (mAndV (mCall 1 (Pg.f_p_is_number fu) [] (mCons (mVar 0) (mNil))) (mAndV (mBin fLt (mDs fAbs (mCons (mBin fIx (mVar 0) (mC (.int 0))) (mNil))) (mBin fPow (mC (.int 10)) (mC (.int 18)))) (mBin fLe (mBin fIx (mVar 0) (mC (.int 1))) (mC (.int 60)))))
def f_p_is_told (fu : Nat) : List MI.D → R MI.D := run 1 1 (s_p_is_told fu)
def s_p_is_word (fu : Nat) : S := sSeq (sIf (mOrT (mNot (mTru (mIsi "str" (mVar 0)))) (mNot (mTru (mChain fLe fLe (mC (.int 1)) (mDs fLen (mCons (mVar 0) (mNil))) (mC (.int 8)))))) (sRet (mC (.bool false))) (sNop)) (sRet (mDs fAll (mCons (mL (nLc (mSigns (mVar 0)) [1] (vN 1) (mYes) (mBin (fIn false) (mVar 1) (mC (.str "abcdefghijklmnopqrstuvwxyz"))))) (mNil))))
def f_p_is_word (fu : Nat) : List MI.D → R MI.D := run 1 2 (s_p_is_word fu)
def b_fd_broken_1 (fu : Nat) : S := sSeq (sSet 5 (mSl (mVar 0) (mPart (mBin fAddL (mC (.int 10)) (mBin fMul (mC (.int 4)) (mVar 4)))) (mPart (mBin fAddL (mC (.int 14)) (mBin fMul (mC (.int 4)) (mVar 4)))))) (sSeq (sSet 6 (mCall 2 (Pg.f_dw_plus fu) [] (mCons (mVar 2) (mCons (mCall 2 (Pg.f_law_lowest fu) [] (mCons (mBin fAddL (mC (.int 1)) (mBin fIx (mVar 5) (mC (.int 2)))) (mCons (mBin fAddL (mC (.int 1)) (mBin fIx (mVar 0) (mC (.int 8)))) (mNil)))) (mNil))))) (sSeq (sApp 1 (mDs dTup (mCons (mVar 2) (mCons (mVar 6) (mCons (mVar 3) (mCons (mBin fAddL (mBin fAddL (mVar 3) (mC (.int 1))) (mBin fIx (mVar 5) (mC (.int 0)))) (mNil))))))) (sSeq (sSet 2 (mCall 2 (Pg.f_dw_plus fu) [] (mCons (mVar 6) (mCons (mCall 2 (Pg.f_law_lowest fu) [] (mCons (mBin fAddL (mC (.int 1)) (mBin fIx (mVar 5) (mC (.int 3)))) (mCons (mBin fAddL (mC (.int 1)) (mBin fIx (mVar 0) (mC (.int 9)))) (mNil)))) (mNil))))) (sSet 3 (mBin fAddL (mBin fAddL (mBin fAddL (mVar 3) (mC (.int 2))) (mBin fIx (mVar 5) (mC (.int 0)))) (mBin fIx (mVar 5) (mC (.int 1))))))))
def s_fd_broken (fu : Nat) : S := sSeq (sOwn 1 (nLst (mNil))) (sSeq (sSet 2 (mCall 1 (Pg.f_dw_number fu) [] (mCons (mSl (mVar 0) (mPart (mC (.int 1))) (mPart (mC (.int 6)))) (mNil)))) (sSeq (sSet 3 (mC (.int 0))) (sSeq (sFor (mRng rng1 (mCons (mBin fAddL (mC (.int 2)) (mBin fIx (mVar 0) (mC (.int 6)))) (mNil))) (gN 4) (b_fd_broken_1 fu)) (sFz (sRet (mDs dTup (mCons (mC (.str "broken")) (mCons (mVar 1) (mCons (mBin fIx (mBin fIx (mVar 1) (mUn fNeg (mC (.int 1)))) (mC (.int 3))) (mNil))))))))))
def f_fd_broken (fu : Nat) : List MI.D → R MI.D := run 1 7 (s_fd_broken fu)
end Pg
set_option Elab.async false
set_option linter.all false
set_option maxRecDepth 100000
set_option maxHeartbeats 4000000
namespace MI
open PySem PySem.Spec PyProof.Rows L2
/-- whether the text at a place came before -/
def met (xs : List Str) (i : Nat) (x : Str) : Bool := (xs.take i).any (· == x)
/-- how many unlike ones are among the first i -/
def unl (xs : List Str) : Nat → Nat
  | 0 => 0
  | i + 1 => if met xs i (xs.getD i Str.empty) = true then unl xs i else unl xs i + 1
theorem unl_le (xs : List Str) : ∀ i, unl xs i ≤ i
  | 0 => Nat.le_refl _
  | i + 1 => by
    have := unl_le xs i
    unfold unl
    split <;> omega
theorem met_succ {xs : List Str} {i : Nat} (h : i < xs.length) (k : Str) : met xs (i + 1) k = (met xs i k || decide (k = xs.getD i Str.empty)) := by
  unfold met
  rw [List.take_add_one, List.getElem?_eq_getElem h, List.any_append]
  have e : xs.getD i Str.empty = xs[i] := by rw [List.getD_eq_getElem?_getD, List.getElem?_eq_getElem h]; rfl
  rw [e]
  congr 1
  show (xs[i] == k || false) = decide (k = xs[i])
  rw [Bool.or_false, Bool.eq_iff_iff, beq_iff_eq, decide_eq_true_eq]
  exact ⟨fun q => q.symm, fun q => q.symm⟩
section
variable {prog : Program} {w : World} {A : Around} {R : Result → Shared → Prop} {I : Addr} {fp wr : List Addr} {G : Array GenState → Array GenState → Prop} {n : Nat} {P : Nat → Value → Prop} {St : Nat → Shared → Prop}
theorem loop_unl (W : WalksS prog w A.in1 I fp wr G n P St) (S : Addr) (hSf : S ∉ fp) (xs : List Str) (hsz : xs.length = n) (hb : n + 1 < scanBound)
    (hval : ∀ i v, P i v → ∃ t, v = .str (xs.getD i Str.empty) t) :
    ∀ (k i : Nat) (s : Shared), n - i = k → i ≤ n → St i s → s.heap.SetOf (PySem.strKind prog w) S (met xs i) (unl xs i) →
      (∀ s', Moved (S :: wr) G s s' → s'.heap.SetOf (PySem.strKind prog w) S (met xs n) (unl xs n) → R (.ok (.ret .none)) s') →
      codeAny (model prog w) A (.builtin "set.update.loop" ⟨[.ref S, .ref I], []⟩) R s := by
  have hSw : S ∉ wr := fun h => hSf (W.sub _ h)
  have hsub : ∀ b ∈ wr, b ∈ S :: wr := fun b hb => List.mem_cons_of_mem _ hb
  intro k
  induction k with
  | zero =>
    intro i s hk hi hst hS hR
    obtain rfl : i = n := by omega
    refine codeAny_builtin PyProof.Rows.F.entry_set_update_loop ?_
    rw [Around.under_plainId PyProof.Rows.F.plain_set_update_loop _]
    show wpAny _ A.in1 (pyNext (.ref I) >>= _) _ _ s
    refine wpAny_bind (W.done s _ _ hst fun s' hm => ?_)
    refine wpAny_pure (hR s' (hm.mono hsub) ?_)
    obtain ⟨o, es, ep, t, ho, rest⟩ := hS
    exact ⟨o, es, ep, t, hm.heap S _ hSw ho, rest⟩
  | succ k ih =>
    intro i s hk hi hst hS hR
    have hlt : i < n := by omega
    refine codeAny_builtin PyProof.Rows.F.entry_set_update_loop ?_
    rw [Around.under_plainId PyProof.Rows.F.plain_set_update_loop _]
    show wpAny _ A.in1 (pyNext (.ref I) >>= _) _ _ s
    refine wpAny_bind (W.item i s _ _ hlt hst fun v s' hP hst' hm => ?_)
    obtain ⟨t, rfl⟩ := hval i v hP
    have hS' : s'.heap.SetOf (PySem.strKind prog w) S (met xs i) (unl xs i) := by
      obtain ⟨o, es, ep, tb, ho, rest⟩ := hS
      exact ⟨o, es, ep, tb, hm.heap S _ hSw ho, rest⟩
    show wpAny _ A.in1 (holding [Value.str (xs.getD i Str.empty) t] (setAdd S (.str (xs.getD i Str.empty) t)) >>= _) _ _ s'
    refine wpAny_bind (wpAny_holding ?_)
    unfold setAdd
    refine wpAny_holding ?_
    refine wpAny_bind ((PySem.strKind prog w).pyHash (k := xs.getD i Str.empty) (strKind_is _ _ _ _) ?_)
    refine wpAny_setAddHashed_of (knd := PySem.strKind prog w) (s := { s' with toks := s'.toks + 1 }) (strKind_is _ _ _ _) rfl hS' (by have := unl_le xs i; omega) fun h' hsb hS2 => ?_
    have hSi : h'.SetOf (PySem.strKind prog w) S (met xs (i + 1)) (unl xs (i + 1)) :=
      SetOf_congr hS2 (fun k' => (met_succ (by omega) k').symm) rfl
    refine wpAny_pure ⟨plainId_quiet PyProof.Rows.F.plain_set_update_loop _, ih (i + 1) _ (by omega) hlt (W.frame _ s' _ _ hst' (Nat.le_succ _) fun b hb o e => ?_) hSi fun s'' hm'' hS'' => ?_⟩
    · rw [hsb.2 b (fun h : b = S => hSf (by rw [← h]; exact hb))]; exact e
    · refine hR s'' (Moved.trans W.gtrans ((hm.mono hsub).then_heap (Nat.le_succ _) fun b o hb e => ?_) hm'') hS''
      rw [hsb.2 b (fun h : b = S => hb (by rw [h]; exact List.mem_cons_self))]; exact e
end
section
variable {prog : Program} {w : World} {A : Around} {E : Value → Shared → Prop} {s : Shared}
set_option maxHeartbeats 8000000 in
theorem set_listN {l : Addr} {items : Array Value} {xs : List Str} {Q : Value → Shared → Prop}
    (hh : A.handled = none) (hl : s.heap.IsList l items) (hsz : xs.length = items.size) (hval : ∀ (i : Nat) (v : Value), items[i]? = some v → ∃ t, v = .str (xs.getD i Str.empty) t) (hb : items.size + 1 < scanBound)
    (h : ∀ (h' : Heap) (tk : Nat), h'.SetOf (PySem.strKind prog w) s.heap.objs.size (met xs items.size) (unl xs items.size) → (∀ b o, b < s.heap.objs.size → s.heap.get? b = some o → h'.get? b = some o) → Q (.ref s.heap.objs.size) { s with heap := h', toks := tk }) :
    wpAny (model prog w) A (call (.type "set") [.ref l]) Q E s := by
  obtain ⟨c, tl, hmro⟩ := PySem.F.called_set.mro
  have hmade := PySem.F.called_set.made
  have hsub := PySem.F.called_set.sub
  refine wpAny_call (codeAny_of_tree ?_)
  show wpAny _ _ (callAny (.type "set") _) _ _ _
  refine wpAny_pure ⟨Code.quiet_builtin _ (by decide +kernel), codeAny_builtin PySem.F.entry_type_call ?_⟩
  rw [Around.under_plain (weight_type_call_type "set" [.ref l] []) rfl]
  have h1 := PySem.F.called_set.notType
  have h2 := PySem.F.called_set.canCreate
  have hct := PySem.F.typeCall_set_1 (.ref l)
  repeat (any_goals (first | assumption | wp_step))
  refine codeAny_mono (code_set_new_1 (.ref l) (E := E) (Q₁ := fun obj s₁ => ∃ led : Bool, obj = .ref s.heap.objs.size ∧ s₁ = { s with heap := s.heap.push { cls := .type "set", dict := none, data := .set #[] 0 (.fresh 0 0 led) } }) fun led => ⟨led, rfl, rfl⟩) fun r s₁ hr => ?_
  cases r with
  | error e => exact hr
  | ok fl =>
    cases fl with
    | ret obj =>
      obtain ⟨led, rfl, rfl⟩ := hr
      obtain ⟨h0, eh0⟩ : ∃ h0, h0 = s.heap.push { cls := .type "set", dict := none, data := .set #[] 0 (.fresh 0 0 led) } := ⟨_, rfl⟩
      rw [← eh0]
      have hS : h0.get? s.heap.objs.size = some { cls := .type "set", dict := none, data := .set #[] 0 (.fresh 0 0 led) } := by rw [eh0]; exact Heap.get?_push_size _ rfl
      have sz0 : h0.objs.size = s.heap.objs.size + 1 := by rw [eh0]; exact Heap.size_push ..
      have up0 : ∀ b o, s.heap.get? b = some o → h0.get? b = some o := fun b o e => by rw [eh0]; exact Heap.get?_push_of_some _ e
      have hT : Shared.TypeIs { s with heap := h0 } (.ref s.heap.objs.size) "set" := ⟨_, hS, rfl⟩
      have hli := PySem.F.called_set.init.lookup
      have hbi := PySem.F.called_set.init.bind (.ref s.heap.objs.size)
      repeat (any_goals (first | assumption | wp_step))
      refine codeAny_mono (codeAny_call_builtin (R := wants (fun r s₂ => r = .none ∧ ∃ h' tk, s₂ = { s with heap := h', toks := tk } ∧
          h'.SetOf (PySem.strKind prog w) s.heap.objs.size (met xs items.size) (unl xs items.size) ∧ (∀ b o, b < s.heap.objs.size → s.heap.get? b = some o → h'.get? b = some o)) E) PySem.F.called_set.init.plain PySem.F.entry_set_init (check_set_init_1 hT ?_)) fun r₂ s₂ hr₂ => ?_
      · obtain ⟨ol, hol, hcl, nl, hdl⟩ := hl
        obtain ⟨ocls, odict, odata, oslots⟩ := ol
        simp only at hcl hdl
        subst hcl; subst hdl
        have hol' := up0 _ _ hol
        have hsls := PySem.F.sub_list_set
        have hslf := PySem.F.sub_list_frozenset
        have hne : (Value.type "list" == Value.type "dict") = false := by decide
        have hl1 : h0.IsList l items := ⟨_, hol', rfl, nl, rfl⟩
        unfold Builtin.«set.__init__» noKeywords Builtin.Frozenset.updateFrom
        generalize hPI : pyIter = PI
        wp_walk
        subst hPI
        refine wpAny_pyIter_list hl1 ?_
        refine wpAny_bind (wpAny_runValue ?_)
        have hlS : l < s.heap.objs.size := Heap.lt_size hol
        have hh3 : A.in1.in1.in1.handled = none := by simp [hh]
        have hneI : l ≠ h0.objs.size := by rw [sz0]; exact Nat.ne_of_lt (Nat.lt_succ_of_lt hlS)
        have hSf : s.heap.objs.size ∉ [h0.objs.size, l] := by
          rw [sz0]
          simp only [List.mem_cons, List.not_mem_nil, or_false, not_or]
          exact ⟨Nat.ne_of_lt (Nat.lt_succ_self _), Nat.ne_of_gt hlS⟩
        refine loop_unl ((Walks.list hh3 _ l hneI items).toS) s.heap.objs.size hSf xs hsz hb hval (items.size - 0) 0 _ (by omega) (Nat.zero_le _)
          ⟨⟨_, Heap.get?_push_size _ rfl, rfl, rfl⟩, (hl1.push _)⟩ ?hS0 ?hR
        case hS0 => exact SetOf_congr ((setObjOf_fresh (knd := PySem.strKind prog w) led).setOf (Heap.get?_push_of_some _ hS) (by unfold scanBound; omega)) (fun _ => rfl) rfl
        case hR =>
          intro s' hm hS'
          obtain ⟨h', g', d', tk', os'⟩ := s'
          obtain rfl : g' = s.gens := hm.gens
          obtain rfl : d' = s.drawn := hm.drawn
          obtain rfl : os' = s.os := hm.os
          show wpAny _ _ _ _ _ _
          refine wpAny_pure ?_
          show wpAny _ _ (ret Value.none) _ _ _
          refine wpAny_pure ⟨rfl, h', tk', rfl, hS', fun b o hb e => hm.heap b o ?_ (Heap.get?_push_of_some _ (up0 _ _ e))⟩
          simp only [List.mem_cons, List.not_mem_nil, or_false, not_or]
          exact ⟨Nat.ne_of_lt hb, by rw [sz0]; exact Nat.ne_of_lt (Nat.lt_succ_of_lt hb)⟩
      · cases r₂ with
        | error e => exact hr₂
        | ok fl₂ =>
          cases fl₂ with
          | ret r =>
            obtain ⟨rfl, h', tk, rfl, hS', hk'⟩ := hr₂
            repeat (any_goals (first | assumption | wp_step))
            exact h _ _ hS' hk'
          | _ => exact hr₂.elim
    | _ => exact hr.elim
end
section
variable {prog : Program} {w : World} {A : Around} {E : Value → Shared → Prop} {s : Shared}
set_option maxHeartbeats 8000000 in
theorem set_tupleN {l : Addr} {items : Array Value} {xs : List Str} {Q : Value → Shared → Prop}
    (hh : A.handled = none) (hl : s.heap.IsTuple l items) (hsz : xs.length = items.size) (hval : ∀ (i : Nat) (v : Value), items[i]? = some v → ∃ t, v = .str (xs.getD i Str.empty) t) (hb : items.size + 1 < scanBound)
    (h : ∀ (h' : Heap) (tk : Nat), h'.SetOf (PySem.strKind prog w) s.heap.objs.size (met xs items.size) (unl xs items.size) → (∀ b o, b < s.heap.objs.size → s.heap.get? b = some o → h'.get? b = some o) → Q (.ref s.heap.objs.size) { s with heap := h', toks := tk }) :
    wpAny (model prog w) A (call (.type "set") [.ref l]) Q E s := by
  obtain ⟨c, tl, hmro⟩ := PySem.F.called_set.mro
  have hmade := PySem.F.called_set.made
  have hsub := PySem.F.called_set.sub
  refine wpAny_call (codeAny_of_tree ?_)
  show wpAny _ _ (callAny (.type "set") _) _ _ _
  refine wpAny_pure ⟨Code.quiet_builtin _ (by decide +kernel), codeAny_builtin PySem.F.entry_type_call ?_⟩
  rw [Around.under_plain (weight_type_call_type "set" [.ref l] []) rfl]
  have h1 := PySem.F.called_set.notType
  have h2 := PySem.F.called_set.canCreate
  have hct := PySem.F.typeCall_set_1 (.ref l)
  repeat (any_goals (first | assumption | wp_step))
  refine codeAny_mono (code_set_new_1 (.ref l) (E := E) (Q₁ := fun obj s₁ => ∃ led : Bool, obj = .ref s.heap.objs.size ∧ s₁ = { s with heap := s.heap.push { cls := .type "set", dict := none, data := .set #[] 0 (.fresh 0 0 led) } }) fun led => ⟨led, rfl, rfl⟩) fun r s₁ hr => ?_
  cases r with
  | error e => exact hr
  | ok fl =>
    cases fl with
    | ret obj =>
      obtain ⟨led, rfl, rfl⟩ := hr
      obtain ⟨h0, eh0⟩ : ∃ h0, h0 = s.heap.push { cls := .type "set", dict := none, data := .set #[] 0 (.fresh 0 0 led) } := ⟨_, rfl⟩
      rw [← eh0]
      have hS : h0.get? s.heap.objs.size = some { cls := .type "set", dict := none, data := .set #[] 0 (.fresh 0 0 led) } := by rw [eh0]; exact Heap.get?_push_size _ rfl
      have sz0 : h0.objs.size = s.heap.objs.size + 1 := by rw [eh0]; exact Heap.size_push ..
      have up0 : ∀ b o, s.heap.get? b = some o → h0.get? b = some o := fun b o e => by rw [eh0]; exact Heap.get?_push_of_some _ e
      have hT : Shared.TypeIs { s with heap := h0 } (.ref s.heap.objs.size) "set" := ⟨_, hS, rfl⟩
      have hli := PySem.F.called_set.init.lookup
      have hbi := PySem.F.called_set.init.bind (.ref s.heap.objs.size)
      repeat (any_goals (first | assumption | wp_step))
      refine codeAny_mono (codeAny_call_builtin (R := wants (fun r s₂ => r = .none ∧ ∃ h' tk, s₂ = { s with heap := h', toks := tk } ∧
          h'.SetOf (PySem.strKind prog w) s.heap.objs.size (met xs items.size) (unl xs items.size) ∧ (∀ b o, b < s.heap.objs.size → s.heap.get? b = some o → h'.get? b = some o)) E) PySem.F.called_set.init.plain PySem.F.entry_set_init (check_set_init_1 hT ?_)) fun r₂ s₂ hr₂ => ?_
      · obtain ⟨ol, hol, hcl, nl, hdl⟩ := hl
        obtain ⟨ocls, odict, odata, oslots⟩ := ol
        simp only at hcl hdl
        subst hcl; subst hdl
        have hol' := up0 _ _ hol
        have hsls := PySem.F.sub_tuple_set
        have hslf := PySem.F.sub_tuple_frozenset
        have hne : (Value.type "tuple" == Value.type "dict") = false := by decide
        have hl1 : h0.IsTuple l items := ⟨_, hol', rfl, nl, rfl⟩
        unfold Builtin.«set.__init__» noKeywords Builtin.Frozenset.updateFrom
        generalize hPI : pyIter = PI
        wp_walk
        subst hPI
        refine wpAny_pyIter_tuple hl1 ?_
        refine wpAny_bind (wpAny_runValue ?_)
        have hlS : l < s.heap.objs.size := Heap.lt_size hol
        have hh3 : A.in1.in1.in1.handled = none := by simp [hh]
        have hneI : l ≠ h0.objs.size := by rw [sz0]; exact Nat.ne_of_lt (Nat.lt_succ_of_lt hlS)
        have hSf : s.heap.objs.size ∉ [h0.objs.size, l] := by
          rw [sz0]
          simp only [List.mem_cons, List.not_mem_nil, or_false, not_or]
          exact ⟨Nat.ne_of_lt (Nat.lt_succ_self _), Nat.ne_of_gt hlS⟩
        refine loop_unl ((Walks.tuple hh3 _ l hneI items).toS) s.heap.objs.size hSf xs hsz hb hval (items.size - 0) 0 _ (by omega) (Nat.zero_le _)
          ⟨⟨_, Heap.get?_push_size _ rfl, rfl, rfl⟩, (hl1.push _)⟩ ?hS0 ?hR
        case hS0 => exact SetOf_congr ((setObjOf_fresh (knd := PySem.strKind prog w) led).setOf (Heap.get?_push_of_some _ hS) (by unfold scanBound; omega)) (fun _ => rfl) rfl
        case hR =>
          intro s' hm hS'
          obtain ⟨h', g', d', tk', os'⟩ := s'
          obtain rfl : g' = s.gens := hm.gens
          obtain rfl : d' = s.drawn := hm.drawn
          obtain rfl : os' = s.os := hm.os
          show wpAny _ _ _ _ _ _
          refine wpAny_pure ?_
          show wpAny _ _ (ret Value.none) _ _ _
          refine wpAny_pure ⟨rfl, h', tk', rfl, hS', fun b o hb e => hm.heap b o ?_ (Heap.get?_push_of_some _ (up0 _ _ e))⟩
          simp only [List.mem_cons, List.not_mem_nil, or_false, not_or]
          exact ⟨Nat.ne_of_lt hb, by rw [sz0]; exact Nat.ne_of_lt (Nat.lt_succ_of_lt hb)⟩
      · cases r₂ with
        | error e => exact hr₂
        | ok fl₂ =>
          cases fl₂ with
          | ret r =>
            obtain ⟨rfl, h', tk, rfl, hS', hk'⟩ := hr₂
            repeat (any_goals (first | assumption | wp_step))
            exact h _ _ hS' hk'
          | _ => exact hr₂.elim
    | _ => exact hr.elim
end
section
theorem vals_strs : ∀ {xs : List Str} {us : List Value}, Vals (xs.map V.str) us → xs.length = us.length ∧ ∀ (i : Nat) (v : Value), us[i]? = some v → ∃ t, v = .str (xs.getD i Str.empty) t
  | [], _, .nil => ⟨rfl, fun i v h => by simp at h⟩
  | x :: xs, _, .cons r t => by
    obtain ⟨k, rfl⟩ := r
    obtain ⟨a, b⟩ := vals_strs t
    refine ⟨by simp [a], fun i v h => ?_⟩
    cases i with
    | zero => simp at h; exact ⟨k, h.symm⟩
    | succ i => exact b i v (by simpa using h)
def tLenSetS (K : PySem.W.Frag) (ta : TE) : TE := fun σ H Q => ta σ H fun x H1 => ∃ (l : Addr) (xs : List Str), x = .ref l ∧ (SqL K H1 l (xs.map V.str) ∨ SqT K H1 l (xs.map V.str)) ∧ xs.length ≤ 4000 ∧ Q (.int (unl xs xs.length : Nat)) H1
theorem pe_lenSetS {X : Cx} {a : Expr} {ta : TE} {p p2 q pos : Pos} (hg : Gl X "len") (hm : X.mg "len" = none) (hg2 : Gl X "set") (hm2 : X.mg "set" = none) (ha : PE X a ta) (hc : X.calm = true := by rfl)
    (na : starEach [a] X.env = (false, eval a X.env) :: starEach [] X.env := by rfl) : PE X (.Call (.Name "len" p) [.Call (.Name "set" p2) [a] [] q] [] pos) (tLenSetS X.K ta) := by
  refine ⟨fun pins s σ H Q I h => ?_⟩
  refine Call_ (ld_blt I hg hm boot_len ?_)
  refine PyProof.Rows.callWith_builtin1 (PyProof.Rows.args_cons ?_ rfl) rfl rfl
  refine Call_ (ld_blt I hg2 hm2 boot_set ?_)
  refine PyProof.Rows.callWith_type1 (PyProof.Rows.args_cons (thn (ha.run pins s σ H _ I h) fun v s1 ⟨x, H1, I1, r1, q1⟩ => PyProof.Rows.args_nil ?_) na) na rfl
  obtain ⟨l, xs, rfl, hq, hl, q1⟩ := q1
  cases r1
  have fin : ∀ (h' : Heap) (tk : Nat), h'.SetOf (PySem.strKind X.prog X.w) s1.heap.objs.size (met xs xs.length) (unl xs xs.length) → (∀ b o, b < s1.heap.objs.size → s1.heap.get? b = some o → h'.get? b = some o) →
      wpAny (model X.prog X.w) X.A (call (.builtin "len") [.ref s1.heap.objs.size]) (fun v s' => ∃ x H', Inv X pins σ H' s' ∧ RelV x v ∧ Q x H') X.xe { s1 with heap := h', toks := tk } := fun h' tk hS hk => by
    obtain ⟨o, es, ep, t, ho, hex, hd, _, _, _, hf, hn⟩ := hS
    have I2 : Inv X pins σ H1 { s1 with heap := h', toks := tk } := I1.kept fun b o e => hk b o (Heap.lt_size e) e
    have ul := unl_le xs xs.length
    exact call_len_set ho hex hd hf (by rw [hn]; omega) ⟨.int (unl xs xs.length : Nat), H1, I2.tok _, ⟨_, by rw [hn]⟩, q1⟩
  rcases hq with hq | hq
  · obtain ⟨its, r, pl, hz⟩ := I1.list hq
    obtain ⟨e1, e2⟩ := vals_strs r
    have hlen : its.toArray.size = xs.length := by rw [List.size_toArray, e1]
    refine set_listN (I1.ok.hd hc) pl.isList hlen.symm (fun i v hv => e2 i v (by simpa using hv)) (by rw [hlen]; unfold scanBound; omega) fun h' tk hS hk => PyProof.Rows.args_nil ?_
    rw [hlen] at hS
    exact fin h' tk hS hk
  · obtain ⟨its, r, pl, hz⟩ := I1.tuple hq
    obtain ⟨e1, e2⟩ := vals_strs r
    have hlen : its.toArray.size = xs.length := by rw [List.size_toArray, e1]
    refine set_tupleN (I1.ok.hd hc) pl hlen.symm (fun i v hv => e2 i v (by simpa using hv)) (by rw [hlen]; unfold scanBound; omega) fun h' tk hS hk => PyProof.Rows.args_nil ?_
    rw [hlen] at hS
    exact fin h' tk hS hk
def lenSetD (ds : List D) : Option D := match strsD ds with
  | some xs => if xs.length ≤ 4000 then some (.int (unl xs xs.length : Nat)) else none
  | none => none
def fLenSet : D → Option D
  | .list ds => lenSetD ds
  | .tuple ds => lenSetD ds
  | _ => none
theorem me_lenSet {X : Cx} {W : WX} {a : Expr} {m : M} {p p2 q pos : Pos} (hm : X.mg "len" = none) (hm2 : X.mg "set" = none) (ha : ME X W a m) (hg : Gl X "len" := by rfl) (hg2 : Gl X "set" := by rfl) (hc : X.calm = true := by rfl)
    (na : starEach [a] X.env = (false, eval a X.env) :: starEach [] X.env := by rfl) : ME X W (.Call (.Name "len" p) [.Call (.Name "set" p2) [a] [] q] [] pos) (mUn fLenSet m) := by
  refine PE.imp (pe_lenSetS hg hm hg2 hm2 ha hc na) fun σ H Q ⟨F, δ, s, v, h⟩ => ?_
  refine tM_bind s v h fun d x F1 H1 _ E hx h1 => ?_
  have key : ∀ ds r, lenSetD ds = some r → ∀ xs : List V, DpAll X.K F1 xs ds → ∃ ys : List Str, xs = ys.map V.str ∧ ys.length ≤ 4000 ∧ r = .int (unl ys ys.length : Nat) := fun ds r e xs hd => by
    unfold lenSetD at e
    cases q : strsD ds with
    | none => rw [q] at e; cases e
    | some ys =>
      rw [q] at e
      dsimp only at e
      split at e
      · rename_i l
        cases e
        exact ⟨ys, dpa_strs hd q, l, rfl⟩
      · cases e
  cases e : fLenSet d with
  | none => rw [e] at h1; exact h1.elim
  | some r =>
    rw [e] at h1
    unfold fLenSet at e
    split at e
    · cases hx with
      | lst a b =>
        obtain ⟨ys, rfl, l, rfl⟩ := key _ _ e _ b
        exact ⟨_, ys, rfl, .inl (E.s.seq a), l, h1 _ _ _ (Ext.refl E.s) (.int _)⟩
    · cases hx with
      | tup a b =>
        obtain ⟨ys, rfl, l, rfl⟩ := key _ _ e _ b
        exact ⟨_, ys, rfl, .inr (same_t E.s a), l, h1 _ _ _ (Ext.refl E.s) (.int _)⟩
    · cases e
end
end MI
set_option Elab.async false
set_option linter.all false
set_option maxRecDepth 100000
set_option maxHeartbeats 4000000
namespace MI
open PySem PySem.Spec PyProof.Rows L2 PySem.SeqAt
noncomputable def fEqE (d e : D) : Option D := match d, e with
  | .tuple ds, .tuple [] => some (.bool ds.isEmpty)
  | d, e => fEq d e
section
variable {X : Cx}
theorem o_eqE (hu : X.A.units + 64 < cLine) : OpR X (compareOp .Eq) (rD2 X.K fEqE) := by
  intro pins s σ H x y v u Q I rx ry h
  obtain ⟨F, d1, d2, d, sm, h1, h2, e, q⟩ := h
  unfold fEqE at e
  split at e
  · rename_i ds
    cases e
    have h1' := dp_mono sm _ h1
    have h2' := dp_mono sm _ h2
    cases h1' with
    | @tup a xs _ sa ha =>
      cases h2' with
      | @tup b ys _ sb hb =>
        cases rx
        cases ry
        obtain ⟨us, r1, ⟨o1, ho1, hc1, n1, hd1⟩, _⟩ := I.tuple sa
        obtain ⟨ws, r2, ⟨o2, ho2, hc2, n2, hd2⟩, _⟩ := I.tuple sb
        have l1 := dpa_len ha
        have l2 := dpa_len hb
        have w0 : ws.length = 0 := by rw [← r2.length]; simpa using l2
        have q1 := RcAt.tuples (A := X.A) (s := s) (e := fun _ => true) (items := us.toArray) (items2 := ws.toArray) ⟨o1, ho1, hc1, n1, hd1⟩ ⟨o2, ho2, hc2, n2, hd2⟩ (by omega) fun j h1 h2 => absurd h2 (by simp [w0])
        have e0 : (us.toArray.size == ws.toArray.size) = ds.isEmpty := by
          rw [List.size_toArray, List.size_toArray, w0, ← r1.length]
          cases ds with
          | nil => simp at l1; simp [l1]
          | cons d ds => simp at l1; rw [l1]; rfl
        rw [all_tt, e0, Bool.true_and] at q1
        exact q1 _ _ _ _ ⟨.bl ds.isEmpty, H, I, rfl, q _ F H (Ext.refl sm) (.bl _)⟩
  · exact o_eq hu pins s σ H x y v u Q I rx ry ⟨F, d1, d2, d, sm, h1, h2, e, q⟩
end
theorem bl_eqE : ∀ x y d, fEqE x y = some d → ∃ z : Bool, d = .bool z := fun x y d e => by
  unfold fEqE at e
  split at e
  · cases e; exact ⟨_, rfl⟩
  · exact bl_eq _ _ _ e
@[simp] theorem fEqE_t (ds : List D) : fEqE (.tuple ds) (.tuple []) = some (.bool ds.isEmpty) := Eq.trans rfl rfl
def isID : D → Bool
  | .int _ => true
  | _ => false
def hasI (a : Int) : List D → Bool
  | [] => false
  | .int b :: r => decide (b = a) || hasI a r
  | _ :: r => hasI a r
def fInTI (d e : D) : Option D := match d, e with
  | .int a, .tuple ds => if ds.all isID = true then some (.bool (hasI a ds)) else none
  | d, e => fInT false d e
theorem inTI_ok {K : PySem.W.Frag} {F : Hp} {a : Int} : ∀ {xs : List V} {ds : List D}, DpAll K F xs ds → ds.all isID = true → xs.all flatV = true ∧ inV (.int a) xs = hasI a ds
  | _, _, .nil, _ => ⟨rfl, rfl⟩
  | _, _, .cons (d := d) h1 h2, q => by
    rw [List.all_cons, Bool.and_eq_true] at q
    obtain ⟨e1, e2⟩ := inTI_ok (a := a) h2 q.2
    cases h1 with
    | int z =>
      refine ⟨by rw [List.all_cons, e1]; rfl, ?_⟩
      show (eqV (.int z) (.int a) || inV (.int a) _) = (decide (z = a) || hasI a _)
      rw [e2]
      rfl
    | _ => cases q.1
section
variable {X : Cx}
theorem o_inTI (hu : X.A.units + 65 < cLine) : OpR X (compareOp .In) (rD2 X.K fInTI) := by
  intro pins s σ H x y v u Q I rx ry h
  obtain ⟨F, d1, d2, d, sm, h1, h2, e, q⟩ := h
  unfold fInTI at e
  split at e
  · split at e
    · rename_i l
      cases e
      cases dp_int h1
      cases h2 with
      | tup sa ha =>
        obtain ⟨e1, e2⟩ := inTI_ok ha l
        exact op_in_seq pins s σ H _ _ v u Q I rx ry ⟨_, _, rfl, .inr (same_t sm sa), rfl, e1, by rw [e2]; exact q _ F H (Ext.refl sm) (.bl _)⟩
    · cases e
  · exact o_inT hu pins s σ H x y v u Q I rx ry ⟨F, _, _, d, sm, h1, h2, e, q⟩
end
end MI
noncomputable section
set_option Elab.async false
set_option linter.all false
set_option maxRecDepth 100000
set_option maxHeartbeats 4000000
namespace K25
open PySem MI
def s_p_are_ends (fu : Nat) : S := sRet (mAndV (mCall 1 (Pg.f_p_is_told fu) [] (mCons (mVar 0) (mNil))) (mAndV (mCall 1 (Pg.f_p_is_told fu) [] (mCons (mVar 1) (mNil))) (mCall 2 (Pg.f_p_under fu) [] (mCons (mVar 0) (mCons (mVar 1) (mNil))))))
def f_p_are_ends (fu : Nat) : List MI.D → R MI.D := run 2 2 (s_p_are_ends fu)
def b_p_are_pieces_1 (fu : Nat) : S := sSeq (sIf (mOrT (mNot (mTru (mIsi "tuple" (mBin fIx (mVar 0) (mVar 1))))) (mOrT (mTru (mBin fNe (mDs fLen (mCons (mBin fIx (mVar 0) (mVar 1)) (mNil))) (mC (.int 2)))) (mNot (mTru (mCall 2 (f_p_are_ends fu) [] (mCons (mBin fIx (mBin fIx (mVar 0) (mVar 1)) (mC (.int 0))) (mCons (mBin fIx (mBin fIx (mVar 0) (mVar 1)) (mC (.int 1))) (mNil)))))))) (sRet (mC (.bool false))) (sNop)) (sIf (mAndT (mTru (mBin fGt (mVar 1) (mC (.int 0)))) (mNot (mTru (mCall 2 (Pg.f_p_under fu) [] (mCons (mBin fIx (mBin fIx (mVar 0) (mBin fSub (mVar 1) (mC (.int 1)))) (mC (.int 1))) (mCons (mBin fIx (mBin fIx (mVar 0) (mVar 1)) (mC (.int 0))) (mNil))))))) (sRet (mC (.bool false))) (sNop))
def s_p_are_pieces (fu : Nat) : S := sSeq (sIf (mOrT (mNot (mTru (mIsi "tuple" (mVar 0)))) (mNot (mTru (mChain fLe fLe (mC (.int 2)) (mDs fLen (mCons (mVar 0) (mNil))) (mC (.int 4)))))) (sRet (mC (.bool false))) (sNop)) (sSeq (sFor (mRng rng1 (mCons (mDs fLen (mCons (mVar 0) (mNil))) (mNil))) (gN 1) (b_p_are_pieces_1 fu)) (sRet (mC (.bool true))))
def f_p_are_pieces (fu : Nat) : List MI.D → R MI.D := run 1 2 (s_p_are_pieces fu)
def b_p_are_words_1 (fu : Nat) : S := sIf (mNot (mTru (mCall 1 (Pg.f_p_is_word fu) [] (mCons (mVar 1) (mNil))))) (sRet (mC (.bool false))) (sNop)
def s_p_are_words (fu : Nat) : S := sSeq (sIf (mOrT (mNot (mTru (mIsi "tuple" (mVar 0)))) (mNot (mTru (mChain fLe fLe (mC (.int 1)) (mDs fLen (mCons (mVar 0) (mNil))) (mC (.int 60)))))) (sRet (mC (.bool false))) (sNop)) (sSeq (sFor (mItems (mVar 0)) (gN 1) (b_p_are_words_1 fu)) (sRet (mBin fEq (mUn fLenSet (mVar 0)) (mDs fLen (mCons (mVar 0) (mNil))))))
def f_p_are_words (fu : Nat) : List MI.D → R MI.D := run 1 2 (s_p_are_words fu)
def s_p_is_wish (fu : Nat) : S := sSeq (sIf (mOrT (mNot (mTru (mIsi "tuple" (mVar 0)))) (mOrT (mTru (mBin fEqE (mVar 0) (mDs dTup (mNil)))) (mNot (mTru (mIsi "str" (mBin fIx (mVar 0) (mC (.int 0)))))))) (sRet (mC (.bool false))) (sNop)) (sSeq (sIf (mTru (mBin fEq (mDs fLen (mCons (mVar 0) (mNil))) (mC (.int 1)))) (sRet (mBin (fInT false) (mBin fIx (mVar 0) (mC (.int 0))) (mDs dTup (mCons (mC (.str "straight")) (mCons (mC (.str "days")) (mCons (mC (.str "order")) (mNil))))))) (sNop)) (sSeq (sIf (mTru (mBin fEq (mDs fLen (mCons (mVar 0) (mNil))) (mC (.int 3)))) (sRet (mAndV (mBin fEq (mBin fIx (mVar 0) (mC (.int 0))) (mC (.str "straight"))) (mCall 2 (f_p_are_ends fu) [] (mCons (mBin fIx (mVar 0) (mC (.int 1))) (mCons (mBin fIx (mVar 0) (mC (.int 2))) (mNil)))))) (sNop)) (sSeq (sIf (mTru (mBin fNe (mDs fLen (mCons (mVar 0) (mNil))) (mC (.int 2)))) (sRet (mC (.bool false))) (sNop)) (sSeq (sIf (mTru (mBin fEq (mBin fIx (mVar 0) (mC (.int 0))) (mC (.str "turns")))) (sRet (mAndV (mCall 1 (Pg.f_p_is_whole fu) [] (mCons (mBin fIx (mVar 0) (mC (.int 1))) (mNil))) (mBin fInTI (mBin fIx (mVar 0) (mC (.int 1))) (mDs dTup (mCons (mC (.int 2)) (mCons (mC (.int 10)) (mNil))))))) (sNop)) (sSeq (sIf (mTru (mBin fEq (mBin fIx (mVar 0) (mC (.int 0))) (mC (.str "broken")))) (sRet (mCall 1 (f_p_are_pieces fu) [] (mCons (mBin fIx (mVar 0) (mC (.int 1))) (mNil)))) (sNop)) (sRet (mAndV (mBin fEq (mBin fIx (mVar 0) (mC (.int 0))) (mC (.str "order"))) (mCall 1 (f_p_are_words fu) [] (mCons (mBin fIx (mVar 0) (mC (.int 1))) (mNil))))))))))
def f_p_is_wish (fu : Nat) : List MI.D → R MI.D := run 1 1 (s_p_is_wish fu)
def s_p_axis_word (fu : Nat) : S := sSeq (sIf (mTru (mBin fEq (mBin fIx (mVar 0) (mC (.int 0))) (mC (.str "turns")))) (sRet (mBin fAddL (mC (.str "turns ")) (mDs fStr (mCons (mBin fIx (mVar 0) (mC (.int 1))) (mNil))))) (sNop)) (sRet (mBin fIx (mVar 0) (mC (.int 0))))
def f_p_axis_word (fu : Nat) : List MI.D → R MI.D := run 1 1 (s_p_axis_word fu)
def b_law_ends_1 (fu : Nat) : ST := tSeq (tApp 5 (xP (mCall 2 (Pg.f_sr_low fu) [] (mCons (mVar 4) (mCons (mVar 2) (mNil)))))) (tSetD 4 (xBin fAddL (xP (mBin fAddL (mVar 4) (mC (.int 1)))) (xFn (Pg.f_sr_great fu) 2 [] (rBor 0 (rVal (xP (mVar 3)) (rNil))))))
def s_law_ends (fu : Nat) : ST := tSeq (tSetD 2 (xBin fIx (xDs dLst (xCons (xP (mC (.int 1))) (xCons (xBin fAddL (xP (mC (.int 1))) (xFn (Pg.f_sr_draw fu) 2 [] (rBor 0 (rVal (xP (mC (.int 60))) (rNil))))) (xNil)))) (xFn (Pg.f_sr_draw fu) 2 [] (rBor 0 (rVal (xP (mC (.int 2))) (rNil)))))) (tSeq (tSetD 3 (xBin fIx (xP (mDs dLst (mCons (mC (.int 20)) (mCons (mBin fPow (mC (.int 10)) (mC (.int 16))) (mNil))))) (xFn (Pg.f_sr_draw fu) 2 [] (rBor 0 (rVal (xP (mC (.int 2))) (rNil)))))) (tSeq (tSetD 4 (xBin fSub (xFn (Pg.f_sr_great fu) 2 [] (rBor 0 (rVal (xP (mBin fMul (mC (.int 90)) (mVar 3))) (rNil)))) (xP (mBin fMul (mC (.int 45)) (mVar 3))))) (tSeq (tSet 5 (xLs (xNil))) (tSeq (tFor (xiP (mRng rng1 (mCons (mVar 1) (mNil)))) (uN 6) (b_law_ends_1 fu)) (tRet (xMv 5))))))
def f_law_ends (fu : Nat) : Us → RF := runT 2 7 (s_law_ends fu)
def s_law_word (fu : Nat) : ST := tSeq (tSet 1 (xP (mC (.str "abcdefghijklmnopqrstuvwxyz")))) (tRet (xMt "str" fJoin (xP (mC (.str ""))) (xCons (xLc (xiRng rng1 (xCons (xBin fAddL (xP (mC (.int 1))) (xFn (Pg.f_sr_draw fu) 2 [] (rBor 0 (rVal (xP (mC (.int 8))) (rNil))))) (xNil))) [2] (uV 2) (xYes) (xBin fIx (xP (mVar 1)) (xFn (Pg.f_sr_draw fu) 2 [] (rBor 0 (rVal (xP (mC (.int 26))) (rNil)))))) (xNil))))
def f_law_word (fu : Nat) : Us → RF := runT 1 3 (s_law_word fu)
def b_law_words_1 (fu : Nat) : ST := tSeq (tSetD 3 (xFn (f_law_word fu) 1 [] (rBor 0 (rNil)))) (tIf (xTP (mTru (mBin (fIn true) (mVar 3) (mVar 1)))) (tApp 1 (xP (mVar 3))) (tNop))
def s_law_words (fu : Nat) : ST := tSeq (tSet 1 (xLs (xNil))) (tSeq (tFor (xiRng rng1 (xCons (xBin fAddL (xP (mC (.int 1))) (xFn (Pg.f_sr_draw fu) 2 [] (rBor 0 (rVal (xP (mC (.int 60))) (rNil))))) (xNil))) (uN 2) (b_law_words_1 fu)) (tFrz 1 (tRet (xP (mDs fTupOf (mCons (mVar 1) (mNil)))))))
def f_law_words (fu : Nat) : Us → RF := runT 1 4 (s_law_words fu)
def s_law_good (fu : Nat) : ST := tSeq (tSetD 1 (xFn (Pg.f_sr_draw fu) 2 [] (rBor 0 (rVal (xP (mC (.int 7))) (rNil))))) (tSeq (tIf (xTP (mTru (mBin fEq (mVar 1) (mC (.int 0))))) (tRet (xDs dTup (xCons (xBin fIx (xP (mDs dLst (mCons (mC (.str "straight")) (mCons (mC (.str "days")) (mCons (mC (.str "order")) (mNil)))))) (xFn (Pg.f_sr_draw fu) 2 [] (rBor 0 (rVal (xP (mC (.int 3))) (rNil))))) (xNil)))) (tNop)) (tSeq (tIf (xTP (mTru (mBin fLt (mVar 1) (mC (.int 3))))) (tSeq (tAsg (uT (usCons (uN 2) (usCons (uN 3) (usNil)))) (xFn (f_law_ends fu) 2 [] (rBor 0 (rVal (xP (mC (.int 2))) (rNil))))) (tRet (xP (mDs dTup (mCons (mC (.str "straight")) (mCons (mVar 2) (mCons (mVar 3) (mNil)))))))) (tNop)) (tSeq (tIf (xTP (mTru (mBin fEq (mVar 1) (mC (.int 3))))) (tRet (xDs dTup (xCons (xP (mC (.str "turns"))) (xCons (xBin fIx (xP (mDs dLst (mCons (mC (.int 2)) (mCons (mC (.int 10)) (mNil))))) (xFn (Pg.f_sr_draw fu) 2 [] (rBor 0 (rVal (xP (mC (.int 2))) (rNil))))) (xNil))))) (tNop)) (tSeq (tIf (xTP (mTru (mBin fLt (mVar 1) (mC (.int 6))))) (tSeq (tSetD 4 (xFn (f_law_ends fu) 2 [] (rBor 0 (rVal (xBin fMul (xP (mC (.int 2))) (xBin fAddL (xP (mC (.int 2))) (xFn (Pg.f_sr_draw fu) 2 [] (rBor 0 (rVal (xP (mC (.int 3))) (rNil)))))) (rNil))))) (tRet (xP (mDs dTup (mCons (mC (.str "broken")) (mCons (mDs fTupOf (mCons (mL (nLc (mRng rng3 (mCons (mC (.int 0)) (mCons (mDs fLen (mCons (mVar 4) (mNil))) (mCons (mC (.int 2)) (mNil))))) [5] (vN 5) (mYes) (mDs dTup (mCons (mBin fIx (mVar 4) (mVar 5)) (mCons (mBin fIx (mVar 4) (mBin fAddL (mVar 5) (mC (.int 1)))) (mNil)))))) (mNil))) (mNil))))))) (tNop)) (tRet (xDs dTup (xCons (xP (mC (.str "order"))) (xCons (xFn (f_law_words fu) 1 [] (rBor 0 (rNil))) (xNil)))))))))
def f_law_good (fu : Nat) : Us → RF := runT 1 6 (s_law_good fu)
def s_law_bent_number (fu : Nat) : ST := tSeq (tAsg (uT (usCons (uN 2) (usCons (uN 3) (usNil)))) (xP (mVar 1))) (tSeq (tSet 4 (xP (mDs dLst (mCons (mC (.bool true)) (mCons (mC .none) (mCons (mVar 2) (mCons (mC (.str "1")) (mCons (mDs dLst (mCons (mVar 2) (mCons (mVar 3) (mNil)))) (mCons (mDs dTup (mCons (mVar 2) (mCons (mBin fSub (mC (.int 0)) (mVar 3)) (mNil)))) (mCons (mDs dTup (mCons (mBin fMul (mVar 2) (mC (.int 2))) (mCons (mBin fMul (mVar 3) (mC (.int 2))) (mNil)))) (mCons (mDs dTup (mCons (mVar 2) (mCons (mC (.int 0)) (mNil)))) (mNil)))))))))))) (tSeq (tSet 4 (xP (mBin fAddL (mVar 4) (mDs dLst (mCons (mDs dTup (mCons (mBin fPow (mC (.int 10)) (mC (.int 18))) (mCons (mC (.int 1)) (mNil)))) (mCons (mDs dTup (mCons (mBin fSub (mC (.int 0)) (mBin fPow (mC (.int 10)) (mC (.int 18)))) (mCons (mC (.int 1)) (mNil)))) (mCons (mDs dTup (mCons (mC (.int 1)) (mCons (mC (.int 61)) (mNil)))) (mCons (mDs dTup (mCons (mC (.bool true)) (mCons (mC (.int 1)) (mNil)))) (mCons (mDs dTup (mCons (mVar 2) (mCons (mC (.bool true)) (mNil)))) (mCons (mDs dTup (mCons (mVar 2) (mCons (mVar 3) (mCons (mC (.int 1)) (mNil))))) (mCons (mDs dTup (mNil)) (mNil)))))))))))) (tRet (xBin fIx (xP (mVar 4)) (xFn (Pg.f_sr_draw fu) 2 [] (rBor 0 (rVal (xP (mC (.int 15))) (rNil))))))))
def f_law_bent_number (fu : Nat) : Us → RF := runT 2 5 (s_law_bent_number fu)
def s_law_bent_ends (fu : Nat) : ST := tSeq (tSetD 3 (xFn (Pg.f_sr_draw fu) 2 [] (rBor 0 (rVal (xP (mC (.int 4))) (rNil))))) (tSeq (tIf (xTP (mTru (mBin fEq (mVar 3) (mC (.int 0))))) (tRet (xLs (xCons (xP (mVar 2)) (xCons (xP (mVar 1)) (xNil))))) (tNop)) (tSeq (tIf (xTP (mTru (mBin fEq (mVar 3) (mC (.int 1))))) (tRet (xLs (xCons (xP (mVar 1)) (xCons (xP (mVar 1)) (xNil))))) (tNop)) (tSeq (tIf (xTP (mTru (mBin fEq (mVar 3) (mC (.int 2))))) (tRet (xLs (xCons (xFn (f_law_bent_number fu) 2 [] (rBor 0 (rVal (xP (mVar 1)) (rNil)))) (xCons (xP (mVar 2)) (xNil))))) (tNop)) (tRet (xLs (xCons (xP (mVar 1)) (xCons (xFn (f_law_bent_number fu) 2 [] (rBor 0 (rVal (xP (mVar 2)) (rNil)))) (xNil))))))))
def f_law_bent_ends (fu : Nat) : Us → RF := runT 3 4 (s_law_bent_ends fu)
def s_law_bent_pieces (fu : Nat) : ST := tSeq (tSetD 2 (xFn (Pg.f_sr_draw fu) 2 [] (rBor 0 (rVal (xP (mC (.int 6))) (rNil))))) (tSeq (tSetD 3 (xFn (Pg.f_sr_draw fu) 2 [] (rBor 0 (rVal (xP (mDs fLen (mCons (mVar 1) (mNil)))) (rNil))))) (tSeq (tIf (xTP (mTru (mBin fEq (mVar 2) (mC (.int 0))))) (tRet (xP (mSl (mVar 1) (mNoPart) (mPart (mC (.int 1)))))) (tNop)) (tSeq (tIf (xTP (mTru (mBin fEq (mVar 2) (mC (.int 1))))) (tRet (xP (mDs fListOf (mCons (mVar 1) (mNil))))) (tNop)) (tSeq (tIf (xTP (mTru (mBin fEq (mVar 2) (mC (.int 2))))) (tRet (xP (mBin fAddT (mBin fAddT (mSl (mVar 1) (mNoPart) (mPart (mC (.int 1)))) (mDs dTup (mCons (mDs dTup (mCons (mBin fIx (mBin fIx (mVar 1) (mC (.int 0))) (mC (.int 1))) (mCons (mBin fIx (mBin fIx (mVar 1) (mC (.int 1))) (mC (.int 1))) (mNil)))) (mNil)))) (mSl (mVar 1) (mPart (mC (.int 2))) (mNoPart))))) (tNop)) (tSeq (tIf (xTP (mTru (mBin fEq (mVar 2) (mC (.int 3))))) (tRet (xP (mBin fAddT (mBin fAddT (mSl (mVar 1) (mNoPart) (mPart (mVar 3))) (mDs dTup (mCons (mDs fListOf (mCons (mBin fIx (mVar 1) (mVar 3)) (mNil))) (mNil)))) (mSl (mVar 1) (mPart (mBin fAddL (mVar 3) (mC (.int 1)))) (mNoPart))))) (tNop)) (tSeq (tIf (xTP (mTru (mBin fEq (mVar 2) (mC (.int 4))))) (tRet (xP (mBin fAddT (mBin fAddT (mVar 1) (mVar 1)) (mVar 1)))) (tNop)) (tSeq (tSetD 4 (xDs fTupOf (xCons (xFn (f_law_bent_ends fu) 3 [] (rBor 0 (rVal (xP (mBin fIx (mBin fIx (mVar 1) (mVar 3)) (mC (.int 0)))) (rVal (xP (mBin fIx (mBin fIx (mVar 1) (mVar 3)) (mC (.int 1)))) (rNil))))) (xNil)))) (tRet (xP (mBin fAddT (mBin fAddT (mSl (mVar 1) (mNoPart) (mPart (mVar 3))) (mDs dTup (mCons (mVar 4) (mNil)))) (mSl (mVar 1) (mPart (mBin fAddL (mVar 3) (mC (.int 1)))) (mNoPart))))))))))))
def f_law_bent_pieces (fu : Nat) : Us → RF := runT 2 5 (s_law_bent_pieces fu)
def s_law_bent_words (fu : Nat) : ST := tSeq (tSetD 2 (xFn (Pg.f_sr_draw fu) 2 [] (rBor 0 (rVal (xP (mDs fLen (mCons (mVar 1) (mNil)))) (rNil))))) (tSeq (tSetD 3 (xBin fIx (xP (mDs dLst (mCons (mC (.str "")) (mCons (mC (.str "abcdefghi")) (mCons (mC (.str "A")) (mCons (mC (.str "a b")) (mCons (mC .none) (mCons (mC (.bool true)) (mCons (mC (.int 5)) (mCons (mDs dTup (mCons (mC (.str "a")) (mNil))) (mCons (mC (.str "a1")) (mCons (mC (.str "a-")) (mCons (mDs dLst (mCons (mC (.str "a")) (mNil))) (mCons (mC (.dict [])) (mNil))))))))))))))) (xFn (Pg.f_sr_draw fu) 2 [] (rBor 0 (rVal (xP (mC (.int 12))) (rNil)))))) (tSeq (tSet 4 (xLc (xiP (mRng rng1 (mCons (mC (.int 61)) (mNil)))) [6] (uV 6) (xYes) (xP (mBin fAddL (mBin fMulS (mC (.str "a")) (mBin fAddL (mC (.int 1)) (mBin fFdv (mVar 6) (mC (.int 26))))) (mBin fIx (mC (.str "abcdefghijklmnopqrstuvwxyz")) (mBin fMod (mVar 6) (mC (.int 26)))))))) (tFrz 4 (tSeq (tSet 5 (xP (mDs dLst (mCons (mDs dTup (mNil)) (mCons (mBin fAddT (mVar 1) (mDs dTup (mCons (mBin fIx (mVar 1) (mVar 2)) (mNil)))) (mCons (mBin fAddT (mBin fAddT (mSl (mVar 1) (mNoPart) (mPart (mVar 2))) (mDs dTup (mCons (mVar 3) (mNil)))) (mSl (mVar 1) (mPart (mBin fAddL (mVar 2) (mC (.int 1)))) (mNoPart))) (mNil))))))) (tSeq (tSet 5 (xP (mBin fAddL (mVar 5) (mDs dLst (mCons (mDs fListOf (mCons (mVar 1) (mNil))) (mCons (mDs fTupOf (mCons (mVar 4) (mNil))) (mCons (mBin fIx (mVar 1) (mC (.int 0))) (mNil)))))))) (tRet (xBin fIx (xP (mVar 5)) (xFn (Pg.f_sr_draw fu) 2 [] (rBor 0 (rVal (xP (mC (.int 6))) (rNil)))))))))))
def f_law_bent_words (fu : Nat) : Us → RF := runT 2 7 (s_law_bent_words fu)
def s_law_bent (fu : Nat) : ST := tSeq (tSetD 2 (xFn (Pg.f_sr_draw fu) 2 [] (rBor 0 (rVal (xP (mC (.int 8))) (rNil))))) (tSeq (tIf (xTP (mTru (mBin fEq (mVar 2) (mC (.int 0))))) (tRet (xP (mDs fListOf (mCons (mVar 1) (mNil))))) (tNop)) (tSeq (tIf (xTP (mTru (mBin fEq (mVar 2) (mC (.int 1))))) (tRet (xP (mBin fAddT (mVar 1) (mDs dTup (mCons (mC .none) (mNil)))))) (tNop)) (tSeq (tIf (xTP (mTru (mBin fEq (mVar 2) (mC (.int 2))))) (tRet (xBin fAddT (xDs dTup (xCons (xBin fIx (xP (mDs dLst (mCons (mC (.str "Straight")) (mCons (mC (.str "turn")) (mCons (mC (.str "")) (mCons (mC .none) (mCons (mC (.int 2)) (mCons (mDs dTup (mCons (mC (.str "straight")) (mNil))) (mCons (mDs dLst (mCons (mC (.str "straight")) (mNil))) (mCons (mC (.dict [])) (mNil))))))))))) (xFn (Pg.f_sr_draw fu) 2 [] (rBor 0 (rVal (xP (mC (.int 8))) (rNil))))) (xNil))) (xP (mSl (mVar 1) (mPart (mC (.int 1))) (mNoPart))))) (tNop)) (tSeq (tIf (xTP (mTru (mBin fEq (mDs fLen (mCons (mVar 1) (mNil))) (mC (.int 3))))) (tRet (xBin fAddT (xP (mDs dTup (mCons (mC (.str "straight")) (mNil)))) (xDs fTupOf (xCons (xFn (f_law_bent_ends fu) 3 [] (rBor 0 (rVal (xP (mBin fIx (mVar 1) (mC (.int 1)))) (rVal (xP (mBin fIx (mVar 1) (mC (.int 2)))) (rNil))))) (xNil))))) (tNop)) (tSeq (tIf (xTP (mTru (mBin fEq (mBin fIx (mVar 1) (mC (.int 0))) (mC (.str "turns"))))) (tRet (xDs dTup (xCons (xP (mC (.str "turns"))) (xCons (xBin fIx (xP (mDs dLst (mCons (mC (.int 3)) (mCons (mC (.int 1)) (mCons (mC (.int 0)) (mCons (mUn fNeg (mC (.int 2))) (mCons (mC (.bool true)) (mCons (mC (.str "2")) (mCons (mC .none) (mCons (mDs dTup (mCons (mC (.int 2)) (mCons (mC (.int 1)) (mNil)))) (mCons (mC (.int 100)) (mCons (mDs dLst (mCons (mC (.int 10)) (mNil))) (mNil))))))))))))) (xFn (Pg.f_sr_draw fu) 2 [] (rBor 0 (rVal (xP (mC (.int 10))) (rNil))))) (xNil))))) (tNop)) (tSeq (tIf (xTP (mTru (mBin fEq (mBin fIx (mVar 1) (mC (.int 0))) (mC (.str "broken"))))) (tRet (xDs dTup (xCons (xP (mC (.str "broken"))) (xCons (xFn (f_law_bent_pieces fu) 2 [] (rBor 0 (rVal (xP (mBin fIx (mVar 1) (mC (.int 1)))) (rNil)))) (xNil))))) (tNop)) (tSeq (tIf (xTP (mTru (mBin fEq (mDs fLen (mCons (mVar 1) (mNil))) (mC (.int 2))))) (tRet (xDs dTup (xCons (xP (mC (.str "order"))) (xCons (xFn (f_law_bent_words fu) 2 [] (rBor 0 (rVal (xP (mBin fIx (mVar 1) (mC (.int 1)))) (rNil)))) (xNil))))) (tNop)) (tRet (xBin fIx (xP (mDs dLst (mCons (mDs dTup (mCons (mC (.str "turns")) (mNil))) (mCons (mDs dTup (mCons (mC (.str "broken")) (mNil))) (mCons (mDs dTup (mNil)) (mCons (mDs dTup (mCons (mC (.str "straight")) (mCons (mDs dTup (mCons (mC (.int 0)) (mCons (mC (.int 1)) (mNil)))) (mNil)))) (mCons (mDs dTup (mCons (mC (.str "days")) (mCons (mC (.int 1)) (mCons (mC (.int 2)) (mNil))))) (mNil)))))))) (xFn (Pg.f_sr_draw fu) 2 [] (rBor 0 (rVal (xP (mC (.int 5))) (rNil)))))))))))))
def f_law_bent (fu : Nat) : Us → RF := runT 2 3 (s_law_bent fu)
def s_law_same (fu : Nat) : S := sRet (mAndV (mBin fIsB (mCall 1 (f_p_is_wish fu) [] (mCons (mVar 0) (mNil))) (mC (.bool true))) (mBin fIsB (mCall 1 (f_p_is_wish fu) [] (mCons (mVar 0) (mNil))) (mC (.bool true))))
def f_law_same (fu : Nat) : List MI.D → R MI.D := run 1 1 (s_law_same fu)
def b_p_law_1 (fu : Nat) : ST := tSeq (tSet 2 (xFn (Pg.f_sr_source fu) 2 [] (rVal (xP (mVar 0)) (rVal (xP (mVar 1)) (rNil))))) (tSeq (tSetD 3 (xFn (f_law_good fu) 1 [] (rBor 2 (rNil)))) (tSeq (tSet 4 (xP (mBin fIx (mVar 3) (mC (.int 0))))) (tSeq (tIf (xTP (mTru (mBin fEq (mBin fIx (mVar 3) (mC (.int 0))) (mC (.str "turns"))))) (tSet 4 (xP (mBin fAddL (mC (.str "turns ")) (mBin fIx (mDs dLst (mCons (mC (.str "2")) (mCons (mC (.str "10")) (mNil)))) (mDs fIntT (mCons (mBin fEq (mBin fIx (mVar 3) (mC (.int 1))) (mC (.int 10))) (mNil))))))) (tNop)) (tSeq (tIf (xTP (mOrT (mNot (mTru (mCall 1 (f_law_same fu) [] (mCons (mVar 3) (mNil))))) (mOrT (mTru (mBin fNe (mCall 1 (f_p_axis_word fu) [] (mCons (mVar 3) (mNil))) (mVar 4))) (mTru (mBin fNe (mCall 1 (f_p_axis_word fu) [] (mCons (mVar 3) (mNil))) (mVar 4)))))) (tRet (xP (mC (.bool false)))) (tNop)) (tIf (xTru (xBin fNotB (xCall 1 (f_p_is_wish fu) [] (xCons (xFn (f_law_bent fu) 2 [] (rBor 2 (rVal (xP (mVar 3)) (rNil)))) (xNil))) (xP (mC (.bool false))))) (tRet (xP (mC (.bool false)))) (tNop))))))
def s_p_law (fu : Nat) : ST := tSeq (tFor (xiP (mRng rng1 (mCons (mDs fMax (mCons (mC (.int 1)) (mCons (mDs fMin (mCons (mDs fLen (mCons (mVar 0) (mNil))) (mCons (mC (.int 12)) (mNil)))) (mNil)))) (mNil)))) (uN 1) (b_p_law_1 fu)) (tSeq (tSet 5 (xP (mDs dLst (mCons (mC .none) (mCons (mC (.bool true)) (mCons (mC (.int 5)) (mCons (mC (.str "straight")) (mCons (mDs dLst (mCons (mC (.str "straight")) (mNil))) (mCons (mC (.dict [])) (mCons (mDs dTup (mNil)) (mCons (mDs dTup (mCons (mDs dTup (mNil)) (mNil))) (mCons (mDs dTup (mCons (mC .none) (mNil))) (mCons (mDs dTup (mCons (mC (.str "straight")) (mCons (mC (.dict [])) (mCons (mDs dTup (mCons (mC (.int 1)) (mCons (mC (.int 1)) (mNil)))) (mNil))))) (mCons (mDs dTup (mCons (mC (.str "broken")) (mCons (mDs dTup (mNil)) (mNil)))) (mNil))))))))))))))) (tRet (xP (mBin fEq (mL (nLc (mItems (mVar 5)) [6] (vN 6) (mTru (mBin fNotB (mCall 1 (f_p_is_wish fu) [] (mCons (mVar 6) (mNil))) (mC (.bool false)))) (mVar 6))) (mDs dLst (mNil))))))
def f_p_law (fu : Nat) : Us → RF := runT 1 7 (s_p_law fu)
end K25
noncomputable section
set_option Elab.async false
set_option linter.all false
set_option maxRecDepth 100000
set_option maxHeartbeats 4000000
namespace K25
open PySem PySem.Spec PyProof.Rows L2 MI
def top (i : Nat) : Stmt := PySem.Challenge.pw_markscale_k25_wishes.main.body.getD i (.Pass ⟨0, 0, 0, 0⟩)
abbrev t_p_is_whole : Stmt := top 1
def d_p_is_whole : He.DefD := ⟨("is_whole", none), "is_whole", "is_whole", defArgs t_p_is_whole, defBody t_p_is_whole, defScope t_p_is_whole, [], []⟩
abbrev t_p_divisor : Stmt := top 2
def d_p_divisor : He.DefD := ⟨("divisor", none), "divisor", "divisor", defArgs t_p_divisor, defBody t_p_divisor, defScope t_p_divisor, [], []⟩
abbrev t_p_is_number : Stmt := top 3
def d_p_is_number : He.DefD := ⟨("is_number", none), "is_number", "is_number", defArgs t_p_is_number, defBody t_p_is_number, defScope t_p_is_number, [], []⟩
abbrev t_p_under : Stmt := top 4
def d_p_under : He.DefD := ⟨("under", none), "under", "under", defArgs t_p_under, defBody t_p_under, defScope t_p_under, [], []⟩
abbrev t_p_is_told : Stmt := top 6
def d_p_is_told : He.DefD := ⟨("is_told", none), "is_told", "is_told", defArgs t_p_is_told, defBody t_p_is_told, defScope t_p_is_told, [], []⟩
abbrev t_p_is_word : Stmt := top 9
def d_p_is_word : He.DefD := ⟨("is_word", none), "is_word", "is_word", defArgs t_p_is_word, defBody t_p_is_word, defScope t_p_is_word, [], []⟩
abbrev t_p_are_ends : Stmt := top 12
def d_p_are_ends : He.DefD := ⟨("are_ends", none), "are_ends", "are_ends", defArgs t_p_are_ends, defBody t_p_are_ends, defScope t_p_are_ends, [], []⟩
abbrev t_p_are_pieces : Stmt := top 13
def d_p_are_pieces : He.DefD := ⟨("are_pieces", none), "are_pieces", "are_pieces", defArgs t_p_are_pieces, defBody t_p_are_pieces, defScope t_p_are_pieces, [], []⟩
abbrev t_p_are_words : Stmt := top 14
def d_p_are_words : He.DefD := ⟨("are_words", none), "are_words", "are_words", defArgs t_p_are_words, defBody t_p_are_words, defScope t_p_are_words, [], []⟩
abbrev t_p_is_wish : Stmt := top 15
def d_p_is_wish : He.DefD := ⟨("is_wish", none), "is_wish", "is_wish", defArgs t_p_is_wish, defBody t_p_is_wish, defScope t_p_is_wish, [], []⟩
abbrev t_p_axis_word : Stmt := top 16
def d_p_axis_word : He.DefD := ⟨("axis_word", none), "axis_word", "axis_word", defArgs t_p_axis_word, defBody t_p_axis_word, defScope t_p_axis_word, [], []⟩
abbrev t_law_cell_at : Stmt := top 18
def d_law_cell_at : He.DefD := ⟨("_law_cell_at", none), "_law_cell_at", "_law_cell_at", defArgs t_law_cell_at, defBody t_law_cell_at, defScope t_law_cell_at, [], []⟩
abbrev t_law_source : Stmt := top 19
def d_law_source : He.DefD := ⟨("_law_source", none), "_law_source", "_law_source", defArgs t_law_source, defBody t_law_source, defScope t_law_source, [], []⟩
abbrev t_law_draw : Stmt := top 20
def d_law_draw : He.DefD := ⟨("_law_draw", none), "_law_draw", "_law_draw", defArgs t_law_draw, defBody t_law_draw, defScope t_law_draw, [], []⟩
abbrev t_law_great : Stmt := top 21
def d_law_great : He.DefD := ⟨("_law_great", none), "_law_great", "_law_great", defArgs t_law_great, defBody t_law_great, defScope t_law_great, [], []⟩
abbrev t_law_low : Stmt := top 22
def d_law_low : He.DefD := ⟨("_law_low", none), "_law_low", "_law_low", defArgs t_law_low, defBody t_law_low, defScope t_law_low, [], []⟩
abbrev t_law_ends : Stmt := top 23
def d_law_ends : He.DefD := ⟨("_law_ends", none), "_law_ends", "_law_ends", defArgs t_law_ends, defBody t_law_ends, defScope t_law_ends, [], []⟩
abbrev t_law_word : Stmt := top 24
def d_law_word : He.DefD := ⟨("_law_word", none), "_law_word", "_law_word", defArgs t_law_word, defBody t_law_word, defScope t_law_word, [], []⟩
abbrev t_law_words : Stmt := top 25
def d_law_words : He.DefD := ⟨("_law_words", none), "_law_words", "_law_words", defArgs t_law_words, defBody t_law_words, defScope t_law_words, [], []⟩
abbrev t_law_good : Stmt := top 26
def d_law_good : He.DefD := ⟨("_law_good", none), "_law_good", "_law_good", defArgs t_law_good, defBody t_law_good, defScope t_law_good, [], []⟩
abbrev t_law_bent_number : Stmt := top 27
def d_law_bent_number : He.DefD := ⟨("_law_bent_number", none), "_law_bent_number", "_law_bent_number", defArgs t_law_bent_number, defBody t_law_bent_number, defScope t_law_bent_number, [], []⟩
abbrev t_law_bent_ends : Stmt := top 28
def d_law_bent_ends : He.DefD := ⟨("_law_bent_ends", none), "_law_bent_ends", "_law_bent_ends", defArgs t_law_bent_ends, defBody t_law_bent_ends, defScope t_law_bent_ends, [], []⟩
abbrev t_law_bent_pieces : Stmt := top 29
def d_law_bent_pieces : He.DefD := ⟨("_law_bent_pieces", none), "_law_bent_pieces", "_law_bent_pieces", defArgs t_law_bent_pieces, defBody t_law_bent_pieces, defScope t_law_bent_pieces, [], []⟩
abbrev t_law_bent_words : Stmt := top 30
def d_law_bent_words : He.DefD := ⟨("_law_bent_words", none), "_law_bent_words", "_law_bent_words", defArgs t_law_bent_words, defBody t_law_bent_words, defScope t_law_bent_words, [], []⟩
abbrev t_law_bent : Stmt := top 31
def d_law_bent : He.DefD := ⟨("_law_bent", none), "_law_bent", "_law_bent", defArgs t_law_bent, defBody t_law_bent, defScope t_law_bent, [], []⟩
abbrev t_law_same : Stmt := top 32
def d_law_same : He.DefD := ⟨("_law_same", none), "_law_same", "_law_same", defArgs t_law_same, defBody t_law_same, defScope t_law_same, [], []⟩
abbrev t_p_law : Stmt := top 33
def d_p_law : He.DefD := ⟨("law", none), "law", "law", defArgs t_p_law, defBody t_p_law, defScope t_p_law, [], []⟩
def fa : List He.Fa := [.free "isinstance", .free "int", .free "bool", .free "abs", .free "tuple", .free "len", .free "str", .str "LETTERS" "abcdefghijklmnopqrstuvwxyz", .free "all", .free "range", .int "MOST_WORDS" 60, .free "set", .free "list", .free "min", .free "max", .glo "is_whole", .glo "divisor", .glo "is_number", .glo "under", .glo "is_told", .glo "is_word", .glo "are_ends", .glo "are_pieces", .glo "are_words", .glo "is_wish", .glo "axis_word", .glo "_law_cell_at", .glo "_law_source", .glo "_law_draw", .glo "_law_great", .glo "_law_low", .glo "_law_ends", .glo "_law_word", .glo "_law_words", .glo "_law_good", .glo "_law_bent_number", .glo "_law_bent_ends", .glo "_law_bent_pieces", .glo "_law_bent_words", .glo "_law_bent", .glo "_law_same", .glo "law"]
def fxl : List Fx := []
def fn : List He.DefD := [d_p_is_whole, d_p_divisor, d_p_is_number, d_p_under, d_p_is_told, d_p_is_word, d_p_are_ends, d_p_are_pieces, d_p_are_words, d_p_is_wish, d_p_axis_word, d_law_cell_at, d_law_source, d_law_draw, d_law_great, d_law_low, d_law_ends, d_law_word, d_law_words, d_law_good, d_law_bent_number, d_law_bent_ends, d_law_bent_pieces, d_law_bent_words, d_law_bent, d_law_same, d_p_law]
section
variable {P : Program} {w : World} {K : PySem.W.Frag} {mg : Str → Option Value} {base : Heap}
theorem sc_p_is_whole : FnScope ["thing"] ["thing"] (defScope t_p_is_whole) := ⟨rfl, rfl, rfl, by decide +kernel, rfl, by decide +kernel, by decide +kernel⟩
theorem ok_p_is_whole (fu : Nat) (T : Tx fa fn fxl K mg) : DefOk P w K mg base 1 "is_whole" 1 (Pg.f_p_is_whole fu) [[]] := by
  obtain ⟨fd, F⟩ := T.says.def_ 0 (d := d_p_is_whole) rfl
  refine def_ok (d := d_p_is_whole) (ps := ["thing"]) (T.glo 15) F (MI.fn_ok (N := ["thing"]) F sc_p_is_whole fun cdv A outer s H E hr => ?_) (allC ⟨[], [], .nil, fun _ => .nil, F.bindsN fun _ _ _ _ _ _ us hl => match us, hl with | [_], _ => rfl⟩ all0)
  have tk : Takes (cxOf (L2.CX P w) P w K mg base ["thing"] "is_whole" (defScope t_p_is_whole) (He.ga K "is_whole") cdv A outer s H E) (WD E) := takes_of rfl rfl rfl rfl
  have hp : PassesOwn (model P w) (cxOf (L2.CX P w) P w K mg base ["thing"] "is_whole" (defScope t_p_is_whole) (He.ga K "is_whole") cdv A outer s H E).A (cxOf (L2.CX P w) P w K mg base ["thing"] "is_whole" (defScope t_p_is_whole) (He.ga K "is_whole") cdv A outer s H E).env (cxOf (L2.CX P w) P w K mg base ["thing"] "is_whole" (defScope t_p_is_whole) (He.ga K "is_whole") cdv A outer s H E).xe := passes_of rfl
  have nd : (["thing"] : List Str).Nodup := sc_p_is_whole.nd
  show MSs (cxOf (L2.CX P w) P w K mg base ["thing"] "is_whole" (defScope t_p_is_whole) (He.ga K "is_whole") cdv A outer s H E) (WD E) (defBody t_p_is_whole) (Pg.s_p_is_whole fu)
  exact (mss_one (ms_ret (me_and (misi "int" (T.free 0) (T.free 1) (mv 0)) (me_one (me_not (misi "bool" (T.free 0) (T.free 2) (mv 0)))))))
theorem sc_p_divisor : FnScope ["one", "other"] ["one", "other"] (defScope t_p_divisor) := ⟨rfl, rfl, rfl, by decide +kernel, rfl, by decide +kernel, by decide +kernel⟩
theorem ok_p_divisor (fu : Nat) (T : Tx fa fn fxl K mg) : DefOk P w K mg base 1 "divisor" 2 (Pg.f_p_divisor fu) [[]] := by
  obtain ⟨fd, F⟩ := T.says.def_ 1 (d := d_p_divisor) rfl
  refine def_ok (d := d_p_divisor) (ps := ["one", "other"]) (T.glo 16) F (MI.fn_ok (N := ["one", "other"]) F sc_p_divisor fun cdv A outer s H E hr => ?_) (allC ⟨[], [], .nil, fun _ => .nil, F.bindsN fun _ _ _ _ _ _ us hl => match us, hl with | [_, _], _ => rfl⟩ all0)
  have tk : Takes (cxOf (L2.CX P w) P w K mg base ["one", "other"] "divisor" (defScope t_p_divisor) (He.ga K "divisor") cdv A outer s H E) (WD E) := takes_of rfl rfl rfl rfl
  have hp : PassesOwn (model P w) (cxOf (L2.CX P w) P w K mg base ["one", "other"] "divisor" (defScope t_p_divisor) (He.ga K "divisor") cdv A outer s H E).A (cxOf (L2.CX P w) P w K mg base ["one", "other"] "divisor" (defScope t_p_divisor) (He.ga K "divisor") cdv A outer s H E).env (cxOf (L2.CX P w) P w K mg base ["one", "other"] "divisor" (defScope t_p_divisor) (He.ga K "divisor") cdv A outer s H E).xe := passes_of rfl
  have nd : (["one", "other"] : List Str).Nodup := sc_p_divisor.nd
  show MSs (cxOf (L2.CX P w) P w K mg base ["one", "other"] "divisor" (defScope t_p_divisor) (He.ga K "divisor") cdv A outer s H E) (WD E) (defBody t_p_divisor) (Pg.s_p_divisor fu)
  exact (mss_cons (ms_while hp (tcmp (o_ne hr.units) bl_ne (mv 1) me_int) (mss_one (spar 0 1 nd (mac (mv 1) (mac (mbin o_mod (mv 0) (mv 1)) ma_nil))))) (mss_one (ms_ret (mcB c_abs (T.free 3) (mac (mv 0) ma_nil)))))
theorem sc_p_is_number : FnScope ["thing", "top", "bottom"] ["thing"] (defScope t_p_is_number) := ⟨rfl, rfl, rfl, by decide +kernel, rfl, by decide +kernel, by decide +kernel⟩
theorem ok_p_is_number (fu : Nat) (T : Tx fa fn fxl K mg) : DefOk P w K mg base 2 "is_number" 1 (Pg.f_p_is_number fu) [[]] := by
  obtain ⟨fd, F⟩ := T.says.def_ 2 (d := d_p_is_number) rfl
  refine def_ok (d := d_p_is_number) (ps := ["thing"]) (T.glo 17) F (MI.fn_ok (N := ["thing", "top", "bottom"]) F sc_p_is_number fun cdv A outer s H E hr => ?_) (allC ⟨[], [], .nil, fun _ => .nil, F.bindsN fun _ _ _ _ _ _ us hl => match us, hl with | [_], _ => rfl⟩ all0)
  have tk : Takes (cxOf (L2.CX P w) P w K mg base ["thing", "top", "bottom"] "is_number" (defScope t_p_is_number) (He.ga K "is_number") cdv A outer s H E) (WD E) := takes_of rfl rfl rfl rfl
  have hp : PassesOwn (model P w) (cxOf (L2.CX P w) P w K mg base ["thing", "top", "bottom"] "is_number" (defScope t_p_is_number) (He.ga K "is_number") cdv A outer s H E).A (cxOf (L2.CX P w) P w K mg base ["thing", "top", "bottom"] "is_number" (defScope t_p_is_number) (He.ga K "is_number") cdv A outer s H E).env (cxOf (L2.CX P w) P w K mg base ["thing", "top", "bottom"] "is_number" (defScope t_p_is_number) (He.ga K "is_number") cdv A outer s H E).xe := passes_of rfl
  have nd : (["thing", "top", "bottom"] : List Str).Nodup := sc_p_is_number.nd
  show MSs (cxOf (L2.CX P w) P w K mg base ["thing", "top", "bottom"] "is_number" (defScope t_p_is_number) (He.ga K "is_number") cdv A outer s H E) (WD E) (defBody t_p_is_number) (Pg.s_p_is_number fu)
  exact (mss_cons (ms_if (PW.pt (mw_or (mt_not (ttru (misi "tuple" (T.free 0) (T.free 4) (mv 0)))) (mw_or1 (tcmp (o_ne hr.units) bl_ne (mcB c_len (T.free 5) (mac (mv 0) ma_nil)) me_int)))) (mss_one (ms_ret me_bl)) mss_nil) (mss_cons (sasg (mv 0) (pg_tup rfl (pgs_cons (gname 1 nd) (pgs_cons (gname 2 nd) pgs_nil))) (gT_ok (gsCons_ok gN_ok (gsCons_ok gN_ok gsNil_ok)))) (mss_cons (ms_if (PW.pt (mw_or (mt_not (ttru (me_def (dd := []) (ok_p_is_whole fu T) hr tk (mac (mv 1) ma_nil)))) (mw_or1 (mt_not (ttru (me_def (dd := []) (ok_p_is_whole fu T) hr tk (mac (mv 2) ma_nil))))))) (mss_one (ms_ret me_bl)) mss_nil) (mss_one (ms_ret (me_and (mcmp o_gt (mv 2) me_int) (me_one (mcmp (o_eq hr.units) (me_def (dd := []) (ok_p_divisor fu T) hr tk (mac (mv 1) (mac (mv 2) ma_nil))) me_int))))))))
theorem sc_p_under : FnScope ["one", "other"] ["one", "other"] (defScope t_p_under) := ⟨rfl, rfl, rfl, by decide +kernel, rfl, by decide +kernel, by decide +kernel⟩
theorem ok_p_under (fu : Nat) (T : Tx fa fn fxl K mg) : DefOk P w K mg base 1 "under" 2 (Pg.f_p_under fu) [[]] := by
  obtain ⟨fd, F⟩ := T.says.def_ 3 (d := d_p_under) rfl
  refine def_ok (d := d_p_under) (ps := ["one", "other"]) (T.glo 18) F (MI.fn_ok (N := ["one", "other"]) F sc_p_under fun cdv A outer s H E hr => ?_) (allC ⟨[], [], .nil, fun _ => .nil, F.bindsN fun _ _ _ _ _ _ us hl => match us, hl with | [_, _], _ => rfl⟩ all0)
  have tk : Takes (cxOf (L2.CX P w) P w K mg base ["one", "other"] "under" (defScope t_p_under) (He.ga K "under") cdv A outer s H E) (WD E) := takes_of rfl rfl rfl rfl
  have hp : PassesOwn (model P w) (cxOf (L2.CX P w) P w K mg base ["one", "other"] "under" (defScope t_p_under) (He.ga K "under") cdv A outer s H E).A (cxOf (L2.CX P w) P w K mg base ["one", "other"] "under" (defScope t_p_under) (He.ga K "under") cdv A outer s H E).env (cxOf (L2.CX P w) P w K mg base ["one", "other"] "under" (defScope t_p_under) (He.ga K "under") cdv A outer s H E).xe := passes_of rfl
  have nd : (["one", "other"] : List Str).Nodup := sc_p_under.nd
  show MSs (cxOf (L2.CX P w) P w K mg base ["one", "other"] "under" (defScope t_p_under) (He.ga K "under") cdv A outer s H E) (WD E) (defBody t_p_under) (Pg.s_p_under fu)
  exact (mss_one (ms_ret (mcmp o_lt (mbin o_mul (mix (mv 0) me_int) (mix (mv 1) me_int)) (mbin o_mul (mix (mv 1) me_int) (mix (mv 0) me_int)))))
theorem sc_p_is_told : FnScope ["thing"] ["thing"] (defScope t_p_is_told) := ⟨rfl, rfl, rfl, by decide +kernel, rfl, by decide +kernel, by decide +kernel⟩
theorem ok_p_is_told (fu : Nat) (T : Tx fa fn fxl K mg) : DefOk P w K mg base 3 "is_told" 1 (Pg.f_p_is_told fu) [[]] := by
  obtain ⟨fd, F⟩ := T.says.def_ 4 (d := d_p_is_told) rfl
  refine def_ok (d := d_p_is_told) (ps := ["thing"]) (T.glo 19) F (MI.fn_ok (N := ["thing"]) F sc_p_is_told fun cdv A outer s H E hr => ?_) (allC ⟨[], [], .nil, fun _ => .nil, F.bindsN fun _ _ _ _ _ _ us hl => match us, hl with | [_], _ => rfl⟩ all0)
  have tk : Takes (cxOf (L2.CX P w) P w K mg base ["thing"] "is_told" (defScope t_p_is_told) (He.ga K "is_told") cdv A outer s H E) (WD E) := takes_of rfl rfl rfl rfl
  have hp : PassesOwn (model P w) (cxOf (L2.CX P w) P w K mg base ["thing"] "is_told" (defScope t_p_is_told) (He.ga K "is_told") cdv A outer s H E).A (cxOf (L2.CX P w) P w K mg base ["thing"] "is_told" (defScope t_p_is_told) (He.ga K "is_told") cdv A outer s H E).env (cxOf (L2.CX P w) P w K mg base ["thing"] "is_told" (defScope t_p_is_told) (He.ga K "is_told") cdv A outer s H E).xe := passes_of rfl
  have nd : (["thing"] : List Str).Nodup := sc_p_is_told.nd
  show MSs (cxOf (L2.CX P w) P w K mg base ["thing"] "is_told" (defScope t_p_is_told) (He.ga K "is_told") cdv A outer s H E) (WD E) (defBody t_p_is_told) (Pg.s_p_is_told fu)
  exact (mss_one (ms_ret (me_and (me_def (dd := []) (ok_p_is_number fu T) hr tk (mac (mv 0) ma_nil)) (me_and (mcmp o_lt (mcB c_abs (T.free 3) (mac (mix (mv 0) me_int) ma_nil)) (mbin o_pow me_int me_int)) (me_one (mcmp o_le (mix (mv 0) me_int) me_int))))))
theorem sc_p_is_word : FnScope ["thing", "sign"] ["thing"] (defScope t_p_is_word) := ⟨rfl, rfl, rfl, by decide +kernel, rfl, by decide +kernel, by decide +kernel⟩
theorem ok_p_is_word (fu : Nat) (T : Tx fa fn fxl K mg) : DefOk P w K mg base 1 "is_word" 1 (Pg.f_p_is_word fu) [[]] := by
  obtain ⟨fd, F⟩ := T.says.def_ 5 (d := d_p_is_word) rfl
  refine def_ok (d := d_p_is_word) (ps := ["thing"]) (T.glo 20) F (MI.fn_ok (N := ["thing", "sign"]) F sc_p_is_word fun cdv A outer s H E hr => ?_) (allC ⟨[], [], .nil, fun _ => .nil, F.bindsN fun _ _ _ _ _ _ us hl => match us, hl with | [_], _ => rfl⟩ all0)
  have tk : Takes (cxOf (L2.CX P w) P w K mg base ["thing", "sign"] "is_word" (defScope t_p_is_word) (He.ga K "is_word") cdv A outer s H E) (WD E) := takes_of rfl rfl rfl rfl
  have hp : PassesOwn (model P w) (cxOf (L2.CX P w) P w K mg base ["thing", "sign"] "is_word" (defScope t_p_is_word) (He.ga K "is_word") cdv A outer s H E).A (cxOf (L2.CX P w) P w K mg base ["thing", "sign"] "is_word" (defScope t_p_is_word) (He.ga K "is_word") cdv A outer s H E).env (cxOf (L2.CX P w) P w K mg base ["thing", "sign"] "is_word" (defScope t_p_is_word) (He.ga K "is_word") cdv A outer s H E).xe := passes_of rfl
  have nd : (["thing", "sign"] : List Str).Nodup := sc_p_is_word.nd
  show MSs (cxOf (L2.CX P w) P w K mg base ["thing", "sign"] "is_word" (defScope t_p_is_word) (He.ga K "is_word") cdv A outer s H E) (WD E) (defBody t_p_is_word) (Pg.s_p_is_word fu)
  exact (mss_cons (ms_if (PW.pt (mw_or (mt_not (ttru (misi "str" (T.free 0) (T.free 6) (mv 0)))) (mw_or1 (mt_not (mt_chain o_le o_le bl_le me_int (mcB c_len (T.free 5) (mac (mv 0) ma_nil)) me_int))))) (mss_one (ms_ret me_bl)) mss_nil) (mss_one (ms_ret (mcB (c_all rfl) (T.free 8) (mac (me_new (mn_lc (own := [("sign", 1)]) nd (mi_signs (mv 0)) (blkOk_by (N := ["thing", "sign"]) (sc := defScope t_p_is_word) (by decide +kernel)) (vN_ok (by decide)) (fun _ _ _ _ _ => (gname 1 nd)) (fun _ _ _ _ _ => mts_nil) (fun _ _ _ _ _ => (mcmp (o_in (hu65 hr)) (mv 1) (mgStr (T.str 7)))))) ma_nil)))))
theorem sc_p_are_ends : FnScope ["lo", "hi"] ["lo", "hi"] (defScope t_p_are_ends) := ⟨rfl, rfl, rfl, by decide +kernel, rfl, by decide +kernel, by decide +kernel⟩
theorem ok_p_are_ends (fu : Nat) (T : Tx fa fn fxl K mg) : DefOk P w K mg base 4 "are_ends" 2 (f_p_are_ends fu) [[]] := by
  obtain ⟨fd, F⟩ := T.says.def_ 6 (d := d_p_are_ends) rfl
  refine def_ok (d := d_p_are_ends) (ps := ["lo", "hi"]) (T.glo 21) F (MI.fn_ok (N := ["lo", "hi"]) F sc_p_are_ends fun cdv A outer s H E hr => ?_) (allC ⟨[], [], .nil, fun _ => .nil, F.bindsN fun _ _ _ _ _ _ us hl => match us, hl with | [_, _], _ => rfl⟩ all0)
  have tk : Takes (cxOf (L2.CX P w) P w K mg base ["lo", "hi"] "are_ends" (defScope t_p_are_ends) (He.ga K "are_ends") cdv A outer s H E) (WD E) := takes_of rfl rfl rfl rfl
  have hp : PassesOwn (model P w) (cxOf (L2.CX P w) P w K mg base ["lo", "hi"] "are_ends" (defScope t_p_are_ends) (He.ga K "are_ends") cdv A outer s H E).A (cxOf (L2.CX P w) P w K mg base ["lo", "hi"] "are_ends" (defScope t_p_are_ends) (He.ga K "are_ends") cdv A outer s H E).env (cxOf (L2.CX P w) P w K mg base ["lo", "hi"] "are_ends" (defScope t_p_are_ends) (He.ga K "are_ends") cdv A outer s H E).xe := passes_of rfl
  have nd : (["lo", "hi"] : List Str).Nodup := sc_p_are_ends.nd
  show MSs (cxOf (L2.CX P w) P w K mg base ["lo", "hi"] "are_ends" (defScope t_p_are_ends) (He.ga K "are_ends") cdv A outer s H E) (WD E) (defBody t_p_are_ends) (s_p_are_ends fu)
  exact (mss_one (ms_ret (me_and (me_def (dd := []) (ok_p_is_told fu T) hr tk (mac (mv 0) ma_nil)) (me_and (me_def (dd := []) (ok_p_is_told fu T) hr tk (mac (mv 1) ma_nil)) (me_one (me_def (dd := []) (ok_p_under fu T) hr tk (mac (mv 0) (mac (mv 1) ma_nil))))))))
theorem sc_p_are_pieces : FnScope ["thing", "k"] ["thing"] (defScope t_p_are_pieces) := ⟨rfl, rfl, rfl, by decide +kernel, rfl, by decide +kernel, by decide +kernel⟩
theorem ok_p_are_pieces (fu : Nat) (T : Tx fa fn fxl K mg) : DefOk P w K mg base 5 "are_pieces" 1 (f_p_are_pieces fu) [[]] := by
  obtain ⟨fd, F⟩ := T.says.def_ 7 (d := d_p_are_pieces) rfl
  refine def_ok (d := d_p_are_pieces) (ps := ["thing"]) (T.glo 22) F (MI.fn_ok (N := ["thing", "k"]) F sc_p_are_pieces fun cdv A outer s H E hr => ?_) (allC ⟨[], [], .nil, fun _ => .nil, F.bindsN fun _ _ _ _ _ _ us hl => match us, hl with | [_], _ => rfl⟩ all0)
  have tk : Takes (cxOf (L2.CX P w) P w K mg base ["thing", "k"] "are_pieces" (defScope t_p_are_pieces) (He.ga K "are_pieces") cdv A outer s H E) (WD E) := takes_of rfl rfl rfl rfl
  have hp : PassesOwn (model P w) (cxOf (L2.CX P w) P w K mg base ["thing", "k"] "are_pieces" (defScope t_p_are_pieces) (He.ga K "are_pieces") cdv A outer s H E).A (cxOf (L2.CX P w) P w K mg base ["thing", "k"] "are_pieces" (defScope t_p_are_pieces) (He.ga K "are_pieces") cdv A outer s H E).env (cxOf (L2.CX P w) P w K mg base ["thing", "k"] "are_pieces" (defScope t_p_are_pieces) (He.ga K "are_pieces") cdv A outer s H E).xe := passes_of rfl
  have nd : (["thing", "k"] : List Str).Nodup := sc_p_are_pieces.nd
  show MSs (cxOf (L2.CX P w) P w K mg base ["thing", "k"] "are_pieces" (defScope t_p_are_pieces) (He.ga K "are_pieces") cdv A outer s H E) (WD E) (defBody t_p_are_pieces) (s_p_are_pieces fu)
  exact (mss_cons (ms_if (PW.pt (mw_or (mt_not (ttru (misi "tuple" (T.free 0) (T.free 4) (mv 0)))) (mw_or1 (mt_not (mt_chain o_le o_le bl_le me_int (mcB c_len (T.free 5) (mac (mv 0) ma_nil)) me_int))))) (mss_one (ms_ret me_bl)) mss_nil) (mss_cons (ms_for hp (mi_rng1 (T.free 9) (mac (mcB c_len (T.free 5) (mac (mv 0) ma_nil)) ma_nil)) (gname 1 nd) gN_ok (mss_cons (ms_if (PW.pt (mw_or (mt_not (ttru (misi "tuple" (T.free 0) (T.free 4) (mix (mv 0) (mv 1))))) (mw_or (tcmp (o_ne hr.units) bl_ne (mcB c_len (T.free 5) (mac (mix (mv 0) (mv 1)) ma_nil)) me_int) (mw_or1 (mt_not (ttru (me_def (dd := []) (ok_p_are_ends fu T) hr tk (mac (mix (mix (mv 0) (mv 1)) me_int) (mac (mix (mix (mv 0) (mv 1)) me_int) ma_nil))))))))) (mss_one (ms_ret me_bl)) mss_nil) (mss_one (ms_if (PW.pt (mw_and (tcmp o_gt bl_gt (mv 1) me_int) (mw_and1 (mt_not (ttru (me_def (dd := []) (ok_p_under fu T) hr tk (mac (mix (mix (mv 0) (mbin o_sub (mv 1) me_int)) me_int) (mac (mix (mix (mv 0) (mv 1)) me_int) ma_nil)))))))) (mss_one (ms_ret me_bl)) mss_nil)))) (mss_one (ms_ret me_bl))))
theorem sc_p_are_words : FnScope ["thing", "word"] ["thing"] (defScope t_p_are_words) := ⟨rfl, rfl, rfl, by decide +kernel, rfl, by decide +kernel, by decide +kernel⟩
theorem ok_p_are_words (fu : Nat) (T : Tx fa fn fxl K mg) : DefOk P w K mg base 2 "are_words" 1 (f_p_are_words fu) [[]] := by
  obtain ⟨fd, F⟩ := T.says.def_ 8 (d := d_p_are_words) rfl
  refine def_ok (d := d_p_are_words) (ps := ["thing"]) (T.glo 23) F (MI.fn_ok (N := ["thing", "word"]) F sc_p_are_words fun cdv A outer s H E hr => ?_) (allC ⟨[], [], .nil, fun _ => .nil, F.bindsN fun _ _ _ _ _ _ us hl => match us, hl with | [_], _ => rfl⟩ all0)
  have tk : Takes (cxOf (L2.CX P w) P w K mg base ["thing", "word"] "are_words" (defScope t_p_are_words) (He.ga K "are_words") cdv A outer s H E) (WD E) := takes_of rfl rfl rfl rfl
  have hp : PassesOwn (model P w) (cxOf (L2.CX P w) P w K mg base ["thing", "word"] "are_words" (defScope t_p_are_words) (He.ga K "are_words") cdv A outer s H E).A (cxOf (L2.CX P w) P w K mg base ["thing", "word"] "are_words" (defScope t_p_are_words) (He.ga K "are_words") cdv A outer s H E).env (cxOf (L2.CX P w) P w K mg base ["thing", "word"] "are_words" (defScope t_p_are_words) (He.ga K "are_words") cdv A outer s H E).xe := passes_of rfl
  have nd : (["thing", "word"] : List Str).Nodup := sc_p_are_words.nd
  show MSs (cxOf (L2.CX P w) P w K mg base ["thing", "word"] "are_words" (defScope t_p_are_words) (He.ga K "are_words") cdv A outer s H E) (WD E) (defBody t_p_are_words) (s_p_are_words fu)
  exact (mss_cons (ms_if (PW.pt (mw_or (mt_not (ttru (misi "tuple" (T.free 0) (T.free 4) (mv 0)))) (mw_or1 (mt_not (mt_chain o_le o_le bl_le me_int (mcB c_len (T.free 5) (mac (mv 0) ma_nil)) (mgInt (T.int 10))))))) (mss_one (ms_ret me_bl)) mss_nil) (mss_cons (ms_for hp (mi_items (mv 0)) (gname 1 nd) gN_ok (mss_one (ms_if (mt_not (ttru (me_def (dd := []) (ok_p_is_word fu T) hr tk (mac (mv 1) ma_nil)))) (mss_one (ms_ret me_bl)) mss_nil))) (mss_one (ms_ret (mcmp (o_eq hr.units) (me_lenSet (T.free 5) (T.free 11) (mv 0)) (mcB c_len (T.free 5) (mac (mv 0) ma_nil)))))))
theorem sc_p_is_wish : FnScope ["thing"] ["thing"] (defScope t_p_is_wish) := ⟨rfl, rfl, rfl, by decide +kernel, rfl, by decide +kernel, by decide +kernel⟩
theorem ok_p_is_wish (fu : Nat) (T : Tx fa fn fxl K mg) : DefOk P w K mg base 6 "is_wish" 1 (f_p_is_wish fu) [[]] := by
  obtain ⟨fd, F⟩ := T.says.def_ 9 (d := d_p_is_wish) rfl
  refine def_ok (d := d_p_is_wish) (ps := ["thing"]) (T.glo 24) F (MI.fn_ok (N := ["thing"]) F sc_p_is_wish fun cdv A outer s H E hr => ?_) (allC ⟨[], [], .nil, fun _ => .nil, F.bindsN fun _ _ _ _ _ _ us hl => match us, hl with | [_], _ => rfl⟩ all0)
  have tk : Takes (cxOf (L2.CX P w) P w K mg base ["thing"] "is_wish" (defScope t_p_is_wish) (He.ga K "is_wish") cdv A outer s H E) (WD E) := takes_of rfl rfl rfl rfl
  have hp : PassesOwn (model P w) (cxOf (L2.CX P w) P w K mg base ["thing"] "is_wish" (defScope t_p_is_wish) (He.ga K "is_wish") cdv A outer s H E).A (cxOf (L2.CX P w) P w K mg base ["thing"] "is_wish" (defScope t_p_is_wish) (He.ga K "is_wish") cdv A outer s H E).env (cxOf (L2.CX P w) P w K mg base ["thing"] "is_wish" (defScope t_p_is_wish) (He.ga K "is_wish") cdv A outer s H E).xe := passes_of rfl
  have nd : (["thing"] : List Str).Nodup := sc_p_is_wish.nd
  show MSs (cxOf (L2.CX P w) P w K mg base ["thing"] "is_wish" (defScope t_p_is_wish) (He.ga K "is_wish") cdv A outer s H E) (WD E) (defBody t_p_is_wish) (s_p_is_wish fu)
  exact (mss_cons (ms_if (PW.pt (mw_or (mt_not (ttru (misi "tuple" (T.free 0) (T.free 4) (mv 0)))) (mw_or (tcmp (o_eqE hr.units) bl_eqE (mv 0) (me_tup ma_nil)) (mw_or1 (mt_not (ttru (misi "str" (T.free 0) (T.free 6) (mix (mv 0) me_int)))))))) (mss_one (ms_ret me_bl)) mss_nil) (mss_cons (ms_if (tcmp (o_eq hr.units) bl_eq (mcB c_len (T.free 5) (mac (mv 0) ma_nil)) me_int) (mss_one (ms_ret (mcmp (o_inT (hu65 hr)) (mix (mv 0) me_int) (me_tup (mac me_str (mac me_str (mac me_str ma_nil))))))) mss_nil) (mss_cons (ms_if (tcmp (o_eq hr.units) bl_eq (mcB c_len (T.free 5) (mac (mv 0) ma_nil)) me_int) (mss_one (ms_ret (me_and (mcmp (o_eq hr.units) (mix (mv 0) me_int) me_str) (me_one (me_def (dd := []) (ok_p_are_ends fu T) hr tk (mac (mix (mv 0) me_int) (mac (mix (mv 0) me_int) ma_nil))))))) mss_nil) (mss_cons (ms_if (tcmp (o_ne hr.units) bl_ne (mcB c_len (T.free 5) (mac (mv 0) ma_nil)) me_int) (mss_one (ms_ret me_bl)) mss_nil) (mss_cons (ms_if (tcmp (o_eq hr.units) bl_eq (mix (mv 0) me_int) me_str) (mss_one (ms_ret (me_and (me_def (dd := []) (ok_p_is_whole fu T) hr tk (mac (mix (mv 0) me_int) ma_nil)) (me_one (mcmp (o_inTI (hu65 hr)) (mix (mv 0) me_int) (me_tup (mac me_int (mac me_int ma_nil)))))))) mss_nil) (mss_cons (ms_if (tcmp (o_eq hr.units) bl_eq (mix (mv 0) me_int) me_str) (mss_one (ms_ret (me_def (dd := []) (ok_p_are_pieces fu T) hr tk (mac (mix (mv 0) me_int) ma_nil)))) mss_nil) (mss_one (ms_ret (me_and (mcmp (o_eq hr.units) (mix (mv 0) me_int) me_str) (me_one (me_def (dd := []) (ok_p_are_words fu T) hr tk (mac (mix (mv 0) me_int) ma_nil))))))))))))
theorem sc_p_axis_word : FnScope ["wish"] ["wish"] (defScope t_p_axis_word) := ⟨rfl, rfl, rfl, by decide +kernel, rfl, by decide +kernel, by decide +kernel⟩
theorem ok_p_axis_word (fu : Nat) (T : Tx fa fn fxl K mg) : DefOk P w K mg base 1 "axis_word" 1 (f_p_axis_word fu) [[]] := by
  obtain ⟨fd, F⟩ := T.says.def_ 10 (d := d_p_axis_word) rfl
  refine def_ok (d := d_p_axis_word) (ps := ["wish"]) (T.glo 25) F (MI.fn_ok (N := ["wish"]) F sc_p_axis_word fun cdv A outer s H E hr => ?_) (allC ⟨[], [], .nil, fun _ => .nil, F.bindsN fun _ _ _ _ _ _ us hl => match us, hl with | [_], _ => rfl⟩ all0)
  have tk : Takes (cxOf (L2.CX P w) P w K mg base ["wish"] "axis_word" (defScope t_p_axis_word) (He.ga K "axis_word") cdv A outer s H E) (WD E) := takes_of rfl rfl rfl rfl
  have hp : PassesOwn (model P w) (cxOf (L2.CX P w) P w K mg base ["wish"] "axis_word" (defScope t_p_axis_word) (He.ga K "axis_word") cdv A outer s H E).A (cxOf (L2.CX P w) P w K mg base ["wish"] "axis_word" (defScope t_p_axis_word) (He.ga K "axis_word") cdv A outer s H E).env (cxOf (L2.CX P w) P w K mg base ["wish"] "axis_word" (defScope t_p_axis_word) (He.ga K "axis_word") cdv A outer s H E).xe := passes_of rfl
  have nd : (["wish"] : List Str).Nodup := sc_p_axis_word.nd
  show MSs (cxOf (L2.CX P w) P w K mg base ["wish"] "axis_word" (defScope t_p_axis_word) (He.ga K "axis_word") cdv A outer s H E) (WD E) (defBody t_p_axis_word) (s_p_axis_word fu)
  exact (mss_cons (ms_if (tcmp (o_eq hr.units) bl_eq (mix (mv 0) me_int) me_str) (mss_one (ms_ret (mbin o_addL me_str (mcT c_str (T.free 6) (mac (mix (mv 0) me_int) ma_nil))))) mss_nil) (mss_one (ms_ret (mix (mv 0) me_int))))
theorem sc_law_cell_at : FnScope ["_law_script", "_law_k"] ["_law_script", "_law_k"] (defScope t_law_cell_at) := ⟨rfl, rfl, rfl, by decide +kernel, rfl, by decide +kernel, by decide +kernel⟩
theorem ok_law_cell_at (fu : Nat) (T : Tx fa fn fxl K mg) : DefOk P w K mg base 1 "_law_cell_at" 2 (Pg.f_law_cell_at fu) [[]] := by
  obtain ⟨fd, F⟩ := T.says.def_ 11 (d := d_law_cell_at) rfl
  refine def_ok (d := d_law_cell_at) (ps := ["_law_script", "_law_k"]) (T.glo 26) F (MI.fn_ok (N := ["_law_script", "_law_k"]) F sc_law_cell_at fun cdv A outer s H E hr => ?_) (allC ⟨[], [], .nil, fun _ => .nil, F.bindsN fun _ _ _ _ _ _ us hl => match us, hl with | [_, _], _ => rfl⟩ all0)
  have tk : Takes (cxOf (L2.CX P w) P w K mg base ["_law_script", "_law_k"] "_law_cell_at" (defScope t_law_cell_at) (He.ga K "_law_cell_at") cdv A outer s H E) (WD E) := takes_of rfl rfl rfl rfl
  have hp : PassesOwn (model P w) (cxOf (L2.CX P w) P w K mg base ["_law_script", "_law_k"] "_law_cell_at" (defScope t_law_cell_at) (He.ga K "_law_cell_at") cdv A outer s H E).A (cxOf (L2.CX P w) P w K mg base ["_law_script", "_law_k"] "_law_cell_at" (defScope t_law_cell_at) (He.ga K "_law_cell_at") cdv A outer s H E).env (cxOf (L2.CX P w) P w K mg base ["_law_script", "_law_k"] "_law_cell_at" (defScope t_law_cell_at) (He.ga K "_law_cell_at") cdv A outer s H E).xe := passes_of rfl
  have nd : (["_law_script", "_law_k"] : List Str).Nodup := sc_law_cell_at.nd
  show MSs (cxOf (L2.CX P w) P w K mg base ["_law_script", "_law_k"] "_law_cell_at" (defScope t_law_cell_at) (He.ga K "_law_cell_at") cdv A outer s H E) (WD E) (defBody t_law_cell_at) (Pg.s_law_cell_at fu)
  exact (mss_cons (ms_if (tcmp o_lt bl_lt (mv 1) (mcB c_len (T.free 5) (mac (mv 0) ma_nil))) (mss_one (ms_ret (mix (mv 0) (mv 1)))) mss_nil) (mss_one (ms_ret me_int)))
theorem sc_law_source : FnScope ["_law_script", "_law_k", "_law_cell", "_law_seed"] ["_law_script", "_law_k"] (defScope t_law_source) := ⟨rfl, rfl, rfl, by decide +kernel, rfl, by decide +kernel, by decide +kernel⟩
theorem ok_law_source (fu : Nat) (T : Tx fa fn fxl K mg) : DefOkT P w K mg base 2 "_law_source" 2 (Pg.f_sr_source fu) [[]] := by
  obtain ⟨fd, F⟩ := T.says.def_ 12 (d := d_law_source) rfl
  refine def_okT (d := d_law_source) (ps := ["_law_script", "_law_k"]) (T.glo 27) F (MI.fn_okT (N := ["_law_script", "_law_k", "_law_cell", "_law_seed"]) F sc_law_source fun cdv A outer s H E hr => ?_) (allC ⟨[], [], .nil, fun _ => .nil, F.bindsN fun _ _ _ _ _ _ us hl => match us, hl with | [_, _], _ => rfl⟩ all0)
  have tk : Takes (cxOf (L2.CX P w) P w K mg base ["_law_script", "_law_k", "_law_cell", "_law_seed"] "_law_source" (defScope t_law_source) (He.ga K "_law_source") cdv A outer s H E) (WD E) := takes_of rfl rfl rfl rfl
  have hp : PassesOwn (model P w) (cxOf (L2.CX P w) P w K mg base ["_law_script", "_law_k", "_law_cell", "_law_seed"] "_law_source" (defScope t_law_source) (He.ga K "_law_source") cdv A outer s H E).A (cxOf (L2.CX P w) P w K mg base ["_law_script", "_law_k", "_law_cell", "_law_seed"] "_law_source" (defScope t_law_source) (He.ga K "_law_source") cdv A outer s H E).env (cxOf (L2.CX P w) P w K mg base ["_law_script", "_law_k", "_law_cell", "_law_seed"] "_law_source" (defScope t_law_source) (He.ga K "_law_source") cdv A outer s H E).xe := passes_of rfl
  have nd : (["_law_script", "_law_k", "_law_cell", "_law_seed"] : List Str).Nodup := sc_law_source.nd
  show MTSs (cxOf (L2.CX P w) P w K mg base ["_law_script", "_law_k", "_law_cell", "_law_seed"] "_law_source" (defScope t_law_source) (He.ga K "_law_source") cdv A outer s H E) (WD E) (defBody t_law_source) (Pg.s_sr_source fu)
  exact (mtss_cons (mts_set 2 nd (mx_p (me_def (dd := []) (ok_law_cell_at fu T) hr tk (mac (mv 0) (mac (mv 1) ma_nil))))) (mtss_cons (mts_set 3 nd (mx_p (mbin o_mod (mbin o_mul (mbin o_addL (mbin o_addL (mbin o_mod (mv 2) me_int) (mbin o_mul me_int (mv 1))) me_int) me_int) me_int))) (mtss_one (mts_ret (mx_own (mxa_cons (mx_p (mbin o_mul (mv 2) (mcT c_intT (T.free 1) (mac (mcmp o_ge (mv 2) (mbin o_pow me_int me_int)) ma_nil)))) (mxa_cons (mx_p (mbin o_mod (mbin o_mul (mv 3) (mv 3)) me_int)) mxa_nil)))))))
theorem sc_law_draw : FnScope ["_law_source_here", "_law_many", "_law_digit"] ["_law_source_here", "_law_many"] (defScope t_law_draw) := ⟨rfl, rfl, rfl, by decide +kernel, rfl, by decide +kernel, by decide +kernel⟩
theorem ok_law_draw (fu : Nat) (T : Tx fa fn fxl K mg) : DefOkT P w K mg base 1 "_law_draw" 2 (Pg.f_sr_draw fu) [[]] := by
  obtain ⟨fd, F⟩ := T.says.def_ 13 (d := d_law_draw) rfl
  refine def_okT (d := d_law_draw) (ps := ["_law_source_here", "_law_many"]) (T.glo 28) F (MI.fn_okT (N := ["_law_source_here", "_law_many", "_law_digit"]) F sc_law_draw fun cdv A outer s H E hr => ?_) (allC ⟨[], [], .nil, fun _ => .nil, F.bindsN fun _ _ _ _ _ _ us hl => match us, hl with | [_, _], _ => rfl⟩ all0)
  have tk : Takes (cxOf (L2.CX P w) P w K mg base ["_law_source_here", "_law_many", "_law_digit"] "_law_draw" (defScope t_law_draw) (He.ga K "_law_draw") cdv A outer s H E) (WD E) := takes_of rfl rfl rfl rfl
  have hp : PassesOwn (model P w) (cxOf (L2.CX P w) P w K mg base ["_law_source_here", "_law_many", "_law_digit"] "_law_draw" (defScope t_law_draw) (He.ga K "_law_draw") cdv A outer s H E).A (cxOf (L2.CX P w) P w K mg base ["_law_source_here", "_law_many", "_law_digit"] "_law_draw" (defScope t_law_draw) (He.ga K "_law_draw") cdv A outer s H E).env (cxOf (L2.CX P w) P w K mg base ["_law_source_here", "_law_many", "_law_digit"] "_law_draw" (defScope t_law_draw) (He.ga K "_law_draw") cdv A outer s H E).xe := passes_of rfl
  have nd : (["_law_source_here", "_law_many", "_law_digit"] : List Str).Nodup := sc_law_draw.nd
  show MTSs (cxOf (L2.CX P w) P w K mg base ["_law_source_here", "_law_many", "_law_digit"] "_law_draw" (defScope t_law_draw) (He.ga K "_law_draw") cdv A outer s H E) (WD E) (defBody t_law_draw) (Pg.s_sr_draw fu)
  exact (mtss_cons (mts_if (mxt_p (tcmp o_gt bl_gt (mix (mv 0) me_int) me_int)) (mtss_cons (mts_set 2 nd (mx_v (mbin o_mod (mix (mv 0) me_int) (mv 1)))) (mtss_cons (mts_put 0 (mx_v (mbin o_fdv (mix (mv 0) me_int) (mv 1))) (mx_p me_int) (pg_sub (pv 0) (mx_p me_int) set_list)) (mtss_one (mts_ret (mx_p (mv 2)))))) mtss_nil) (mtss_cons (mts_put 0 (mx_v (mbin o_mod (mbin o_addL (mbin o_mul (mix (mv 0) me_int) me_int) me_int) me_int)) (mx_p me_int) (pg_sub (pv 0) (mx_p me_int) set_list)) (mtss_one (mts_ret (mx_v (mbin o_mod (mbin o_fdv (mbin o_mod (mbin o_mul (mix (mv 0) me_int) (mix (mv 0) me_int)) me_int) me_int) (mv 1)))))))
theorem sc_law_great : FnScope ["_law_source_here", "_law_many", "_law_found", "_law_turn"] ["_law_source_here", "_law_many"] (defScope t_law_great) := ⟨rfl, rfl, rfl, by decide +kernel, rfl, by decide +kernel, by decide +kernel⟩
theorem ok_law_great (fu : Nat) (T : Tx fa fn fxl K mg) : DefOkT P w K mg base 2 "_law_great" 2 (Pg.f_sr_great fu) [[]] := by
  obtain ⟨fd, F⟩ := T.says.def_ 14 (d := d_law_great) rfl
  refine def_okT (d := d_law_great) (ps := ["_law_source_here", "_law_many"]) (T.glo 29) F (MI.fn_okT (N := ["_law_source_here", "_law_many", "_law_found", "_law_turn"]) F sc_law_great fun cdv A outer s H E hr => ?_) (allC ⟨[], [], .nil, fun _ => .nil, F.bindsN fun _ _ _ _ _ _ us hl => match us, hl with | [_, _], _ => rfl⟩ all0)
  have tk : Takes (cxOf (L2.CX P w) P w K mg base ["_law_source_here", "_law_many", "_law_found", "_law_turn"] "_law_great" (defScope t_law_great) (He.ga K "_law_great") cdv A outer s H E) (WD E) := takes_of rfl rfl rfl rfl
  have hp : PassesOwn (model P w) (cxOf (L2.CX P w) P w K mg base ["_law_source_here", "_law_many", "_law_found", "_law_turn"] "_law_great" (defScope t_law_great) (He.ga K "_law_great") cdv A outer s H E).A (cxOf (L2.CX P w) P w K mg base ["_law_source_here", "_law_many", "_law_found", "_law_turn"] "_law_great" (defScope t_law_great) (He.ga K "_law_great") cdv A outer s H E).env (cxOf (L2.CX P w) P w K mg base ["_law_source_here", "_law_many", "_law_found", "_law_turn"] "_law_great" (defScope t_law_great) (He.ga K "_law_great") cdv A outer s H E).xe := passes_of rfl
  have nd : (["_law_source_here", "_law_many", "_law_found", "_law_turn"] : List Str).Nodup := sc_law_great.nd
  show MTSs (cxOf (L2.CX P w) P w K mg base ["_law_source_here", "_law_many", "_law_found", "_law_turn"] "_law_great" (defScope t_law_great) (He.ga K "_law_great") cdv A outer s H E) (WD E) (defBody t_law_great) (Pg.s_sr_great fu)
  exact (mtss_cons (mts_set 2 nd (mx_p me_int)) (mtss_cons (mts_for hp (mxi_p (mi_rng1 (T.free 9) (mac me_int ma_nil))) (gname 3 nd) uN_ok (mtss_one (mts_setD 2 nd (mx_op o_addL (mx_p (mbin o_mul (mv 2) me_int)) (mx_fn (dd := []) (ok_law_draw fu T) hr tk (mxr_bor 0 (mxr_val (mx_p me_int) mxr_nil) (pv 0))))))) (mtss_one (mts_ret (mx_p (mbin o_mod (mv 2) (mv 1)))))))
theorem sc_law_low : FnScope ["_law_top", "_law_bottom", "_law_one", "_law_other"] ["_law_top", "_law_bottom"] (defScope t_law_low) := ⟨rfl, rfl, rfl, by decide +kernel, rfl, by decide +kernel, by decide +kernel⟩
theorem ok_law_low (fu : Nat) (T : Tx fa fn fxl K mg) : DefOk P w K mg base 1 "_law_low" 2 (Pg.f_sr_low fu) [[]] := by
  obtain ⟨fd, F⟩ := T.says.def_ 15 (d := d_law_low) rfl
  refine def_ok (d := d_law_low) (ps := ["_law_top", "_law_bottom"]) (T.glo 30) F (MI.fn_ok (N := ["_law_top", "_law_bottom", "_law_one", "_law_other"]) F sc_law_low fun cdv A outer s H E hr => ?_) (allC ⟨[], [], .nil, fun _ => .nil, F.bindsN fun _ _ _ _ _ _ us hl => match us, hl with | [_, _], _ => rfl⟩ all0)
  have tk : Takes (cxOf (L2.CX P w) P w K mg base ["_law_top", "_law_bottom", "_law_one", "_law_other"] "_law_low" (defScope t_law_low) (He.ga K "_law_low") cdv A outer s H E) (WD E) := takes_of rfl rfl rfl rfl
  have hp : PassesOwn (model P w) (cxOf (L2.CX P w) P w K mg base ["_law_top", "_law_bottom", "_law_one", "_law_other"] "_law_low" (defScope t_law_low) (He.ga K "_law_low") cdv A outer s H E).A (cxOf (L2.CX P w) P w K mg base ["_law_top", "_law_bottom", "_law_one", "_law_other"] "_law_low" (defScope t_law_low) (He.ga K "_law_low") cdv A outer s H E).env (cxOf (L2.CX P w) P w K mg base ["_law_top", "_law_bottom", "_law_one", "_law_other"] "_law_low" (defScope t_law_low) (He.ga K "_law_low") cdv A outer s H E).xe := passes_of rfl
  have nd : (["_law_top", "_law_bottom", "_law_one", "_law_other"] : List Str).Nodup := sc_law_low.nd
  show MSs (cxOf (L2.CX P w) P w K mg base ["_law_top", "_law_bottom", "_law_one", "_law_other"] "_law_low" (defScope t_law_low) (He.ga K "_law_low") cdv A outer s H E) (WD E) (defBody t_law_low) (Pg.s_sr_low fu)
  exact (mss_cons (sset 2 nd (mcB c_abs (T.free 3) (mac (mv 0) ma_nil))) (mss_cons (sset 3 nd (mv 1)) (mss_cons (ms_while hp (tcmp o_gt bl_gt (mv 3) me_int) (mss_one (spar 2 3 nd (mac (mv 3) (mac (mbin o_mod (mv 2) (mv 3)) ma_nil))))) (mss_one (ms_ret (me_tup (mac (mbin o_fdv (mv 0) (mv 2)) (mac (mbin o_fdv (mv 1) (mv 2)) ma_nil))))))))
theorem sc_law_ends : FnScope ["_law_source_here", "_law_many", "_law_bottom", "_law_most", "_law_top", "_law_found", "_law_k"] ["_law_source_here", "_law_many"] (defScope t_law_ends) := ⟨rfl, rfl, rfl, by decide +kernel, rfl, by decide +kernel, by decide +kernel⟩
theorem ok_law_ends (fu : Nat) (T : Tx fa fn fxl K mg) : DefOkT P w K mg base 3 "_law_ends" 2 (f_law_ends fu) [[]] := by
  obtain ⟨fd, F⟩ := T.says.def_ 16 (d := d_law_ends) rfl
  refine def_okT (d := d_law_ends) (ps := ["_law_source_here", "_law_many"]) (T.glo 31) F (MI.fn_okT (N := ["_law_source_here", "_law_many", "_law_bottom", "_law_most", "_law_top", "_law_found", "_law_k"]) F sc_law_ends fun cdv A outer s H E hr => ?_) (allC ⟨[], [], .nil, fun _ => .nil, F.bindsN fun _ _ _ _ _ _ us hl => match us, hl with | [_, _], _ => rfl⟩ all0)
  have tk : Takes (cxOf (L2.CX P w) P w K mg base ["_law_source_here", "_law_many", "_law_bottom", "_law_most", "_law_top", "_law_found", "_law_k"] "_law_ends" (defScope t_law_ends) (He.ga K "_law_ends") cdv A outer s H E) (WD E) := takes_of rfl rfl rfl rfl
  have hp : PassesOwn (model P w) (cxOf (L2.CX P w) P w K mg base ["_law_source_here", "_law_many", "_law_bottom", "_law_most", "_law_top", "_law_found", "_law_k"] "_law_ends" (defScope t_law_ends) (He.ga K "_law_ends") cdv A outer s H E).A (cxOf (L2.CX P w) P w K mg base ["_law_source_here", "_law_many", "_law_bottom", "_law_most", "_law_top", "_law_found", "_law_k"] "_law_ends" (defScope t_law_ends) (He.ga K "_law_ends") cdv A outer s H E).env (cxOf (L2.CX P w) P w K mg base ["_law_source_here", "_law_many", "_law_bottom", "_law_most", "_law_top", "_law_found", "_law_k"] "_law_ends" (defScope t_law_ends) (He.ga K "_law_ends") cdv A outer s H E).xe := passes_of rfl
  have nd : (["_law_source_here", "_law_many", "_law_bottom", "_law_most", "_law_top", "_law_found", "_law_k"] : List Str).Nodup := sc_law_ends.nd
  show MTSs (cxOf (L2.CX P w) P w K mg base ["_law_source_here", "_law_many", "_law_bottom", "_law_most", "_law_top", "_law_found", "_law_k"] "_law_ends" (defScope t_law_ends) (He.ga K "_law_ends") cdv A outer s H E) (WD E) (defBody t_law_ends) (s_law_ends fu)
  exact (mtss_cons (mts_setD 2 nd (mx_ix (mx_lst (mxa_cons (mx_p me_int) (mxa_cons (mx_op o_addL (mx_p me_int) (mx_fn (dd := []) (ok_law_draw fu T) hr tk (mxr_bor 0 (mxr_val (mx_p me_int) mxr_nil) (pv 0)))) mxa_nil))) (mx_fn (dd := []) (ok_law_draw fu T) hr tk (mxr_bor 0 (mxr_val (mx_p me_int) mxr_nil) (pv 0))))) (mtss_cons (mts_setD 3 nd (mx_ix (mx_p (me_lst (mac me_int (mac (mbin o_pow me_int me_int) ma_nil)))) (mx_fn (dd := []) (ok_law_draw fu T) hr tk (mxr_bor 0 (mxr_val (mx_p me_int) mxr_nil) (pv 0))))) (mtss_cons (mts_setD 4 nd (mx_op o_sub (mx_fn (dd := []) (ok_law_great fu T) hr tk (mxr_bor 0 (mxr_val (mx_p (mbin o_mul me_int (mv 3))) mxr_nil) (pv 0))) (mx_p (mbin o_mul me_int (mv 3))))) (mtss_cons (mts_set 5 nd (mx_own mxa_nil)) (mtss_cons (mts_for hp (mxi_p (mi_rng1 (T.free 9) (mac (mv 1) ma_nil))) (gname 6 nd) uN_ok (mtss_cons (mts_app 5 (mx_p (me_def (dd := []) (ok_law_low fu T) hr tk (mac (mv 4) (mac (mv 2) ma_nil)))) (pv 5)) (mtss_one (mts_setD 4 nd (mx_op o_addL (mx_p (mbin o_addL (mv 4) me_int)) (mx_fn (dd := []) (ok_law_great fu T) hr tk (mxr_bor 0 (mxr_val (mx_p (mv 3)) mxr_nil) (pv 0)))))))) (mtss_one (mts_ret (mx_mv 5))))))))
theorem sc_law_word : FnScope ["_law_source_here", "_law_letters", "_law_k"] ["_law_source_here"] (defScope t_law_word) := ⟨rfl, rfl, rfl, by decide +kernel, rfl, by decide +kernel, by decide +kernel⟩
theorem ok_law_word (fu : Nat) (T : Tx fa fn fxl K mg) : DefOkT P w K mg base 2 "_law_word" 1 (f_law_word fu) [[]] := by
  obtain ⟨fd, F⟩ := T.says.def_ 17 (d := d_law_word) rfl
  refine def_okT (d := d_law_word) (ps := ["_law_source_here"]) (T.glo 32) F (MI.fn_okT (N := ["_law_source_here", "_law_letters", "_law_k"]) F sc_law_word fun cdv A outer s H E hr => ?_) (allC ⟨[], [], .nil, fun _ => .nil, F.bindsN fun _ _ _ _ _ _ us hl => match us, hl with | [_], _ => rfl⟩ all0)
  have tk : Takes (cxOf (L2.CX P w) P w K mg base ["_law_source_here", "_law_letters", "_law_k"] "_law_word" (defScope t_law_word) (He.ga K "_law_word") cdv A outer s H E) (WD E) := takes_of rfl rfl rfl rfl
  have hp : PassesOwn (model P w) (cxOf (L2.CX P w) P w K mg base ["_law_source_here", "_law_letters", "_law_k"] "_law_word" (defScope t_law_word) (He.ga K "_law_word") cdv A outer s H E).A (cxOf (L2.CX P w) P w K mg base ["_law_source_here", "_law_letters", "_law_k"] "_law_word" (defScope t_law_word) (He.ga K "_law_word") cdv A outer s H E).env (cxOf (L2.CX P w) P w K mg base ["_law_source_here", "_law_letters", "_law_k"] "_law_word" (defScope t_law_word) (He.ga K "_law_word") cdv A outer s H E).xe := passes_of rfl
  have nd : (["_law_source_here", "_law_letters", "_law_k"] : List Str).Nodup := sc_law_word.nd
  show MTSs (cxOf (L2.CX P w) P w K mg base ["_law_source_here", "_law_letters", "_law_k"] "_law_word" (defScope t_law_word) (He.ga K "_law_word") cdv A outer s H E) (WD E) (defBody t_law_word) (s_law_word fu)
  exact (mtss_cons (mts_set 1 nd (mx_p me_str)) (mtss_one (mts_ret (mx_mt PySem.F.plainAttrs_str PySem.F.slot_str_join PySem.F.type_str_join m_join (mx_p me_str) (mxa_cons (mx_lc (own := [("_law_k", 2)]) nd (mxi_rng1 (T.free 9) (mxa_cons (mx_op o_addL (mx_p me_int) (mx_fn (dd := []) (ok_law_draw fu T) hr tk (mxr_bor 0 (mxr_val (mx_p me_int) mxr_nil) (pv 0)))) mxa_nil)) (blkOk_by (N := ["_law_source_here", "_law_letters", "_law_k"]) (sc := defScope t_law_word) (by decide +kernel)) (uV_ok (by decide)) (fun _ _ _ _ _ => (gname 2 nd)) (fun _ _ _ _ _ => mxts_nil) (fun _ _ _ _ _ => (mx_ix (mx_p (mv 1)) (mx_fn (dd := []) (ok_law_draw fu T) hr takes0 (mxr_bor 0 (mxr_val (mx_p me_int) mxr_nil) (pv 0)))))) mxa_nil)))))
theorem sc_law_words : FnScope ["_law_source_here", "_law_found", "_law_k", "_law_word_here"] ["_law_source_here"] (defScope t_law_words) := ⟨rfl, rfl, rfl, by decide +kernel, rfl, by decide +kernel, by decide +kernel⟩
theorem ok_law_words (fu : Nat) (T : Tx fa fn fxl K mg) : DefOkT P w K mg base 3 "_law_words" 1 (f_law_words fu) [[]] := by
  obtain ⟨fd, F⟩ := T.says.def_ 18 (d := d_law_words) rfl
  refine def_okT (d := d_law_words) (ps := ["_law_source_here"]) (T.glo 33) F (MI.fn_okT (N := ["_law_source_here", "_law_found", "_law_k", "_law_word_here"]) F sc_law_words fun cdv A outer s H E hr => ?_) (allC ⟨[], [], .nil, fun _ => .nil, F.bindsN fun _ _ _ _ _ _ us hl => match us, hl with | [_], _ => rfl⟩ all0)
  have tk : Takes (cxOf (L2.CX P w) P w K mg base ["_law_source_here", "_law_found", "_law_k", "_law_word_here"] "_law_words" (defScope t_law_words) (He.ga K "_law_words") cdv A outer s H E) (WD E) := takes_of rfl rfl rfl rfl
  have hp : PassesOwn (model P w) (cxOf (L2.CX P w) P w K mg base ["_law_source_here", "_law_found", "_law_k", "_law_word_here"] "_law_words" (defScope t_law_words) (He.ga K "_law_words") cdv A outer s H E).A (cxOf (L2.CX P w) P w K mg base ["_law_source_here", "_law_found", "_law_k", "_law_word_here"] "_law_words" (defScope t_law_words) (He.ga K "_law_words") cdv A outer s H E).env (cxOf (L2.CX P w) P w K mg base ["_law_source_here", "_law_found", "_law_k", "_law_word_here"] "_law_words" (defScope t_law_words) (He.ga K "_law_words") cdv A outer s H E).xe := passes_of rfl
  have nd : (["_law_source_here", "_law_found", "_law_k", "_law_word_here"] : List Str).Nodup := sc_law_words.nd
  show MTSs (cxOf (L2.CX P w) P w K mg base ["_law_source_here", "_law_found", "_law_k", "_law_word_here"] "_law_words" (defScope t_law_words) (He.ga K "_law_words") cdv A outer s H E) (WD E) (defBody t_law_words) (s_law_words fu)
  exact (mtss_cons (mts_set 1 nd (mx_own mxa_nil)) (mtss_cons (mts_for hp (mxi_rng1 (T.free 9) (mxa_cons (mx_op o_addL (mx_p me_int) (mx_fn (dd := []) (ok_law_draw fu T) hr tk (mxr_bor 0 (mxr_val (mx_p me_int) mxr_nil) (pv 0)))) mxa_nil)) (gname 2 nd) uN_ok (mtss_cons (mts_setD 3 nd (mx_fn (dd := []) (ok_law_word fu T) hr tk (mxr_bor 0 mxr_nil (pv 0)))) (mtss_one (mts_if (mxt_p (tcmp (o_notIn (hu65 hr)) (bl_in true) (mv 3) (mv 1))) (mtss_one (mts_app 1 (mx_p (mv 3)) (pv 1))) mtss_nil)))) (mtss_frz 1 (mtss_one (mts_ret (mx_p (mcT c_tuple (T.free 4) (mac (mv 1) ma_nil))))))))
theorem sc_law_good : FnScope ["_law_source_here", "_law_kind", "_law_lo", "_law_hi", "_law_some", "_law_k"] ["_law_source_here"] (defScope t_law_good) := ⟨rfl, rfl, rfl, by decide +kernel, rfl, by decide +kernel, by decide +kernel⟩
theorem ok_law_good (fu : Nat) (T : Tx fa fn fxl K mg) : DefOkT P w K mg base 4 "_law_good" 1 (f_law_good fu) [[]] := by
  obtain ⟨fd, F⟩ := T.says.def_ 19 (d := d_law_good) rfl
  refine def_okT (d := d_law_good) (ps := ["_law_source_here"]) (T.glo 34) F (MI.fn_okT (N := ["_law_source_here", "_law_kind", "_law_lo", "_law_hi", "_law_some", "_law_k"]) F sc_law_good fun cdv A outer s H E hr => ?_) (allC ⟨[], [], .nil, fun _ => .nil, F.bindsN fun _ _ _ _ _ _ us hl => match us, hl with | [_], _ => rfl⟩ all0)
  have tk : Takes (cxOf (L2.CX P w) P w K mg base ["_law_source_here", "_law_kind", "_law_lo", "_law_hi", "_law_some", "_law_k"] "_law_good" (defScope t_law_good) (He.ga K "_law_good") cdv A outer s H E) (WD E) := takes_of rfl rfl rfl rfl
  have hp : PassesOwn (model P w) (cxOf (L2.CX P w) P w K mg base ["_law_source_here", "_law_kind", "_law_lo", "_law_hi", "_law_some", "_law_k"] "_law_good" (defScope t_law_good) (He.ga K "_law_good") cdv A outer s H E).A (cxOf (L2.CX P w) P w K mg base ["_law_source_here", "_law_kind", "_law_lo", "_law_hi", "_law_some", "_law_k"] "_law_good" (defScope t_law_good) (He.ga K "_law_good") cdv A outer s H E).env (cxOf (L2.CX P w) P w K mg base ["_law_source_here", "_law_kind", "_law_lo", "_law_hi", "_law_some", "_law_k"] "_law_good" (defScope t_law_good) (He.ga K "_law_good") cdv A outer s H E).xe := passes_of rfl
  have nd : (["_law_source_here", "_law_kind", "_law_lo", "_law_hi", "_law_some", "_law_k"] : List Str).Nodup := sc_law_good.nd
  show MTSs (cxOf (L2.CX P w) P w K mg base ["_law_source_here", "_law_kind", "_law_lo", "_law_hi", "_law_some", "_law_k"] "_law_good" (defScope t_law_good) (He.ga K "_law_good") cdv A outer s H E) (WD E) (defBody t_law_good) (s_law_good fu)
  exact (mtss_cons (mts_setD 1 nd (mx_fn (dd := []) (ok_law_draw fu T) hr tk (mxr_bor 0 (mxr_val (mx_p me_int) mxr_nil) (pv 0)))) (mtss_cons (mts_if (mxt_p (tcmp (o_eq hr.units) bl_eq (mv 1) me_int)) (mtss_one (mts_ret (mx_tup (mxa_cons (mx_ix (mx_p (me_lst (mac me_str (mac me_str (mac me_str ma_nil))))) (mx_fn (dd := []) (ok_law_draw fu T) hr tk (mxr_bor 0 (mxr_val (mx_p me_int) mxr_nil) (pv 0)))) mxa_nil)))) mtss_nil) (mtss_cons (mts_if (mxt_p (tcmp o_lt bl_lt (mv 1) me_int)) (mtss_cons (mts_asg (mx_fn (dd := []) (ok_law_ends fu T) hr tk (mxr_bor 0 (mxr_val (mx_p me_int) mxr_nil) (pv 0))) (pg_seq rfl (pgs_cons (gname 2 nd) (pgs_cons (gname 3 nd) pgs_nil))) (uT_ok (usCons_ok uN_ok (usCons_ok uN_ok usNil_ok)))) (mtss_one (mts_ret (mx_p (me_tup (mac me_str (mac (mv 2) (mac (mv 3) ma_nil)))))))) mtss_nil) (mtss_cons (mts_if (mxt_p (tcmp (o_eq hr.units) bl_eq (mv 1) me_int)) (mtss_one (mts_ret (mx_tup (mxa_cons (mx_p me_str) (mxa_cons (mx_ix (mx_p (me_lst (mac me_int (mac me_int ma_nil)))) (mx_fn (dd := []) (ok_law_draw fu T) hr tk (mxr_bor 0 (mxr_val (mx_p me_int) mxr_nil) (pv 0)))) mxa_nil))))) mtss_nil) (mtss_cons (mts_if (mxt_p (tcmp o_lt bl_lt (mv 1) me_int)) (mtss_cons (mts_setD 4 nd (mx_fn (dd := []) (ok_law_ends fu T) hr tk (mxr_bor 0 (mxr_val (mx_op o_mul (mx_p me_int) (mx_op o_addL (mx_p me_int) (mx_fn (dd := []) (ok_law_draw fu T) hr tk (mxr_bor 0 (mxr_val (mx_p me_int) mxr_nil) (pv 0))))) mxr_nil) (pv 0)))) (mtss_one (mts_ret (mx_p (me_tup (mac me_str (mac (mcT c_tuple (T.free 4) (mac (me_new (mn_lc (own := [("_law_k", 5)]) nd (mi_rng3 (T.free 9) (mac me_int (mac (mcB c_len (T.free 5) (mac (mv 4) ma_nil)) (mac me_int ma_nil)))) (blkOk_by (N := ["_law_source_here", "_law_kind", "_law_lo", "_law_hi", "_law_some", "_law_k"]) (sc := defScope t_law_good) (by decide +kernel)) (vN_ok (by decide)) (fun _ _ _ _ _ => (gname 5 nd)) (fun _ _ _ _ _ => mts_nil) (fun _ _ _ _ _ => (me_tup (mac (mix (mv 4) (mv 5)) (mac (mix (mv 4) (mbin o_addL (mv 5) me_int)) ma_nil)))))) ma_nil)) ma_nil))))))) mtss_nil) (mtss_one (mts_ret (mx_tup (mxa_cons (mx_p me_str) (mxa_cons (mx_fn (dd := []) (ok_law_words fu T) hr tk (mxr_bor 0 mxr_nil (pv 0))) mxa_nil))))))))))
theorem sc_law_bent_number : FnScope ["_law_source_here", "_law_one", "_law_top", "_law_bottom", "_law_some"] ["_law_source_here", "_law_one"] (defScope t_law_bent_number) := ⟨rfl, rfl, rfl, by decide +kernel, rfl, by decide +kernel, by decide +kernel⟩
theorem ok_law_bent_number (fu : Nat) (T : Tx fa fn fxl K mg) : DefOkT P w K mg base 2 "_law_bent_number" 2 (f_law_bent_number fu) [[]] := by
  obtain ⟨fd, F⟩ := T.says.def_ 20 (d := d_law_bent_number) rfl
  refine def_okT (d := d_law_bent_number) (ps := ["_law_source_here", "_law_one"]) (T.glo 35) F (MI.fn_okT (N := ["_law_source_here", "_law_one", "_law_top", "_law_bottom", "_law_some"]) F sc_law_bent_number fun cdv A outer s H E hr => ?_) (allC ⟨[], [], .nil, fun _ => .nil, F.bindsN fun _ _ _ _ _ _ us hl => match us, hl with | [_, _], _ => rfl⟩ all0)
  have tk : Takes (cxOf (L2.CX P w) P w K mg base ["_law_source_here", "_law_one", "_law_top", "_law_bottom", "_law_some"] "_law_bent_number" (defScope t_law_bent_number) (He.ga K "_law_bent_number") cdv A outer s H E) (WD E) := takes_of rfl rfl rfl rfl
  have hp : PassesOwn (model P w) (cxOf (L2.CX P w) P w K mg base ["_law_source_here", "_law_one", "_law_top", "_law_bottom", "_law_some"] "_law_bent_number" (defScope t_law_bent_number) (He.ga K "_law_bent_number") cdv A outer s H E).A (cxOf (L2.CX P w) P w K mg base ["_law_source_here", "_law_one", "_law_top", "_law_bottom", "_law_some"] "_law_bent_number" (defScope t_law_bent_number) (He.ga K "_law_bent_number") cdv A outer s H E).env (cxOf (L2.CX P w) P w K mg base ["_law_source_here", "_law_one", "_law_top", "_law_bottom", "_law_some"] "_law_bent_number" (defScope t_law_bent_number) (He.ga K "_law_bent_number") cdv A outer s H E).xe := passes_of rfl
  have nd : (["_law_source_here", "_law_one", "_law_top", "_law_bottom", "_law_some"] : List Str).Nodup := sc_law_bent_number.nd
  show MTSs (cxOf (L2.CX P w) P w K mg base ["_law_source_here", "_law_one", "_law_top", "_law_bottom", "_law_some"] "_law_bent_number" (defScope t_law_bent_number) (He.ga K "_law_bent_number") cdv A outer s H E) (WD E) (defBody t_law_bent_number) (s_law_bent_number fu)
  exact (mtss_cons (mts_asg (mx_p (mv 1)) (pg_seq rfl (pgs_cons (gname 2 nd) (pgs_cons (gname 3 nd) pgs_nil))) (uT_ok (usCons_ok uN_ok (usCons_ok uN_ok usNil_ok)))) (mtss_cons (mts_set 4 nd (mx_p (me_lst (mac me_bl (mac me_non (mac (mv 2) (mac me_str (mac (me_lst (mac (mv 2) (mac (mv 3) ma_nil))) (mac (me_tup (mac (mv 2) (mac (mbin o_sub me_int (mv 3)) ma_nil))) (mac (me_tup (mac (mbin o_mul (mv 2) me_int) (mac (mbin o_mul (mv 3) me_int) ma_nil))) (mac (me_tup (mac (mv 2) (mac me_int ma_nil))) ma_nil))))))))))) (mtss_cons (mts_set 4 nd (mx_p (mbin o_addL (mv 4) (me_lst (mac (me_tup (mac (mbin o_pow me_int me_int) (mac me_int ma_nil))) (mac (me_tup (mac (mbin o_sub me_int (mbin o_pow me_int me_int)) (mac me_int ma_nil))) (mac (me_tup (mac me_int (mac me_int ma_nil))) (mac (me_tup (mac me_bl (mac me_int ma_nil))) (mac (me_tup (mac (mv 2) (mac me_bl ma_nil))) (mac (me_tup (mac (mv 2) (mac (mv 3) (mac me_int ma_nil)))) (mac (me_tup ma_nil) ma_nil))))))))))) (mtss_one (mts_ret (mx_ix (mx_p (mv 4)) (mx_fn (dd := []) (ok_law_draw fu T) hr tk (mxr_bor 0 (mxr_val (mx_p me_int) mxr_nil) (pv 0)))))))))
theorem sc_law_bent_ends : FnScope ["_law_source_here", "_law_lo", "_law_hi", "_law_way"] ["_law_source_here", "_law_lo", "_law_hi"] (defScope t_law_bent_ends) := ⟨rfl, rfl, rfl, by decide +kernel, rfl, by decide +kernel, by decide +kernel⟩
theorem ok_law_bent_ends (fu : Nat) (T : Tx fa fn fxl K mg) : DefOkT P w K mg base 3 "_law_bent_ends" 3 (f_law_bent_ends fu) [[]] := by
  obtain ⟨fd, F⟩ := T.says.def_ 21 (d := d_law_bent_ends) rfl
  refine def_okT (d := d_law_bent_ends) (ps := ["_law_source_here", "_law_lo", "_law_hi"]) (T.glo 36) F (MI.fn_okT (N := ["_law_source_here", "_law_lo", "_law_hi", "_law_way"]) F sc_law_bent_ends fun cdv A outer s H E hr => ?_) (allC ⟨[], [], .nil, fun _ => .nil, F.bindsN fun _ _ _ _ _ _ us hl => match us, hl with | [_, _, _], _ => rfl⟩ all0)
  have tk : Takes (cxOf (L2.CX P w) P w K mg base ["_law_source_here", "_law_lo", "_law_hi", "_law_way"] "_law_bent_ends" (defScope t_law_bent_ends) (He.ga K "_law_bent_ends") cdv A outer s H E) (WD E) := takes_of rfl rfl rfl rfl
  have hp : PassesOwn (model P w) (cxOf (L2.CX P w) P w K mg base ["_law_source_here", "_law_lo", "_law_hi", "_law_way"] "_law_bent_ends" (defScope t_law_bent_ends) (He.ga K "_law_bent_ends") cdv A outer s H E).A (cxOf (L2.CX P w) P w K mg base ["_law_source_here", "_law_lo", "_law_hi", "_law_way"] "_law_bent_ends" (defScope t_law_bent_ends) (He.ga K "_law_bent_ends") cdv A outer s H E).env (cxOf (L2.CX P w) P w K mg base ["_law_source_here", "_law_lo", "_law_hi", "_law_way"] "_law_bent_ends" (defScope t_law_bent_ends) (He.ga K "_law_bent_ends") cdv A outer s H E).xe := passes_of rfl
  have nd : (["_law_source_here", "_law_lo", "_law_hi", "_law_way"] : List Str).Nodup := sc_law_bent_ends.nd
  show MTSs (cxOf (L2.CX P w) P w K mg base ["_law_source_here", "_law_lo", "_law_hi", "_law_way"] "_law_bent_ends" (defScope t_law_bent_ends) (He.ga K "_law_bent_ends") cdv A outer s H E) (WD E) (defBody t_law_bent_ends) (s_law_bent_ends fu)
  exact (mtss_cons (mts_setD 3 nd (mx_fn (dd := []) (ok_law_draw fu T) hr tk (mxr_bor 0 (mxr_val (mx_p me_int) mxr_nil) (pv 0)))) (mtss_cons (mts_if (mxt_p (tcmp (o_eq hr.units) bl_eq (mv 3) me_int)) (mtss_one (mts_ret (mx_own (mxa_cons (mx_p (mv 2)) (mxa_cons (mx_p (mv 1)) mxa_nil))))) mtss_nil) (mtss_cons (mts_if (mxt_p (tcmp (o_eq hr.units) bl_eq (mv 3) me_int)) (mtss_one (mts_ret (mx_own (mxa_cons (mx_p (mv 1)) (mxa_cons (mx_p (mv 1)) mxa_nil))))) mtss_nil) (mtss_cons (mts_if (mxt_p (tcmp (o_eq hr.units) bl_eq (mv 3) me_int)) (mtss_one (mts_ret (mx_own (mxa_cons (mx_fn (dd := []) (ok_law_bent_number fu T) hr tk (mxr_bor 0 (mxr_val (mx_p (mv 1)) mxr_nil) (pv 0))) (mxa_cons (mx_p (mv 2)) mxa_nil))))) mtss_nil) (mtss_one (mts_ret (mx_own (mxa_cons (mx_p (mv 1)) (mxa_cons (mx_fn (dd := []) (ok_law_bent_number fu T) hr tk (mxr_bor 0 (mxr_val (mx_p (mv 2)) mxr_nil) (pv 0))) mxa_nil)))))))))
theorem sc_law_bent_pieces : FnScope ["_law_source_here", "_law_pieces", "_law_way", "_law_at", "_law_bent_here"] ["_law_source_here", "_law_pieces"] (defScope t_law_bent_pieces) := ⟨rfl, rfl, rfl, by decide +kernel, rfl, by decide +kernel, by decide +kernel⟩
theorem ok_law_bent_pieces (fu : Nat) (T : Tx fa fn fxl K mg) : DefOkT P w K mg base 4 "_law_bent_pieces" 2 (f_law_bent_pieces fu) [[]] := by
  obtain ⟨fd, F⟩ := T.says.def_ 22 (d := d_law_bent_pieces) rfl
  refine def_okT (d := d_law_bent_pieces) (ps := ["_law_source_here", "_law_pieces"]) (T.glo 37) F (MI.fn_okT (N := ["_law_source_here", "_law_pieces", "_law_way", "_law_at", "_law_bent_here"]) F sc_law_bent_pieces fun cdv A outer s H E hr => ?_) (allC ⟨[], [], .nil, fun _ => .nil, F.bindsN fun _ _ _ _ _ _ us hl => match us, hl with | [_, _], _ => rfl⟩ all0)
  have tk : Takes (cxOf (L2.CX P w) P w K mg base ["_law_source_here", "_law_pieces", "_law_way", "_law_at", "_law_bent_here"] "_law_bent_pieces" (defScope t_law_bent_pieces) (He.ga K "_law_bent_pieces") cdv A outer s H E) (WD E) := takes_of rfl rfl rfl rfl
  have hp : PassesOwn (model P w) (cxOf (L2.CX P w) P w K mg base ["_law_source_here", "_law_pieces", "_law_way", "_law_at", "_law_bent_here"] "_law_bent_pieces" (defScope t_law_bent_pieces) (He.ga K "_law_bent_pieces") cdv A outer s H E).A (cxOf (L2.CX P w) P w K mg base ["_law_source_here", "_law_pieces", "_law_way", "_law_at", "_law_bent_here"] "_law_bent_pieces" (defScope t_law_bent_pieces) (He.ga K "_law_bent_pieces") cdv A outer s H E).env (cxOf (L2.CX P w) P w K mg base ["_law_source_here", "_law_pieces", "_law_way", "_law_at", "_law_bent_here"] "_law_bent_pieces" (defScope t_law_bent_pieces) (He.ga K "_law_bent_pieces") cdv A outer s H E).xe := passes_of rfl
  have nd : (["_law_source_here", "_law_pieces", "_law_way", "_law_at", "_law_bent_here"] : List Str).Nodup := sc_law_bent_pieces.nd
  show MTSs (cxOf (L2.CX P w) P w K mg base ["_law_source_here", "_law_pieces", "_law_way", "_law_at", "_law_bent_here"] "_law_bent_pieces" (defScope t_law_bent_pieces) (He.ga K "_law_bent_pieces") cdv A outer s H E) (WD E) (defBody t_law_bent_pieces) (s_law_bent_pieces fu)
  exact (mtss_cons (mts_setD 2 nd (mx_fn (dd := []) (ok_law_draw fu T) hr tk (mxr_bor 0 (mxr_val (mx_p me_int) mxr_nil) (pv 0)))) (mtss_cons (mts_setD 3 nd (mx_fn (dd := []) (ok_law_draw fu T) hr tk (mxr_bor 0 (mxr_val (mx_p (mcB c_len (T.free 5) (mac (mv 1) ma_nil))) mxr_nil) (pv 0)))) (mtss_cons (mts_if (mxt_p (tcmp (o_eq hr.units) bl_eq (mv 2) me_int)) (mtss_one (mts_ret (mx_p (me_sl (mv 1) mo_none (mo_some me_int))))) mtss_nil) (mtss_cons (mts_if (mxt_p (tcmp (o_eq hr.units) bl_eq (mv 2) me_int)) (mtss_one (mts_ret (mx_p (mcT c_list (T.free 12) (mac (mv 1) ma_nil))))) mtss_nil) (mtss_cons (mts_if (mxt_p (tcmp (o_eq hr.units) bl_eq (mv 2) me_int)) (mtss_one (mts_ret (mx_p (mbin o_addT (mbin o_addT (me_sl (mv 1) mo_none (mo_some me_int)) (me_tup (mac (me_tup (mac (mix (mix (mv 1) me_int) me_int) (mac (mix (mix (mv 1) me_int) me_int) ma_nil))) ma_nil))) (me_sl (mv 1) (mo_some me_int) mo_none))))) mtss_nil) (mtss_cons (mts_if (mxt_p (tcmp (o_eq hr.units) bl_eq (mv 2) me_int)) (mtss_one (mts_ret (mx_p (mbin o_addT (mbin o_addT (me_sl (mv 1) mo_none (mo_some (mv 3))) (me_tup (mac (mcT c_list (T.free 12) (mac (mix (mv 1) (mv 3)) ma_nil)) ma_nil))) (me_sl (mv 1) (mo_some (mbin o_addL (mv 3) me_int)) mo_none))))) mtss_nil) (mtss_cons (mts_if (mxt_p (tcmp (o_eq hr.units) bl_eq (mv 2) me_int)) (mtss_one (mts_ret (mx_p (mbin o_addT (mbin o_addT (mv 1) (mv 1)) (mv 1))))) mtss_nil) (mtss_cons (mts_setD 4 nd (mx_cT c_tuple (T.free 4) (mxa_cons (mx_fn (dd := []) (ok_law_bent_ends fu T) hr tk (mxr_bor 0 (mxr_val (mx_p (mix (mix (mv 1) (mv 3)) me_int)) (mxr_val (mx_p (mix (mix (mv 1) (mv 3)) me_int)) mxr_nil)) (pv 0))) mxa_nil))) (mtss_one (mts_ret (mx_p (mbin o_addT (mbin o_addT (me_sl (mv 1) mo_none (mo_some (mv 3))) (me_tup (mac (mv 4) ma_nil))) (me_sl (mv 1) (mo_some (mbin o_addL (mv 3) me_int)) mo_none)))))))))))))
theorem sc_law_bent_words : FnScope ["_law_source_here", "_law_told", "_law_at", "_law_odd", "_law_many", "_law_some", "_law_k"] ["_law_source_here", "_law_told"] (defScope t_law_bent_words) := ⟨rfl, rfl, rfl, by decide +kernel, rfl, by decide +kernel, by decide +kernel⟩
theorem ok_law_bent_words (fu : Nat) (T : Tx fa fn fxl K mg) : DefOkT P w K mg base 2 "_law_bent_words" 2 (f_law_bent_words fu) [[]] := by
  obtain ⟨fd, F⟩ := T.says.def_ 23 (d := d_law_bent_words) rfl
  refine def_okT (d := d_law_bent_words) (ps := ["_law_source_here", "_law_told"]) (T.glo 38) F (MI.fn_okT (N := ["_law_source_here", "_law_told", "_law_at", "_law_odd", "_law_many", "_law_some", "_law_k"]) F sc_law_bent_words fun cdv A outer s H E hr => ?_) (allC ⟨[], [], .nil, fun _ => .nil, F.bindsN fun _ _ _ _ _ _ us hl => match us, hl with | [_, _], _ => rfl⟩ all0)
  have tk : Takes (cxOf (L2.CX P w) P w K mg base ["_law_source_here", "_law_told", "_law_at", "_law_odd", "_law_many", "_law_some", "_law_k"] "_law_bent_words" (defScope t_law_bent_words) (He.ga K "_law_bent_words") cdv A outer s H E) (WD E) := takes_of rfl rfl rfl rfl
  have hp : PassesOwn (model P w) (cxOf (L2.CX P w) P w K mg base ["_law_source_here", "_law_told", "_law_at", "_law_odd", "_law_many", "_law_some", "_law_k"] "_law_bent_words" (defScope t_law_bent_words) (He.ga K "_law_bent_words") cdv A outer s H E).A (cxOf (L2.CX P w) P w K mg base ["_law_source_here", "_law_told", "_law_at", "_law_odd", "_law_many", "_law_some", "_law_k"] "_law_bent_words" (defScope t_law_bent_words) (He.ga K "_law_bent_words") cdv A outer s H E).env (cxOf (L2.CX P w) P w K mg base ["_law_source_here", "_law_told", "_law_at", "_law_odd", "_law_many", "_law_some", "_law_k"] "_law_bent_words" (defScope t_law_bent_words) (He.ga K "_law_bent_words") cdv A outer s H E).xe := passes_of rfl
  have nd : (["_law_source_here", "_law_told", "_law_at", "_law_odd", "_law_many", "_law_some", "_law_k"] : List Str).Nodup := sc_law_bent_words.nd
  show MTSs (cxOf (L2.CX P w) P w K mg base ["_law_source_here", "_law_told", "_law_at", "_law_odd", "_law_many", "_law_some", "_law_k"] "_law_bent_words" (defScope t_law_bent_words) (He.ga K "_law_bent_words") cdv A outer s H E) (WD E) (defBody t_law_bent_words) (s_law_bent_words fu)
  exact (mtss_cons (mts_setD 2 nd (mx_fn (dd := []) (ok_law_draw fu T) hr tk (mxr_bor 0 (mxr_val (mx_p (mcB c_len (T.free 5) (mac (mv 1) ma_nil))) mxr_nil) (pv 0)))) (mtss_cons (mts_setD 3 nd (mx_ix (mx_p (me_lst (mac me_str (mac me_str (mac me_str (mac me_str (mac me_non (mac me_bl (mac me_int (mac (me_tup (mac me_str ma_nil)) (mac me_str (mac me_str (mac (me_lst (mac me_str ma_nil)) (mac me_dict0 ma_nil)))))))))))))) (mx_fn (dd := []) (ok_law_draw fu T) hr tk (mxr_bor 0 (mxr_val (mx_p me_int) mxr_nil) (pv 0))))) (mtss_cons (mts_setLc 4 (own := [("_law_k", 6)]) nd (mxi_p (mi_rng1 (T.free 9) (mac me_int ma_nil))) (blkOk_by (N := ["_law_source_here", "_law_told", "_law_at", "_law_odd", "_law_many", "_law_some", "_law_k"]) (sc := defScope t_law_bent_words) (by decide +kernel)) (uV_ok (by decide)) (fun _ _ _ _ _ => (gname 6 nd)) (fun _ _ _ _ _ => mxts_nil) (fun _ _ _ _ _ => (mx_p (mbin o_addL (mbin o_mulS me_str (mbin o_addL me_int (mbin o_fdv (mv 6) me_int))) (mix me_str (mbin o_mod (mv 6) me_int)))))) (mtss_frz 4 (mtss_cons (mts_set 5 nd (mx_p (me_lst (mac (me_tup ma_nil) (mac (mbin o_addT (mv 1) (me_tup (mac (mix (mv 1) (mv 2)) ma_nil))) (mac (mbin o_addT (mbin o_addT (me_sl (mv 1) mo_none (mo_some (mv 2))) (me_tup (mac (mv 3) ma_nil))) (me_sl (mv 1) (mo_some (mbin o_addL (mv 2) me_int)) mo_none)) ma_nil)))))) (mtss_cons (mts_set 5 nd (mx_p (mbin o_addL (mv 5) (me_lst (mac (mcT c_list (T.free 12) (mac (mv 1) ma_nil)) (mac (mcT c_tuple (T.free 4) (mac (mv 4) ma_nil)) (mac (mix (mv 1) me_int) ma_nil))))))) (mtss_one (mts_ret (mx_ix (mx_p (mv 5)) (mx_fn (dd := []) (ok_law_draw fu T) hr tk (mxr_bor 0 (mxr_val (mx_p me_int) mxr_nil) (pv 0))))))))))))
theorem sc_law_bent : FnScope ["_law_source_here", "_law_wish", "_law_way"] ["_law_source_here", "_law_wish"] (defScope t_law_bent) := ⟨rfl, rfl, rfl, by decide +kernel, rfl, by decide +kernel, by decide +kernel⟩
theorem ok_law_bent (fu : Nat) (T : Tx fa fn fxl K mg) : DefOkT P w K mg base 5 "_law_bent" 2 (f_law_bent fu) [[]] := by
  obtain ⟨fd, F⟩ := T.says.def_ 24 (d := d_law_bent) rfl
  refine def_okT (d := d_law_bent) (ps := ["_law_source_here", "_law_wish"]) (T.glo 39) F (MI.fn_okT (N := ["_law_source_here", "_law_wish", "_law_way"]) F sc_law_bent fun cdv A outer s H E hr => ?_) (allC ⟨[], [], .nil, fun _ => .nil, F.bindsN fun _ _ _ _ _ _ us hl => match us, hl with | [_, _], _ => rfl⟩ all0)
  have tk : Takes (cxOf (L2.CX P w) P w K mg base ["_law_source_here", "_law_wish", "_law_way"] "_law_bent" (defScope t_law_bent) (He.ga K "_law_bent") cdv A outer s H E) (WD E) := takes_of rfl rfl rfl rfl
  have hp : PassesOwn (model P w) (cxOf (L2.CX P w) P w K mg base ["_law_source_here", "_law_wish", "_law_way"] "_law_bent" (defScope t_law_bent) (He.ga K "_law_bent") cdv A outer s H E).A (cxOf (L2.CX P w) P w K mg base ["_law_source_here", "_law_wish", "_law_way"] "_law_bent" (defScope t_law_bent) (He.ga K "_law_bent") cdv A outer s H E).env (cxOf (L2.CX P w) P w K mg base ["_law_source_here", "_law_wish", "_law_way"] "_law_bent" (defScope t_law_bent) (He.ga K "_law_bent") cdv A outer s H E).xe := passes_of rfl
  have nd : (["_law_source_here", "_law_wish", "_law_way"] : List Str).Nodup := sc_law_bent.nd
  show MTSs (cxOf (L2.CX P w) P w K mg base ["_law_source_here", "_law_wish", "_law_way"] "_law_bent" (defScope t_law_bent) (He.ga K "_law_bent") cdv A outer s H E) (WD E) (defBody t_law_bent) (s_law_bent fu)
  exact (mtss_cons (mts_setD 2 nd (mx_fn (dd := []) (ok_law_draw fu T) hr tk (mxr_bor 0 (mxr_val (mx_p me_int) mxr_nil) (pv 0)))) (mtss_cons (mts_if (mxt_p (tcmp (o_eq hr.units) bl_eq (mv 2) me_int)) (mtss_one (mts_ret (mx_p (mcT c_list (T.free 12) (mac (mv 1) ma_nil))))) mtss_nil) (mtss_cons (mts_if (mxt_p (tcmp (o_eq hr.units) bl_eq (mv 2) me_int)) (mtss_one (mts_ret (mx_p (mbin o_addT (mv 1) (me_tup (mac me_non ma_nil)))))) mtss_nil) (mtss_cons (mts_if (mxt_p (tcmp (o_eq hr.units) bl_eq (mv 2) me_int)) (mtss_one (mts_ret (mx_op o_addT (mx_tup (mxa_cons (mx_ix (mx_p (me_lst (mac me_str (mac me_str (mac me_str (mac me_non (mac me_int (mac (me_tup (mac me_str ma_nil)) (mac (me_lst (mac me_str ma_nil)) (mac me_dict0 ma_nil)))))))))) (mx_fn (dd := []) (ok_law_draw fu T) hr tk (mxr_bor 0 (mxr_val (mx_p me_int) mxr_nil) (pv 0)))) mxa_nil)) (mx_p (me_sl (mv 1) (mo_some me_int) mo_none))))) mtss_nil) (mtss_cons (mts_if (mxt_p (tcmp (o_eq hr.units) bl_eq (mcB c_len (T.free 5) (mac (mv 1) ma_nil)) me_int)) (mtss_one (mts_ret (mx_op o_addT (mx_p (me_tup (mac me_str ma_nil))) (mx_cT c_tuple (T.free 4) (mxa_cons (mx_fn (dd := []) (ok_law_bent_ends fu T) hr tk (mxr_bor 0 (mxr_val (mx_p (mix (mv 1) me_int)) (mxr_val (mx_p (mix (mv 1) me_int)) mxr_nil)) (pv 0))) mxa_nil))))) mtss_nil) (mtss_cons (mts_if (mxt_p (tcmp (o_eq hr.units) bl_eq (mix (mv 1) me_int) me_str)) (mtss_one (mts_ret (mx_tup (mxa_cons (mx_p me_str) (mxa_cons (mx_ix (mx_p (me_lst (mac me_int (mac me_int (mac me_int (mac (me_un o_neg me_int) (mac me_bl (mac me_str (mac me_non (mac (me_tup (mac me_int (mac me_int ma_nil))) (mac me_int (mac (me_lst (mac me_int ma_nil)) ma_nil)))))))))))) (mx_fn (dd := []) (ok_law_draw fu T) hr tk (mxr_bor 0 (mxr_val (mx_p me_int) mxr_nil) (pv 0)))) mxa_nil))))) mtss_nil) (mtss_cons (mts_if (mxt_p (tcmp (o_eq hr.units) bl_eq (mix (mv 1) me_int) me_str)) (mtss_one (mts_ret (mx_tup (mxa_cons (mx_p me_str) (mxa_cons (mx_fn (dd := []) (ok_law_bent_pieces fu T) hr tk (mxr_bor 0 (mxr_val (mx_p (mix (mv 1) me_int)) mxr_nil) (pv 0))) mxa_nil))))) mtss_nil) (mtss_cons (mts_if (mxt_p (tcmp (o_eq hr.units) bl_eq (mcB c_len (T.free 5) (mac (mv 1) ma_nil)) me_int)) (mtss_one (mts_ret (mx_tup (mxa_cons (mx_p me_str) (mxa_cons (mx_fn (dd := []) (ok_law_bent_words fu T) hr tk (mxr_bor 0 (mxr_val (mx_p (mix (mv 1) me_int)) mxr_nil) (pv 0))) mxa_nil))))) mtss_nil) (mtss_one (mts_ret (mx_ix (mx_p (me_lst (mac (me_tup (mac me_str ma_nil)) (mac (me_tup (mac me_str ma_nil)) (mac (me_tup ma_nil) (mac (me_tup (mac me_str (mac (me_tup (mac me_int (mac me_int ma_nil))) ma_nil))) (mac (me_tup (mac me_str (mac me_int (mac me_int ma_nil)))) ma_nil))))))) (mx_fn (dd := []) (ok_law_draw fu T) hr tk (mxr_bor 0 (mxr_val (mx_p me_int) mxr_nil) (pv 0))))))))))))))
theorem sc_law_same : FnScope ["_law_thing"] ["_law_thing"] (defScope t_law_same) := ⟨rfl, rfl, rfl, by decide +kernel, rfl, by decide +kernel, by decide +kernel⟩
theorem ok_law_same (fu : Nat) (T : Tx fa fn fxl K mg) : DefOk P w K mg base 7 "_law_same" 1 (f_law_same fu) [[]] := by
  obtain ⟨fd, F⟩ := T.says.def_ 25 (d := d_law_same) rfl
  refine def_ok (d := d_law_same) (ps := ["_law_thing"]) (T.glo 40) F (MI.fn_ok (N := ["_law_thing"]) F sc_law_same fun cdv A outer s H E hr => ?_) (allC ⟨[], [], .nil, fun _ => .nil, F.bindsN fun _ _ _ _ _ _ us hl => match us, hl with | [_], _ => rfl⟩ all0)
  have tk : Takes (cxOf (L2.CX P w) P w K mg base ["_law_thing"] "_law_same" (defScope t_law_same) (He.ga K "_law_same") cdv A outer s H E) (WD E) := takes_of rfl rfl rfl rfl
  have hp : PassesOwn (model P w) (cxOf (L2.CX P w) P w K mg base ["_law_thing"] "_law_same" (defScope t_law_same) (He.ga K "_law_same") cdv A outer s H E).A (cxOf (L2.CX P w) P w K mg base ["_law_thing"] "_law_same" (defScope t_law_same) (He.ga K "_law_same") cdv A outer s H E).env (cxOf (L2.CX P w) P w K mg base ["_law_thing"] "_law_same" (defScope t_law_same) (He.ga K "_law_same") cdv A outer s H E).xe := passes_of rfl
  have nd : (["_law_thing"] : List Str).Nodup := sc_law_same.nd
  show MSs (cxOf (L2.CX P w) P w K mg base ["_law_thing"] "_law_same" (defScope t_law_same) (He.ga K "_law_same") cdv A outer s H E) (WD E) (defBody t_law_same) (s_law_same fu)
  exact (mss_one (ms_ret (me_and (mcmp o_isB (me_def (dd := []) (ok_p_is_wish fu T) hr tk (mac (mv 0) ma_nil)) me_bl) (me_one (mcmp o_isB (me_def (dd := []) (ok_p_is_wish fu T) hr tk (mac (mv 0) ma_nil)) me_bl)))))
theorem sc_p_law : FnScope ["_law_script", "_law_k", "_law_source_here", "_law_wish", "_law_due", "_law_odd", "_law_thing"] ["_law_script"] (defScope t_p_law) := ⟨rfl, rfl, rfl, by decide +kernel, rfl, by decide +kernel, by decide +kernel⟩
theorem ok_p_law (fu : Nat) (T : Tx fa fn fxl K mg) {fd : FuncData} (F : FunD K d_p_law.name d_p_law.qual d_p_law.params d_p_law.body d_p_law.scope (d_p_law.dvs K) (d_p_law.kws K) (He.ga K "law") fd) : FnOk P w K mg base (L2.CX P w) 8 (He.ga K "law") fd ["_law_script"] (spT K mg 1 (f_p_law fu)) := by
  refine MI.fn_okT (N := ["_law_script", "_law_k", "_law_source_here", "_law_wish", "_law_due", "_law_odd", "_law_thing"]) F sc_p_law fun cdv A outer s H E hr => ?_
  have tk : Takes (cxOf (L2.CX P w) P w K mg base ["_law_script", "_law_k", "_law_source_here", "_law_wish", "_law_due", "_law_odd", "_law_thing"] "law" (defScope t_p_law) (He.ga K "law") cdv A outer s H E) (WD E) := takes_of rfl rfl rfl rfl
  have hp : PassesOwn (model P w) (cxOf (L2.CX P w) P w K mg base ["_law_script", "_law_k", "_law_source_here", "_law_wish", "_law_due", "_law_odd", "_law_thing"] "law" (defScope t_p_law) (He.ga K "law") cdv A outer s H E).A (cxOf (L2.CX P w) P w K mg base ["_law_script", "_law_k", "_law_source_here", "_law_wish", "_law_due", "_law_odd", "_law_thing"] "law" (defScope t_p_law) (He.ga K "law") cdv A outer s H E).env (cxOf (L2.CX P w) P w K mg base ["_law_script", "_law_k", "_law_source_here", "_law_wish", "_law_due", "_law_odd", "_law_thing"] "law" (defScope t_p_law) (He.ga K "law") cdv A outer s H E).xe := passes_of rfl
  have nd : (["_law_script", "_law_k", "_law_source_here", "_law_wish", "_law_due", "_law_odd", "_law_thing"] : List Str).Nodup := sc_p_law.nd
  show MTSs (cxOf (L2.CX P w) P w K mg base ["_law_script", "_law_k", "_law_source_here", "_law_wish", "_law_due", "_law_odd", "_law_thing"] "law" (defScope t_p_law) (He.ga K "law") cdv A outer s H E) (WD E) (defBody t_p_law) (s_p_law fu)
  exact (mtss_cons (mts_for hp (mxi_p (mi_rng1 (T.free 9) (mac (mcB (c_max rfl) (T.free 14) (mac me_int (mac (mcB (c_min rfl) (T.free 13) (mac (mcB c_len (T.free 5) (mac (mv 0) ma_nil)) (mac me_int ma_nil))) ma_nil))) ma_nil))) (gname 1 nd) uN_ok (mtss_cons (mts_set 2 nd (mx_fn (dd := []) (ok_law_source fu T) hr tk (mxr_val (mx_p (mv 0)) (mxr_val (mx_p (mv 1)) mxr_nil)))) (mtss_cons (mts_setD 3 nd (mx_fn (dd := []) (ok_law_good fu T) hr tk (mxr_bor 2 mxr_nil (pv 2)))) (mtss_cons (mts_set 4 nd (mx_p (mix (mv 3) me_int))) (mtss_cons (mts_if (mxt_p (tcmp (o_eq hr.units) bl_eq (mix (mv 3) me_int) me_str)) (mtss_one (mts_set 4 nd (mx_p (mbin o_addL me_str (mix (me_lst (mac me_str (mac me_str ma_nil))) (mcT c_intT (T.free 1) (mac (mcmp (o_eq hr.units) (mix (mv 3) me_int) me_int) ma_nil))))))) mtss_nil) (mtss_cons (mts_if (mxt_p (PW.pt (mw_or (mt_not (ttru (me_def (dd := []) (ok_law_same fu T) hr tk (mac (mv 3) ma_nil)))) (mw_or (tcmp (o_ne hr.units) bl_ne (me_def (dd := []) (ok_p_axis_word fu T) hr tk (mac (mv 3) ma_nil)) (mv 4)) (mw_or1 (tcmp (o_ne hr.units) bl_ne (me_def (dd := []) (ok_p_axis_word fu T) hr tk (mac (mv 3) ma_nil)) (mv 4))))))) (mtss_one (mts_ret (mx_p me_bl))) mtss_nil) (mtss_one (mts_if (mxt_cmp o_notB bl_notB (mx_def (dd := []) (ok_p_is_wish fu T) hr tk (mxa_cons (mx_fn (dd := []) (ok_law_bent fu T) hr tk (mxr_bor 2 (mxr_val (mx_p (mv 3)) mxr_nil) (pv 2))) mxa_nil)) (mx_p me_bl)) (mtss_one (mts_ret (mx_p me_bl))) mtss_nil)))))))) (mtss_cons (mts_set 5 nd (mx_p (me_lst (mac me_non (mac me_bl (mac me_int (mac me_str (mac (me_lst (mac me_str ma_nil)) (mac me_dict0 (mac (me_tup ma_nil) (mac (me_tup (mac (me_tup ma_nil) ma_nil)) (mac (me_tup (mac me_non ma_nil)) (mac (me_tup (mac me_str (mac me_dict0 (mac (me_tup (mac me_int (mac me_int ma_nil))) ma_nil)))) (mac (me_tup (mac me_str (mac (me_tup ma_nil) ma_nil))) ma_nil)))))))))))))) (mtss_one (mts_ret (mx_p (mcmp (o_eq hr.units) (me_new (mn_lc (own := [("_law_thing", 6)]) nd (mi_items (mv 5)) (blkOk_by (N := ["_law_script", "_law_k", "_law_source_here", "_law_wish", "_law_due", "_law_odd", "_law_thing"]) (sc := defScope t_p_law) (by decide +kernel)) (vN_ok (by decide)) (fun _ _ _ _ _ => (gname 6 nd)) (fun _ _ _ _ _ => (mts_one (tcmp o_notB bl_notB (me_def (dd := []) (ok_p_is_wish fu T) hr takes0 (mac (mv 6) ma_nil)) me_bl))) (fun _ _ _ _ _ => (mv 6)))) (me_lst ma_nil)))))))
end
abbrev R0 : PySem.W.OpenRow := PySem.W.OpenLaw.row PySem.Challenge.rw_markscale_k25_wishes
abbrev hk : PySem.W.Hook := hookM 2 fa fn fxl
def ob (s : PySem.W.SharedT) : AlM := obsM 2 fa fn fxl (HandSHeadRun.getT s)
theorem ob_eq (s : PySem.W.SharedT) : ob s = hk.obs s.abs := obsM_eq (HandSHeadRun.getT_eq s)
theorem head (w : World) : HandSHeadRun.RunEq R0 (PySem.W.view R0.prog [33]) hk ob 4000 ["LETTERS", "MOST_WORDS", "is_whole", "divisor", "is_number", "under", "is_told", "is_word", "are_ends", "are_pieces", "are_words", "is_wish", "axis_word", "_law_cell_at", "_law_source", "_law_draw", "_law_great", "_law_low", "_law_ends", "_law_word", "_law_words", "_law_good", "_law_bent_number", "_law_bent_ends", "_law_bent_pieces", "_law_bent_words", "_law_bent", "_law_same", "__name__"] w := by
  intro os
  kernel_rfl
end K25
section
open PySem PySem.W PySem.Calls PyProof.Rows
theorem K25.holds_of (fu : Nat) (hf : ∀ ns : List Int, ns.length ≤ 63 → (∀ z ∈ ns, Builtin.Int.intBits z ≤ 1048576) → ∃ bs, K25.f_p_law fu [(false, .dat (.list (ns.map .int)))] = .ok (.dat (.bool true)) bs) : PySem.Challenge.rw_markscale_k25_wishes.Holds := by
  w_on; o_law
  refine HandSHeadRun.head_any (r := OpenLaw.row PySem.Challenge.rw_markscale_k25_wishes) (q := view (OpenLaw.row PySem.Challenge.rw_markscale_k25_wishes).prog [33]) (H := K25.hk) (ob := K25.ob) (M := 4000) (loose := ["LETTERS", "MOST_WORDS", "is_whole", "divisor", "is_number", "under", "is_told", "is_word", "are_ends", "are_pieces", "are_words", "is_wish", "axis_word", "_law_cell_at", "_law_source", "_law_draw", "_law_great", "_law_low", "_law_ends", "_law_word", "_law_words", "_law_good", "_law_bent_number", "_law_bent_ends", "_law_bent_pieces", "_law_bent_words", "_law_bent", "_law_same", "__name__"]) (d := HandSHeadRun.topDef (OpenLaw.row PySem.Challenge.rw_markscale_k25_wishes).prog 33) (kwd := []) K25.ob_eq
    (by kernel_rfl) (fun s => by kernel_rfl) K25.head (by kernel_rfl) (by kernel_rfl) (by kernel_rfl) (by rfl) (by first | assumption | decide +kernel) (by decide +kernel) ⟨rfl, rfl, rfl, rfl, rfl, by decide +kernel⟩ ?hw ?hc
  case hw => w_witness2
  case hc =>
    refine MI.walk_miT (l := PySem.Challenge.rw_markscale_k25_wishes) (n := 63) (k := 8) (x := "_law_script") (f := K25.f_p_law fu) rfl (by decide) (by kernel_rfl) ⟨rfl, by decide, by decide⟩ ?F hf
    intro w mg fa h Y G hmg0
    obtain ⟨K, KX, c⟩ := Y
    have hmg : mg ("law" : PySem.Str) = some (.ref fa) := by
      have e : (HandSHeadRun.topDef (OpenLaw.row PySem.Challenge.rw_markscale_k25_wishes).prog 33).name = ("law" : PySem.Str) := by kernel_rfl
      rw [← e]
      exact hmg0
    have T : MI.Tx K25.fa K25.fn K25.fxl K mg := ⟨c.1, ⟨h, KX, G⟩, c.2⟩
    obtain ⟨fd, F⟩ := T.says.def_ 26 (d := K25.d_p_law) rfl
    have e := hmg.symm.trans (T.glo 41)
    cases e
    have b := L2.FunD.bindsA (ps := ["_law_script"]) F fun _ _ _ _ _ _ us hl => match us, hl with | [_], _ => rfl
    exact ⟨K, fd, KX, fun s v => b s [v] rfl, fun base _ _ => K25.ok_p_law fu T F⟩
end
set_option Elab.async false
set_option linter.all false
set_option maxRecDepth 100000
set_option maxHeartbeats 4000000
namespace MI
open PySem
def R.sat {α : Type} (r : R α) (Q : α → Prop) (E : Str → Option D → Prop) : Prop := match r with
  | .ok a => Q a
  | .exc c p => E c p
  | .bad => False
@[simp ↓] theorem sat_ok {α : Type} (a : α) (Q : α → Prop) (E : Str → Option D → Prop) : (R.ok a).sat Q E = Q a := Eq.trans rfl rfl
@[simp ↓] theorem sat_exc {α : Type} (c : Str) (p : Option D) (Q : α → Prop) (E : Str → Option D → Prop) : (R.exc c p : R α).sat Q E = E c p := Eq.trans rfl rfl
@[simp ↓] theorem sat_bad {α : Type} (Q : α → Prop) (E : Str → Option D → Prop) : (R.bad : R α).sat Q E = False := Eq.trans rfl rfl
@[simp ↓] theorem sat_bind {α β : Type} (x : R α) (f : α → R β) (Q : β → Prop) (E : Str → Option D → Prop) : (x.bind f).sat Q E = x.sat (fun a => (f a).sat Q E) E := by
  cases x <;> rfl
theorem R.sat.mono {α : Type} {r : R α} {Q Q' : α → Prop} {E E' : Str → Option D → Prop} (h : r.sat Q E) (q : ∀ a, Q a → Q' a) (e : ∀ c p, E c p → E' c p) : r.sat Q' E' := by
  cases r with
  | ok a => exact q a h
  | exc c p => exact e c p h
  | bad => exact h
theorem R.sat.eq {α : Type} {r : R α} {Q : α → Prop} (h : r.sat Q fun _ _ => False) : ∃ a, r = .ok a ∧ Q a := by
  cases r with
  | ok a => exact ⟨a, rfl, h⟩
  | exc c p => exact h.elim
  | bad => exact h.elim
/-- a partial operation -/
theorem sat_of {α : Type} {o : Option α} {a : α} {Q : α → Prop} {E : Str → Option D → Prop} (e : o = some a) (h : Q a) : (R.of o).sat Q E := by rw [e]; exact h
@[simp] theorem sat_ite {α : Type} (c : Prop) [Decidable c] (x y : R α) (Q : α → Prop) (E : Str → Option D → Prop) : (if c then x else y).sat Q E = ((c → x.sat Q E) ∧ (¬ c → y.sat Q E)) := by
  by_cases h : c <;> simp [h]
@[simp ↓] theorem sat_ite_bad {α : Type} (c : Prop) [Decidable c] (x : R α) (Q : α → Prop) (E : Str → Option D → Prop) : (if c then x else .bad).sat Q E = (c ∧ x.sat Q E) := by
  by_cases h : c <;> simp [h]
structure Po where
  nx : Ce → Prop
  bk : Ce → Prop
  ct : Ce → Prop
  rt : D → Prop
  ex : Str → Option D → Ce → Prop
def Out.sat (o : Out) (p : Po) : Prop := match o with
  | .nx g => p.nx g
  | .rt d => p.rt d
  | .bk g => p.bk g
  | .ct g => p.ct g
  | .ex c q g => p.ex c q g
  | .bad => False
@[simp ↓] theorem osat_nx (g : Ce) (p : Po) : (Out.nx g).sat p = p.nx g := Eq.trans rfl rfl
@[simp ↓] theorem osat_rt (g : D) (p : Po) : (Out.rt g).sat p = p.rt g := Eq.trans rfl rfl
@[simp ↓] theorem osat_bk (g : Ce) (p : Po) : (Out.bk g).sat p = p.bk g := Eq.trans rfl rfl
@[simp ↓] theorem osat_ct (g : Ce) (p : Po) : (Out.ct g).sat p = p.ct g := Eq.trans rfl rfl
@[simp ↓] theorem osat_ex (c : Str) (q : Option D) (g : Ce) (p : Po) : (Out.ex c q g).sat p = p.ex c q g := Eq.trans rfl rfl
@[simp ↓] theorem osat_bad (p : Po) : Out.bad.sat p = False := Eq.trans rfl rfl
theorem Out.sat.mono {o : Out} {p p' : Po} (h : o.sat p) (n : ∀ g, p.nx g → p'.nx g) (r : ∀ d, p.rt d → p'.rt d) (b : ∀ g, p.bk g → p'.bk g) (c : ∀ g, p.ct g → p'.ct g) (e : ∀ a q g, p.ex a q g → p'.ex a q g) : o.sat p' := by
  cases o with
  | nx g => exact n g h
  | rt d => exact r d h
  | bk g => exact b g h
  | ct g => exact c g h
  | ex a q g => exact e a q g h
  | bad => exact h
@[simp] theorem osat_ite (c : Prop) [Decidable c] (x y : Out) (p : Po) : (if c then x else y).sat p = ((c → x.sat p) ∧ (¬ c → y.sat p)) := by
  by_cases h : c <;> simp [h]
@[simp ↓] theorem osat_ite_bad (c : Prop) [Decidable c] (x : Out) (p : Po) : (if c then x else .bad).sat p = (c ∧ x.sat p) := by
  by_cases h : c <;> simp [h]
@[simp ↓] theorem osat_to {α : Type} (x : R α) (g : Ce) (k : α → Out) (p : Po) : (x.to g k).sat p = x.sat (fun a => (k a).sat p) (fun c q => flatO q = true ∧ p.ex c q g) := by
  cases x with
  | ok a => rfl
  | exc c q =>
    show (if flatO q = true then Out.ex c q g else .bad).sat p = _
    rw [osat_ite_bad]
    rfl
  | bad => rfl
@[simp ↓] theorem osat_seq (a b : S) (g : Ce) (p : Po) : (sSeq a b g).sat p = (a g).sat ⟨fun g' => (b g').sat p, p.bk, p.ct, p.rt, p.ex⟩ := by
  unfold sSeq
  cases a g <;> rfl
@[simp ↓] theorem osat_if (t : Vw → R Bool) (a b : S) (g : Ce) (p : Po) : (sIf t a b g).sat p = (t (va g)).sat (fun k => (k = true → (a g).sat p) ∧ (k = false → (b g).sat p)) (fun x q => flatO q = true ∧ p.ex x q g) := by
  unfold sIf
  rw [osat_to]
  congr
  funext k
  cases k <;> simp
@[simp ↓] theorem osat_ret (m : M) (g : Ce) (p : Po) : (sRet m g).sat p = (m (va g)).sat p.rt (fun x q => flatO q = true ∧ p.ex x q g) := by
  unfold sRet
  cases m (va g) with
  | ok a => rfl
  | exc x q =>
    show (if flatO q = true then Out.ex x q g else .bad).sat p = _
    rw [osat_ite_bad]
    rfl
  | bad => rfl
@[simp ↓] theorem osat_for (it : Vw → R (List D)) (t : Tg) (b : S) (g : Ce) (p : Po) : (sFor it t b g).sat p = (it (vd g)).sat (fun ds => (loopF t b ds g).sat p) (fun x q => flatO q = true ∧ p.ex x q g) := by
  unfold sFor
  rw [osat_to]
theorem run_sat {n N : Nat} {m : S} {ds : List D} {Q : D → Prop} {E : Str → Option D → Prop} (h : ds.length = n) (g : Ce) (hg : ds.map Cell.dat ++ List.replicate (N - n) Cell.un = g) (s : (m g).sat ⟨fun _ => Q .none, fun _ => False, fun _ => False, Q, fun c p _ => E c p⟩) : (run n N m ds).sat Q E := by
  unfold run
  rw [if_pos h, hg]
  cases e : m g with
  | nx g => rw [e] at s; exact s
  | rt d => rw [e] at s; exact s
  | bk g => rw [e] at s; exact s
  | ct g => rw [e] at s; exact s
  | ex c q g => rw [e] at s; exact s
  | bad => rw [e] at s; exact s
def os {α : Type} (o : Option α) (Q : α → Prop) : Prop := match o with
  | some a => Q a
  | none => False
@[simp ↓] theorem os_some {α : Type} (a : α) (Q : α → Prop) : os (some a) Q = Q a := Eq.trans rfl rfl
@[simp ↓] theorem os_none {α : Type} (Q : α → Prop) : os none Q = False := Eq.trans rfl rfl
@[simp ↓] theorem os_bind {α β : Type} (o : Option α) (f : α → Option β) (Q : β → Prop) : os (o.bind f) Q = os o (fun a => os (f a) Q) := by cases o <;> rfl
@[simp ↓] theorem os_ite {α : Type} (c : Prop) [Decidable c] (o : Option α) (Q : α → Prop) : os (if c then o else none) Q = (c ∧ os o Q) := by by_cases h : c <;> simp [h]
theorem loopF_sat {t : Tg} {b : S} {p : Po} (I : Nat → Ce → Prop) : ∀ {ds : List D} {g : Ce}, I 0 g → (∀ k d g, ds[k]? = some d → I k g → os (t d g) fun g1 => (b g1).sat ⟨I (k + 1), p.nx, I (k + 1), p.rt, p.ex⟩) → (∀ g, I ds.length g → p.nx g) → (loopF t b ds g).sat p := by
  intro ds g h0 hs h1
  have key : ∀ (k : Nat) (es : List D) (g : Ce), k + es.length = ds.length → (∀ i, es[i]? = ds[k + i]?) → I k g → (loopF t b es g).sat p := by
    intro k es
    induction es generalizing k with
    | nil =>
      intro g e _ i
      refine h1 g ?_
      simp at e
      rw [← e]
      exact i
    | cons d es ih =>
      intro g e q i
      have hd : ds[k]? = some d := by simpa using (q 0).symm
      have s := hs k d g hd i
      rw [loopF]
      cases et : t d g with
      | none => rw [et] at s; exact s
      | some g1 =>
        rw [et] at s
        have s' : (b g1).sat ⟨I (k + 1), p.nx, I (k + 1), p.rt, p.ex⟩ := s
        have nxt : ∀ g2, I (k + 1) g2 → (loopF t b es g2).sat p := fun g2 i2 => ih (k + 1) g2 (by simp at e; omega) (fun i => by
          have := q (i + 1)
          simp at this
          rw [this]
          congr 1
          omega) i2
        dsimp only
        cases eb : b g1 with
        | nx g2 => rw [eb] at s'; exact nxt g2 s'
        | ct g2 => rw [eb] at s'; exact nxt g2 s'
        | bk g2 => rw [eb] at s'; exact s'
        | rt v => rw [eb] at s'; exact s'
        | ex c q g2 => rw [eb] at s'; exact s'
        | bad => rw [eb] at s'; exact s'
  exact key 0 ds g (by simp) (fun i => by simp) h0
theorem loopC_sat {t : VTg} {tt : Vw → R Bool} {te : M} {δ0 : Vw} {Q : List D → Prop} {E : Str → Option D → Prop} (I : Nat → List D → Prop) : ∀ {ds acc : List D}, I 0 acc → (∀ k d acc, ds[k]? = some d → I k acc → os (t d δ0) fun δ => (tt δ).sat (fun c => (c = true → (te δ).sat (fun y => acc.length < most ∧ I (k + 1) (acc ++ [y])) fun _ _ => False) ∧ (c = false → I (k + 1) acc)) fun _ _ => False) → (∀ acc, I ds.length acc → Q acc) → (loopC t tt te δ0 ds acc).sat Q E := by
  intro ds acc h0 hs h1
  have key : ∀ (k : Nat) (es acc : List D), k + es.length = ds.length → (∀ i, es[i]? = ds[k + i]?) → I k acc → (loopC t tt te δ0 es acc).sat Q E := by
    intro k es
    induction es generalizing k with
    | nil =>
      intro acc e _ i
      refine h1 acc ?_
      simp at e
      rw [← e]
      exact i
    | cons d es ih =>
      intro acc e q i
      have hd : ds[k]? = some d := by simpa using (q 0).symm
      have s := hs k d acc hd i
      have nxt : ∀ a2, I (k + 1) a2 → (loopC t tt te δ0 es a2).sat Q E := fun g2 i2 => ih (k + 1) g2 (by simp at e; omega) (fun i => by
          have := q (i + 1)
          simp at this
          rw [this]
          congr 1
          omega) i2
      rw [loopC]
      cases et : t d δ0 with
      | none => rw [et] at s; exact s
      | some δ =>
        rw [et] at s
        rw [os_some] at s
        dsimp only
        cases ec : tt δ with
        | bad => rw [ec] at s; exact s
        | exc c p => rw [ec] at s; exact s.elim
        | ok c =>
          rw [ec] at s
          rw [sat_ok] at s
          cases c with
          | false => exact nxt acc (s.2 rfl)
          | true =>
            have s' := s.1 rfl
            dsimp only
            cases ee : te δ with
            | bad => rw [ee] at s'; exact s'
            | exc c p => rw [ee] at s'; exact s'.elim
            | ok y =>
              rw [ee] at s'
              dsimp only
              rw [if_pos s'.1]
              exact nxt _ s'.2
  exact key 0 ds acc (by simp) (fun i => by simp) h0
def RG.sat {α : Type} (r : RG α) (Q : α → Ct → Prop) (E : Str → Option D → Ct → Prop) : Prop := match r with
  | .ok a g => Q a g
  | .exc c p g => E c p g
  | .bad => False
section
variable {α β : Type} (Q : α → Ct → Prop) (E : Str → Option D → Ct → Prop)
@[simp ↓] theorem gsat_ok (a : α) (g : Ct) : (RG.ok a g).sat Q E = Q a g := Eq.trans rfl rfl
@[simp ↓] theorem gsat_exc (c : Str) (p : Option D) (g : Ct) : (RG.exc c p g : RG α).sat Q E = E c p g := Eq.trans rfl rfl
@[simp ↓] theorem gsat_bad : (RG.bad : RG α).sat Q E = False := Eq.trans rfl rfl
@[simp ↓] theorem gsat_bind (x : RG β) (f : β → Ct → RG α) : (x.bind f).sat Q E = x.sat (fun a g => (f a g).sat Q E) E := by cases x <;> rfl
@[simp] theorem gsat_ite (c : Prop) [Decidable c] (x y : RG α) : (if c then x else y).sat Q E = ((c → x.sat Q E) ∧ (¬ c → y.sat Q E)) := by
  by_cases h : c <;> simp [h]
@[simp ↓] theorem gsat_ite_bad (c : Prop) [Decidable c] (x : RG α) : (if c then x else .bad).sat Q E = (c ∧ x.sat Q E) := by
  by_cases h : c <;> simp [h]
@[simp ↓] theorem gsat_of (x : R α) (g : Ct) : (RG.of x g).sat Q E = x.sat (fun a => Q a g) (fun c p => E c p g) := by cases x <;> rfl
end
theorem RG.sat.mono {α : Type} {r : RG α} {Q Q' : α → Ct → Prop} {E E' : Str → Option D → Ct → Prop} (h : r.sat Q E) (q : ∀ a g, Q a g → Q' a g) (e : ∀ c p g, E c p g → E' c p g) : r.sat Q' E' := by
  cases r with
  | ok a g => exact q a g h
  | exc c p g => exact e c p g h
  | bad => exact h
section
variable (Q : T → Ct → Prop) (E : Str → Option D → Ct → Prop)
@[simp ↓] theorem gsat_xOf (o : Option D) (g : Ct) : (xOf o g).sat Q E = (R.of o).sat (fun d => Q (.dat d) g) (fun c p => E c p g) := by cases o <;> rfl
@[simp ↓] theorem gsat_P (m : M) (g : Ct) : (xP m g).sat Q E = (m (tvd g)).sat (fun d => Q (.dat d) g) (fun x q => E x q g) := by
  unfold xP
  rw [gsat_bind, gsat_of]
  rfl
@[simp ↓] theorem gsat_V (m : M) (g : Ct) : (xV m g).sat Q E = (m (tva g)).sat (fun d => flat d = true ∧ Q (.dat d) g) (fun x q => flatO q = true ∧ E x q g) := by
  unfold xV
  cases m (tva g) <;> simp
@[simp ↓] theorem gsat_TP (m : Vw → R Bool) (g : Ct) (Q : Bool → Ct → Prop) : (xTP m g).sat Q E = (m (tva g)).sat (fun d => Q d g) (fun x q => flatO q = true ∧ E x q g) := by
  unfold xTP
  cases m (tva g) <;> simp
end
def RF.sat (r : RF) (Q : T → Ct → Prop) (E : Str → Option D → Ct → Prop) : Prop := match r with
  | .ok t bs => Q t bs
  | .exc c p bs => E c p bs
  | .bad => False
theorem RF.sat.mono {r : RF} {Q Q' : T → Ct → Prop} {E E' : Str → Option D → Ct → Prop} (h : r.sat Q E) (q : ∀ a g, Q a g → Q' a g) (e : ∀ c p g, E c p g → E' c p g) : r.sat Q' E' := by
  cases r with
  | ok a g => exact q a g h
  | exc c p g => exact e c p g h
  | bad => exact h
@[simp ↓] theorem fsat_ok (t : T) (bs : Ct) (Q : T → Ct → Prop) (E : Str → Option D → Ct → Prop) : (RF.ok t bs).sat Q E = Q t bs := Eq.trans rfl rfl
theorem fsat_of_eq {r : RF} {t : T} {bs : Ct} {Q : T → Ct → Prop} {E : Str → Option D → Ct → Prop} (e : r = .ok t bs) (h : Q t bs) : r.sat Q E := by rw [e]; exact h
theorem RF.sat.eq {r : RF} {Q : T → Ct → Prop} (h : r.sat Q fun _ _ _ => False) : ∃ t bs, r = .ok t bs ∧ Q t bs := by
  cases r with
  | ok t bs => exact ⟨t, bs, rfl, h⟩
  | exc c p g => exact h.elim
  | bad => exact h.elim
@[simp ↓] theorem gsat_fn (f : Us → RF) (n : Nat) (dds : List D) (r : XR) (g : Ct) (Q : T → Ct → Prop) (E : Str → Option D → Ct → Prop) : (xFn f n dds r g).sat Q E = (r g).sat (fun as g1 => os (usOf g1 as) fun us => (us ++ dds.map fun d => (false, T.dat d)).length = n ∧ (brs as).Nodup ∧ (f (us ++ dds.map fun d => (false, T.dat d))).sat (fun t bs => os (backG as bs g1) fun g2 => Q t g2) (fun x p bs => os (backG as bs g1) fun g2 => E x p g2)) E := by
  unfold xFn
  rw [gsat_bind]
  congr
  funext as g1
  cases usOf g1 as with
  | none => rfl
  | some us =>
    dsimp only
    rw [gsat_ite_bad, os_some, and_assoc]
    congr
    cases f (us ++ dds.map fun d => (false, T.dat d)) with
    | ok t bs =>
      dsimp only
      rw [fsat_ok]
      cases backG as bs g1 <;> rfl
    | exc c p bs =>
      dsimp only
      show _ = os (backG as bs g1) fun g2 => E c p g2
      cases backG as bs g1 <;> rfl
    | bad => rfl
structure PoT where
  nx : Ct → Prop
  bk : Ct → Prop
  ct : Ct → Prop
  rt : T → Ct → Prop
  ex : Str → Option D → Ct → Prop
def OutT.sat (o : OutT) (p : PoT) : Prop := match o with
  | .nx g => p.nx g
  | .rt d g => p.rt d g
  | .bk g => p.bk g
  | .ct g => p.ct g
  | .ex c q g => p.ex c q g
  | .bad => False
@[simp ↓] theorem tsat_nx (g : Ct) (p : PoT) : (OutT.nx g).sat p = p.nx g := Eq.trans rfl rfl
@[simp ↓] theorem tsat_rt (d : T) (g : Ct) (p : PoT) : (OutT.rt d g).sat p = p.rt d g := Eq.trans rfl rfl
@[simp ↓] theorem tsat_bk (g : Ct) (p : PoT) : (OutT.bk g).sat p = p.bk g := Eq.trans rfl rfl
@[simp ↓] theorem tsat_ct (g : Ct) (p : PoT) : (OutT.ct g).sat p = p.ct g := Eq.trans rfl rfl
@[simp ↓] theorem tsat_ex (c : Str) (q : Option D) (g : Ct) (p : PoT) : (OutT.ex c q g).sat p = p.ex c q g := Eq.trans rfl rfl
@[simp ↓] theorem tsat_bad (p : PoT) : OutT.bad.sat p = False := Eq.trans rfl rfl
theorem OutT.sat.mono {o : OutT} {p p' : PoT} (h : o.sat p) (n : ∀ g, p.nx g → p'.nx g) (r : ∀ d g, p.rt d g → p'.rt d g) (b : ∀ g, p.bk g → p'.bk g) (c : ∀ g, p.ct g → p'.ct g) (e : ∀ a q g, p.ex a q g → p'.ex a q g) : o.sat p' := by
  cases o with
  | nx g => exact n g h
  | rt d g => exact r d g h
  | bk g => exact b g h
  | ct g => exact c g h
  | ex a q g => exact e a q g h
  | bad => exact h
@[simp] theorem tsat_ite (c : Prop) [Decidable c] (x y : OutT) (p : PoT) : (if c then x else y).sat p = ((c → x.sat p) ∧ (¬ c → y.sat p)) := by
  by_cases h : c <;> simp [h]
@[simp ↓] theorem tsat_ite_bad (c : Prop) [Decidable c] (x : OutT) (p : PoT) : (if c then x else .bad).sat p = (c ∧ x.sat p) := by
  by_cases h : c <;> simp [h]
@[simp ↓] theorem tsat_to {α : Type} (x : RG α) (k : α → Ct → OutT) (p : PoT) : (x.to k).sat p = x.sat (fun a g => (k a g).sat p) p.ex := by cases x <;> rfl
@[simp ↓] theorem tsat_seq (a b : ST) (g : Ct) (p : PoT) : (tSeq a b g).sat p = (a g).sat ⟨fun g' => (b g').sat p, p.bk, p.ct, p.rt, p.ex⟩ := by
  unfold tSeq
  cases a g <;> rfl
@[simp ↓] theorem tsat_if (t : XT) (a b : ST) (g : Ct) (p : PoT) : (tIf t a b g).sat p = (t g).sat (fun k g1 => (k = true → (a g1).sat p) ∧ (k = false → (b g1).sat p)) p.ex := by
  unfold tIf
  rw [tsat_to]
  congr
  funext k g1
  cases k <;> simp
@[simp ↓] theorem tsat_ret (m : XM) (g : Ct) (p : PoT) : (tRet m g).sat p = (m g).sat p.rt p.ex := by
  unfold tRet
  rw [tsat_to]
  rfl
@[simp ↓] theorem tsat_for (it : XI) (t : TgT) (b : ST) (g : Ct) (p : PoT) : (tFor it t b g).sat p = (it g).sat (fun ds g1 => (loopT t b ds g1).sat p) p.ex := by
  unfold tFor
  rw [tsat_to]
@[simp ↓] theorem tsat_asg (t : TgT) (m : XM) (g : Ct) (p : PoT) : (tAsg t m g).sat p = (m g).sat (fun x g1 => os (t (fz x) g1) p.nx) p.ex := by
  unfold tAsg
  rw [tsat_to]
  congr
  funext x g1
  cases t (fz x) g1 <;> rfl
theorem runT_sat {n N : Nat} {m : ST} {us : Us} {Q : T → Ct → Prop} {E : Str → Option D → Ct → Prop} (h : us.length = n) (g : Ct) (hg : us.map cellOf ++ List.replicate (N - n) Cl.un = g) (s : (m g).sat ⟨fun g => os (bback us g) fun bs => Q (.dat .none) bs, fun _ => False, fun _ => False, fun t g => os (bback us g) fun bs => Q t bs, fun c p g => os (bback us g) fun bs => E c p bs⟩) : (runT n N m us).sat Q E := by
  rw [runT_go n N m us g h hg]
  cases e : m g with
  | nx g1 =>
    rw [e] at s
    have s' : os (bback us g1) fun bs => Q (.dat .none) bs := s
    dsimp only
    cases eb : bback us g1 with
    | none => rw [eb] at s'; exact s'
    | some bs => rw [eb] at s'; exact s'
  | rt t g1 =>
    rw [e] at s
    have s' : os (bback us g1) fun bs => Q t bs := s
    dsimp only
    cases eb : bback us g1 with
    | none => rw [eb] at s'; exact s'
    | some bs => rw [eb] at s'; exact s'
  | bk g => rw [e] at s; exact s
  | ct g => rw [e] at s; exact s
  | ex c p g1 =>
    rw [e] at s
    have s' : os (bback us g1) fun bs => E c p bs := s
    dsimp only
    cases eb : bback us g1 with
    | none => rw [eb] at s'; exact s'
    | some bs => rw [eb] at s'; exact s'
  | bad => rw [e] at s; exact s
theorem loopT_sat {t : TgT} {b : ST} {p : PoT} (I : Nat → Ct → Prop) : ∀ {ds : List D} {g : Ct}, I 0 g → (∀ k d g, ds[k]? = some d → I k g → os (t d g) fun g1 => (b g1).sat ⟨I (k + 1), p.nx, I (k + 1), p.rt, p.ex⟩) → (∀ g, I ds.length g → p.nx g) → (loopT t b ds g).sat p := by
  intro ds g h0 hs h1
  have key : ∀ (k : Nat) (es : List D) (g : Ct), k + es.length = ds.length → (∀ i, es[i]? = ds[k + i]?) → I k g → (loopT t b es g).sat p := by
    intro k es
    induction es generalizing k with
    | nil =>
      intro g e _ i
      refine h1 g ?_
      simp at e
      rw [← e]
      exact i
    | cons d es ih =>
      intro g e q i
      have hd : ds[k]? = some d := by simpa using (q 0).symm
      have s := hs k d g hd i
      rw [loopT]
      cases et : t d g with
      | none => rw [et] at s; exact s
      | some g1 =>
        rw [et] at s
        have s' : (b g1).sat ⟨I (k + 1), p.nx, I (k + 1), p.rt, p.ex⟩ := s
        have nxt : ∀ g2, I (k + 1) g2 → (loopT t b es g2).sat p := fun g2 i2 => ih (k + 1) g2 (by simp at e; omega) (fun i => by
          have := q (i + 1)
          simp at this
          rw [this]
          congr 1
          omega) i2
        dsimp only
        cases eb : b g1 with
        | nx g2 => rw [eb] at s'; exact nxt g2 s'
        | ct g2 => rw [eb] at s'; exact nxt g2 s'
        | bk g2 => rw [eb] at s'; exact s'
        | rt v g2 => rw [eb] at s'; exact s'
        | ex c q g2 => rw [eb] at s'; exact s'
        | bad => rw [eb] at s'; exact s'
  exact key 0 ds g (by simp) (fun i => by simp) h0
theorem loopCT_sat {t : TgT} {tt : XT} {te : XM} {vs : List Nat} {Q : List T → Ct → Prop} {E : Str → Option D → Ct → Prop} (I : Nat → List T → Ct → Prop) : ∀ {ds : List D} {acc : List T} {g : Ct}, I 0 acc g → (∀ k d acc g, ds[k]? = some d → I k acc g → os (t d g) fun g1 => (tt g1).sat (fun c g2 => (c = true → (te g2).sat (fun y g3 => acc.length < most ∧ g3.length = g.length ∧ I (k + 1) (acc ++ [.dat (fz y)]) (wipeG vs g3)) fun _ _ _ => False) ∧ (c = false → g2.length = g.length ∧ I (k + 1) acc (wipeG vs g2))) fun _ _ _ => False) → (∀ acc g, I ds.length acc g → Q acc g) → (loopCT t tt te vs ds acc g).sat Q E := by
  intro ds acc g h0 hs h1
  have key : ∀ (k : Nat) (es : List D) (acc : List T) (g : Ct), k + es.length = ds.length → (∀ i, es[i]? = ds[k + i]?) → I k acc g → (loopCT t tt te vs es acc g).sat Q E := by
    intro k es
    induction es generalizing k with
    | nil =>
      intro acc g e _ i
      refine h1 acc g ?_
      simp at e
      rw [← e]
      exact i
    | cons d es ih =>
      intro acc g e q i
      have hd : ds[k]? = some d := by simpa using (q 0).symm
      have s := hs k d acc g hd i
      have nxt : ∀ a2 g2, I (k + 1) a2 g2 → (loopCT t tt te vs es a2 g2).sat Q E := fun a2 g2 i2 => ih (k + 1) a2 g2 (by simp at e; omega) (fun i => by
          have := q (i + 1)
          simp at this
          rw [this]
          congr 1
          omega) i2
      rw [loopCT]
      cases et : t d g with
      | none => rw [et] at s; exact s
      | some g1 =>
        rw [et] at s
        rw [os_some] at s
        dsimp only
        cases ec : tt g1 with
        | bad => rw [ec] at s; exact s
        | exc c p g => rw [ec] at s; exact s.elim
        | ok c g2 =>
          rw [ec] at s
          rw [gsat_ok] at s
          cases c with
          | false =>
            dsimp only
            have s' := s.2 rfl
            rw [if_pos s'.1]
            exact nxt acc _ s'.2
          | true =>
            have s' := s.1 rfl
            dsimp only
            cases ee : te g2 with
            | bad => rw [ee] at s'; exact s'
            | exc c p g => rw [ee] at s'; exact s'.elim
            | ok y g3 =>
              rw [ee] at s'
              dsimp only
              rw [gsat_ok] at s'
              rw [if_pos ⟨s'.1, s'.2.1⟩]
              exact nxt _ _ s'.2.2
  exact key 0 ds acc g (by simp) (fun i => by simp) h0
@[simp ↓] theorem gsat_lc (it : XI) (vs : List Nat) (t : TgT) (tt : XT) (te : XM) (g : Ct) (Q : T → Ct → Prop) (E : Str → Option D → Ct → Prop) : (xLc it vs t tt te g).sat Q E = (it g).sat (fun ds g1 => vs.all (fun v => decide (v < g1.length)) = true ∧ (loopCT t tt te vs ds [] (wipeG vs g1)).sat (fun acc g2 => Q (.lst acc) g2) E) E := by
  unfold xLc
  rw [gsat_bind]
  congr
  funext ds g1
  rw [gsat_ite_bad, gsat_bind]
  rfl
@[simp ↓] theorem gsat_xiRng (f : List D → Option (List D)) (m : XA) (g : Ct) (Q : List D → Ct → Prop) (E : Str → Option D → Ct → Prop) : (xiRng f m g).sat Q E = (m g).sat (fun ts g1 => (R.of (f (fzL ts))).sat (fun ds => Q ds g1) fun c p => E c p g1) E := by
  unfold xiRng
  rw [gsat_bind]
  congr
  funext ts g1
  cases f (fzL ts) <;> rfl
end MI
set_option Elab.async false
set_option linter.all false
set_option maxRecDepth 100000
set_option maxHeartbeats 4000000
namespace MI
open PySem
def itemsD : D → Option (List D)
  | .list ds => some ds
  | .tuple ds => some ds
  | _ => none
@[simp] theorem itemsD_l (ds : List D) : itemsD (.list ds) = some ds := Eq.trans rfl rfl
@[simp] theorem itemsD_t (ds : List D) : itemsD (.tuple ds) = some ds := Eq.trans rfl rfl
def intD : D → Option Int
  | .int i => some i
  | _ => none
@[simp] theorem intD_i (i : Int) : intD (.int i) = some i := Eq.trans rfl rfl
def boolD : D → Option Bool
  | .bool b => some b
  | _ => none
@[simp] theorem boolD_b (b : Bool) : boolD (.bool b) = some b := Eq.trans rfl rfl
@[simp ↓] theorem sat_truth (o : Option Bool) (Q : Bool → Prop) (E : Str → Option D → Prop) : (R.of o).sat Q E = os o Q := by cases o <;> rfl
theorem sat_os {α : Type} (o : Option α) (Q : α → Prop) (E : Str → Option D → Prop) : (R.of o).sat Q E = os o Q := by cases o <;> rfl
section
variable (Q : D → Prop) (QL : List D → Prop) (QB : Bool → Prop) (QO : Option Int → Prop) (E : Str → Option D → Prop) (δ : Vw)
def dV : Option (Option D) → Option D
  | some (some d) => some d
  | _ => none
@[simp] theorem dV_s (d : D) : dV (some (some d)) = some d := Eq.trans rfl rfl
@[simp ↓] theorem msat_var (i : Nat) : (mVar i δ).sat Q E = os (dV δ[i]?) Q := by
  unfold mVar
  cases δ[i]? with
  | none => rfl
  | some o => cases o <;> rfl
@[simp ↓] theorem msat_items (m : M) : (mItems m δ).sat QL E = (m δ).sat (fun d => os (itemsD d) QL) E := by
  unfold mItems
  rw [sat_bind]
  congr
  funext d
  cases d <;> rfl
@[simp ↓] theorem msat_of (m : M) : (nOf m δ).sat QL E = (m δ).sat (fun d => os (itemsD d) QL) E := by
  unfold nOf
  rw [sat_bind]
  congr
  funext d
  cases d <;> rfl
@[simp ↓] theorem msat_part (m : M) : (mPart m δ).sat QO E = (m δ).sat (fun d => os (intD d) fun i => QO (some i)) E := by
  unfold mPart
  rw [sat_bind]
  congr
  funext d
  cases d <;> rfl
@[simp ↓] theorem msat_lc (it : Vw → R (List D)) (vs : List Nat) (t : VTg) (tt : Vw → R Bool) (te : M) : (nLc it vs t tt te δ).sat QL E = (it δ).sat (fun ds => (loopC t tt te (wipeV δ vs) ds []).sat QL E) E := by
  unfold nLc
  rw [sat_bind]
@[simp ↓] theorem msat_bin (f : D → D → Option D) (a b : M) : (mBin f a b δ).sat Q E = (a δ).sat (fun x => (b δ).sat (fun y => (R.of (f x y)).sat Q E) E) E := by
  unfold mBin
  simp only [sat_bind]
@[simp ↓] theorem msat_tru (m : M) : (mTru m δ).sat QB E = (m δ).sat (fun x => os (truthD x) QB) E := by
  unfold mTru
  simp only [sat_bind, sat_os]
@[simp ↓] theorem msat_not (t : Vw → R Bool) : (mNot t δ).sat QB E = (t δ).sat (fun b => QB (!b)) E := by
  unfold mNot
  simp only [sat_bind, sat_ok]
@[simp ↓] theorem msat_andT (t u : Vw → R Bool) : (mAndT t u δ).sat QB E = (t δ).sat (fun b => (b = true → (u δ).sat QB E) ∧ (b = false → QB false)) E := by
  unfold mAndT
  rw [sat_bind]
  congr
  funext b
  cases b <;> simp
@[simp ↓] theorem msat_orT (t u : Vw → R Bool) : (mOrT t u δ).sat QB E = (t δ).sat (fun b => (b = true → QB true) ∧ (b = false → (u δ).sat QB E)) E := by
  unfold mOrT
  rw [sat_bind]
  congr
  funext b
  cases b <;> simp
@[simp ↓] theorem msat_if (t : Vw → R Bool) (x y : M) : (mIf t x y δ).sat Q E = (t δ).sat (fun b => (b = true → (x δ).sat Q E) ∧ (b = false → (y δ).sat Q E)) E := by
  unfold mIf
  rw [sat_bind]
  congr
  funext b
  cases b <;> simp
@[simp ↓] theorem msat_call (n : Nat) (f : List D → R D) (dds : List D) (m : Vw → R (List D)) : (mCall n f dds m δ).sat Q E = (m δ).sat (fun ds => (ds ++ dds).length = n ∧ (f (ds ++ dds)).sat Q E) E := by
  unfold mCall
  simp only [sat_bind, sat_ite_bad]
@[simp ↓] theorem msat_mt (T : String) (f : D → List D → Option D) (o : M) (a : Vw → R (List D)) : (mMt T f o a δ).sat Q E = (o δ).sat (fun d => (tyD d = T ∧ (T = "str" ∨ T = "list")) ∧ (a δ).sat (fun ds => (R.of (f d ds)).sat Q E) E) E := by
  unfold mMt
  simp only [sat_bind, sat_ite_bad]
@[simp ↓] theorem msat_chain (f f' : D → D → Option D) (a b c : M) : (mChain f f' a b c δ).sat Q E = (a δ).sat (fun x => (b δ).sat (fun y => (R.of (f x y)).sat (fun r => os (boolD r) fun k => (k = true → (c δ).sat (fun z => (R.of (f' y z)).sat Q E) E) ∧ (k = false → Q (.bool false))) E) E) E := by
  unfold mChain
  simp only [sat_bind]
  congr
  funext x
  congr
  funext y
  cases f x y with
  | none => rfl
  | some r => cases r with
    | bool k => cases k <;> simp
    | _ => rfl
@[simp ↓] theorem msat_andV (a b : M) : (mAndV a b δ).sat Q E = (a δ).sat (fun x => os (truthD x) fun k => (k = true → (b δ).sat Q E) ∧ (k = false → Q x)) E := by
  unfold mAndV
  simp only [sat_bind, sat_os]
  congr
  funext x
  congr
  funext k
  cases k <;> simp
@[simp ↓] theorem msat_orV (a b : M) : (mOrV a b δ).sat Q E = (a δ).sat (fun x => os (truthD x) fun k => (k = true → Q x) ∧ (k = false → (b δ).sat Q E)) E := by
  unfold mOrV
  simp only [sat_bind, sat_os]
  congr
  funext x
  congr
  funext k
  cases k <;> simp
@[simp ↓] theorem msat_notV (a : M) : (mNotV a δ).sat Q E = (a δ).sat (fun x => os (truthD x) fun k => Q (.bool !k)) E := by
  unfold mNotV
  simp only [sat_bind, sat_os, sat_ok]
end
section
variable (p : Po) (g : Ce)
@[simp ↓] theorem osat_set (i : Nat) (m : M) : (sSet i m g).sat p = (m (vd g)).sat (fun d => p.nx (g.set i (.dat d))) (fun c q => flatO q = true ∧ p.ex c q g) := by
  unfold sSet
  rw [osat_to]
  rfl
@[simp ↓] theorem osat_setF (i : Nat) (m : M) : (sSetF i m g).sat p = (m (va g)).sat (fun d => flat d = true ∧ p.nx (g.set i (.dat d))) (fun c q => flatO q = true ∧ p.ex c q g) := by
  unfold sSetF
  rw [osat_to]
  simp only [osat_ite_bad, osat_nx]
@[simp ↓] theorem osat_expr (m : M) : (sExpr m g).sat p = (m (va g)).sat (fun _ => p.nx g) (fun c q => flatO q = true ∧ p.ex c q g) := by
  unfold sExpr
  rw [osat_to]
  rfl
@[simp ↓] theorem osat_asg (t : Tg) (m : M) : (sAsg t m g).sat p = (m (vd g)).sat (fun d => os (t d g) p.nx) (fun c q => flatO q = true ∧ p.ex c q g) := by
  unfold sAsg
  rw [osat_to]
  congr
  funext d
  cases t d g <;> rfl
@[simp ↓] theorem osat_asgF (t : Tg) (m : M) : (sAsgF t m g).sat p = (m (va g)).sat (fun d => flat d = true ∧ os (t d g) p.nx) (fun c q => flatO q = true ∧ p.ex c q g) := by
  unfold sAsgF
  rw [osat_to]
  simp only [osat_ite_bad]
  congr
  funext d
  cases t d g <;> rfl
@[simp ↓] theorem osat_own (i : Nat) (m : Vw → R (List D)) : (sOwn i m g).sat p = (m (vd g)).sat (fun ds => p.nx (g.set i (.own ds))) (fun c q => flatO q = true ∧ p.ex c q g) := by
  unfold sOwn
  rw [osat_to]
  rfl
def ownC : Option Cell → Option (List D)
  | some (.own ds) => some ds
  | _ => none
@[simp] theorem ownC_o (ds : List D) : ownC (some (.own ds)) = some ds := Eq.trans rfl rfl
@[simp ↓] theorem osat_app (i : Nat) (m : M) : (sApp i m g).sat p = os (ownC g[i]?) fun ds => (m (vd g)).sat (fun d => ds.length < most ∧ p.nx (g.set i (.own (ds ++ [d])))) (fun c q => flatO q = true ∧ p.ex c q g) := by
  unfold sApp
  cases e : g[i]? with
  | none => rfl
  | some c => cases c with
    | own ds =>
      dsimp only
      rw [osat_to]
      simp only [osat_ite_bad, osat_nx, ownC_o, os_some]
    | _ => rfl
@[simp ↓] theorem osat_appF (i : Nat) (m : M) : (sAppF i m g).sat p = os (ownC g[i]?) fun ds => (m (va g)).sat (fun d => (flat d = true ∧ ds.length < most) ∧ p.nx (g.set i (.own (ds ++ [d])))) (fun c q => flatO q = true ∧ p.ex c q g) := by
  unfold sAppF
  cases e : g[i]? with
  | none => rfl
  | some c => cases c with
    | own ds =>
      dsimp only
      rw [osat_to]
      simp only [osat_ite_bad, osat_nx, ownC_o, os_some]
    | _ => rfl
end
section
variable (Q : T → Ct → Prop) (QL : List T → Ct → Prop) (QB : Bool → Ct → Prop) (QD : List D → Ct → Prop) (QR : List Ar → Ct → Prop) (E : Str → Option D → Ct → Prop) (g : Ct)
@[simp ↓] theorem gsat_bin (f : D → D → Option D) (a b : XM) : (xBin f a b g).sat Q E = (a g).sat (fun x g1 => (b g1).sat (fun y g2 => (R.of (f (fz x) (fz y))).sat (fun d => Q (.dat d) g2) (fun c p => E c p g2)) E) E := by
  unfold xBin
  simp only [gsat_bind, gsat_xOf]
@[simp ↓] theorem gsat_un (f : D → Option D) (a : XM) : (xUn f a g).sat Q E = (a g).sat (fun x g1 => (R.of (f (fz x))).sat (fun d => Q (.dat d) g1) (fun c p => E c p g1)) E := by
  unfold xUn
  simp only [gsat_bind, gsat_xOf]
@[simp ↓] theorem gsat_tru (m : XM) : (xTru m g).sat QB E = (m g).sat (fun x g1 => os (truthD (fz x)) fun b => QB b g1) E := by
  unfold xTru
  simp only [gsat_bind]
  congr
  funext x g1
  cases truthD (fz x) <;> rfl
@[simp ↓] theorem gsat_not (t : XT) : (xNot t g).sat QB E = (t g).sat (fun b g1 => QB (!b) g1) E := by
  unfold xNot
  simp only [gsat_bind, gsat_ok]
@[simp ↓] theorem gsat_andT (t u : XT) : (xAndT t u g).sat QB E = (t g).sat (fun b g1 => (b = true → (u g1).sat QB E) ∧ (b = false → QB false g1)) E := by
  unfold xAndT
  simp only [gsat_bind]
  congr
  funext b g1
  cases b <;> simp
@[simp ↓] theorem gsat_orT (t u : XT) : (xOrT t u g).sat QB E = (t g).sat (fun b g1 => (b = true → QB true g1) ∧ (b = false → (u g1).sat QB E)) E := by
  unfold xOrT
  simp only [gsat_bind]
  congr
  funext b g1
  cases b <;> simp
@[simp ↓] theorem gsat_if (t : XT) (a b : XM) : (xIf t a b g).sat Q E = (t g).sat (fun k g1 => (k = true → (a g1).sat Q E) ∧ (k = false → (b g1).sat Q E)) E := by
  unfold xIf
  simp only [gsat_bind]
  congr
  funext b g1
  cases b <;> simp
@[simp ↓] theorem gsat_nil : (xNil g).sat QL E = QL [] g := Eq.trans rfl rfl
@[simp ↓] theorem gsat_cons (a : XM) (r : XA) : (xCons a r g).sat QL E = (a g).sat (fun t g1 => (r g1).sat (fun ts g2 => QL (t :: ts) g2) E) E := by
  unfold xCons
  simp only [gsat_bind, gsat_ok]
@[simp ↓] theorem gsat_ds (f : List D → Option D) (a : XA) : (xDs f a g).sat Q E = (a g).sat (fun ts g1 => (R.of (f (fzL ts))).sat (fun d => Q (.dat d) g1) (fun c p => E c p g1)) E := by
  unfold xDs
  simp only [gsat_bind, gsat_xOf]
@[simp ↓] theorem gsat_call (n : Nat) (f : List D → R D) (dds : List D) (a : XA) : (xCall n f dds a g).sat Q E = (a g).sat (fun ts g1 => (fzL ts ++ dds).length = n ∧ (f (fzL ts ++ dds)).sat (fun d => Q (.dat d) g1) (fun c p => E c p g1)) E := by
  unfold xCall
  simp only [gsat_bind, gsat_ite_bad, gsat_of, gsat_ok]
@[simp ↓] theorem gsat_mt (T : String) (f : D → List D → Option D) (o : XM) (a : XA) : (xMt T f o a g).sat Q E = (o g).sat (fun t g1 => (tyD (fz t) = T ∧ (T = "str" ∨ T = "list")) ∧ (a g1).sat (fun ts g2 => (R.of (f (fz t) (fzL ts))).sat (fun d => Q (.dat d) g2) (fun c p => E c p g2)) E) E := by
  unfold xMt
  simp only [gsat_bind, gsat_ite_bad, gsat_xOf]
@[simp ↓] theorem gsat_andV (a b : XM) : (xAndV a b g).sat Q E = (a g).sat (fun t g1 => os (boolD (fz t)) fun k => (k = true → (b g1).sat Q E) ∧ (k = false → Q (.dat (.bool false)) g1)) E := by
  unfold xAndV
  simp only [gsat_bind]
  congr
  funext t g1
  cases fz t with
  | bool k => cases k <;> simp
  | _ => rfl
@[simp ↓] theorem gsat_orV (a b : XM) : (xOrV a b g).sat Q E = (a g).sat (fun t g1 => os (boolD (fz t)) fun k => (k = true → Q (.dat (.bool true)) g1) ∧ (k = false → (b g1).sat Q E)) E := by
  unfold xOrV
  simp only [gsat_bind]
  congr
  funext t g1
  cases fz t with
  | bool k => cases k <;> simp
  | _ => rfl
@[simp ↓] theorem gsat_notV (a : XM) : (xNotV a g).sat Q E = (a g).sat (fun t g1 => os (boolD (fz t)) fun k => Q (.dat (.bool !k)) g1) E := by
  unfold xNotV
  simp only [gsat_bind]
  congr
  funext t g1
  cases fz t <;> rfl
@[simp ↓] theorem gsat_ls (m : XA) : (xLs m g).sat Q E = (m g).sat (fun ts g1 => ts.length ≤ most ∧ Q (.lst ts) g1) E := by
  unfold xLs
  simp only [gsat_bind, gsat_ite_bad, gsat_ok]
@[simp ↓] theorem gsat_listOf (m : XM) : (xListOf m g).sat Q E = (m g).sat (fun t g1 => os (itemsD (fz t)) fun ds => Q (.lst (ds.map T.dat)) g1) E := by
  unfold xListOf
  simp only [gsat_bind]
  congr
  funext t g1
  cases fz t <;> rfl
def tC : Option Cl → Option T
  | some (.t x) => some x
  | _ => none
@[simp] theorem tC_t (x : T) : tC (some (.t x)) = some x := Eq.trans rfl rfl
@[simp ↓] theorem gsat_mv (i : Nat) : (xMv i g).sat Q E = os (tC g[i]?) fun x => Q x ((kil i g).set i .un) := by
  unfold xMv
  cases g[i]? with
  | none => rfl
  | some c => cases c <;> rfl
@[simp ↓] theorem gsat_N (m : Vw → R (List D)) : (xN m g).sat Q E = (m (tvd g)).sat (fun ds => Q (.lst (ds.map T.dat)) g) (fun c p => E c p g) := by
  unfold xN
  simp only [gsat_bind, gsat_of, gsat_ok]
@[simp ↓] theorem gsat_iP (m : Vw → R (List D)) : (xiP m g).sat QD E = (m (tvd g)).sat (fun ds => QD ds g) (fun c p => E c p g) := by
  unfold xiP
  simp only [gsat_of]
@[simp ↓] theorem gsat_iItems (m : XM) : (xiItems m g).sat QD E = (m g).sat (fun t g1 => os (itemsD (fz t)) fun ds => QD ds g1) E := by
  unfold xiItems
  simp only [gsat_bind]
  congr
  funext t g1
  cases fz t <;> rfl
@[simp ↓] theorem gsat_rNil : (rNil g).sat QR E = QR [] g := Eq.trans rfl rfl
@[simp ↓] theorem gsat_rVal (a : XM) (r : XR) : (rVal a r g).sat QR E = (a g).sat (fun t g1 => (r g1).sat (fun as g2 => QR (.v t :: as) g2) E) E := by
  unfold rVal
  simp only [gsat_bind, gsat_ok]
@[simp ↓] theorem gsat_rBor (i : Nat) (r : XR) : (rBor i r g).sat QR E = os (nt g i) fun _ => (r g).sat (fun as g2 => QR (.b i :: as) g2) E := by
  unfold rBor
  cases nt g i with
  | none => rfl
  | some x =>
    dsimp only
    simp only [gsat_bind, gsat_ok, os_some]
@[simp ↓] theorem gsat_yes : (xYes g).sat QB E = QB true g := Eq.trans rfl rfl
def datT : Option T → Option D
  | some (.dat d) => some d
  | _ => none
@[simp] theorem datT_d (d : D) : datT (some (.dat d)) = some d := Eq.trans rfl rfl
@[simp ↓] theorem gsat_item (j : Nat) (mi : XM) : (xItem j mi g).sat Q E = os (locT g j []) fun _ => (mi g).sat (fun i g1 => os (intD (fz i)) fun i => os (locT g1 j []) fun ts => os (datT (L2.atI ts i)) fun d => Q (.dat d) g1) E := by
  unfold xItem
  cases locT g j [] with
  | none => rfl
  | some ts =>
    dsimp only
    simp only [gsat_bind, os_some]
    congr
    funext i g1
    cases fz i with
    | int i =>
      dsimp only
      simp only [intD_i, os_some]
      cases locT g1 j [] with
      | none => rfl
      | some ts =>
        dsimp only
        simp only [os_some]
        cases L2.atI ts i with
        | none => rfl
        | some t => cases t <;> rfl
    | _ => rfl
@[simp ↓] theorem gsat_pop (j : Nat) : (xPop j g).sat Q E = os (locT (kil j g) j []) fun ts => os (datT ts[ts.length - 1]?) fun d => Q (.dat d) (putL (kil j g) j [] (ts.eraseIdx (ts.length - 1))) := by
  unfold xPop
  cases locT (kil j g) j [] with
  | none => rfl
  | some ts =>
    dsimp only
    simp only [os_some]
    cases ts[ts.length - 1]? with
    | none => rfl
    | some t => cases t <;> rfl
end
section
variable (p : PoT) (g : Ct)
@[simp ↓] theorem tsat_putC (i : Nat) (t : T) : (putC i t g).sat p = (free1 g i = true ∧ p.nx ((kil i g).set i (.t t))) := by
  unfold putC
  rw [tsat_ite_bad]
  rfl
@[simp ↓] theorem tsat_nop : (tNop g).sat p = p.nx g := Eq.trans rfl rfl
@[simp ↓] theorem tsat_retN : (tRetN g).sat p = p.rt (.dat .none) g := Eq.trans rfl rfl
@[simp ↓] theorem tsat_break : (tBreak g).sat p = p.bk g := Eq.trans rfl rfl
@[simp ↓] theorem tsat_cont : (tCont g).sat p = p.ct g := Eq.trans rfl rfl
@[simp ↓] theorem tsat_raise (c : Str) : (tRaise c g).sat p = p.ex c none g := Eq.trans rfl rfl
@[simp ↓] theorem tsat_expr (m : XM) : (tExpr m g).sat p = (m g).sat (fun _ g1 => p.nx g1) p.ex := by
  unfold tExpr
  simp only [tsat_to, tsat_nx]
@[simp ↓] theorem tsat_set (i : Nat) (m : XM) : (tSet i m g).sat p = (m g).sat (fun t g1 => (putC i t g1).sat p) p.ex := by
  unfold tSet
  simp only [tsat_to]
@[simp ↓] theorem tsat_setD (i : Nat) (m : XM) : (tSetD i m g).sat p = (m g).sat (fun t g1 => (putC i (.dat (fz t)) g1).sat p) p.ex := by
  unfold tSetD
  simp only [tsat_to]
@[simp ↓] theorem tsat_app (j : Nat) (m : XM) : (tApp j m g).sat p = os (locT g j []) fun _ => (m g).sat (fun t g1 => os (locT g1 j []) fun ts => ts.length < most ∧ p.nx (putL g1 j [] (ts ++ [.dat (fz t)]))) p.ex := by
  unfold tApp
  cases locT g j [] with
  | none => rfl
  | some ts =>
    dsimp only
    simp only [tsat_to, os_some]
    congr
    funext t g1
    cases locT g1 j [] with
    | none => rfl
    | some ts =>
      dsimp only
      simp only [os_some, tsat_ite_bad, tsat_nx]
def lstT : T → Option (List T)
  | .lst us => some us
  | _ => none
@[simp] theorem lstT_l (us : List T) : lstT (.lst us) = some us := Eq.trans rfl rfl
@[simp ↓] theorem tsat_ext (j : Nat) (m : XM) : (tExt j m g).sat p = os (locT g j []) fun _ => (m g).sat (fun t g1 => os (lstT t) fun us => os (locT g1 j []) fun ts => ts.length + us.length ≤ most ∧ p.nx (putL g1 j [] (ts ++ (fzL us).map T.dat))) p.ex := by
  unfold tExt
  cases locT g j [] with
  | none => rfl
  | some ts =>
    dsimp only
    simp only [tsat_to, os_some]
    congr
    funext t g1
    cases t with
    | lst us =>
      dsimp only
      simp only [lstT_l, os_some]
      cases locT g1 j [] with
      | none => rfl
      | some ts =>
        dsimp only
        simp only [os_some, tsat_ite_bad, tsat_nx]
    | _ => rfl
@[simp ↓] theorem tsat_put (j : Nat) (mi m : XM) : (tPut j mi m g).sat p = (m g).sat (fun t g1 => os (locT g1 j []) fun _ => (mi g1).sat (fun i g2 => os (intD (fz i)) fun i => os (locT g2 j []) fun ts => os (L2.ixN ts.length i) fun k => p.nx (putL (kilk j k g2) j [] (ts.set k (.dat (fz t))))) p.ex) p.ex := by
  unfold tPut
  simp only [tsat_to]
  congr
  funext t g1
  cases locT g1 j [] with
  | none => rfl
  | some ts0 =>
    dsimp only
    simp only [tsat_to, os_some]
    congr
    funext i g2
    cases fz i with
    | int i =>
      dsimp only
      simp only [intD_i, os_some]
      cases locT g2 j [] with
      | none => rfl
      | some ts =>
        dsimp only
        simp only [os_some]
        cases L2.ixN ts.length i <;> rfl
    | _ => rfl
def two : List T → Option (T × T)
  | [i, t] => some (i, t)
  | _ => none
@[simp] theorem two_2 (i t : T) : two [i, t] = some (i, t) := Eq.trans rfl rfl
@[simp ↓] theorem tsat_ins (j : Nat) (m : XA) : (tIns j m g).sat p = os (locT g j []) fun _ => (m g).sat (fun us g1 => os (two us) fun w => os (intD (fz w.1)) fun i => os (locT (kil j g1) j []) fun ts => (ts.length < most ∧ 0 ≤ i ∧ i < 2 ^ 63) ∧ p.nx (putL (kil j g1) j [] (ts.take i.toNat ++ [.dat (fz w.2)] ++ ts.drop i.toNat))) p.ex := by
  unfold tIns
  cases locT g j [] with
  | none => rfl
  | some ts =>
    dsimp only
    simp only [tsat_to, os_some]
    congr
    funext us g1
    rcases us with _ | ⟨i, _ | ⟨t, _ | ⟨z, r⟩⟩⟩
    · rfl
    · rfl
    · dsimp only
      simp only [two_2, os_some]
      cases fz i with
      | int i =>
        dsimp only
        simp only [intD_i, os_some]
        cases locT (kil j g1) j [] with
        | none => rfl
        | some ts =>
          dsimp only
          simp only [os_some, tsat_ite_bad, tsat_nx]
      | _ => rfl
    · rfl
@[simp ↓] theorem tsat_clr (j : Nat) : (tClr j g).sat p = os (locT (kil j g) j []) fun _ => p.nx (putL (kil j g) j [] []) := by
  unfold tClr
  cases locT (kil j g) j [] <;> rfl
@[simp ↓] theorem tsat_rev (j : Nat) : (tRev j g).sat p = os (locT (kil j g) j []) fun ts => p.nx (putL (kil j g) j [] ts.reverse) := by
  unfold tRev
  cases locT (kil j g) j [] <;> rfl
@[simp ↓] theorem tsat_par (i j : Nat) (m : XA) : (tPar i j m g).sat p = (m g).sat (fun ts g1 => os (two ts) fun w => os (uN i (fz w.1) g1) fun g2 => os (uN j (fz w.2) g2) p.nx) p.ex := by
  unfold tPar
  simp only [tsat_to]
  congr
  funext ts g1
  rcases ts with _ | ⟨i', _ | ⟨t, _ | ⟨z, r⟩⟩⟩
  · rfl
  · rfl
  · dsimp only
    simp only [two_2, os_some]
    cases uN i (fz i') g1 with
    | none => rfl
    | some g2 =>
      dsimp only
      simp only [os_some]
      cases uN j (fz t) g2 <;> rfl
  · rfl
@[simp ↓] theorem tsat_al (y j k : Nat) : (tAl y j k g).sat p = os ((nt g j).bind lstT) fun ts => os ((ts[k]?).bind lstT) fun _ => (free1 g y = true ∧ y ≠ j ∧ y < g.length) ∧ p.nx ((kil y g).set y (.al j k)) := by
  unfold tAl
  cases nt g j with
  | none => rfl
  | some x =>
    cases x with
    | lst ts =>
      simp only [Option.bind_some, lstT_l, os_some]
      cases ts[k]? with
      | none => rfl
      | some z =>
        cases z with
        | lst us => simp only [Option.bind_some, lstT_l, os_some, tsat_ite_bad, tsat_nx]
        | _ => rfl
    | _ => rfl
@[simp ↓] theorem tsat_frz (i : Nat) (m : ST) (x : T) (h : g[i]? = some (.t x)) : (tFrz i m g).sat p = (m ((kil i g).set i (.t (.dat (fz x))))).sat p := by
  unfold tFrz
  rw [h]
end
def locA (g : Ct) (j : Nat) : Option (List T) := locT g j []
def putA (g : Ct) (j : Nat) (ts : List T) : Ct := putL g j [] ts
@[simp] theorem asL_l (ts : List T) : asL (.lst ts) = some ts := Eq.trans rfl rfl
@[simp] theorem locT_ev (c : Cl) (g : Ct) (j : Nat) : locT (c :: g) j [] = match (c :: g)[j]? with
    | some (.t x) => asL x
    | some (.b x) => asL x
    | _ => locA (c :: g) j := by
  generalize c :: g = g
  unfold locA locT locS
  cases h : g[j]? with
  | none => rfl
  | some c =>
    have hn : nt g j = c.nm := by unfold nt; rw [h]; rfl
    cases c with
    | t x => dsimp only; rw [hn]; rfl
    | b x => dsimp only; rw [hn]; rfl
    | _ => rfl
@[simp] theorem putL_ev (c : Cl) (g : Ct) (j : Nat) (ts : List T) : putL (c :: g) j [] ts = match (c :: g)[j]? with
    | some (.t _) => (c :: g).set j (.t (.lst ts))
    | some (.b _) => (c :: g).set j (.b (.lst ts))
    | _ => putA (c :: g) j ts := by
  generalize c :: g = g
  unfold putA putL locS
  cases h : g[j]? with
  | none => rfl
  | some c =>
    have hn : nt g j = c.nm := by unfold nt; rw [h]; rfl
    have hs : ∀ y, setT g j y = g.set j (repl y c) := fun y => by unfold setT; rw [h]
    cases c with
    | t x => dsimp only; rw [hn]; exact hs _
    | b x => dsimp only; rw [hn]; exact hs _
    | _ => rfl
end MI
set_option Elab.async false
set_option linter.all false
set_option maxRecDepth 100000
set_option maxHeartbeats 4000000
namespace Num
open PySem MI
@[simp] theorem whole_int (fu : Nat) (i : Int) : Pg.f_p_is_whole fu [.int i] = .ok (.bool true) := by
  simp [Pg.f_p_is_whole, Pg.s_p_is_whole, run_eq]
@[simp] theorem whole_bool (fu : Nat) (i : Bool) : Pg.f_p_is_whole fu [.bool i] = .ok (.bool false) := by
  simp [Pg.f_p_is_whole, Pg.s_p_is_whole, run_eq]
@[simp] theorem whole_none (fu : Nat) : Pg.f_p_is_whole fu [.none] = .ok (.bool false) := by
  simp [Pg.f_p_is_whole, Pg.s_p_is_whole, run_eq]
@[simp] theorem whole_str (fu : Nat) (z : Str) : Pg.f_p_is_whole fu [.str z] = .ok (.bool false) := by
  simp [Pg.f_p_is_whole, Pg.s_p_is_whole, run_eq]
@[simp] theorem whole_list (fu : Nat) (z : List MI.D) : Pg.f_p_is_whole fu [.list z] = .ok (.bool false) := by
  simp [Pg.f_p_is_whole, Pg.s_p_is_whole, run_eq]
@[simp] theorem whole_tuple (fu : Nat) (z : List MI.D) : Pg.f_p_is_whole fu [.tuple z] = .ok (.bool false) := by
  simp [Pg.f_p_is_whole, Pg.s_p_is_whole, run_eq]
theorem natAbs_fmod_lt (a b : Int) (h : b ≠ 0) : (a.fmod b).natAbs < b.natAbs := by
  rw [Int.fmod_eq_emod]
  have h1 := Int.emod_nonneg a h
  have h2 := Int.emod_lt a h
  split
  · omega
  · rename_i hn
    have h3 : a % b ≠ 0 := fun e => hn (.inr (Int.dvd_of_emod_eq_zero e))
    omega
theorem gcd_fmod (a b : Int) : Int.gcd b (a.fmod b) = Int.gcd a b := by
  have e : a.fmod b = a - b * (a.fdiv b) := by
    have := Int.mul_fdiv_add_fmod a b
    omega
  rw [e, Int.gcd_comm a b]
  apply Nat.dvd_antisymm
  · apply Int.dvd_gcd
    · exact Int.gcd_dvd_left _ _
    · have h1 : (Int.gcd b (a - b * a.fdiv b) : Int) ∣ a - b * a.fdiv b := Int.gcd_dvd_right _ _
      have h2 : (Int.gcd b (a - b * a.fdiv b) : Int) ∣ b * a.fdiv b := Int.dvd_trans (Int.gcd_dvd_left _ _) (Int.dvd_mul_right ..)
      have := Int.dvd_add h1 h2
      rwa [Int.sub_add_cancel] at this
  · apply Int.dvd_gcd
    · exact Int.gcd_dvd_left _ _
    · exact Int.dvd_sub (Int.gcd_dvd_right _ _) (Int.dvd_trans (Int.gcd_dvd_left _ _) (Int.dvd_mul_right ..))
theorem div_loop (fu : Nat) : ∀ (n : Nat) (a b : Int), b.natAbs < n → ∃ a' : Int, loopW (mTru (mBin fNe (mVar 1) (mC (.int 0)))) (Pg.b_p_divisor_1 fu) n [.dat (.int a), .dat (.int b)] = .nx [.dat (.int a'), .dat (.int 0)] ∧ a'.natAbs = Int.gcd a b
  | 0, a, b, h => by omega
  | n + 1, a, b, h => by
    rw [loopW_ap]
    by_cases e : b = 0
    · subst e
      refine ⟨a, by simp, by simp⟩
    · obtain ⟨a', h1, h2⟩ := div_loop fu n b (a.fmod b) (by have := natAbs_fmod_lt a b e; omega)
      refine ⟨a', ?_, by rw [h2, gcd_fmod]⟩
      simp [Pg.b_p_divisor_1, e, fMod_ii e]
      exact h1
theorem divisor (fu : Nat) (a b : Int) (h : b.natAbs < fu) : Pg.f_p_divisor fu [.int a, .int b] = .ok (.int (Int.gcd a b)) := by
  obtain ⟨a', h1, h2⟩ := div_loop fu fu a b h
  simp [Pg.f_p_divisor, Pg.s_p_divisor, run_eq, h1]
  omega
/-- both within so many bits -/
def FU : Nat := 2 ^ 4000
theorem fu_lt {a b : Nat} (h : a < 2 ^ b) (hb : b ≤ 4000) : a < FU := Nat.lt_of_lt_of_le h (Nat.pow_le_pow_right (by decide) hb)
def Sm (i : Int) : Prop := i.natAbs < FU
theorem sm_gcd {a b : Int} (h : Sm b) (hb : b ≠ 0) : Int.gcd a b ≠ 0 ∧ ((Int.gcd a b : Nat) : Int).natAbs < FU := by
  refine ⟨fun e => hb (Int.gcd_eq_zero_iff.mp e).2, ?_⟩
  have : Int.gcd a b ≤ b.natAbs := Nat.le_of_dvd (by omega) (Int.natAbs_dvd_natAbs.mpr (Int.gcd_dvd_right a b) |> fun x => by simpa using x)
  unfold Sm at h
  simp
  omega
theorem lowest (fu : Nat) (top bottom : Int) (hb : bottom ≠ 0) (h2 : Sm bottom) (hfu : FU ≤ fu) :
    ∃ t b : Int, Pg.f_p_lowest fu [.int top, .int bottom] = .ok (.tuple [.int t, .int b]) ∧ 0 < b ∧ Int.gcd t b = 1 ∧ t * bottom = top * b ∧ b.natAbs ≤ bottom.natAbs ∧ t.natAbs ≤ top.natAbs := by
  obtain ⟨g0, gs⟩ := sm_gcd (a := top) h2 hb
  have hd := divisor fu top bottom (Nat.lt_of_lt_of_le h2 hfu)
  obtain ⟨q, hq⟩ : ((Int.gcd top bottom : Nat) : Int) ∣ top := Int.gcd_dvd_left _ _
  obtain ⟨r, hr⟩ : ((Int.gcd top bottom : Nat) : Int) ∣ bottom := Int.gcd_dvd_right _ _
  have g1 : 0 < ((Int.gcd top bottom : Nat) : Int) := by omega
  have hco : Int.gcd q r = 1 := by
    have e : Int.gcd (((Int.gcd top bottom : Nat) : Int) * q) (((Int.gcd top bottom : Nat) : Int) * r) = Int.gcd top bottom := by rw [← hq, ← hr]
    rw [Int.gcd_mul_left, Int.natAbs_natCast] at e
    exact Nat.eq_of_mul_eq_mul_left (Nat.pos_of_ne_zero g0) (e.trans (Nat.mul_one _).symm)
  generalize hg : ((Int.gcd top bottom : Nat) : Int) = g at *
  have rle : r.natAbs ≤ bottom.natAbs := by
    rw [hr, Int.natAbs_mul]
    exact Nat.le_mul_of_pos_left _ (by omega)
  have qle : q.natAbs ≤ top.natAbs := by
    rw [hq, Int.natAbs_mul]
    exact Nat.le_mul_of_pos_left _ (by omega)
  by_cases c : bottom < 0
  · have r0 : r < 0 := by
      rcases (by omega : r < 0 ∨ 0 ≤ r) with h | h
      · exact h
      · have := Int.mul_nonneg (Int.le_of_lt g1) h
        omega
    have ok : okDiv (0 - g) = true := okDiv_bd 4000 (by omega) (by show _ < FU; omega) (by decide) (by decide)
    have e1 : top.fdiv (0 - g) = -q := by
      rw [show top = (0 - g) * (-q) by rw [hq, Int.zero_sub, Int.neg_mul_neg], Int.mul_fdiv_cancel_left _ (by omega)]
    have e2 : bottom.fdiv (0 - g) = -r := by
      rw [show bottom = (0 - g) * (-r) by rw [hr, Int.zero_sub, Int.neg_mul_neg], Int.mul_fdiv_cancel_left _ (by omega)]
    refine ⟨-q, -r, ?_, by omega, by simpa using hco, ?_, by simpa using rle, by simpa using qle⟩
    · have m1 := fFdv_ii (i := top) ok
      have m2 := fFdv_ii (i := bottom) ok
      rw [e1] at m1
      rw [e2] at m2
      rw [Int.zero_sub] at m1 m2
      simp [Pg.f_p_lowest, Pg.s_p_lowest, run_eq, hd, hg, c, m1, m2]
    · rw [hq, hr, Int.neg_mul, Int.mul_neg]
      congr 1
      ac_rfl
  · have r0 : 0 < r := by
      rcases (by omega : 0 < r ∨ r ≤ 0) with h | h
      · exact h
      · have := Int.mul_nonpos_of_nonneg_of_nonpos (Int.le_of_lt g1) h
        omega
    have ok : okDiv g = true := okDiv_bd 4000 (by omega) (by show _ < FU; omega) (by decide) (by decide)
    have e1 : top.fdiv g = q := by
      rw [show top = g * q from hq, Int.mul_fdiv_cancel_left _ (by omega)]
    have e2 : bottom.fdiv g = r := by
      rw [show bottom = g * r from hr, Int.mul_fdiv_cancel_left _ (by omega)]
    refine ⟨q, r, ?_, r0, hco, ?_, rle, qle⟩
    · have m1 := fFdv_ii (i := top) ok
      have m2 := fFdv_ii (i := bottom) ok
      rw [e1] at m1
      rw [e2] at m2
      simp [Pg.f_p_lowest, Pg.s_p_lowest, run_eq, hd, hg, c, m1, m2]
    · rw [hq, hr]
      ac_rfl
theorem number (fu : Nat) (top bottom : Int) (hb : bottom ≠ 0) (h2 : Sm bottom) (hfu : FU ≤ fu) :
    ∃ t b : Int, Pg.f_p_number fu [.int top, .int bottom] = .ok (.tuple [.int t, .int b]) ∧ 0 < b ∧ Int.gcd t b = 1 ∧ t * bottom = top * b ∧ b.natAbs ≤ bottom.natAbs ∧ t.natAbs ≤ top.natAbs := by
  obtain ⟨t, b, e, h⟩ := lowest fu top bottom hb h2 hfu
  exact ⟨t, b, by simp [Pg.f_p_number, Pg.s_p_number, run_eq, hb, e], h⟩
theorem made (fu : Nat) (t b top bottom : Int) (hb : 0 < b) (h2 : b.natAbs < fu) (hg : Int.gcd t b = 1) (e : t * bottom = top * b) (m1 : okMul t bottom = true) (m2 : okMul top b = true) :
    Pg.f_law_made fu [.tuple [.int t, .int b], .int top, .int bottom] = .ok (.bool true) := by
  have hd := divisor fu t b h2
  have hb' : ¬ b < 1 := by omega
  simp [Pg.f_law_made, Pg.s_law_made, run_eq, hd, hg, hb', fMul_ii m1, fMul_ii m2, e]
theorem cell_at (fu : Nat) (ns : List Int) (k : Nat) : Pg.f_law_cell_at fu [.list (ns.map .int), .int (k : Int)] = .ok (.int (ns.getD k 0)) := by
  by_cases h : k < ns.length
  · have e : (ns.map PyData.int)[k]? = some (.int (ns.getD k 0)) := by
      rw [List.getElem?_map, List.getElem?_eq_getElem h]
      simp [List.getD, List.getElem?_eq_getElem h]
    simp [Pg.f_law_cell_at, Pg.s_law_cell_at, run_eq, h, fIx_l e]
  · simp [Pg.f_law_cell_at, Pg.s_law_cell_at, run_eq, h, List.getD, List.getElem?_eq_none (show ns.length ≤ k by omega)]
theorem cell_at' (fu : Nat) (ns : List Int) {z : Int} (h : 0 ≤ z) : Pg.f_law_cell_at fu [.list (ns.map .int), .int z] = .ok (.int (ns.getD z.toNat 0)) := by
  have := cell_at fu ns z.toNat
  rwa [Int.toNat_of_nonneg h] at this
theorem mul_bd {i j : Int} (a b c : Nat) (ha : i.natAbs < 2 ^ a) (hb : j.natAbs < 2 ^ b) (h : a + b ≤ c) : (i * j).natAbs < 2 ^ c := by
  have := natAbs_mul_lt ha hb
  rw [← Nat.pow_add] at this
  exact Nat.lt_of_lt_of_le this (Nat.pow_le_pow_right (by decide) h)
theorem add_bd {i j : Int} (a b : Nat) (ha : i.natAbs < 2 ^ a) (hb : j.natAbs < 2 ^ a) (h : a < b) : (i + j).natAbs < 2 ^ b := by
  have h2 : 2 ^ (a + 1) ≤ 2 ^ b := Nat.pow_le_pow_right (by decide) h
  rw [Nat.pow_succ] at h2
  omega
section
variable {fu : Nat} {a b c d : Int} (ha : a.natAbs < 2 ^ 200) (hb : b.natAbs < 2 ^ 200) (hc : c.natAbs < 2 ^ 200) (hd : d.natAbs < 2 ^ 200)
theorem mul2 {i j : Int} (hi : i.natAbs < 2 ^ 200) (hj : j.natAbs < 2 ^ 200) : fMul (.int i) (.int j) = some (.int (i * j)) := fMul_ii (okMul_bd 200 200 hi hj (by decide) (by decide) (by decide))
include ha hb hc hd
theorem plus {r : MI.D} (h : Pg.f_p_lowest fu [.int (a * d + c * b), .int (b * d)] = .ok r) : Pg.f_p_plus fu [.tuple [.int a, .int b], .tuple [.int c, .int d]] = .ok r := by
  have m1 := mul2 ha hd
  have m2 := mul2 hc hb
  have m3 := mul2 hb hd
  rw [Pg.f_p_plus, Pg.s_p_plus]
  simp [run_eq, m1, m2, m3, h]
end
end Num
set_option Elab.async false
set_option linter.all false
set_option maxRecDepth 100000
set_option maxHeartbeats 4000000
namespace Num
open PySem MI
def nm (r : Rat) : MI.D := .tuple [.int r.num, .int (r.den : Int)]
def Bd (n : Nat) (r : Rat) : Prop := r.num.natAbs < 2 ^ n ∧ r.den < 2 ^ n
theorem bd_pos {n : Nat} {r : Rat} (h : Bd n r) : 0 < n := by
  rcases Nat.eq_zero_or_pos n with e | e
  · subst e
    have := h.2
    have := r.den_pos
    simp at *
    omega
  · exact e
theorem bd_mono {n m : Nat} {r : Rat} (h : Bd n r) (l : n ≤ m) : Bd m r :=
  ⟨Nat.lt_of_lt_of_le h.1 (Nat.pow_le_pow_right (by decide) l), Nat.lt_of_lt_of_le h.2 (Nat.pow_le_pow_right (by decide) l)⟩
theorem lowest_q (fu : Nat) (hfu : FU ≤ fu) {top bottom : Int} (hb : bottom ≠ 0) (h : Sm bottom) :
    Pg.f_p_lowest fu [.int top, .int bottom] = .ok (nm (Rat.divInt top bottom)) ∧ (Rat.divInt top bottom).num.natAbs ≤ top.natAbs ∧ (Rat.divInt top bottom).den ≤ bottom.natAbs := by
  obtain ⟨t, b, e, b0, g, k, l1, l2⟩ := lowest fu top bottom hb h hfu
  have q : (⟨t, b.natAbs, by omega, g⟩ : Rat) = Rat.divInt top bottom := by
    rw [← Rat.num_divInt_den (⟨t, b.natAbs, by omega, g⟩ : Rat)]
    show Rat.divInt t ((b.natAbs : Nat) : Int) = _
    rw [Int.natAbs_of_nonneg (by omega)]
    exact (Rat.divInt_eq_divInt_iff (by omega) hb).mpr k
  rw [← q]
  refine ⟨?_, l2, l1⟩
  rw [e]
  show _ = R.ok (PyData.tuple [.int t, .int ((b.natAbs : Nat) : Int)])
  rw [Int.natAbs_of_nonneg (by omega)]
section
variable {fu : Nat} (hfu : FU ≤ fu) {n m : Nat} {r s : Rat} (hr : Bd n r) (hs : Bd m s)
theorem mulB {n m : Nat} {i j : Int} (hi : i.natAbs < 2 ^ n) (hj : j.natAbs < 2 ^ m) (h0 : 0 < n) (h1 : 0 < m) (hl : n + m ≤ 900000) : fMul (.int i) (.int j) = some (.int (i * j)) :=
  fMul_ii (okMul_bd n m hi hj h0 h1 (by omega))
theorem addB {a : Nat} {i j : Int} (hi : i.natAbs < 2 ^ a) (hj : j.natAbs < 2 ^ a) : (i + j).natAbs < 2 ^ (a + 1) := add_bd a (a + 1) hi hj (by omega)
theorem sm_of {a : Nat} {i : Int} (h : i.natAbs < 2 ^ a) (ha : a ≤ 4000) : Sm i := fu_lt h ha
include hr hs
include hfu
theorem times_q (hl : n + m ≤ 4000) : Pg.f_p_times fu [nm r, nm s] = .ok (nm (r * s)) ∧ Bd (n + m) (r * s) := by
  have n0 := bd_pos hr
  have m0 := bd_pos hs
  have hs2 : ((s.den : Int)).natAbs < 2 ^ m := hs.2
  have hr2 : ((r.den : Int)).natAbs < 2 ^ n := hr.2
  have m1 := mulB hr.1 hs.1 n0 m0 (by omega)
  have m2 := mulB hr2 hs2 n0 m0 (by omega)
  have b1 := mul_bd n m (n + m) hr.1 hs.1 (by omega)
  have b2 := mul_bd n m (n + m) hr2 hs2 (by omega)
  have z : (r.den : Int) * (s.den : Int) ≠ 0 := Int.mul_ne_zero (by have := r.den_pos; omega) (by have := s.den_pos; omega)
  obtain ⟨e, l1, l2⟩ := lowest_q fu hfu (top := r.num * s.num) z (sm_of b2 (by omega))
  have q : Rat.divInt (r.num * s.num) ((r.den : Int) * (s.den : Int)) = r * s := by
    rw [Rat.mul_def', ← Rat.divInt_ofNat, Int.natCast_mul]
  rw [q] at e l1 l2
  refine ⟨?_, Nat.lt_of_le_of_lt l1 b1, Nat.lt_of_le_of_lt l2 b2⟩
  rw [← e]
  unfold nm
  rw [Pg.f_p_times, Pg.s_p_times]
  rw [nm] at e
  simp [run_eq, m1, m2, e]
theorem plus_q (hl : n + m ≤ 4000) : Pg.f_p_plus fu [nm r, nm s] = .ok (nm (r + s)) ∧ Bd (n + m + 1) (r + s) := by
  have n0 := bd_pos hr
  have m0 := bd_pos hs
  have hs2 : ((s.den : Int)).natAbs < 2 ^ m := hs.2
  have hr2 : ((r.den : Int)).natAbs < 2 ^ n := hr.2
  have m1 := mulB hr.1 hs2 n0 m0 (by omega)
  have m3 := mulB hs.1 hr2 m0 n0 (by omega)
  have m2 := mulB hr2 hs2 n0 m0 (by omega)
  have b1 := addB (mul_bd n m (n + m) hr.1 hs2 (by omega)) (mul_bd m n (n + m) hs.1 hr2 (by omega))
  have b2 := mul_bd n m (n + m) hr2 hs2 (by omega)
  have z : (r.den : Int) * (s.den : Int) ≠ 0 := Int.mul_ne_zero (by have := r.den_pos; omega) (by have := s.den_pos; omega)
  obtain ⟨e, l1, l2⟩ := lowest_q fu hfu (top := r.num * s.den + s.num * r.den) z (sm_of b2 (by omega))
  have q : Rat.divInt (r.num * s.den + s.num * r.den) ((r.den : Int) * (s.den : Int)) = r + s := by
    rw [Rat.add_def', ← Rat.divInt_ofNat, Int.natCast_mul]
  rw [q] at e l1 l2
  refine ⟨?_, Nat.lt_of_le_of_lt l1 b1, Nat.lt_of_le_of_lt l2 (Nat.lt_of_lt_of_le b2 (Nat.pow_le_pow_right (by decide) (by omega)))⟩
  rw [← e]
  unfold nm
  rw [Pg.f_p_plus, Pg.s_p_plus]
  rw [nm] at e
  simp [run_eq, m1, m2, m3, e]
end
end Num
set_option Elab.async false
set_option linter.all false
set_option maxRecDepth 100000
set_option maxHeartbeats 4000000
namespace Dr
open PySem MI Num
/-- what is drawn from -/
def src (l m : Int) : T := .lst [.dat (.int l), .dat (.int m)]
structure Src (l m : Int) : Prop where
  l0 : 0 ≤ l
  m0 : 0 ≤ m
  m1 : m < 2147483647
theorem draw (fu : Nat) {l m n : Int} (h : Src l m) (hn : 0 < n) (hb : n.natAbs.log2 < 9000) : ∃ r l' m', Pg.f_sr_draw fu [(true, src l m), (false, .dat (.int n))] = .ok (.dat (.int r)) [.t (src l' m'), .un] ∧ Src l' m' ∧ 0 ≤ r ∧ r < n := by
  have i0 : fIx (.list [.int l, .int m]) (.int 0) = some (.int l) := fIx_l (j := 0) rfl
  have i1 : fIx (.list [.int l, .int m]) (.int 1) = some (.int m) := fIx_l (j := 1) rfl
  have ml := fMod_pos (i := l) (j := n) hn
  have dl := fFdv_pos (i := l) (j := n) hn hb
  have fzs : fz (src l m) = .list [.int l, .int m] := by simp [src]
  by_cases c : 0 < l
  · refine ⟨l % n, l / n, m, ?_, ⟨Int.ediv_nonneg h.l0 (by omega), h.m0, h.m1⟩, Int.emod_nonneg _ (by omega), Int.emod_lt_of_pos _ hn⟩
    have pt : tPut 0 (xP (mC (.int 0))) (xV (mBin fFdv (mBin fIx (mVar 0) (mC (.int 0))) (mVar 1))) [.b (src l m), .t (.dat (.int n)), .t (.dat (.int (l % n)))] = .nx [.b (src (l / n) m), .t (.dat (.int n)), .t (.dat (.int (l % n)))] :=
      tPut_b (g1 := [.b (src l m), .t (.dat (.int n)), .t (.dat (.int (l % n)))]) (t := .dat (.int (l / n))) (i := 0) (k := 0) (ts := [.dat (.int l), .dat (.int m)]) (by simp [fzs, i0, dl]) rfl (by simp) rfl rfl
    rw [Pg.f_sr_draw, Pg.s_sr_draw, runT_go 2 3 _ _ [.b (src l m), .t (.dat (.int n)), .un] rfl rfl]
    simp [fzs, i0, c, ml]
    rw [pt]
    simp
  · have P : (2 : Nat) ^ 31 = 2147483648 := by decide
    have hm := h.m0
    have hm1 := h.m1
    have e1 := mulB (n := 31) (m := 31) (i := m) (j := 48271) (by omega) (by decide) (by decide) (by decide) (by decide)
    have e2 := fMod_pos (i := m * 48271 + 11) (j := 2147483647) (by decide)
    have q1 := Int.emod_nonneg (m * 48271 + 11) (b := 2147483647) (by decide)
    have q2 := Int.emod_lt_of_pos (m * 48271 + 11) (b := 2147483647) (by decide)
    generalize (m * 48271 + 11) % 2147483647 = m' at *
    have e3 := mulB (n := 31) (m := 31) (i := m') (j := m') (by omega) (by omega) (by decide) (by decide) (by decide)
    have e4 := fMod_pos (i := m' * m') (j := 2147483629) (by decide)
    have e5 := fFdv_pos (i := m' * m' % 2147483629) (j := 64) (by decide) (by decide +kernel)
    have e6 := fMod_pos (i := m' * m' % 2147483629 / 64) (j := n) hn
    have j1 : fIx (.list [.int l, .int m']) (.int 1) = some (.int m') := fIx_l (j := 1) rfl
    have fzs' : fz (src l m') = .list [.int l, .int m'] := by simp [src]
    refine ⟨m' * m' % 2147483629 / 64 % n, l, m', ?_, ⟨h.l0, q1, q2⟩, Int.emod_nonneg _ (by omega), Int.emod_lt_of_pos _ hn⟩
    have pt : tPut 0 (xP (mC (.int 1))) (xV (mBin fMod (mBin fAddL (mBin fMul (mBin fIx (mVar 0) (mC (.int 1))) (mC (.int 48271))) (mC (.int 11))) (mC (.int 2147483647)))) [.b (src l m), .t (.dat (.int n)), .un] = .nx [.b (src l m'), .t (.dat (.int n)), .un] :=
      tPut_b (g1 := [.b (src l m), .t (.dat (.int n)), .un]) (t := .dat (.int m')) (i := 1) (k := 1) (ts := [.dat (.int l), .dat (.int m)]) (by simp [fzs, i1, e1, e2]) rfl (by simp) rfl rfl
    rw [Pg.f_sr_draw, Pg.s_sr_draw, runT_go 2 3 _ _ [.b (src l m), .t (.dat (.int n)), .un] rfl rfl]
    simp [fzs, i0, c]
    rw [pt]
    simp [fzs', j1, e3, e4, e5, e6]
theorem low_loop (fu : Nat) (x y : Cell) : ∀ (n : Nat) (a b : Int), 0 ≤ b → 0 ≤ a → b.natAbs < n → loopW (mTru (mBin fGt (mVar 3) (mC (.int 0)))) (Pg.b_sr_low_1 fu) n [x, y, .dat (.int a), .dat (.int b)] = .nx [x, y, .dat (.int (Int.gcd a b)), .dat (.int 0)]
  | 0, a, b, h, _, l => by omega
  | n + 1, a, b, h, ha, l => by
    rw [loopW_ap]
    by_cases e : b = 0
    · subst e
      have : ((Int.gcd a 0 : Nat) : Int) = a := by rw [Int.gcd_zero_right]; omega
      rw [this]
      simp
    · have mm := fMod_ii (i := a) (j := b) e
      have fe : a.fmod b = a % b := Int.fmod_eq_emod_of_nonneg a (by omega)
      have g0 := Int.emod_nonneg a e
      have g1 := Int.emod_lt_of_pos a (b := b) (by omega)
      have ih := low_loop fu x y n b (a % b) g0 h (by omega)
      have gg := gcd_fmod a b
      rw [fe] at mm gg
      rw [gg] at ih
      have c : 0 < b := by omega
      simp [Pg.b_sr_low_1, c, mm]
      exact ih
theorem low_q (fu : Nat) (hfu : FU ≤ fu) {top bottom : Int} (hb : 0 < bottom) (h : Sm bottom) :
    Pg.f_sr_low fu [.int top, .int bottom] = .ok (nm (Rat.divInt top bottom)) ∧ (Rat.divInt top bottom).num.natAbs ≤ top.natAbs ∧ (Rat.divInt top bottom).den ≤ bottom.natAbs := by
  obtain ⟨e, l⟩ := lowest_q fu hfu (top := top) (show bottom ≠ 0 by omega) h
  refine ⟨?_, l⟩
  rw [← e]
  have hl : bottom.natAbs < fu := Nat.lt_of_lt_of_le h hfu
  have hd := divisor fu top bottom hl
  have c : ¬ bottom < 0 := by omega
  obtain ⟨a, ha, ha0, hg⟩ : ∃ a : Int, fAbs [.int top] = some (.int a) ∧ 0 ≤ a ∧ Int.gcd a bottom = Int.gcd top bottom := by
    by_cases z : top < 0
    · exact ⟨-top, by rw [fAbs_i, if_pos z], by omega, Int.neg_gcd ..⟩
    · exact ⟨top, by rw [fAbs_i, if_neg z], by omega, rfl⟩
  have lp := low_loop fu (.dat (.int top)) (.dat (.int bottom)) fu a bottom (by omega) ha0 hl
  rw [hg] at lp
  obtain ⟨g0, gs⟩ := sm_gcd (a := top) h (show bottom ≠ 0 by omega)
  have ok : okDiv ((Int.gcd top bottom : Nat) : Int) = true := okDiv_bd 4000 (by omega) (by show _ < FU; omega) (by decide) (by decide)
  have f1 := fFdv_ii (i := top) ok
  have f2 := fFdv_ii (i := bottom) ok
  rw [Pg.f_sr_low, Pg.s_sr_low, Pg.f_p_lowest, Pg.s_p_lowest]
  simp [run_eq, hd, c, ha, lp, f1, f2]
theorem source (fu : Nat) {ns : List Int} (hz : ∀ k, (ns.getD k 0).natAbs.log2 ≤ 1048576) (k : Nat) (hk : k ≤ 100) : ∃ l m, Pg.f_sr_source fu [(false, .dat (.list (ns.map .int))), (false, .dat (.int (k : Int)))] = .ok (src l m) [.un, .un] ∧ Src l m := by
  have k0 := cell_at' fu ns (z := (k : Int)) (by omega)
  have z0 := hz (k : Int).toNat
  generalize ns.getD (k : Int).toNat 0 = c at k0 z0
  have p18 : fPow (.int 10) (.int 18) = some (.int 1000000000000000000) := fPow_ii (by decide)
  have m1 := fMod_pos (i := c) (j := 2147483647) (by decide)
  have b1 := Int.emod_nonneg c (b := 2147483647) (by decide)
  have b2 := Int.emod_lt_of_pos c (b := 2147483647) (by decide)
  have P : (2 : Nat) ^ 40 = 1099511627776 := by decide
  have e1 := mulB (n := 40) (m := 40) (i := 104729) (j := (k : Int)) (by decide) (by omega) (by decide) (by decide) (by decide)
  have e2 := mulB (n := 40) (m := 40) (i := c % 2147483647 + 104729 * (k : Int) + 7) (j := 48271) (by omega) (by decide) (by decide) (by decide) (by decide)
  have e3 := fMod_pos (i := (c % 2147483647 + 104729 * (k : Int) + 7) * 48271) (j := 2147483629) (by decide)
  have q1 := Int.emod_nonneg ((c % 2147483647 + 104729 * (k : Int) + 7) * 48271) (b := 2147483629) (by decide)
  have q2 := Int.emod_lt_of_pos ((c % 2147483647 + 104729 * (k : Int) + 7) * 48271) (b := 2147483629) (by decide)
  generalize (c % 2147483647 + 104729 * (k : Int) + 7) * 48271 % 2147483629 = sd at *
  have e4 := mulB (n := 40) (m := 40) (i := sd) (j := sd) (by omega) (by omega) (by decide) (by decide) (by decide)
  have e5 := fMod_pos (i := sd * sd) (j := 2147483587) (by decide)
  have r1 := Int.emod_nonneg (sd * sd) (b := 2147483587) (by decide)
  have r2 := Int.emod_lt_of_pos (sd * sd) (b := 2147483587) (by decide)
  by_cases w : 1000000000000000000 ≤ c
  · have e6 : fMul (.int c) (.int 1) = some (.int (c * 1)) := fMul_ii (by
      unfold okMul
      rw [decide_eq_true_eq]
      have : (1 : Int).natAbs.log2 = 0 := by decide
      omega)
    refine ⟨c * 1, sd * sd % 2147483587, ?_, by omega, r1, by omega⟩
    rw [Pg.f_sr_source, Pg.s_sr_source, runT_go 2 4 _ _ [.t (.dat (.list (ns.map .int))), .t (.dat (.int (k : Int))), .un, .un] rfl rfl]
    simp only [Int.mul_one] at e6
    simp [k0, m1, e1, e2, e3, e4, e5, p18, w, e6, src]
  · have e6 : fMul (.int c) (.int 0) = some (.int (c * 0)) := fMul_ii (by
      unfold okMul
      rw [decide_eq_true_eq]
      have : (0 : Int).natAbs.log2 = 0 := by decide
      omega)
    refine ⟨c * 0, sd * sd % 2147483587, ?_, by omega, r1, by omega⟩
    rw [Pg.f_sr_source, Pg.s_sr_source, runT_go 2 4 _ _ [.t (.dat (.list (ns.map .int))), .t (.dat (.int (k : Int))), .un, .un] rfl rfl]
    simp only [Int.mul_zero] at e6
    simp [k0, m1, e1, e2, e3, e4, e5, p18, w, e6, src]
end Dr
set_option Elab.async false
set_option linter.all false
set_option maxRecDepth 100000
set_option maxHeartbeats 4000000
namespace MI
open PySem
section
variable {α : Type} (Q : D → Prop) (E : Str → Option D → Prop)
@[simp] theorem sat_mul (i j : Int) : (R.of (fMul (.int i) (.int j))).sat Q E = (okMul i j = true ∧ Q (.int (i * j))) := by
  show (R.of (if okMul i j = true then some (PyData.int (i * j)) else none)).sat Q E = _
  split <;> simp [*]
@[simp] theorem sat_fdv (i j : Int) : (R.of (fFdv (.int i) (.int j))).sat Q E = (okDiv j = true ∧ Q (.int (i.fdiv j))) := by
  show (R.of (if okDiv j = true then some (PyData.int (i.fdiv j)) else none)).sat Q E = _
  split <;> simp [*]
@[simp] theorem sat_mod (i j : Int) : (R.of (fMod (.int i) (.int j))).sat Q E = (j ≠ 0 ∧ Q (.int (i.fmod j))) := by
  show (R.of (if j ≠ 0 then some (PyData.int (i.fmod j)) else none)).sat Q E = _
  split <;> simp [*]
theorem sat_lst (ds : List D) : (R.of (dLst ds)).sat Q E = (ds.length ≤ most ∧ Q (.list ds)) := by
  show (R.of (if ds.length ≤ most then some (PyData.list ds) else none)).sat Q E = _
  by_cases h : ds.length ≤ most
  · rw [if_pos h, R.of_some, sat_ok, eq_true h, true_and]
  · rw [if_neg h, R.of_none, sat_bad, eq_false h, false_and]
@[simp] theorem sat_lst_nil : (R.of (dLst [])).sat Q E = Q (.list []) := by rw [sat_lst]; simp
@[simp] theorem sat_lst_cons (d : D) (ds : List D) : (R.of (dLst (d :: ds))).sat Q E = ((d :: ds).length ≤ most ∧ Q (.list (d :: ds))) := by rw [sat_lst]
theorem sat_tup (ds : List D) : (R.of (dTup ds)).sat Q E = (ds.length ≤ most ∧ Q (.tuple ds)) := by
  show (R.of (if ds.length ≤ most then some (PyData.tuple ds) else none)).sat Q E = _
  by_cases h : ds.length ≤ most
  · rw [if_pos h, R.of_some, sat_ok, eq_true h, true_and]
  · rw [if_neg h, R.of_none, sat_bad, eq_false h, false_and]
@[simp] theorem sat_tup_nil : (R.of (dTup [])).sat Q E = Q (.tuple []) := by rw [sat_tup]; simp
@[simp] theorem sat_tup_cons (d : D) (ds : List D) : (R.of (dTup (d :: ds))).sat Q E = ((d :: ds).length ≤ most ∧ Q (.tuple (d :: ds))) := by rw [sat_tup]
@[simp] theorem sat_cat (a b : List D) : (R.of (fAddL (.list a) (.list b))).sat Q E = (a.length + b.length ≤ most ∧ Q (.list (a ++ b))) := by
  show (R.of (if a.length + b.length ≤ most then some (PyData.list (a ++ b)) else none)).sat Q E = _
  by_cases h : a.length + b.length ≤ most
  · rw [if_pos h, R.of_some, sat_ok, eq_true h, true_and]
  · rw [if_neg h, R.of_none, sat_bad, eq_false h, false_and]
@[simp] theorem sat_rng1 (j : Int) (Q : List D → Prop) : (R.of (rng1 [.int j])).sat Q E = (lim62 j = true ∧ Q (rngL 0 1 j.toNat)) := by
  show (R.of (if lim62 j = true then some (rngL 0 1 j.toNat) else none)).sat Q E = _
  split <;> simp [*]
@[simp] theorem sat_rng2 (i j : Int) (Q : List D → Prop) : (R.of (rng2 [.int i, .int j])).sat Q E = ((lim62 i && lim62 j) = true ∧ Q (rngL i 1 (j - i).toNat)) := by
  show (R.of (if (lim62 i && lim62 j) = true then some (rngL i 1 (j - i).toNat) else none)).sat Q E = _
  split <;> simp [*]
end
@[simp] theorem fListOf_l (ds : List D) : fListOf [.list ds] = some (.list ds) := Eq.trans rfl rfl
@[simp] theorem fListOf_t (ds : List D) : fListOf [.tuple ds] = some (.list ds) := Eq.trans rfl rfl
@[simp] theorem fTupOf_l (ds : List D) : fTupOf [.list ds] = some (.tuple ds) := Eq.trans rfl rfl
@[simp] theorem fTupOf_t (ds : List D) : fTupOf [.tuple ds] = some (.tuple ds) := Eq.trans rfl rfl
@[simp] theorem fIsB_bb (a b : Bool) : fIsB (.bool a) (.bool b) = some (.bool (decide (a = b))) := Eq.trans rfl rfl
@[simp] theorem fNotB_bb (a b : Bool) : fNotB (.bool a) (.bool b) = some (.bool (!decide (a = b))) := Eq.trans rfl rfl
@[simp] theorem fIs_n (d : D) : fIs d .none = some (.bool (match d with
  | .none => true
  | _ => false)) := by cases d <;> rfl
@[simp] theorem fIsN_n (d : D) : fIsN d .none = some (.bool (match d with
  | .none => false
  | _ => true)) := by cases d <;> rfl
/-- divisors that are written out -/
@[simp] theorem fMod_lit (i : Int) (n : Nat) (h : 0 < n) : fMod (.int i) (.int (no_index (OfNat.ofNat n))) = some (.int (i % OfNat.ofNat n)) := fMod_pos (by
  show (0 : Int) < (n : Int)
  omega)
@[simp] theorem fFdv_lit (i : Int) (n : Nat) (h : 0 < n) (h2 : n < 18446744073709551616) : fFdv (.int i) (.int (no_index (OfNat.ofNat n))) = some (.int (i / OfNat.ofNat n)) := by
  refine fFdv_pos ?_ ?_
  · show (0 : Int) < (n : Int)
    omega
  · refine Nat.lt_trans (log2_lt (a := 64) ?_ (by decide)) (by decide)
    show ((n : Int)).natAbs < _
    rw [Int.natAbs_natCast]
    exact h2
/-- a place in a list that is written out -/
theorem atI_ofNat {α : Type} (ds : List α) (n : Nat) : L2.atI ds ((n : Nat) : Int) = ds[n]? := by
  cases h : ds[n]? with
  | some d => exact L2.atI_nat h
  | none =>
    have l := List.getElem?_eq_none_iff.mp h
    unfold L2.atI L2.ixN
    have c1 : ¬ ((n : Int) < 0) := by omega
    simp [c1]
    omega
@[simp] theorem fIx_tn (ds : List D) (n : Nat) : fIx (.tuple ds) (.int (no_index (OfNat.ofNat n))) = ds[n]? := atI_ofNat ds n
@[simp] theorem fIx_ln (ds : List D) (n : Nat) : fIx (.list ds) (.int (no_index (OfNat.ofNat n))) = ds[n]? := atI_ofNat ds n
theorem fIx_lN (ds : List D) (n : Nat) : fIx (.list ds) (.int ((n : Nat) : Int)) = ds[n]? := atI_ofNat ds n
/-- one of a list's things -/
theorem pick {ds : List D} {r : Int} (h0 : 0 ≤ r) (h1 : r < ds.length) : ∃ d ∈ ds, fIx (.list ds) (.int r) = some d := by
  obtain ⟨j, rfl⟩ := Int.eq_ofNat_of_zero_le h0
  have l : j < ds.length := by omega
  exact ⟨ds[j], List.getElem_mem l, by rw [fIx_lN, List.getElem?_eq_getElem l]⟩
theorem sat_pick {ds : List D} {r : Int} {Q : D → Prop} {E : Str → Option D → Prop} (h0 : 0 ≤ r) (h1 : r < ds.length) (h : ∀ d ∈ ds, Q d) : (R.of (fIx (.list ds) (.int r))).sat Q E := by
  obtain ⟨d, hd, e⟩ := pick h0 h1
  exact sat_of e (h d hd)
@[simp] theorem rngL_get? (lo c : Int) (n k : Nat) : (rngL lo c n)[k]? = if k < n then some (.int (lo + (k : Int) * c)) else none := by
  split
  · exact rngL_get (by assumption)
  · exact List.getElem?_eq_none_iff.mpr (by rw [rngL_len]; omega)
@[simp] theorem rngL_length (lo c : Int) (n : Nat) : (rngL lo c n).length = n := rngL_len
theorem okM {i j : Int} (a : Nat := 100) (b : Nat := 100) (ha : i.natAbs < 2 ^ a := by omega) (hb : j.natAbs < 2 ^ b := by omega) (h0 : 0 < a := by decide) (h1 : 0 < b := by decide) (h : a + b ≤ 100000000 := by decide) : okMul i j = true := okMul_bd a b ha hb h0 h1 h
theorem lim {j : Int} (h : -4611686018427387904 ≤ j ∧ j < 4611686018427387904 := by omega) : lim62 j = true := by
  unfold lim62
  rw [Bool.and_eq_true, decide_eq_true_eq, decide_eq_true_eq]
  have : (2 : Int) ^ 62 = 4611686018427387904 := by decide
  omega
end MI
namespace Dr
open PySem MI Num
def IsSrc (s : T) : Prop := ∃ l m, s = src l m ∧ Src l m
theorem draw_sat {fu : Nat} {s : T} (h : IsSrc s) {n : Int} (hn : 0 < n) (hb : n.natAbs < 2 ^ 200) {Q : T → Ct → Prop} {E : Str → Option D → Ct → Prop} (q : ∀ r s', IsSrc s' → 0 ≤ r → r < n → Q (.dat (.int r)) [.t s', .un]) : (Pg.f_sr_draw fu [(true, s), (false, .dat (.int n))]).sat Q E := by
  obtain ⟨l, m, rfl, h⟩ := h
  obtain ⟨r, l', m', e, h', r0, r1⟩ := draw fu h hn (Nat.lt_trans (MI.log2_lt hb (by decide)) (by decide))
  exact fsat_of_eq e (q r _ ⟨l', m', rfl, h'⟩ r0 r1)
theorem source_sat {fu : Nat} {ns : List Int} (hz : ∀ k, (ns.getD k 0).natAbs.log2 ≤ 1048576) {k : Nat} (hk : k ≤ 100) {Q : T → Ct → Prop} {E : Str → Option D → Ct → Prop} (q : ∀ s, IsSrc s → Q s [.un, .un]) : (Pg.f_sr_source fu [(false, .dat (.list (ns.map .int))), (false, .dat (.int (k : Int)))]).sat Q E := by
  obtain ⟨l, m, e, h⟩ := source fu hz k hk
  exact fsat_of_eq e (q _ ⟨l, m, rfl, h⟩)
theorem bits {ns : List Int} (hb : ∀ z ∈ ns, Builtin.Int.intBits z ≤ 1048576) (k : Nat) : (ns.getD k 0).natAbs.log2 ≤ 1048576 := by
  by_cases h : k < ns.length
  · have e : ns.getD k 0 = ns[k] := by rw [List.getD_eq_getElem?_getD, List.getElem?_eq_getElem h]; rfl
    have := hb _ (List.getElem_mem h)
    rw [e]
    unfold Builtin.Int.intBits at this
    split at this
    · rename_i z
      rw [show ns[k].natAbs = 0 by simpa using z]
      decide
    · omega
  · have e : ns.getD k 0 = 0 := by rw [List.getD_eq_getElem?_getD, List.getElem?_eq_none (by omega)]; rfl
    rw [e]
    decide
end Dr
set_option Elab.async false
set_option linter.all false
set_option maxRecDepth 100000
set_option maxHeartbeats 4000000
namespace MI
open PySem
@[simp] theorem clvd_al (g : Ct) (i k : Nat) : Cl.vd g (.al i k) = match nt g i with
    | some (.lst ts) => (match ts[k]? with
      | some (.dat d) => some d
      | _ => none)
    | _ => none := Eq.trans rfl rfl
@[simp] theorem clva_al (g : Ct) (i k : Nat) : Cl.va g (.al i k) = match nt g i with
    | some (.lst ts) => (ts[k]?).map fz
    | _ => none := Eq.trans rfl rfl
@[simp] theorem tget_lst (ts : List T) (k : Nat) (p : List Nat) : (T.lst ts).get (k :: p) = match ts[k]? with
    | some u => u.get p
    | none => none := by rw [T.get] <;> cases ts[k]? <;> rfl
@[simp] theorem tget_tup (ts : List T) (k : Nat) (p : List Nat) : (T.tup ts).get (k :: p) = match ts[k]? with
    | some u => u.get p
    | none => none := by rw [T.get] <;> cases ts[k]? <;> rfl
@[simp] theorem tget_nil (t : T) : t.get [] = some t := T.get_nil t
@[simp] theorem tput_lst (ts : List T) (k : Nat) (p : List Nat) (n : T) : (T.lst ts).put (k :: p) n = match ts[k]? with
    | some u => .lst (ts.set k (u.put p n))
    | none => .lst ts := by rw [T.put] <;> cases ts[k]? <;> rfl
@[simp] theorem tput_tup (ts : List T) (k : Nat) (p : List Nat) (n : T) : (T.tup ts).put (k :: p) n = match ts[k]? with
    | some u => .tup (ts.set k (u.put p n))
    | none => .tup ts := by rw [T.put] <;> cases ts[k]? <;> rfl
@[simp] theorem tput_nil (t n : T) : t.put [] n = n := T.put_nil t n
@[simp] theorem locA_ev (c : Cl) (g : Ct) (j : Nat) : locA (c :: g) j = match (c :: g)[j]? with
    | some (.t x) => asL x
    | some (.b x) => asL x
    | some (.al i k) => (match nt (c :: g) i with
      | some x => (x.get [k]).bind asL
      | none => none)
    | _ => none := by
  have h := locT_ev c g j
  cases e : (c :: g)[j]? with
  | none => unfold locA locT locS; rw [e]
  | some d =>
    rw [e] at h
    cases d with
    | t x => exact h
    | b x => exact h
    | al i k => unfold locA locT locS; rw [e]; rfl
    | un => unfold locA locT locS; rw [e]
    | tm x => unfold locA locT locS; rw [e]
@[simp] theorem putA_ev (c : Cl) (g : Ct) (j : Nat) (ts : List T) : putA (c :: g) j ts = match (c :: g)[j]? with
    | some (.t x) => (c :: g).set j (.t (.lst ts))
    | some (.b x) => (c :: g).set j (.b (.lst ts))
    | some (.al i k) => (match nt (c :: g) i with
      | some x => setT (c :: g) i (x.put [k] (.lst ts))
      | none => c :: g)
    | _ => c :: g := by
  have h := putL_ev c g j ts
  cases e : (c :: g)[j]? with
  | none => unfold putA putL locS; rw [e]
  | some d =>
    rw [e] at h
    cases d with
    | t x => exact h
    | b x => exact h
    | al i k => unfold putA putL locS; rw [e]; rfl
    | un => unfold putA putL locS; rw [e]
    | tm x => unfold putA putL locS; rw [e]
@[simp] theorem klk_al (j k a b : Nat) : klk j k (.al a b) = if a = j ∧ b = k then .un else .al a b := Eq.trans rfl rfl
@[simp] theorem kilk_nil' (j k : Nat) : kilk j k [] = [] := Eq.trans rfl rfl
@[simp] theorem kilk_cons' (j k : Nat) (c : Cl) (g : Ct) : kilk j k (c :: g) = klk j k c :: kilk j k g := kilk_cons j k c g
theorem ixN_nn {n : Nat} {i : Int} (h0 : 0 ≤ i) (h1 : i < n) : L2.ixN n i = some i.toNat := by
  unfold L2.ixN
  rw [if_pos h0, if_pos h1]
@[simp] theorem ixN_lit (n m : Nat) (h : m < n) : L2.ixN n (no_index (OfNat.ofNat m) : Int) = some m := by
  have := ixN_nn (n := n) (i := (m : Int)) (by omega) (by omega)
  rw [Int.toNat_natCast] at this
  exact this
@[simp] theorem atI_lit {α : Type} (ds : List α) (n : Nat) : L2.atI ds (no_index (OfNat.ofNat n) : Int) = ds[n]? := atI_ofNat ds n
theorem atI_nn {α : Type} {ds : List α} {i : Int} (h0 : 0 ≤ i) (h1 : i < ds.length) : L2.atI ds i = some (ds[i.toNat]'(by omega)) := by
  obtain ⟨j, rfl⟩ := Int.eq_ofNat_of_zero_le h0
  rw [atI_ofNat]
  have : j < ds.length := by omega
  rw [List.getElem?_eq_getElem this]
  simp
@[simp] theorem fRev_l (ds : List D) : fRev (.list ds) = some (.list ds.reverse) := Eq.trans rfl rfl
theorem fPow10_18 : fPow (.int 10) (.int 18) = some (.int 1000000000000000000) := fPow_ii (by decide)
theorem fPow10_9 : fPow (.int 10) (.int 9) = some (.int 1000000000) := fPow_ii (by decide)
/-- cells that are free -/
def AF (n : Nat) (g : Ct) : Prop := g.length = n ∧ ∀ c ∈ g, Fr c
@[simp] theorem af_0 (g : Ct) : AF 0 g = (g = []) := by
  unfold AF
  rw [List.length_eq_zero_iff]
  exact propext ⟨fun h => h.1, fun h => ⟨h, by rw [h]; simp⟩⟩
@[simp] theorem af_cons (n : Nat) (c : Cl) (g : Ct) : AF (n + 1) (c :: g) = (Fr c ∧ AF n g) := by
  unfold AF
  simp
  exact ⟨fun h => ⟨h.2.1, h.1, h.2.2⟩, fun h => ⟨h.2.1, h.1, h.2.2⟩⟩
@[simp] theorem af_nil : AF 0 [] = True := by unfold AF; simp
end MI
set_option Elab.async false
set_option linter.all false
set_option maxRecDepth 100000
set_option maxHeartbeats 4000000
namespace MI
open PySem
def itemsL : D → Option (List D)
  | .list ds => some ds
  | _ => none
@[simp] theorem itemsL_l (ds : List D) : itemsL (.list ds) = some ds := Eq.trans rfl rfl
section
variable (Q : T → Ct → Prop) (QL : List D → Prop) (E : Str → Option D → Ct → Prop) (E' : Str → Option D → Prop) (δ : Vw) (g : Ct)
@[simp ↓] theorem msat_cat (a b : M) : (nCat a b δ).sat QL E' = (a δ).sat (fun x => (b δ).sat (fun y => os (itemsL x) fun xs => os (itemsL y) fun ys => xs.length + ys.length ≤ most ∧ QL (xs ++ ys)) E') E' := by
  unfold nCat
  simp only [sat_bind]
  congr
  funext x
  congr
  funext y
  cases x <;> cases y <;> simp [itemsL]
@[simp ↓] theorem msat_nsl (m : M) (lo hi : Vw → R (Option Int)) : (nSl m lo hi δ).sat QL E' = (m δ).sat (fun d => (lo δ).sat (fun l => (hi δ).sat (fun h => os (itemsL d) fun ds => QL (cutD ds l h)) E') E') E' := by
  unfold nSl
  simp only [sat_bind]
  congr
  funext d
  congr
  funext l
  congr
  funext h
  cases d <;> simp [itemsL]
end
@[simp ↓] theorem gsat_fz (m : XM) (g : Ct) (Q : T → Ct → Prop) (E : Str → Option D → Ct → Prop) : (xFz m g).sat Q E = (m g).sat (fun t g1 => Q (.dat (fz t)) g1) E := by
  unfold xFz
  simp only [gsat_bind, gsat_ok]
end MI
set_option Elab.async false
set_option linter.all false
set_option maxRecDepth 100000
set_option maxHeartbeats 4000000
namespace Bx
open PySem MI Num
def box (cs : List Int) (at' cnt : Int) : T := .lst [.lst (cs.map fun i => .dat (.int i)), .dat (.int at'), .dat (.int cnt)]
/-- a box, asked at most m times so far -/
def IsBox (m : Nat) (s : T) : Prop := ∃ cs a c, s = box cs a c ∧ 0 ≤ a ∧ 0 ≤ c ∧ c ≤ m
theorem draw_sat {fu : Nat} {m : Nat} {s : T} (h : IsBox m s) (hm : m ≤ 1000000000) {n : Int} (hn : 0 < n) (hb : n.natAbs < 2 ^ 200) {Q : T → Ct → Prop} {E : Str → Option D → Ct → Prop} (q : ∀ r s', IsBox (m + 1) s' → 0 ≤ r → r < n → Q (.dat (.int r)) [.t s', .un]) : (Pg.f_bx_draw fu [(true, s), (false, .dat (.int n))]).sat Q E := by
  obtain ⟨cs, a, c, rfl, a0, c0, c1⟩ := h
  refine runT_sat rfl _ rfl ?_
  rw [Pg.s_bx_draw]
  have mn : ∀ i : Int, fMod (.int i) (.int n) = some (.int (i % n)) := fun i => fMod_pos hn
  have dn : ∀ i : Int, fFdv (.int i) (.int n) = some (.int (i / n)) := fun i => fFdv_pos hn (Nat.lt_trans (MI.log2_lt hb (by decide)) (by decide))
  have P : (2 : Nat) ^ 100 = 1267650600228229401496703205376 := by decide
  have fzc : ∀ l : List Int, fzL (l.map fun i => T.dat (.int i)) = l.map .int := fun l => by
    induction l with
    | nil => rfl
    | cons x l ih => rw [List.map_cons, fzL_cons, ih]; rfl
  have pc : 0 ≤ 48271 * (c + 1) ∧ 48271 * (c + 1) < 1267650600228229401496703205376 := by omega
  rcases cs with _ | ⟨x, cs⟩
  · simp [box, mn, dn, fPow10_18]
    refine ⟨okM, okM, okM, okM, okM, ?_⟩
    exact q _ _ ⟨[0], _, c + 1, rfl, by omega, by omega, by omega⟩ (Int.emod_nonneg _ (by omega)) (Int.emod_lt_of_pos _ hn)
  · have hne : ¬ ((cs.length : Int) + 1 = 0) := by omega
    have fe : a.fmod ((cs.length : Int) + 1) = a % ((cs.length : Int) + 1) := Int.fmod_eq_emod_of_nonneg _ (by omega)
    have i0 := Int.emod_nonneg a hne
    have i1 := Int.emod_lt_of_pos a (b := (cs.length : Int) + 1) (by omega)
    obtain ⟨v, hv⟩ : ∃ v, L2.atI (T.dat (PyData.int x) :: List.map (fun i => T.dat (PyData.int i)) cs) (a % ((cs.length : Int) + 1)) = some (.dat (.int v)) := by
      have := atI_nn (ds := T.dat (PyData.int x) :: List.map (fun i => T.dat (PyData.int i)) cs) i0 (by simp; omega)
      rw [this]
      have : T.dat (PyData.int x) :: List.map (fun i => T.dat (PyData.int i)) cs = (x :: cs).map fun i => T.dat (.int i) := rfl
      simp only [this, List.getElem_map]
      exact ⟨_, rfl⟩
    have hx := ixN_nn (n := cs.length + 1) i0 (by omega)
    generalize a % ((cs.length : Int) + 1) = i at *
    simp [box, mn, dn, fPow10_18, fzc, hne, fe, hv, hx]
    refine ⟨fun e => ?_, fun e => ⟨okM, okM, okM, okM, okM, ?_⟩⟩
    · refine q _ _ ⟨(x :: cs).set i.toNat (v / n), a, c + 1, ?_, by omega, by omega, by omega⟩ (Int.emod_nonneg _ (by omega)) (Int.emod_lt_of_pos _ hn)
      have : T.dat (PyData.int x) :: List.map (fun i => T.dat (PyData.int i)) cs = (x :: cs).map fun i => T.dat (.int i) := rfl
      rw [box, this, List.map_set]
    · exact q _ _ ⟨x :: cs, i + 1, c + 1, rfl, by omega, by omega, by omega⟩ (Int.emod_nonneg _ (by omega)) (Int.emod_lt_of_pos _ hn)
end Bx
set_option Elab.async false
set_option linter.all false
set_option maxRecDepth 100000
set_option maxHeartbeats 4000000
namespace Tx
open PySem MI PySem.NumText
/-- a text by its signs -/
def S (cs : List Nat) : Str := ⟨cs.toArray⟩
theorem eta (x : Str) : x = S x.cps.toList := by cases x; simp [S]
@[simp] theorem S_cps (cs : List Nat) : (S cs).cps.toList = cs := by simp [S]
@[simp] theorem S_len (cs : List Nat) : (S cs).length = cs.length := by simp [S, Str.length]
@[simp] theorem S_inj {a b : List Nat} : S a = S b ↔ a = b := ⟨fun h => by rw [← S_cps a, h, S_cps], fun h => by rw [h]⟩
@[simp] theorem S_app (a b : List Nat) : S a ++ S b = S (a ++ b) := Str.ext' (by show a.toArray ++ b.toArray = (a ++ b).toArray; simp)
@[simp] theorem l_empty : ("" : Str) = S [] := by decide +kernel
@[simp] theorem l_minus : ("-" : Str) = S [45] := by decide +kernel
@[simp] theorem l_slash : ("/" : Str) = S [47] := by decide +kernel
@[simp] theorem l_zero : ("0" : Str) = S [48] := by decide +kernel
@[simp] theorem l_m0 : ("-0" : Str) = S [45, 48] := by decide +kernel
@[simp] theorem l_figs : ("0123456789" : Str) = S [48, 49, 50, 51, 52, 53, 54, 55, 56, 57] := by decide +kernel
theorem add_ss {a b : List Nat} (h : a.length + b.length ≤ most) : fAdd (.str (S a)) (.str (S b)) = some (.str (S (a ++ b))) := by
  show (if (S a).length + (S b).length ≤ most then some (PyData.str (S a ++ S b)) else none) = _
  rw [if_pos (by simpa using h), S_app]
theorem len_s {a : List Nat} (h : a.length ≤ most) : fLen [.str (S a)] = some (.int a.length) := by
  show (if (S a).length ≤ most then some (PyData.int (S a).length) else none) = _
  rw [S_len, if_pos h]
theorem ix_s {a : List Nat} (h : a.length ≤ most) {k c : Nat} (hc : a[k]? = some c) : fIx (.str (S a)) (.int (k : Int)) = some (.str (S [c])) := by
  show (if (S a).length ≤ most then (L2.atI (S a).cps.toList (k : Int)).map fun c => PyData.str ⟨#[c]⟩ else none) = _
  rw [S_len, if_pos h, S_cps, L2.atI_nat hc]
  rfl
theorem sl_to (a : List Nat) (n : Nat) : Txt.slice (S a) none (some (n : Int)) = S (a.take n) := by
  by_cases h : n ≤ a.length
  · show StrLaws.sliceText (S a) none (some (n : Int)) = _
    rw [StrLaws.sliceText_to ⟨by omega, by simp; omega⟩]
    simp [S]
  · rw [PyProof.Rows.slice_to_beyond (by simp; omega)]
    show StrLaws.sliceText (S a) none (some ((S a).length : Int)) = _
    rw [StrLaws.sliceText_to ⟨by omega, by simp⟩]
    rw [S_cps, S_len, List.drop_zero, Int.sub_zero, Int.toNat_natCast, List.take_length, List.take_of_length_le (by omega)]
    rfl
theorem sl_from (a : List Nat) (n : Nat) : Txt.slice (S a) (some (n : Int)) none = S (a.drop n) := by
  by_cases h : n ≤ a.length
  · show StrLaws.sliceText (S a) (some (n : Int)) none = _
    rw [StrLaws.sliceText_from ⟨by omega, by rw [S_cps]; omega⟩]
    rw [S_cps, Int.toNat_natCast, List.take_of_length_le (by rw [List.length_drop]; omega)]
    rfl
  · rw [PyProof.Rows.slice_from_beyond (by simp; omega), List.drop_eq_nil_of_le (by omega)]
    rfl
theorem sl_mid (a : List Nat) (n m : Nat) (h : n ≤ m) (h2 : m ≤ a.length) : Txt.slice (S a) (some (n : Int)) (some (m : Int)) = S ((a.drop n).take (m - n)) := by
  show StrLaws.sliceText (S a) (some (n : Int)) (some (m : Int)) = _
  rw [StrLaws.sliceText_nat _ h (by simpa using h2), S_cps]
  rfl
theorem at_one (a : List Nat) (c i : Nat) : StrLaws.At (S a) (S [c]) (S a).length i ↔ a[i]? = some c := by
  unfold StrLaws.At
  rw [StrLaws.subAt_eq]
  simp only [S_len, S_cps, List.length_singleton, beq_iff_eq]
  constructor
  · rintro ⟨h1, h2⟩
    have := congrArg (fun l => l[0]?) h2
    simpa using this
  · intro h
    have hl := (List.getElem?_eq_some_iff.mp h)
    obtain ⟨l, e⟩ := hl
    refine ⟨by omega, ?_⟩
    rw [List.drop_eq_getElem_cons l, e]
    rfl
theorem found_one (a : List Nat) (c : Nat) : (!(Builtin.Str.occurrences (S a) (S [c]) 0 (S a).length 1).isEmpty) = decide (c ∈ a) := by
  rw [Bool.eq_iff_iff, StrLaws.found_iff, decide_eq_true_eq]
  constructor
  · rintro ⟨i, h⟩
    have := (at_one a c i).mp h
    exact List.mem_of_getElem? this
  · intro h
    obtain ⟨i, hi⟩ := List.getElem?_of_mem h
    exact ⟨i, (at_one a c i).mpr hi⟩
theorem in_one (neg : Bool) (a : List Nat) (c : Nat) : fIn neg (.str (S [c])) (.str (S a)) = some (.bool (if neg = true then !decide (c ∈ a) else decide (c ∈ a))) := by
  rw [← found_one]
  rfl
def dig (c : Nat) : Bool := decide (48 ≤ c) && decide (c ≤ 57)
/-- a whole number's figures -/
def dg (n : Nat) : List Nat := (Nat.toDigits 10 n).map Char.toNat
theorem str_nat (n : Nat) : (Str.ofString (toString (n : Int))) = S (dg n) := by
  rw [Str.ofString_eq_toList]
  show Str.mk (((Nat.repr n).toList.map Char.toNat).toArray) = _
  unfold Nat.repr
  rw [String.toList_ofList]
  rfl
end Tx
set_option Elab.async false
set_option linter.all false
set_option maxRecDepth 100000
set_option maxHeartbeats 4000000
namespace MI
open PySem
/-- data that can be held against data, at most so deep -/
def Sh (n : Nat) (d : D) : Prop := d.canLay0 = true ∧ d.depth ≤ n
theorem sh_str {z : Str} (h : PyData.strOk z = true) (n : Nat) : Sh n (.str z) := ⟨by simp [PyData.canLay0, h], by simp [PyData.depth]⟩
theorem sh_all {n : Nat} : ∀ {ds : List D}, (∀ d ∈ ds, Sh n d) → PyData.canLayAll0 ds = true ∧ PyData.depthAll ds ≤ n
  | [], _ => ⟨by simp [PyData.canLayAll0], by simp [PyData.depthAll]⟩
  | d :: ds, h => by
    obtain ⟨a, b⟩ := h d (List.mem_cons_self ..)
    obtain ⟨a2, b2⟩ := sh_all fun e he => h e (List.mem_cons_of_mem _ he)
    exact ⟨by simp [PyData.canLayAll0, a, a2], by simp [PyData.depthAll, b, b2]; omega⟩
theorem sh_list {n : Nat} {ds : List D} (h : ∀ d ∈ ds, Sh n d) : Sh (n + 1) (.list ds) := ⟨by simp [PyData.canLay0, (sh_all h).1], by simp [PyData.depth, (sh_all h).2]⟩
theorem shaped_of {n : Nat} {d : D} (h : Sh n d) (l : n ≤ 64) : SeqAt.shaped d = true := by
  unfold SeqAt.shaped
  rw [Bool.and_eq_true, decide_eq_true_eq]
  exact ⟨h.1, Nat.le_trans h.2 l⟩
theorem dEq_sh {n m : Nat} {d e : D} (h : Sh n d) (k : Sh m e) (l : n ≤ 64) (l2 : m ≤ 64) : dEq d e = some (PyData.eqv d e) := by
  have a := shaped_of h l
  have b := shaped_of k l2
  unfold dEq
  split
  · simp only [PyData.eqv]; rw [Option.some.injEq, Bool.eq_iff_iff]; simp
  · simp only [PyData.eqv]; rw [Option.some.injEq, Bool.eq_iff_iff]; simp
  · simp only [PyData.eqv]; rw [Option.some.injEq, Bool.eq_iff_iff]; simp
  · simp only [PyData.eqv]
  · rw [a, b]
    rfl
theorem eq_sh {n m : Nat} {d e : D} (h : Sh n d) (k : Sh m e) (l : n ≤ 64) (l2 : m ≤ 64) : fEq d e = some (.bool (PyData.eqv d e)) := by
  unfold fEq
  rw [dEq_sh h k l l2]
  rfl
end MI
set_option Elab.async false
set_option linter.all false
set_option maxRecDepth 100000
set_option maxHeartbeats 4000000
namespace Num
open PySem MI
theorem law_lowest_q (fu : Nat) (hfu : FU ≤ fu) {top bottom : Int} (hb : 0 < bottom) (h : Sm bottom) :
    Pg.f_law_lowest fu [.int top, .int bottom] = .ok (nm (Rat.divInt top bottom)) ∧ (Rat.divInt top bottom).num.natAbs ≤ top.natAbs ∧ (Rat.divInt top bottom).den ≤ bottom.natAbs := by
  obtain ⟨e, l⟩ := lowest_q fu hfu (top := top) (show bottom ≠ 0 by omega) h
  refine ⟨?_, l⟩
  rw [← e]
  have hd := divisor fu top bottom (Nat.lt_of_lt_of_le h hfu)
  have c : ¬ bottom < 0 := by omega
  rw [Pg.f_law_lowest, Pg.s_law_lowest, Pg.f_p_lowest, Pg.s_p_lowest]
  simp [run_eq, hd, c]
section
end
end Num
set_option Elab.async false
set_option linter.all false
set_option maxRecDepth 100000
set_option maxHeartbeats 4000000
namespace Ord
open PySem MI Num Tx
/-- plain texts -/
def Pw (w : List Nat) : Prop := w.length ≤ 1000 ∧ ∀ c ∈ w, c < 1114112
def wsd (ws : List (List Nat)) : List MI.D := ws.map fun w => .str (Tx.S w)
theorem sh_w {w : List Nat} (h : Pw w) (n : Nat) : Sh n (.str (Tx.S w)) := sh_str (by
  show (Tx.S w).cps.all (· < 1114112) = true
  rw [← Array.all_toList, S_cps, List.all_eq_true]
  intro c hc
  exact decide_eq_true (h.2 c hc)) n
theorem sh_ws {ws : List (List Nat)} (h : ∀ w ∈ ws, Pw w) : Sh 1 (.list (wsd ws)) := sh_list (n := 0) fun d hd => by
  obtain ⟨w, hw, rfl⟩ := List.mem_map.mp hd
  exact sh_w (h w hw) 0
theorem eqv_ss (a b : List Nat) : PyData.eqv (.str (Tx.S a)) (.str (Tx.S b)) = decide (a = b) := by
  simp only [PyData.eqv]
  rw [Bool.eq_iff_iff]
  simp
theorem any_ws (ws : List (List Nat)) (w : List Nat) : (wsd ws).any (fun z => PyData.eqv z (.str (Tx.S w))) = decide (w ∈ ws) := by
  induction ws with
  | nil => rfl
  | cons a ws ih =>
    show (PyData.eqv _ _ || (wsd ws).any _) = _
    rw [ih, eqv_ss]
    have e : decide (w ∈ a :: ws) = (decide (w = a) || decide (w ∈ ws)) := by
      rw [← Bool.decide_or]
      exact decide_eq_decide.mpr List.mem_cons
    rw [e]
    congr 1
    exact decide_eq_decide.mpr ⟨Eq.symm, Eq.symm⟩
theorem in_ws {ws : List (List Nat)} {w : List Nat} (h : ∀ w ∈ ws, Pw w) (hw : Pw w) (neg : Bool) : fIn neg (.str (Tx.S w)) (.list (wsd ws)) = some (.bool (if neg = true then !decide (w ∈ ws) else decide (w ∈ ws))) := by
  show (if (SeqAt.shaped _ && SeqAt.shaped _) = true then _ else none) = _
  rw [shaped_of (sh_w hw 0) (by decide), shaped_of (sh_ws h) (by decide)]
  rw [if_pos (show (true && true) = true from rfl), any_ws]
theorem firstIx_ws {w : List Nat} : ∀ (ws : List (List Nat)) (n k : Nat), ws[k]? = some w → (∀ j, j < k → ws[j]? ≠ some w) → firstIx (.str (Tx.S w)) (wsd ws) n = some (n + k)
  | [], n, k, h, _ => by simp at h
  | a :: ws, n, 0, h, _ => by
    simp at h
    subst h
    show (if PyData.eqv _ _ = true then _ else _) = _
    rw [eqv_ss, if_pos (by simp)]
    rfl
  | a :: ws, n, k + 1, h, q => by
    have na : ¬ a = w := fun e => q 0 (by omega) (by simp [e])
    show (if PyData.eqv _ _ = true then _ else firstIx _ (wsd ws) (n + 1)) = _
    rw [eqv_ss, if_neg (by simpa using na), firstIx_ws ws (n + 1) k (by simpa using h) fun j hj => by have := q (j + 1) (by omega); simpa using this]
    congr 1
    omega
theorem index_ws {ws : List (List Nat)} {w : List Nat} {k : Nat} (h : ∀ w ∈ ws, Pw w) (nd : ws.Nodup) (hk : ws[k]? = some w) : fIndex (.list (wsd ws)) [.str (Tx.S w)] = some (.int k) := by
  have hw := h w (List.mem_of_getElem? hk)
  have q : ∀ j, j < k → ws[j]? ≠ some w := fun j hj e => by
    obtain ⟨l1, e1⟩ := List.getElem?_eq_some_iff.mp hk
    obtain ⟨l2, e2⟩ := List.getElem?_eq_some_iff.mp e
    have := (List.pairwise_iff_getElem.mp nd) j k l2 l1 hj
    exact this (e2.trans e1.symm)
  show (if (SeqAt.shaped _ && SeqAt.shaped _) = true then (firstIx _ (wsd ws) 0).map _ else none) = _
  rw [shaped_of (sh_w hw 0) (by decide), shaped_of (sh_ws h) (by decide), if_pos (show (true && true) = true from rfl), firstIx_ws ws 0 k hk q]
  simp
def osc (ws : List (List Nat)) (L : Int) : MI.D := .tuple [.str "order", .list (wsd ws), .int L]
theorem mMt_ap (T : String) (f : MI.D → List MI.D → Option MI.D) (o : M) (a : Vw → R (List MI.D)) (δ : Vw) : mMt T f o a δ = (o δ).bind fun d => if tyD d = T ∧ (T = "str" ∨ T = "list") then (a δ).bind fun ds => R.of (f d ds) else .bad := Eq.trans rfl rfl
theorem ty_l (z : List MI.D) : tyD (.list z) = "list" := Eq.trans rfl rfl
/-- a fraction of the length -/
def fr (a : Int) (n : Nat) : Rat := Rat.divInt a n
section
variable {fu : Nat} (hfu : FU ≤ fu) {ws : List (List Nat)} {L : Int} {k : Nat} {w : List Nat} (h : ∀ w ∈ ws, Pw w) (nd : ws.Nodup) (hL : 0 ≤ L ∧ L ≤ 4000) (hn : ws.length ≤ 60) (hk : ws[k]? = some w)
include hfu h nd hL hn hk
theorem small : k < ws.length ∧ (0 < ws.length) := by
  have := (List.getElem?_eq_some_iff.mp hk).1
  exact ⟨this, by omega⟩
theorem stretch : Pg.f_p_stretch_on fu [osc ws L, .str (Tx.S w)] = .ok (.tuple [nm (fr (k * L) ws.length), nm (fr ((k + 1) * L) ws.length)]) ∧ Bd 30 (fr (k * L) ws.length) ∧ Bd 30 (fr ((k + 1) * L) ws.length) := by
  obtain ⟨s1, s2⟩ := small hfu h nd hL hn hk
  have P : (2 : Nat) ^ 12 = 4096 := by decide
  have P6 : (2 : Nat) ^ 6 = 64 := by decide
  have P30 : (2 : Nat) ^ 30 = 1073741824 := by decide
  have ix := index_ws h nd hk
  have a1 : ((k : Int)).natAbs < 2 ^ 6 := by omega
  have a2 : ((k : Int) + 1).natAbs < 2 ^ 6 := by omega
  have a3 : L.natAbs < 2 ^ 12 := by omega
  have m1 := mulB a1 a3 (by decide) (by decide) (by decide)
  have m2 := mulB a2 a3 (by decide) (by decide) (by decide)
  have sm : Sm (ws.length : Int) := sm_of (a := 6) (by omega) (by decide)
  obtain ⟨e1, b1, c1⟩ := lowest_q fu hfu (top := (k : Int) * L) (bottom := (ws.length : Int)) (by omega) sm
  obtain ⟨e2, b2, c2⟩ := lowest_q fu hfu (top := ((k : Int) + 1) * L) (bottom := (ws.length : Int)) (by omega) sm
  have n1 : ((k : Int) * L).natAbs < 2 ^ 18 := by
    have := natAbs_mul_lt a1 a3
    exact this
  have n2 : (((k : Int) + 1) * L).natAbs < 2 ^ 18 := by
    have := natAbs_mul_lt a2 a3
    exact this
  have P18 : (2 : Nat) ^ 18 = 262144 := by decide
  have l1 : (wsd ws).length = ws.length := List.length_map ..
  refine ⟨?_, ?_, ?_⟩
  · rw [Pg.f_p_stretch_on, Pg.s_p_stretch_on]
    unfold osc
    simp [run_eq, ix, m1, m2, mMt_ap, ty_l, l1, e1, e2, fr]
  · exact ⟨by show (Rat.divInt _ _).num.natAbs < _; omega, by show (Rat.divInt _ _).den < _; omega⟩
  · exact ⟨by show (Rat.divInt _ _).num.natAbs < _; omega, by show (Rat.divInt _ _).den < _; omega⟩
theorem order : Pg.f_p_along_order fu [osc ws L, .str (Tx.S w)] = .ok (nm (fr ((2 * k + 1) * L) (2 * ws.length))) := by
  obtain ⟨s1, s2⟩ := small hfu h nd hL hn hk
  obtain ⟨e, b1, b2⟩ := stretch hfu h nd hL hn hk
  obtain ⟨p1, p2⟩ := plus_q hfu b1 b2 (by decide)
  have bh : Bd 3 (fr 1 2) := by
    refine ⟨?_, ?_⟩ <;> decide +kernel
  obtain ⟨t1, t2⟩ := times_q hfu p2 bh (by decide)
  have z : (fr (k * L) ws.length + fr ((k + 1) * L) ws.length) * fr 1 2 = fr ((2 * k + 1) * L) (2 * ws.length) := by
    unfold fr
    rw [Rat.divInt_add_divInt _ _ (by omega) (by omega), Rat.divInt_mul_divInt, Rat.divInt_eq_divInt_iff]
    · push_cast
      grind
    · have : (ws.length : Int) * (ws.length : Int) ≠ 0 := Int.mul_ne_zero (by omega) (by omega)
      exact Int.mul_ne_zero this (by decide)
    · omega
  have hw : Pw w := h w (List.mem_of_getElem? hk)
  have mem : w ∈ ws := List.mem_of_getElem? hk
  have iw := in_ws h hw true
  have hn2 : nm (fr 1 2) = .tuple [.int 1, .int 2] := rfl
  rw [z, hn2] at t1
  have am : Pg.f_p_amid fu [.tuple [nm (fr (k * L) ws.length), nm (fr ((k + 1) * L) ws.length)]] = .ok (nm (fr ((2 * k + 1) * L) (2 * ws.length))) := by
    rw [Pg.f_p_amid, Pg.s_p_amid]
    simp [run_eq, p1, t1]
  unfold osc at e ⊢
  rw [Pg.f_p_along_order, Pg.s_p_along_order]
  simp [run_eq, iw, mem, e, am]
end
end Ord
set_option Elab.async false
set_option linter.all false
set_option maxRecDepth 100000
set_option maxHeartbeats 4000000
namespace Bx
open PySem MI Num Tx Ord
theorem low_loop (fu : Nat) (x y : Cell) : ∀ (n : Nat) (a b : Int), 0 ≤ b → 0 ≤ a → b.natAbs < n → loopW (mTru (mBin fNe (mVar 3) (mC (.int 0)))) (Pg.b_bx_low_1 fu) n [x, y, .dat (.int a), .dat (.int b)] = .nx [x, y, .dat (.int (Int.gcd a b)), .dat (.int 0)]
  | 0, a, b, h, _, l => by omega
  | n + 1, a, b, h, ha, l => by
    rw [loopW_ap]
    by_cases e : b = 0
    · subst e
      have : ((Int.gcd a 0 : Nat) : Int) = a := by rw [Int.gcd_zero_right]; omega
      rw [this]
      simp
    · have mm := fMod_ii (i := a) (j := b) e
      have fe : a.fmod b = a % b := Int.fmod_eq_emod_of_nonneg a (by omega)
      have g0 := Int.emod_nonneg a e
      have g1 := Int.emod_lt_of_pos a (b := b) (by omega)
      have ih := low_loop fu x y n b (a % b) g0 h (by omega)
      have gg := gcd_fmod a b
      rw [fe] at mm gg
      rw [gg] at ih
      simp [Pg.b_bx_low_1, e, mm]
      exact ih
theorem low_q (fu : Nat) (hfu : FU ≤ fu) {top bottom : Int} (hb : 0 < bottom) (h : Sm bottom) :
    Pg.f_bx_low fu [.int top, .int bottom] = .ok (nm (Rat.divInt top bottom)) ∧ (Rat.divInt top bottom).num.natAbs ≤ top.natAbs ∧ (Rat.divInt top bottom).den ≤ bottom.natAbs := by
  obtain ⟨e, l⟩ := lowest_q fu hfu (top := top) (show bottom ≠ 0 by omega) h
  refine ⟨?_, l⟩
  rw [← e]
  have hl : bottom.natAbs < fu := Nat.lt_of_lt_of_le h hfu
  have hd := divisor fu top bottom hl
  have c : ¬ bottom < 0 := by omega
  obtain ⟨a, ha, ha0, hg⟩ : ∃ a : Int, fAbs [.int top] = some (.int a) ∧ 0 ≤ a ∧ Int.gcd a bottom = Int.gcd top bottom := by
    by_cases z : top < 0
    · exact ⟨-top, by rw [fAbs_i, if_pos z], by omega, Int.neg_gcd ..⟩
    · exact ⟨top, by rw [fAbs_i, if_neg z], by omega, rfl⟩
  have lp := low_loop fu (.dat (.int top)) (.dat (.int bottom)) fu a bottom (by omega) ha0 hl
  rw [hg] at lp
  obtain ⟨g0, gs⟩ := sm_gcd (a := top) h (show bottom ≠ 0 by omega)
  have ok : okDiv ((Int.gcd top bottom : Nat) : Int) = true := okDiv_bd 4000 (by omega) (by show _ < FU; omega) (by decide) (by decide)
  have f1 := fFdv_ii (i := top) ok
  have f2 := fFdv_ii (i := bottom) ok
  rw [Pg.f_bx_low, Pg.s_bx_low, Pg.f_p_lowest, Pg.s_p_lowest]
  simp [run_eq, hd, c, ha, lp, f1, f2]
theorem strs_ws : ∀ ws : List (List Nat), strsD (wsd ws) = some (ws.map Tx.S)
  | [] => rfl
  | w :: ws => by
    show (strsD (wsd ws)).map (fun r => Tx.S w :: r) = _
    rw [strs_ws ws]
    rfl
theorem join_ws : ∀ ws : List (List Nat), Txt.join (Tx.S []) (ws.map Tx.S) = Tx.S ws.flatten := fun ws => by
  show Builtin.Str.glued _ _ = _
  rw [StrLaws.glued_eq_join]
  induction ws with
  | nil => rfl
  | cons w ws ih =>
    cases ws with
    | nil =>
      show Tx.S w = _
      simp
    | cons v vs =>
      show Tx.S w ++ Tx.S [] ++ Str.join (Tx.S []) ((v :: vs).map Tx.S) = _
      rw [ih, S_app, S_app]
      simp
theorem join_ok {ws : List (List Nat)} (h : (ws.map List.length).sum ≤ 100000) (hn : ws.length ≤ 1000) : fJoin (.str (Tx.S [])) [.list (wsd ws)] = some (.str (Tx.S ws.flatten)) := by
  show joinD _ _ = _
  unfold joinD
  rw [strs_ws]
  have e : ((ws.map Tx.S).map (·.length)).sum = (ws.map List.length).sum := by
    rw [List.map_map]
    exact congrArg List.sum (List.map_congr_left fun a _ => S_len a)
  have M : most = 16777216 := rfl
  dsimp only
  rw [e, S_len, List.length_nil, Nat.mul_zero, Nat.add_zero, if_pos (by omega), join_ws]
/-- a told number -/
structure Told (r : Rat) : Prop where
  n : r.num.natAbs < 1000000000000000000
  d : r.den ≤ 60
theorem IsBox.up {m m' : Nat} {s : T} (h : IsBox m s) (l : m ≤ m') : IsBox m' s := by
  obtain ⟨cs, a, c, e, a0, c0, c1⟩ := h
  exact ⟨cs, a, c, e, a0, c0, by omega⟩
section
end
end Bx
set_option Elab.async false
set_option linter.all false
set_option maxRecDepth 100000
set_option maxHeartbeats 4000000
namespace Mk
open PySem MI Num
section
end
section
end
end Mk
set_option Elab.async false
set_option linter.all false
set_option maxRecDepth 100000
set_option maxHeartbeats 4000000
namespace Dw
open PySem MI Num Bx
/-- what was drawn by these tops -/
def Dn (tops rs : List Int) : Prop := rs.length = tops.length ∧ ∀ k, k < tops.length → 0 ≤ rs.getD k 0 ∧ rs.getD k 0 < tops.getD k 0
/-- a fraction in lowest terms -/
theorem low_nm {fu : Nat} (hfu : FU ≤ fu) {t b : Int} (hb : 0 < b) (h : Sm b) : PyData.tuple [.int (t.fdiv (Int.gcd t b : Nat)), .int (b.fdiv (Int.gcd t b : Nat))] = nm (Rat.divInt t b) ∧ okDiv ((Int.gcd t b : Nat) : Int) = true := by
  obtain ⟨e, l⟩ := lowest_q fu hfu (top := t) (show b ≠ 0 by omega) h
  have hd := divisor fu t b (Nat.lt_of_lt_of_le h hfu)
  obtain ⟨g0, gs⟩ := sm_gcd (a := t) h (show b ≠ 0 by omega)
  have ok : okDiv ((Int.gcd t b : Nat) : Int) = true := okDiv_bd 4000 (by omega) (by show _ < FU; omega) (by decide) (by decide)
  have f1 := fFdv_ii (i := t) ok
  have f2 := fFdv_ii (i := b) ok
  have c : ¬ b < 0 := by omega
  rw [Pg.f_p_lowest, Pg.s_p_lowest] at e
  simp [run_eq, hd, c, f1, f2] at e
  exact ⟨e, ok⟩
theorem num_of {r : Rat} {n : Int} {d : Nat} (h : nm r = .tuple [.int n, .int d]) : r.num = n ∧ r.den = d := by
  unfold nm at h
  simp at h
  omega
theorem divInt_bd {fu : Nat} (hfu : FU ≤ fu) {t b : Int} (hb : 0 < b) (h : Sm b) : (Rat.divInt t b).num.natAbs ≤ t.natAbs ∧ (Rat.divInt t b).den ≤ b.natAbs := (lowest_q fu hfu (top := t) (show b ≠ 0 by omega) h).2
/-- a told number by five draws -/
theorem number {fu : Nat} (hfu : FU ≤ fu) {rs : List Int} (h : Dn [2, 4, 1000000000, 1000000000, 90] rs) : ∃ r, Pg.f_dw_number fu [.list (rs.map .int)] = .ok (nm r) ∧ Told r := by
  obtain ⟨hl, hr⟩ := h
  match rs, hl with
  | [d0, d1, d2, d3, d4], _ =>
    have h0 := hr 0 (by decide)
    have h1 := hr 1 (by decide)
    have h2 := hr 2 (by decide)
    have h3 := hr 3 (by decide)
    have h4 := hr 4 (by decide)
    simp at h0 h1 h2 h3 h4
    obtain ⟨top, ht, t0, t1⟩ : ∃ top : Int, fIx (.list [.int (d2 % 10), .int (d2 % 1000), .int d2, .int (d2 * 1000000000 + d3)]) (.int d1) = some (.int top) ∧ 0 ≤ top ∧ top < 1000000000000000000 := by
      rcases (by omega : d1 = 0 ∨ d1 = 1 ∨ d1 = 2 ∨ d1 = 3) with rfl | rfl | rfl | rfl
      · exact ⟨_, fIx_ln _ 0, by omega, by omega⟩
      · exact ⟨_, fIx_ln _ 1, by omega, by omega⟩
      · exact ⟨_, fIx_ln _ 2, by omega, by omega⟩
      · exact ⟨_, fIx_ln _ 3, by omega, by omega⟩
    obtain ⟨bot, hb, b0, b1⟩ : ∃ bot : Int, (fIntT [.bool (decide (60 ≤ d4))]).bind (fun i => fIx (.list [.int (d4 + 1), .int 1]) i) = some (.int bot) ∧ 0 < bot ∧ bot ≤ 60 := by
      by_cases e : 60 ≤ d4
      · rw [decide_eq_true e]
        exact ⟨_, fIx_ln _ 1, by decide, by decide⟩
      · rw [decide_eq_false e]
        exact ⟨_, fIx_ln _ 0, by omega, by omega⟩
    obtain ⟨i, hi, hb2⟩ := Option.bind_eq_some_iff.mp hb
    have sm : Sm bot := sm_of (a := 10) (by omega) (by decide)
    have hd := divisor fu top bot (Nat.lt_of_lt_of_le sm hfu)
    have m9 : okMul d2 1000000000 = true := okM
    have sg : Int.gcd ((1 - 2 * d0) * top) bot = Int.gcd top bot := by
      rcases (by omega : d0 = 0 ∨ d0 = 1) with rfl | rfl
      · simp
      · rw [show (1 - 2 * 1 : Int) * top = -top by omega, Int.neg_gcd]
    obtain ⟨lw, ok⟩ := low_nm hfu (t := (1 - 2 * d0) * top) b0 sm
    rw [sg] at lw ok
    have f1 := fFdv_ii (i := (1 - 2 * d0) * top) ok
    have f2 := fFdv_ii (i := bot) ok
    obtain ⟨l1, l2⟩ := divInt_bd hfu (t := (1 - 2 * d0) * top) b0 sm
    have tb : ((1 - 2 * d0) * top).natAbs < 1000000000000000000 := by
      rcases (by omega : d0 = 0 ∨ d0 = 1) with rfl | rfl <;> omega
    have e2 : okMul 2 d0 = true := okM
    have e3 : okMul (1 - 2 * d0) top = true := okM
    have : (Pg.f_dw_number fu [.list ([d0, d1, d2, d3, d4].map .int)]).sat (fun d => d = nm (Rat.divInt ((1 - 2 * d0) * top) bot)) fun _ _ => False := by
      refine run_sat rfl _ rfl ?_
      rw [Pg.s_dw_number]
      simp [fPow10_9, m9, ht, hi, hb2, hd, e2, e3, f1, f2]
      exact lw
    obtain ⟨a, e, rfl⟩ := this.eq
    exact ⟨_, e, by omega, by omega⟩
/-- the law's own sum -/
theorem plus {fu : Nat} (hfu : FU ≤ fu) {n m : Nat} {r s : Rat} (hr : Bd n r) (hs : Bd m s) (hl : n + m ≤ 3000) : Pg.f_dw_plus fu [nm r, nm s] = .ok (nm (r + s)) ∧ Bd (n + m + 1) (r + s) := by
  obtain ⟨p1, p2⟩ := plus_q hfu hr hs (by omega)
  refine ⟨?_, p2⟩
  have m1 := mulB hr.1 (show ((s.den : Int)).natAbs < 2 ^ m from hs.2) (bd_pos hr) (bd_pos hs) (by omega)
  have m2 := mulB hs.1 (show ((r.den : Int)).natAbs < 2 ^ n from hr.2) (bd_pos hs) (bd_pos hr) (by omega)
  have m3 := mulB (show ((r.den : Int)).natAbs < 2 ^ n from hr.2) (show ((s.den : Int)).natAbs < 2 ^ m from hs.2) (bd_pos hr) (bd_pos hs) (by omega)
  have dr : (0 : Int) < r.den := by have := r.den_pos; omega
  have ds : (0 : Int) < s.den := by have := s.den_pos; omega
  have b0 : (0 : Int) < r.den * s.den := Int.mul_pos dr ds
  have sm : Sm ((r.den : Int) * s.den) := sm_of (a := n + m) (by
    exact mul_bd n m (n + m) hr.2 hs.2 (Nat.le_refl _)) (by omega)
  obtain ⟨e, _⟩ := law_lowest_q fu hfu (top := r.num * s.den + s.num * r.den) b0 sm
  have v : Rat.divInt (r.num * s.den + s.num * r.den) ((r.den : Int) * s.den) = r + s := by
    have h1 := Rat.num_divInt_den r
    have h2 := Rat.num_divInt_den s
    have := Rat.divInt_add_divInt r.num s.num (d₁ := r.den) (d₂ := s.den) (by omega) (by omega)
    rw [h1, h2] at this
    exact this.symm
  rw [v] at e
  rw [Pg.f_dw_plus, Pg.s_dw_plus]
  unfold nm at e ⊢
  simp [run_eq, m1, m2, m3, e]
end Dw
set_option Elab.async false
set_option linter.all false
set_option maxRecDepth 100000
set_option maxHeartbeats 4000000
namespace MI
open PySem
theorem cut_from (ds : List D) (n : Nat) : cutD ds (some (n : Int)) none = ds.drop n := by
  unfold cutD
  rw [HT.sIx_nat, HT.sIx_none]
  rcases Nat.le_total n ds.length with h | h
  · rw [Nat.min_eq_left h]
    exact List.take_of_length_le (by rw [List.length_drop]; omega)
  · rw [Nat.min_eq_right h, List.drop_of_length_le (Nat.le_refl _), List.drop_of_length_le h]
    simp
theorem cut_to (ds : List D) (n : Nat) : cutD ds none (some (n : Int)) = ds.take n := by
  have := cut_take ds n
  have e : fSl (.list ds) none (some (n : Int)) = some (.list (cutD ds none (some (n : Int)))) := rfl
  rw [e] at this
  injection this with this
  injection this
theorem cut_mid (ds : List D) (a b : Nat) : cutD ds (some (a : Int)) (some (b : Int)) = (ds.take b).drop a := by
  unfold cutD
  rw [HT.sIx_nat, HT.sIx_nat]
  apply List.ext_getElem?
  intro i
  rw [List.getElem?_take, List.getElem?_drop, List.getElem?_drop, List.getElem?_take]
  rcases Nat.le_total a ds.length with h | h
  · rw [Nat.min_eq_left h]
    rcases Nat.le_total b ds.length with h2 | h2
    · rw [Nat.min_eq_left h2]
      by_cases c : i < b - a
      · rw [if_pos c, if_pos (by omega)]
      · rw [if_neg c, if_neg (by omega)]
    · rw [Nat.min_eq_right h2]
      by_cases c : i < ds.length - a
      · rw [if_pos c, if_pos (by omega)]
      · rw [if_neg c]
        split
        · rw [List.getElem?_eq_none (by omega)]
        · rfl
  · rw [Nat.min_eq_right h]
    have : ds[a + i]? = none := List.getElem?_eq_none (by omega)
    rw [this, if_neg (by omega)]
    split <;> rfl
theorem sl_from (ds : List D) (n : Nat) : fSl (.list ds) (some (n : Int)) none = some (.list (ds.drop n)) := by rw [← cut_from]; rfl
theorem sl_to (ds : List D) (n : Nat) : fSl (.list ds) none (some (n : Int)) = some (.list (ds.take n)) := cut_take ds n
theorem sl_mid (ds : List D) (a b : Nat) : fSl (.list ds) (some (a : Int)) (some (b : Int)) = some (.list ((ds.take b).drop a)) := by rw [← cut_mid]; rfl
@[simp] theorem sl_from_lit (ds : List D) (n : Nat) : fSl (.list ds) (some (no_index (OfNat.ofNat n) : Int)) none = some (.list (ds.drop (OfNat.ofNat n))) := sl_from ds n
@[simp] theorem sl_to_lit (ds : List D) (n : Nat) : fSl (.list ds) none (some (no_index (OfNat.ofNat n) : Int)) = some (.list (ds.take (OfNat.ofNat n))) := sl_to ds n
@[simp] theorem sl_mid_lit (ds : List D) (a b : Nat) : fSl (.list ds) (some (no_index (OfNat.ofNat a) : Int)) (some (no_index (OfNat.ofNat b) : Int)) = some (.list ((ds.take (OfNat.ofNat b)).drop (OfNat.ofNat a))) := sl_mid ds a b
@[simp] theorem cut_to_lit (ds : List D) (n : Nat) : cutD ds none (some (no_index (OfNat.ofNat n) : Int)) = ds.take (OfNat.ofNat n) := cut_to ds n
@[simp] theorem cut_from_lit (ds : List D) (n : Nat) : cutD ds (some (no_index (OfNat.ofNat n) : Int)) none = ds.drop (OfNat.ofNat n) := cut_from ds n
@[simp] theorem cut_mid_lit (ds : List D) (a b : Nat) : cutD ds (some (no_index (OfNat.ofNat a) : Int)) (some (no_index (OfNat.ofNat b) : Int)) = (ds.take (OfNat.ofNat b)).drop (OfNat.ofNat a) := cut_mid ds a b
end MI
set_option Elab.async false
set_option linter.all false
set_option maxRecDepth 100000
set_option maxHeartbeats 4000000
namespace Fg
open PySem MI Tx Num PySem.NumText
def plain (cs : List Nat) : Bool := decide (cs ≠ []) && (decide (cs.length ≤ 60) && (!(decide (cs.head? = some 48) && decide (cs ≠ [48])) && cs.all dig))
theorem signs_ap (cs : List Nat) (δ : Vw) (m : M) (h : m δ = .ok (.str (S cs))) : mSigns m δ = .ok (cs.map fun c => .str (S [c])) := by
  show (m δ).bind _ = _
  rw [h, R.bind_ok]
  show R.ok ((S cs).cps.toList.map _) = _
  rw [S_cps]
  rfl
theorem mMt_ap (T : String) (f : MI.D → List MI.D → Option MI.D) (o : M) (a : Vw → R (List MI.D)) (δ : Vw) : mMt T f o a δ = (o δ).bind fun d => if tyD d = T ∧ (T = "str" ∨ T = "list") then (a δ).bind fun ds => R.of (f d ds) else .bad := Eq.trans rfl rfl
end Fg
set_option Elab.async false
set_option linter.all false
set_option maxRecDepth 100000
set_option maxHeartbeats 4000000
namespace Tb
open PySem MI Num Tx Bx Dw Fg
def ltr (c : Nat) : Bool := decide (97 ≤ c ∧ c ≤ 122)
def l26 : List Nat := [97, 98, 99, 100, 101, 102, 103, 104, 105, 106, 107, 108, 109, 110, 111, 112, 113, 114, 115, 116, 117, 118, 119, 120, 121, 122]
theorem l_26 : ("abcdefghijklmnopqrstuvwxyz" : Str) = Tx.S l26 := by decide +kernel
theorem in_26 (c : Nat) : fIn false (.str (Tx.S [c])) (.str "abcdefghijklmnopqrstuvwxyz") = some (.bool (ltr c)) := by
  rw [l_26, in_one]
  have : decide (c ∈ l26) = ltr c := by
    unfold ltr
    refine decide_eq_decide.mpr ⟨fun h => ?_, fun h => ?_⟩
    · have := (by decide : ∀ y ∈ l26, 97 ≤ y ∧ y ≤ 122) c h
      exact this
    · obtain ⟨k, rfl⟩ : ∃ k, c = 97 + k := ⟨c - 97, by omega⟩
      have hk : k < 26 := by omega
      exact (by decide : ∀ k, k < 26 → 97 + k ∈ l26) k hk
  rw [this]
  rfl
def wordB (w : List Nat) : Bool := decide (1 ≤ w.length) && (decide (w.length ≤ 8) && w.all ltr)
theorem fall (bs : List Bool) : fAll [.list (bs.map PyData.bool)] = some (.bool (bs.all id)) := by
  show (boolsD (bs.map PyData.bool)).map _ = _
  have : boolsD (bs.map PyData.bool) = some bs := by
    induction bs with
    | nil => rfl
    | cons b bs ih =>
      rw [List.map_cons]
      unfold boolsD
      rw [ih]
      rfl
  rw [this]
  rfl
/-- whether all signs are letters -/
theorem signs_all {w : List Nat} (h : w.length ≤ 1000) {δ : Vw} {m : M} (hm : m δ = .ok (.str (Tx.S w))) {t : VTg} {te : M} {v : List Nat} (ht : ∀ c ∈ w, os (t (.str (Tx.S [c])) (wipeV δ v)) fun δ' => te δ' = .ok (.bool (ltr c))) {Q : MI.D → Prop} {E : Str → Option MI.D → Prop} (q : Q (.bool (w.all ltr))) :
    (mSigns m δ).sat (fun ds => (loopC t mYes te (wipeV δ v) ds []).sat (fun a => (R.of (fAll [.list a])).sat Q E) E) E := by
  have m0 : most = 16777216 := rfl
  rw [signs_ap w δ m hm, sat_ok]
  obtain ⟨I, hI⟩ : ∃ I : Nat → List MI.D → Prop, ∀ k acc, I k acc ↔ acc = ((w.take k).map ltr).map PyData.bool := ⟨_, fun _ _ => Iff.rfl⟩
  refine loopC_sat I ((hI _ _).mpr rfl) ?_ ?_
  · intro k d acc hd ha
    have ha := (hI _ _).mp ha
    subst ha
    rw [List.getElem?_map] at hd
    obtain ⟨c, hc, rfl⟩ := Option.map_eq_some_iff.mp hd
    have := ht c (List.mem_of_getElem? hc)
    have kl := (List.getElem?_eq_some_iff.mp hc).1
    cases e : t (.str (Tx.S [c])) (wipeV δ v) with
    | none => rw [e] at this; exact this
    | some δ' =>
      rw [e, os_some] at this
      rw [os_some]
      simp [mYes, this]
      refine ⟨by omega, (hI _ _).mpr ?_⟩
      rw [List.take_add_one, hc]
      simp
  · intro acc ha
    have ha := (hI _ _).mp ha
    subst ha
    rw [List.length_map, List.take_length, fall, R.of_some, sat_ok]
    have : (w.map ltr).all id = w.all ltr := by rw [List.all_map]; rfl
    rw [this]
    exact q
theorem is_word_s (fu : Nat) {w : List Nat} (h : w.length ≤ 1000) : Pg.f_p_is_word fu [.str (Tx.S w)] = .ok (.bool (wordB w)) := by
  have m0 : most = 16777216 := rfl
  have ln := len_s (a := w) (by omega)
  have : (Pg.f_p_is_word fu [.str (Tx.S w)]).sat (fun d => d = .bool (wordB w)) fun _ _ => False := by
    refine run_sat rfl _ rfl ?_
    rw [Pg.s_p_is_word]
    simp [ln]
    unfold wordB
    refine ⟨fun l1 => ⟨fun l2 => ?_, fun l2 => ?_⟩, fun l1 => ?_⟩
    · rw [decide_eq_true (show 1 ≤ w.length by omega), decide_eq_false (show ¬ w.length ≤ 8 by omega)]
      rfl
    · refine signs_all h (by simp [mVar]) (fun c hc => ?_) ?_
      · simp [vN, wipeV, mBin, mVar, in_26]
      · rw [decide_eq_true (show 1 ≤ w.length by omega), decide_eq_true (show w.length ≤ 8 by omega)]
        rfl
    · rw [decide_eq_false (show ¬ 1 ≤ w.length by omega)]
      rfl
  obtain ⟨a, e, rfl⟩ := this.eq
  exact e
theorem is_word_no (fu : Nat) {d : MI.D} (h : isT "str" d = some false) : Pg.f_p_is_word fu [d] = .ok (.bool false) := by
  rw [Pg.f_p_is_word, Pg.s_p_is_word]
  simp [run_eq, h]
inductive Cmp : MI.D → Prop
  | none : Cmp .none
  | bool (b : Bool) : Cmp (.bool b)
  | int {i : Int} : i.natAbs < 2 ^ 300 → Cmp (.int i)
  | str {w : List Nat} : w.length ≤ 1000 → Cmp (.str (Tx.S w))
inductive Any : MI.D → Prop
  | cmp {d : MI.D} : Cmp d → Any d
  | list {ds : List MI.D} : Any (.list ds)
  | dict : Any (.dict [])
  | tup {ds : List MI.D} : (∀ d ∈ ds, Cmp d) → ds.length ≤ 1000 → Any (.tuple ds)
def wh : MI.D → Bool
  | .int _ => true
  | _ => false
theorem is_whole (fu : Nat) {d : MI.D} (h : ∀ p kvs, d ≠ .dict (p :: kvs)) : Pg.f_p_is_whole fu [d] = .ok (.bool (wh d)) := by
  have k1 : isT "int" d = some (match d with
    | .int _ => true
    | .bool _ => true
    | _ => false) := by
    cases d with
    | dict kvs => cases kvs with
      | nil => rfl
      | cons p kvs => exact absurd rfl (h p kvs)
    | _ => rfl
  have k2 : isT "bool" d = some (match d with
    | .bool _ => true
    | _ => false) := by
    cases d with
    | dict kvs => cases kvs with
      | nil => rfl
      | cons p kvs => exact absurd rfl (h p kvs)
    | _ => rfl
  rw [Pg.f_p_is_whole, Pg.s_p_is_whole]
  cases d <;> simp [run_eq, k1, k2, wh]
theorem any_nd {d : MI.D} (h : Any d) : ∀ p kvs, d ≠ .dict (p :: kvs) := fun p kvs e => by
  subst e
  cases h with
  | cmp h => cases h
def numB : MI.D → Bool
  | .tuple [.int t, .int b] => decide (0 < b) && (decide (Int.gcd t b = 1) && (decide (t.natAbs < 1000000000000000000) && decide (b ≤ 60)))
  | _ => false
def wB : MI.D → Bool
  | .str s => wordB s.cps.toList
  | _ => false
theorem k1 : ¬ (("word" : Str) = ("number" : Str)) := by decide
theorem k2 : ¬ (("day" : Str) = ("number" : Str)) := by decide
theorem k3 : ¬ (("day" : Str) = ("word" : Str)) := by decide
theorem k4 : ¬ (("number" : Str) = ("word" : Str)) := by decide
theorem k5 : ¬ (("number" : Str) = ("day" : Str)) := by decide
section
variable {fu : Nat} (hfu : FU ≤ fu)
include hfu
theorem is_number_t {t b : Int} (hb : b.natAbs < 2 ^ 300) : Pg.f_p_is_number fu [.tuple [.int t, .int b]] = .ok (.bool (decide (0 < b) && decide (Int.gcd t b = 1))) := by
  have hd := divisor fu t b (Nat.lt_of_lt_of_le hb (Nat.le_trans (Nat.pow_le_pow_right (by decide) (by decide)) hfu))
  have w := fun i => is_whole fu (d := .int i) (by intro p k e; cases e)
  have ty : isT "tuple" (.tuple [.int t, .int b]) = some true := rfl
  rw [Pg.f_p_is_number, Pg.s_p_is_number]
  by_cases b0 : 0 < b
  · have e : (decide (((Int.gcd t b : Nat) : Int) = 1)) = decide (Int.gcd t b = 1) := decide_eq_decide.mpr (by omega)
    simp [run_eq, w, ty, wh, b0, hd, e]
  · simp [run_eq, w, ty, wh, b0]
theorem is_number_no {d : MI.D} (h : Any d) (hn : ∀ t b, d ≠ .tuple [.int t, .int b]) : Pg.f_p_is_number fu [d] = .ok (.bool false) := by
  rw [Pg.f_p_is_number, Pg.s_p_is_number]
  cases h with
  | cmp h =>
    cases h with
    | none => rfl
    | bool b => rfl
    | int _ => rfl
    | str _ => rfl
  | list => rfl
  | dict => rfl
  | @tup ds h l =>
    have ty : isT "tuple" (.tuple ds) = some true := rfl
    have ln : fLen [.tuple ds] = some (.int ds.length) := rfl
    by_cases l2 : ds.length = 2
    · match ds, l2 with
      | [a, b], _ =>
        have ha := h a (by simp)
        have hb := h b (by simp)
        have wa := is_whole fu (any_nd (.cmp ha))
        have wb := is_whole fu (any_nd (.cmp hb))
        by_cases c : wh a = true ∧ wh b = true
        · exfalso
          cases ha <;> simp [wh] at c
          cases hb <;> simp at c
          exact hn _ _ rfl
        · have c2 : (wh a = true → wh b = false) := fun z => by
            cases e : wh b with
            | false => rfl
            | true => exact absurd ⟨z, e⟩ c
          cases ea : wh a with
          | false => simp [run_eq, ty, wa, wb, ea]
          | true => simp [run_eq, ty, wa, wb, ea, c2 ea]
    · have l3 : ¬ ((ds.length : Int) = 2) := by omega
      simp [run_eq, ty, ln, l3]
theorem is_told {d : MI.D} (h : Any d) : Pg.f_p_is_told fu [d] = .ok (.bool (numB d)) := by
  by_cases c : ∃ t b, d = .tuple [.int t, .int b]
  · obtain ⟨t, b, rfl⟩ := c
    have hb : b.natAbs < 2 ^ 300 := by
      cases h with
      | cmp h => cases h
      | tup h l => cases h (.int b) (by simp) with
        | int h => exact h
    have e := is_number_t hfu (t := t) hb
    have e1 : (decide ((if t < 0 then -t else t) < 1000000000000000000)) = decide (t.natAbs < 1000000000000000000) := decide_eq_decide.mpr (by split <;> omega)
    rw [Pg.f_p_is_told, Pg.s_p_is_told]
    by_cases c : (decide (0 < b) && decide (Int.gcd t b = 1)) = true
    · rw [c] at e
      simp at c
      have e2 : ∀ k : Int, fAbs [.int k] = some (.int (if k < 0 then -k else k)) := fun k => fAbs_i k
      by_cases c2 : t.natAbs < 1000000000000000000
      · have c3 : (if t < 0 then -t else t) < 1000000000000000000 := by split <;> omega
        simp [run_eq, e, e2, fPow10_18, numB, c, c2, c3]
      · have c3 : ¬ (if t < 0 then -t else t) < 1000000000000000000 := by split <;> omega
        simp [run_eq, e, e2, fPow10_18, numB, c, c2, c3]
    · have c2 := Bool.eq_false_iff.mpr c
      rw [c2] at e
      have : numB (.tuple [.int t, .int b]) = false := by
        show (decide (0 < b) && (decide (Int.gcd t b = 1) && _)) = false
        rw [← Bool.and_assoc, c2, Bool.false_and]
      simp [run_eq, e, this]
  · have e := is_number_no hfu h fun t b z => c ⟨t, b, z⟩
    have : numB d = false := by
      unfold numB
      split
      · exact absurd ⟨_, _, rfl⟩ c
      · rfl
    rw [Pg.f_p_is_told, Pg.s_p_is_told]
    simp [run_eq, e, this]
theorem is_word {d : MI.D} (h : Any d) : Pg.f_p_is_word fu [d] = .ok (.bool (wB d)) := by
  cases h with
  | cmp h =>
    cases h with
    | none => exact is_word_no fu rfl
    | bool b => exact is_word_no fu rfl
    | int _ => exact is_word_no fu rfl
    | @str w l =>
      have := is_word_s fu l
      show _ = R.ok (PyData.bool (wordB (Tx.S w).cps.toList))
      rw [S_cps]
      exact this
  | list => exact is_word_no fu rfl
  | dict => exact is_word_no fu rfl
  | tup _ _ => exact is_word_no fu rfl
end
end Tb
set_option Elab.async false
set_option linter.all false
set_option maxRecDepth 100000
set_option maxHeartbeats 4000000
namespace Zs
open PySem MI Tx
@[simp] theorem sat_addS (a b : List Nat) (Q : MI.D → Prop) (E : Str → Option MI.D → Prop) : (R.of (fAddL (.str (S a)) (.str (S b)))).sat Q E = (a.length + b.length ≤ most ∧ Q (.str (S (a ++ b)))) := by
  rw [fAddL_ss]
  show (R.of (if (S a).length + (S b).length ≤ most then _ else none)).sat Q E = _
  rw [S_len, S_len]
  by_cases h : a.length + b.length ≤ most
  · have := add_ss h
    rw [if_pos h, R.of_some, sat_ok]
    have e : fAdd (.str (S a)) (.str (S b)) = if (S a).length + (S b).length ≤ most then some (.str (S a ++ S b)) else none := rfl
    rw [e, S_len, S_len, if_pos h] at this
    injection this with this
    rw [this, eq_true h, true_and]
  · rw [if_neg h, R.of_none, sat_bad, eq_false h, false_and]
end Zs
set_option Elab.async false
set_option linter.all false
set_option maxRecDepth 100000
set_option maxHeartbeats 4000000
namespace Col
open PySem MI Num Tx Bx Dw Fg Tb Zs Ord
theorem word_len {w : List Nat} (h : wordB w = true) : 1 ≤ w.length ∧ w.length ≤ 8 ∧ ∀ c ∈ w, 97 ≤ c ∧ c ≤ 122 := by
  unfold wordB at h
  simp [ltr] at h
  exact ⟨h.1, h.2.1, fun c m => h.2.2 c m⟩
theorem pw_of {w : List Nat} (h : wordB w = true) : Pw w := by
  have := word_len h
  exact ⟨by omega, fun c m => by have := this.2.2 c m; omega⟩
theorem S_inj {a b : List Nat} : (Tx.S a = Tx.S b) = (a = b) := by
  refine propext ⟨fun h => ?_, fun h => by rw [h]⟩
  have := congrArg (fun s : Str => s.cps.toList) h
  simpa [S_cps] using this
/-- a told cell -/
inductive Good : Str → MI.D → Prop
  | num {r : Rat} : Told r → Good "number" (nm r)
  | word {w : List Nat} : wordB w = true → Good "word" (.str (Tx.S w))
  | day {i : Int} : 364877 ≤ i → i ≤ 3286816 → Good "day" (.int i)
def Cell (k : Str) (d : MI.D) : Prop := d = .none ∨ Good k d
end Col
set_option Elab.async false
set_option linter.all false
set_option maxRecDepth 100000
set_option maxHeartbeats 4000000
namespace Dk
open PySem MI Num Tx Bx Dw Fg Tb Zs Ord Col
end Dk
set_option Elab.async false
set_option linter.all false
set_option maxRecDepth 100000
set_option maxHeartbeats 4000000
namespace Cal
open PySem MI Num
def leap (y : Int) : Bool := decide (y % 400 = 0) || (decide (y % 4 = 0) && !decide (y % 100 = 0))
def len (y m : Int) : Int := if m = 2 then 28 + (if leap y = true then 1 else 0) else if m = 4 ∨ m = 6 ∨ m = 9 ∨ m = 11 then 30 else 31
theorem fdv_n (i : Int) (n : Nat) (h : 0 < n) (h2 : n < 2 ^ 40) : fFdv (.int i) (.int (n : Int)) = some (.int (i / (n : Int))) :=
  fFdv_pos (by omega) (Nat.lt_trans (log2_lt (a := 40) (by simpa using h2) (by decide)) (by decide))
theorem mod_n (i : Int) (n : Nat) (h : 0 < n) : fMod (.int i) (.int (n : Int)) = some (.int (i % (n : Int))) := fMod_pos (by omega)
theorem rngL_succ (lo : Int) (n : Nat) : rngL lo 1 (n + 1) = .int lo :: rngL (lo + 1) 1 n := by
  unfold rngL
  rw [List.range_succ_eq_map, List.map_cons, List.map_map]
  congr 1
  · simp
  · apply List.map_congr_left
    intro i _
    simp
    omega
def lens (y : Int) : Int → Nat → List Int
  | _, 0 => []
  | lo, n + 1 => len y lo :: lens y (lo + 1) n
end Cal
set_option Elab.async false
set_option linter.all false
set_option maxRecDepth 100000
set_option maxHeartbeats 4000000
namespace Cal
open PySem MI Num
/-- a day that there is -/
def Good (y m d : Int) : Prop := (1 ≤ y ∧ y ≤ 9999) ∧ (1 ≤ m ∧ m ≤ 12) ∧ 1 ≤ d ∧ d ≤ len y m
end Cal
set_option Elab.async false
set_option linter.all false
set_option maxRecDepth 100000
set_option maxHeartbeats 4000000
namespace Num
open PySem MI Cal
def P (B n : Int) : Int := B ^ n.toNat
/-- where a place's number is -/
def val (B low : Int) (t : Rat) : Rat := (B : Rat) ^ (low + t.num / t.den) * (1 + (t - ((t.num / (t.den : Int) : Int) : Rat)) * ((B : Rat) - 1))
/-- what a scale by turns holds -/
structure Tu (B low many L : Int) : Prop where
  b1 : 2 ≤ B
  b2 : B ≤ 10
  l : -200 ≤ low ∧ low ≤ 200
  m : 1 ≤ many ∧ many ≤ 400
  L : 1 ≤ L ∧ L ≤ 4000
def sct (B low many L : Int) : MI.D := .tuple [.str "turns", .int B, .int low, .int many, .int L]
section
end
section
end
end Num
set_option Elab.async false
set_option linter.all false
set_option maxRecDepth 100000
set_option maxHeartbeats 4000000
namespace Num
open PySem MI Cal
structure Tv (B low many L : Int) : Prop where
  b1 : 2 ≤ B
  b2 : B ≤ 10
  l : -15 ≤ low ∧ low ≤ 15
  m : 1 ≤ many ∧ many ≤ 25
  L : 1 ≤ L ∧ L ≤ 4000
section
end
end Num
set_option Elab.async false
set_option linter.all false
set_option maxRecDepth 100000
set_option maxHeartbeats 4000000
namespace Num
open PySem MI Cal
structure Pc where
  lo : Rat
  hi : Rat
  b : Int
  e : Int
def Pc.d (p : Pc) : MI.D := .tuple [nm p.lo, nm p.hi, .int p.b, .int p.e]
structure Pc.Ok (p : Pc) : Prop where
  lt : p.lo < p.hi
  bl : Bd 130 p.lo
  bh : Bd 130 p.hi
  b0 : 0 ≤ p.b
  be : p.b < p.e
  e1 : p.e ≤ 8000
def Pc.at_ (q : Rat) (p : Pc) : Bool := decide (¬ q < (p.b : Rat) ∧ ¬ (p.e : Rat) < q)
def Pc.back (q : Rat) (p : Pc) : Rat := p.lo + (q - (p.b : Rat)) * (p.hi - p.lo) / ((p.e - p.b : Int) : Rat)
section
variable {fu : Nat} (hfu : FU ≤ fu)
include hfu
/-- what a broken scale holds -/
structure Ps (ps : List Pc) (a z : Pc) : Prop where
  ok : ∀ p ∈ ps, p.Ok
  fst : ∃ t, ps = a :: t
  lst : ∃ i, ps = i ++ [z]
  far : ps.Pairwise fun p q => p.e < q.b
omit hfu in
theorem Ps.a0 {ps : List Pc} {a z : Pc} (h : Ps ps a z) : fIx (.list (ps.map Pc.d)) (.int 0) = some a.d := by
  obtain ⟨t, e⟩ := h.fst
  subst e
  exact fIx_l (j := 0) rfl
omit hfu in
theorem Ps.z0 {ps : List Pc} {a z : Pc} (h : Ps ps a z) : fIx (.list (ps.map Pc.d)) (.int (-1)) = some z.d := by
  obtain ⟨t, e⟩ := h.lst
  subst e
  rw [List.map_append]
  exact L2.atI_last _ _
omit hfu in
theorem d0 (p : Pc) : fIx p.d (.int 0) = some (nm p.lo) := fIx_t (j := 0) rfl
omit hfu in
theorem d1 (p : Pc) : fIx p.d (.int 1) = some (nm p.hi) := fIx_t (j := 1) rfl
omit hfu in
theorem d2 (p : Pc) : fIx p.d (.int 2) = some (.int p.b) := fIx_t (j := 2) rfl
omit hfu in
theorem d3 (p : Pc) : fIx p.d (.int 3) = some (.int p.e) := fIx_t (j := 3) rfl
omit hfu in
theorem Pc.Ok.w {p : Pc} (ok : p.Ok) : (0 : Rat) < p.hi - p.lo ∧ (0 : Rat) < ((p.e - p.b : Int) : Rat) :=
  ⟨by have := ok.lt; grind, Rat.intCast_pos.mpr (by have := ok.be; omega)⟩
end
end Num
set_option Elab.async false
set_option linter.all false
set_option maxRecDepth 100000
set_option maxHeartbeats 4000000
namespace Num
open PySem MI Cal
def scb (ps : List Pc) (z : Pc) : MI.D := .tuple [.str "broken", .list (ps.map Pc.d), .int z.e]
def scs (lo hi : Rat) (L : Int) : MI.D := .tuple [.str "straight", nm lo, nm hi, .int L]
def scd (lo hi L : Int) : MI.D := .tuple [.str "days", .int lo, .int hi, .int L]
inductive Sl where
  | str (lo hi : Rat) (L : Int)
  | trn (B low many L : Int)
  | brk (ps : List Pc) (a z : Pc)
  | dys (lo hi L : Int)
def Sl.d : Sl → MI.D
  | .str lo hi L => scs lo hi L
  | .trn B low many L => sct B low many L
  | .brk ps _ z => scb ps z
  | .dys lo hi L => scd lo hi L
def Sl.len : Sl → Int
  | .str _ _ L => L
  | .trn _ _ _ L => L
  | .brk _ _ z => z.e
  | .dys _ _ L => L
def Sl.Ok : Sl → Prop
  | .str lo hi L => lo < hi ∧ Bd 130 lo ∧ Bd 130 hi ∧ 1 ≤ L ∧ L ≤ 4000
  | .trn B low many L => Tv B low many L
  | .brk ps a z => Ps ps a z ∧ (ps.Pairwise fun p q => p.hi < q.lo) ∧ a.b = 0 ∧ 2 ≤ ps.length ∧ ps.length ≤ 4
  | .dys lo hi L => 0 ≤ lo ∧ lo < hi ∧ hi ≤ 3652059 ∧ 1 ≤ L ∧ L ≤ 4000
def Sl.back : Sl → Rat → Rat
  | .str lo hi L, q => lo + q * (hi - lo) / (L : Rat)
  | .trn B low many L, q => val B low (q * Rat.divInt many L)
  | .brk ps _ _, q => match ps.find? (Pc.at_ q) with
    | some p => p.back q
    | none => 0
  | .dys lo hi L, q => (lo : Rat) + q * ((hi : Rat) - (lo : Rat)) / (L : Rat)
section
end
end Num
set_option Elab.async false
set_option linter.all false
set_option maxRecDepth 100000
set_option maxHeartbeats 4000000
namespace Num
open PySem MI Cal
/-- rising whole numbers -/
structure Up (es : List Int) (n : Nat) : Prop where
  len : es.length = n
  up : es.Pairwise (· < ·)
  bd : ∀ e ∈ es, e.natAbs < 2 ^ 100
theorem ends_loop (fu : Nat) (ns : List Int) (c1 c2 : Cell) : ∀ (m : Nat) (lo : Int) (init : List Int) (last : Int) (c4 c5 c6 : Cell), 0 ≤ lo → init.length + m ≤ 20 → (init ++ [last]).Pairwise (· < ·) → (∀ e ∈ init ++ [last], e ≤ last) → (∀ e ∈ init ++ [last], e.natAbs ≤ 1000000000000000000000000 + init.length * 100000000000000000000000000000) →
    ∃ (i' : List Int) (l' : Int) (x4 x5 x6 : Cell), loopF (gN 4) (Pg.b_law_ends_1 fu) (rngL lo 1 m) [.dat (.list (ns.map .int)), c1, c2, .own ((init ++ [last]).map .int), c4, c5, c6] = .nx [.dat (.list (ns.map .int)), c1, c2, .own ((i' ++ [l']).map .int), x4, x5, x6] ∧ i'.length = init.length + m ∧ (i' ++ [l']).Pairwise (· < ·) ∧ (∀ e ∈ i' ++ [l'], e.natAbs ≤ 1000000000000000000000000 + i'.length * 100000000000000000000000000000)
  | 0, lo, init, last, c4, c5, c6, _, _, h1, _, h3 => ⟨init, last, c4, c5, c6, by simp [rngL, loopF], rfl, h1, h3⟩
  | m + 1, lo, init, last, c4, c5, c6, h0, hm, h1, h2, h3 => by
    have k := cell_at' fu ns (z := 2 + lo) (by omega)
    obtain ⟨x, hx⟩ : ∃ x, ns.getD (2 + lo).toNat 0 = x := ⟨_, rfl⟩
    rw [hx] at k
    have p18 : fPow (.int 10) (.int 18) = some (.int 1000000000000000000) := fPow_ii (by decide)
    have p29 : fPow (.int 10) (.int 29) = some (.int 100000000000000000000000000000) := fPow_ii (by decide)
    have e1 := fMod_pos (i := x) (j := 100000000000000000000000000000) (by decide)
    have e2 := mod_n x 60 (by decide)
    simp at e2
    have neg : fIx (.list ((init ++ [last]).map .int)) (.int (-1)) = some (.int last) := by
      rw [List.map_append]
      exact L2.atI_last _ _
    have st : ∃ r : Int, 1 ≤ r ∧ r ≤ 100000000000000000000000000000 ∧ Pg.b_law_ends_1 fu [.dat (.list (ns.map .int)), c1, c2, .own ((init ++ [last]).map .int), .dat (.int lo), c5, c6] = .nx [.dat (.list (ns.map .int)), c1, c2, .own (((init ++ [last]) ++ [last + r]).map .int), .dat (.int lo), .dat (.int x), .dat (.int r)] := by
      have f : ∀ r, flat (.int (last + r)) = true := fun _ => rfl
      have ml : ((init ++ [last]).map PyData.int).length < 16777216 := by simp; omega
      by_cases h : (1000000000000000000 : Int) ≤ x
      · refine ⟨1 + x % 100000000000000000000000000000, by omega, by omega, ?_⟩
        rw [List.map_append (l₁ := init ++ [last])]
        obtain ⟨xs, hx⟩ : ∃ xs, (init ++ [last]).map PyData.int = xs := ⟨_, rfl⟩
        rw [hx] at neg ml ⊢
        rw [Pg.b_law_ends_1]
        simp [neg, k, e1, e2, p18, p29, h, f, ml]
      · refine ⟨1 + x % 60, by omega, by omega, ?_⟩
        rw [List.map_append (l₁ := init ++ [last])]
        obtain ⟨xs, hx⟩ : ∃ xs, (init ++ [last]).map PyData.int = xs := ⟨_, rfl⟩
        rw [hx] at neg ml ⊢
        rw [Pg.b_law_ends_1]
        simp [neg, k, e2, p18, h, f, ml]
    obtain ⟨r, r1, r2, st⟩ := st
    have bl := h3 last (by simp)
    obtain ⟨i', l', x4, x5, x6, e, q1, q2, q3⟩ := ends_loop fu ns c1 c2 m (lo + 1) (init ++ [last]) (last + r) (.dat (.int lo)) (.dat (.int x)) (.dat (.int r)) (by omega) (by simp; omega) (by
      rw [List.pairwise_append]
      refine ⟨h1, by simp, fun a ha b hb => ?_⟩
      have := h2 a ha
      simp at hb
      omega) (fun e he => by
      rcases List.mem_append.mp he with he | he
      · have := h2 e he
        omega
      · simp at he
        omega) (fun e he => by
      have hl : (init ++ [last]).length = init.length + 1 := by rw [List.length_append, List.length_singleton]
      rw [hl, Nat.succ_mul]
      generalize init.length * 100000000000000000000000000000 = T at bl h3 ⊢
      rcases List.mem_append.mp he with he | he
      · have := h3 e he
        omega
      · have he := List.mem_singleton.mp he
        omega)
    refine ⟨i', l', x4, x5, x6, ?_, by rw [q1]; simp; omega, q2, q3⟩
    rw [rngL_succ, loopF_cons rfl st]
    exact e
theorem rng1_m {m : Nat} (h : m ≤ 100000) : rng1 [.int (m : Int)] = some (rngL 0 1 m) := by
  show (if lim62 (m : Int) = true then some (rngL 0 1 (m : Int).toNat) else none) = _
  rw [if_pos]
  · rfl
  · unfold lim62
    simp
    omega
theorem ap {s1 s2 : S} {g g' : Ce} (h : s1 g = .nx g') : sSeq s1 s2 g = s2 g' := by unfold sSeq; rw [h]
theorem run_rt {n N : Nat} {m : S} {ds : List MI.D} {d : MI.D} (h : ds.length = n) (e : m (ds.map Cell.dat ++ List.replicate (N - n) Cell.un) = .rt d) : run n N m ds = .ok d := by
  rw [run_eq n N m ds h, e]
theorem ends (fu : Nat) (ns : List Int) (m : Nat) (hm : m = 3 ∨ m = 5 ∨ m = 7) : ∃ es : List Int, Pg.f_law_ends fu [.list (ns.map .int), .int (m : Int)] = .ok (.list (es.map .int)) ∧ Up es (m + 1) := by
  have k1 := cell_at' fu ns (z := 1) (by decide)
  generalize ns.getD (1 : Int).toNat 0 = x1 at *
  have p24 : fPow (.int 10) (.int 24) = some (.int 1000000000000000000000000) := fPow_ii (by decide)
  have e1 := fdv_n x1 2 (by decide) (by decide)
  have e2 := fMod_pos (i := x1 / 2) (j := 1000000000000000000000000) (by decide)
  have e3 := mod_n x1 2 (by decide)
  simp at e1 e3
  have u1 := Int.emod_nonneg (x1 / 2) (b := 1000000000000000000000000) (by decide)
  have u2 := Int.emod_lt_of_pos (x1 / 2) (b := 1000000000000000000000000) (by decide)
  obtain ⟨t, ht⟩ : ∃ t, x1 / 2 % 1000000000000000000000000 = t := ⟨_, rfl⟩
  rw [ht] at e2 u1 u2
  have r := rng1_m (m := m) (by omega)
  have st : ∃ top : Int, top.natAbs < 1000000000000000000000000 ∧ ∀ k : S, (sSeq (sSet 2 (mBin fMod (mBin fFdv (mCall 2 (Pg.f_law_cell_at fu) [] (mCons (mVar 0) (mCons (mC (.int 1)) (mNil)))) (mC (.int 2))) (mBin fPow (mC (.int 10)) (mC (.int 24))))) (sSeq (sIf (mTru (mBin fEq (mBin fMod (mCall 2 (Pg.f_law_cell_at fu) [] (mCons (mVar 0) (mCons (mC (.int 1)) (mNil)))) (mC (.int 2))) (mC (.int 1)))) (sSet 2 (mBin fSub (mC (.int 0)) (mVar 2))) (sNop)) k)) [.dat (.list (ns.map .int)), .dat (.int (m : Int)), .un, .un, .un, .un, .un] = k [.dat (.list (ns.map .int)), .dat (.int (m : Int)), .dat (.int top), .un, .un, .un, .un] := by
    by_cases c : x1 % 2 = 1
    · exact ⟨-t, by omega, fun k => by simp [k1, p24, e1, e2, e3, c]⟩
    · exact ⟨t, by omega, fun k => by simp [k1, p24, e1, e2, e3, c]⟩
  obtain ⟨top, htop, st⟩ := st
  obtain ⟨i', l', x4, x5, x6, e, q1, q2, q3⟩ := ends_loop fu ns (.dat (.int (m : Int))) (.dat (.int top)) m 0 [] top .un .un .un (by decide) (by simp; omega) (by simp) (by simp) (by simp; omega)
  refine ⟨i' ++ [l'], ?_, by simp [q1], q2, fun e he => ?_⟩
  · have hi : mRng rng1 (mCons (mVar 1) (mNil)) (vd [.dat (.list (ns.map .int)), .dat (.int (m : Int)), .dat (.int top), .own [.int top], .un, .un, .un]) = .ok (rngL 0 1 m) := by simp [r]
    have hf := (forG (t := gN 4) (b := Pg.b_law_ends_1 fu) hi).trans e
    rw [Pg.f_law_ends, Pg.s_law_ends]
    refine run_rt rfl ?_
    show (sSeq _ _ : S) [.dat (.list (ns.map .int)), .dat (.int (m : Int)), .un, .un, .un, .un, .un] = _
    rw [st, ap (g' := [.dat (.list (ns.map .int)), .dat (.int (m : Int)), .dat (.int top), .own [.int top], .un, .un, .un]) (by simp), ap hf]
    simp
  · have := q3 e he
    rw [q1] at this
    simp at this
    omega
theorem div_lt {x y bo : Int} (b0 : 0 < bo) (h : x < y) : Rat.divInt x bo < Rat.divInt y bo := by
  have bp : (0 : Rat) < (bo : Rat) := Rat.intCast_pos.mpr b0
  refine Rat.lt_of_mul_lt_mul_right (c := (bo : Rat)) ?_ (Rat.le_of_lt bp)
  rw [Rat.divInt_eq_div, Rat.divInt_eq_div, Rat.div_mul_cancel (Rat.ne_of_gt bp), Rat.div_mul_cancel (Rat.ne_of_gt bp)]
  exact Rat.intCast_lt_intCast.mpr h
section
end
end Num
set_option Elab.async false
set_option linter.all false
set_option maxRecDepth 100000
set_option maxHeartbeats 4000000
namespace Num
open PySem MI Cal
section
end
end Num
set_option Elab.async false
set_option linter.all false
set_option maxRecDepth 100000
set_option maxHeartbeats 4000000
namespace Fd
open PySem MI Num Dw
section
variable {fu : Nat}
def sco (ws : List (List Nat)) (L : Int) : MI.D := .tuple [.str "order", .list (Ord.wsd ws), .int L]
end
end Fd
set_option Elab.async false
set_option linter.all false
set_option maxRecDepth 100000
set_option maxHeartbeats 4000000
namespace Fd
open PySem MI Num Dw
section
end
end Fd
set_option Elab.async false
set_option linter.all false
set_option maxRecDepth 100000
set_option maxHeartbeats 4000000
set_option profiler true
set_option profiler.threshold 3000
namespace Fd
open PySem MI Num Dw
def fTops : List Int := [4000, 2, 4, 1000000000, 1000000000, 90, 3, 1000000000, 60, 60, 900, 50, 1000, 1000, 900, 50, 1000, 1000, 900, 50, 1000, 1000, 900, 50, 1000, 1000]
theorem mulS_one {c : Nat} {n : Int} (h0 : 0 ≤ n) (h1 : n ≤ 1000) : fMulS (.str (Tx.S [c])) (.int n) = some (.str (Tx.S (List.replicate n.toNat c))) := by
  show (if 0 ≤ n ∧ n ≤ 1000 ∧ (Tx.S [c]).length ≤ 1000 then some (PyData.str (Txt.mul (Tx.S [c]) n)) else none) = _
  rw [if_pos ⟨h0, h1, (by decide : (1 : Nat) ≤ 1000)⟩, ← PyProof.Rows.mul_one_list c n]
  rw [← Tx.eta]
  rfl
theorem dget {d : List Int} (h : d.length = 26) {k : Nat} (hk : k < 26) : (d.map PyData.int)[k]? = some (.int (d.getD k 0)) := by
  rw [List.getElem?_map, List.getD_eq_getElem?_getD, List.getElem?_eq_getElem (by omega)]
  rfl
section
end
end Fd
set_option Elab.async false
set_option linter.all false
set_option maxRecDepth 100000
set_option maxHeartbeats 4000000
namespace Fd
open PySem MI Num Dw
theorem getD_cut {d : List Int} {a b j : Nat} (h : a + j < b) : ((d.take b).drop a).getD j 0 = d.getD (a + j) 0 := by
  rw [List.getD_eq_getElem?_getD, List.getElem?_drop, List.getElem?_take, if_pos h, List.getD_eq_getElem?_getD]
theorem map_cut (d : List Int) (a b : Nat) : ((d.map PyData.int).take b).drop a = ((d.take b).drop a).map PyData.int := by
  rw [List.map_drop, List.map_take]
theorem dn_cut {tops rs : List Int} (h : Dn tops rs) (a b : Nat) : Dn ((tops.take b).drop a) ((rs.take b).drop a) := by
  obtain ⟨h1, h2⟩ := h
  refine ⟨by simp [h1], fun k hk => ?_⟩
  simp at hk
  rw [getD_cut (by omega), getD_cut (by omega)]
  exact h2 _ (by omega)
theorem add_num {N D den x y e : Int} (hD : D = den * x * y) (D0 : 0 < D) (x0 : 0 < x) : Rat.divInt N D + Rat.divInt e x = Rat.divInt (N + e * den * y) D := by
  have dR : (D : Rat) = (den : Rat) * (x : Rat) * (y : Rat) := by rw [hD, Rat.intCast_mul, Rat.intCast_mul]
  have D1 : (D : Rat) ≠ 0 := Rat.ne_of_gt (Rat.intCast_pos.mpr D0)
  have x1 : (x : Rat) ≠ 0 := Rat.ne_of_gt (Rat.intCast_pos.mpr x0)
  rw [Rat.divInt_eq_div, Rat.divInt_eq_div, Rat.divInt_eq_div, Rat.intCast_add, Rat.intCast_mul, Rat.intCast_mul]
  generalize (D : Rat) = a at *
  generalize (x : Rat) = b at *
  generalize (y : Rat) = c at *
  generalize (den : Rat) = f at *
  generalize (N : Rat) = n at *
  generalize (e : Rat) = g at *
  clear hD D0 x0
  grind
theorem rat_lt {a b c : Rat} (h : a < b) (k : b < c) : a < c := by grind
theorem divInt_pos {a b : Int} (ha : 0 < a) (hb : 0 < b) : (0 : Rat) < Rat.divInt a b := by
  rw [Rat.divInt_eq_div]
  have h1 : (0 : Rat) < (a : Rat) := Rat.intCast_pos.mpr ha
  have h2 : (0 : Rat) < (b : Rat) := Rat.intCast_pos.mpr hb
  rw [Rat.div_def]
  exact Rat.mul_pos h1 (Rat.inv_pos.mpr h2)
/-- what pieces hold, so far -/
structure Bk (D : Int) (ps : List Pc) (k : Nat) (lo : Rat) (at_ : Int) : Prop where
  len : ps.length = k
  ok : ∀ p ∈ ps, p.Ok ∧ Bd 90 p.lo ∧ Bd 90 p.hi
  up : ps.Pairwise fun p q => p.hi < q.lo
  far : ps.Pairwise fun p q => p.e < q.b
  hi : ∀ p ∈ ps, p.hi < lo ∧ p.e < at_
  a0 : 0 ≤ at_
  a1 : at_ ≤ 960 * k
  z : k = 0 → at_ = 0
  fst : ∀ a, ps.head? = some a → a.b = 0
  num : ∃ N : Int, lo = Rat.divInt N D ∧ N.natAbs ≤ 3600000000000000000000 + k * 8000000
section
variable {fu : Nat} (hfu : FU ≤ fu)
include hfu
theorem num_bd {N D : Int} (D0 : 0 < D) (D1 : D ≤ 216000) (h : N.natAbs ≤ 4000000000000000000000) : Bd 90 (Rat.divInt N D) := by
  have sm : Sm D := sm_of (a := 20) (by omega) (by decide)
  obtain ⟨h1, h2⟩ := divInt_bd hfu (t := N) D0 sm
  have P : (2 : Nat) ^ 90 = 1237940039285380274899124224 := by decide
  exact ⟨by omega, by omega⟩
theorem bk_step {D den e2 x e3 y : Int} {ps : List Pc} {k : Nat} {lo : Rat} {at_ : Int} (h : Bk D ps k lo at_) (hk : k < 4) (d0 : 0 < den ∧ den ≤ 60) (hx : 1 ≤ x ∧ x ≤ 60) (hy : 1 ≤ y ∧ y ≤ 60) (hD : D = den * x * y) (h2 : 1 ≤ e2 ∧ e2 ≤ 1000) (h3 : 1 ≤ e3 ∧ e3 ≤ 1000) {e0 e1 : Int} (h0 : 0 ≤ e0 ∧ e0 < 900) (h1 : 0 ≤ e1 ∧ e1 < 50) :
    ∃ hi lo' : Rat, hi = lo + Rat.divInt e2 x ∧ lo' = hi + Rat.divInt e3 y ∧ Bd 90 lo ∧ Bd 90 hi ∧ Bk D (ps ++ [⟨lo, hi, at_, at_ + 1 + e0⟩]) (k + 1) lo' (at_ + 2 + e0 + e1) := by
  obtain ⟨N, eN, bN⟩ := h.num
  have dx : 1 ≤ den * x ∧ den * x ≤ 60 * 60 := ⟨Int.mul_pos d0.1 (by omega), Int.mul_le_mul d0.2 hx.2 (by omega) (by omega)⟩
  have D0 : 0 < D := by rw [hD]; exact Int.mul_pos (by omega) (by omega)
  have D1 : D ≤ 216000 := by
    rw [hD]
    exact Int.mul_le_mul dx.2 hy.2 (by omega) (by omega)
  have q2 : 0 ≤ e2 * den ∧ e2 * den ≤ 1000 * 60 := ⟨Int.mul_nonneg (by omega) (by omega), Int.mul_le_mul h2.2 d0.2 (by omega) (by omega)⟩
  have q3 : 0 ≤ e3 * den ∧ e3 * den ≤ 1000 * 60 := ⟨Int.mul_nonneg (by omega) (by omega), Int.mul_le_mul h3.2 d0.2 (by omega) (by omega)⟩
  have r2 : 0 ≤ e2 * den * y ∧ e2 * den * y ≤ 1000 * 60 * 60 := ⟨Int.mul_nonneg q2.1 (by omega), Int.mul_le_mul q2.2 hy.2 (by omega) (by omega)⟩
  have r3 : 0 ≤ e3 * den * x ∧ e3 * den * x ≤ 1000 * 60 * 60 := ⟨Int.mul_nonneg q3.1 (by omega), Int.mul_le_mul q3.2 hx.2 (by omega) (by omega)⟩
  have v1 := add_num (N := N) (e := e2) hD D0 (by omega)
  have v2 := add_num (N := N + e2 * den * y) (e := e3) (den := den) (x := y) (y := x) (by rw [hD, Int.mul_right_comm]) D0 (by omega)
  have p1 := divInt_pos (a := e2) (b := x) (by omega) (by omega)
  have p2 := divInt_pos (a := e3) (b := y) (by omega) (by omega)
  have b1 : Bd 90 lo := by rw [eN]; exact num_bd hfu D0 D1 (by omega)
  have b2 : Bd 90 (lo + Rat.divInt e2 x) := by rw [eN, v1]; exact num_bd hfu D0 D1 (by omega)
  have l1 : lo < lo + Rat.divInt e2 x := by
    generalize Rat.divInt e2 x = z at *
    clear v1 v2 eN
    grind
  have l2 : lo + Rat.divInt e2 x < lo + Rat.divInt e2 x + Rat.divInt e3 y := by
    generalize Rat.divInt e3 y = z at *
    generalize lo + Rat.divInt e2 x = w at *
    clear v1 v2 eN
    grind
  have a1 := h.a1
  have a0 := h.a0
  refine ⟨_, _, rfl, rfl, b1, b2, ?_⟩
  refine ⟨by rw [List.length_append, h.len]; rfl, ?_, ?_, ?_, ?_, by omega, by omega, fun z => by omega, ?_, ?_⟩
  · intro p hp
    rcases List.mem_append.mp hp with hp | hp
    · exact h.ok p hp
    · obtain rfl := List.mem_singleton.mp hp
      exact ⟨⟨l1, bd_mono b1 (by decide), bd_mono b2 (by decide), a0, by show at_ < at_ + 1 + e0; omega, by show at_ + 1 + e0 ≤ 8000; omega⟩, b1, b2⟩
  · refine List.pairwise_append.mpr ⟨h.up, List.pairwise_singleton _ _, fun p hp q hq => ?_⟩
    obtain rfl := List.mem_singleton.mp hq
    exact (h.hi p hp).1
  · refine List.pairwise_append.mpr ⟨h.far, List.pairwise_singleton _ _, fun p hp q hq => ?_⟩
    obtain rfl := List.mem_singleton.mp hq
    exact (h.hi p hp).2
  · intro p hp
    rcases List.mem_append.mp hp with hp | hp
    · obtain ⟨u1, u2⟩ := h.hi p hp
      exact ⟨rat_lt (rat_lt u1 l1) l2, by omega⟩
    · obtain rfl := List.mem_singleton.mp hp
      exact ⟨l2, by show at_ + 1 + e0 < _; omega⟩
  · intro a ha
    cases ps with
    | nil =>
      have k0 : k = 0 := by rw [← h.len]; rfl
      simp at ha
      subst ha
      exact h.z k0
    | cons p ps => exact h.fst a ha
  · refine ⟨N + e2 * den * y + e3 * den * x, ?_, by omega⟩
    rw [eN, v1, v2]
theorem broken {d : List Int} (hd : Dn fTops d) : ∃ (ps : List Pc) (a z : Pc), Pg.f_fd_broken fu [.list (d.map .int)] = .ok (scb ps z) ∧ Ps ps a z ∧ (ps.Pairwise fun p q => p.hi < q.lo) ∧ a.b = 0 ∧ 2 ≤ ps.length ∧ ps.length ≤ 4 ∧ ∀ p ∈ ps, Bd 90 p.lo ∧ Bd 90 p.hi := by
  obtain ⟨rs, hrs⟩ : ∃ rs : List Int, rs = (d.take 6).drop 1 := ⟨_, rfl⟩
  obtain ⟨n, hn, nt⟩ := number hfu (rs := rs) (by rw [hrs]; exact dn_cut hd 1 6)
  obtain ⟨hl, hb⟩ := hd
  have dl : d.length = 26 := hl
  have g6 := dget dl (k := 6) (by decide)
  have g8 := dget dl (k := 8) (by decide)
  have g9 := dget dl (k := 9) (by decide)
  have b6 := hb 6 (by decide)
  have b8 := hb 8 (by decide)
  have b9 := hb 9 (by decide)
  have t : fTops.getD 6 0 = 3 ∧ fTops.getD 8 0 = 60 ∧ fTops.getD 9 0 = 60 := by decide
  obtain ⟨u6, u8, u9⟩ := t
  rw [u6] at b6
  rw [u8] at b8
  rw [u9] at b9
  obtain ⟨x6, h6⟩ : ∃ x : Int, x = d.getD 6 0 := ⟨_, rfl⟩
  rw [← h6] at b6 g6
  have bb : ∀ k : Nat, k < 4 → (0 ≤ d.getD (10 + 4 * k) 0 ∧ d.getD (10 + 4 * k) 0 < 900) ∧ (0 ≤ d.getD (11 + 4 * k) 0 ∧ d.getD (11 + 4 * k) 0 < 50) ∧ (0 ≤ d.getD (12 + 4 * k) 0 ∧ d.getD (12 + 4 * k) 0 < 1000) ∧ (0 ≤ d.getD (13 + 4 * k) 0 ∧ d.getD (13 + 4 * k) 0 < 1000) := fun k hk => by
    have h1 := hb (10 + 4 * k) (by simp [fTops]; omega)
    have h2 := hb (11 + 4 * k) (by simp [fTops]; omega)
    have h3 := hb (12 + 4 * k) (by simp [fTops]; omega)
    have h4 := hb (13 + 4 * k) (by simp [fTops]; omega)
    have t : ∀ k : Nat, k < 4 → fTops.getD (10 + 4 * k) 0 = 900 ∧ fTops.getD (11 + 4 * k) 0 = 50 ∧ fTops.getD (12 + 4 * k) 0 = 1000 ∧ fTops.getD (13 + 4 * k) 0 = 1000 := by decide
    obtain ⟨t1, t2, t3, t4⟩ := t k hk
    rw [t1] at h1
    rw [t2] at h2
    rw [t3] at h3
    rw [t4] at h4
    exact ⟨h1, h2, h3, h4⟩
  have s1 : fSl (.list (d.map PyData.int)) (some 1) (some 6) = some (.list (rs.map PyData.int)) := by
    rw [hrs, ← map_cut]
    exact sl_mid _ 1 6
  have nd0 : (0 : Int) < n.den ∧ (n.den : Int) ≤ 60 := ⟨by have := n.den_pos; omega, by have := nt.d; omega⟩
  obtain ⟨x, hx⟩ : ∃ x : Int, x = 1 + d.getD 8 0 := ⟨_, rfl⟩
  obtain ⟨y, hy⟩ : ∃ y : Int, y = 1 + d.getD 9 0 := ⟨_, rfl⟩
  rw [show d.getD 8 0 = x - 1 by omega] at b8 g8
  rw [show d.getD 9 0 = y - 1 by omega] at b9 g9
  have hx1 : 1 + (x - 1) = x := by omega
  have hy1 : 1 + (y - 1) = y := by omega
  have hlim : lim62 (2 + x6) = true := lim
  obtain ⟨D, hD⟩ : ∃ D : Int, D = n.den * x * y := ⟨_, rfl⟩
  have sx : Sm x := sm_of (a := 10) (by omega) (by decide)
  have sy : Sm y := sm_of (a := 10) (by omega) (by decide)
  have lw : ∀ e z : Int, 1 ≤ z → z ≤ 60 → 1 ≤ e → e ≤ 1000 → Pg.f_law_lowest fu [.int e, .int z] = .ok (nm (Rat.divInt e z)) ∧ Bd 12 (Rat.divInt e z) := fun e z z0 z1 e0 e1 => by
    obtain ⟨h1, h2, h3⟩ := law_lowest_q fu hfu (top := e) (bottom := z) (by omega) (sm_of (a := 10) (by omega) (by decide))
    have P : (2 : Nat) ^ 12 = 4096 := by decide
    exact ⟨h1, by omega, by omega⟩
  generalize hL : d.map PyData.int = ds at *
  have key : (Pg.f_fd_broken fu [.list ds]).sat (fun r => ∃ (ps : List Pc) (a z : Pc), r = scb ps z ∧ Ps ps a z ∧ (ps.Pairwise fun p q => p.hi < q.lo) ∧ a.b = 0 ∧ 2 ≤ ps.length ∧ ps.length ≤ 4 ∧ ∀ p ∈ ps, Bd 90 p.lo ∧ Bd 90 p.hi) fun _ _ => False := by
    refine run_sat rfl _ rfl ?_
    rw [Pg.s_fd_broken]
    simp [-List.drop_one, s1, hn, g6]
    refine ⟨hlim, ?_⟩
    obtain ⟨I, hI⟩ : ∃ I : Nat → Ce → Prop, ∀ k g, I k g ↔ ∃ (ps : List Pc) (lo : Rat) (at_ : Int) (c4 c5 c6 : Cell), g = [.dat (.list ds), .own (ps.map Pc.d), .dat (nm lo), .dat (.int at_), c4, c5, c6] ∧ Bk D ps k lo at_ := ⟨_, fun _ _ => Iff.rfl⟩
    refine loopF_sat I ((hI _ _).mpr ⟨[], n, 0, .un, .un, .un, rfl, ?_⟩) ?_ ?_
    · refine ⟨rfl, by simp, List.Pairwise.nil, List.Pairwise.nil, by simp, by omega, by omega, fun _ => rfl, by simp, n.num * x * y, ?_, ?_⟩
      · have e : Rat.divInt n.num n.den = Rat.divInt (n.num * x * y) D := (Rat.divInt_eq_divInt_iff (by omega) (by have := Int.mul_pos (Int.mul_pos nd0.1 (show 0 < x by omega)) (show 0 < y by omega); omega)).mpr (by
          rw [hD]
          generalize (n.den : Int) = a
          generalize n.num = b
          rw [Int.mul_right_comm a x y, ← Int.mul_assoc, ← Int.mul_assoc, Int.mul_right_comm (b * x) y a, Int.mul_right_comm b x a, Int.mul_right_comm (b * a) x y])
        rw [← e]
        exact (Rat.num_divInt_den n).symm
      · have h1 := nt.n
        have h2 : (n.num * x * y).natAbs = n.num.natAbs * (x.natAbs * y.natAbs) := by rw [Int.natAbs_mul, Int.natAbs_mul, Nat.mul_assoc]
        have h3 : x.natAbs * y.natAbs ≤ 60 * 60 := Nat.mul_le_mul (by omega) (by omega)
        have h4 := Nat.mul_le_mul (Nat.le_of_lt h1) h3
        omega
    · intro k c g hc hg
      obtain ⟨ps, lo, at_, c4, c5, c6, eg, bk⟩ := (hI _ _).mp hg
      simp at hc
      obtain ⟨hk, rfl⟩ := hc
      have k4 : k < 4 := by omega
      obtain ⟨t1, t2, t3, t4⟩ := bb k k4
      obtain ⟨qs, hqs⟩ : ∃ qs : List Int, qs = (d.take (14 + 4 * k)).drop (10 + 4 * k) := ⟨_, rfl⟩
      have sk : fSl (.list ds) (some (10 + 4 * (k : Int))) (some (14 + 4 * (k : Int))) = some (.list (qs.map PyData.int)) := by
        rw [hqs, ← map_cut, hL]
        exact sl_mid _ (10 + 4 * k) (14 + 4 * k)
      have gk : ∀ j, j < 4 → (qs.map PyData.int)[j]? = some (.int (d.getD (10 + 4 * k + j) 0)) := fun j hj => by
        rw [hqs, List.getElem?_map, List.getElem?_drop, List.getElem?_take, if_pos (by omega), List.getD_eq_getElem?_getD, List.getElem?_eq_getElem (by omega)]
        rfl
      have k0 := gk 0 (by decide)
      have k1 := gk 1 (by decide)
      have k2 := gk 2 (by decide)
      have k3 := gk 3 (by decide)
      simp only [Nat.add_zero, show 10 + 4 * k + 1 = 11 + 4 * k by omega, show 10 + 4 * k + 2 = 12 + 4 * k by omega, show 10 + 4 * k + 3 = 13 + 4 * k by omega] at k0 k1 k2 k3
      generalize hE : qs.map PyData.int = es at *
      obtain ⟨e0, he0⟩ : ∃ e0 : Int, e0 = d.getD (10 + 4 * k) 0 := ⟨_, rfl⟩
      obtain ⟨e1, he1⟩ : ∃ e0 : Int, e0 = d.getD (11 + 4 * k) 0 := ⟨_, rfl⟩
      obtain ⟨e2, he2⟩ : ∃ e0 : Int, e0 = d.getD (12 + 4 * k) 0 := ⟨_, rfl⟩
      obtain ⟨e3, he3⟩ : ∃ e0 : Int, e0 = d.getD (13 + 4 * k) 0 := ⟨_, rfl⟩
      rw [← he0] at t1 k0
      rw [← he1] at t2 k1
      rw [← he2] at t3 k2
      rw [← he3] at t4 k3
      obtain ⟨hi, lo', eh, el, bl, bh, nx⟩ := bk_step hfu bk k4 nd0 (x := x) (y := y) (by omega) (by omega) hD (e2 := 1 + e2) (e3 := 1 + e3) (by omega) (by omega) t1 t2
      obtain ⟨l2, m2⟩ := lw (1 + e2) x (by omega) (by omega) (by omega) (by omega)
      obtain ⟨l3, m3⟩ := lw (1 + e3) y (by omega) (by omega) (by omega) (by omega)
      obtain ⟨p2, _⟩ := plus hfu bl m2 (by omega)
      obtain ⟨p3, _⟩ := plus hfu bh m3 (by omega)
      rw [← eh] at p2
      rw [← el] at p3
      have o4 : okMul 4 (k : Int) = true := okM
      have pl := bk.len
      have M : most = 16777216 := rfl
      rw [eg, Pg.b_fd_broken_1]
      simp [gN, o4, sk, k0, k1, k2, k3, g8, g9, hx1, hy1, l2, l3, p2, p3]
      exact ⟨by omega, (hI _ _).mpr ⟨ps ++ [⟨lo, hi, at_, at_ + 1 + e0⟩], lo', _, _, _, _, by rw [List.map_append]; rfl, nx⟩⟩
    · intro g hg
      obtain ⟨ps, lo, at_, c4, c5, c6, eg, bk⟩ := (hI _ _).mp hg
      simp at bk
      have pl := bk.len
      obtain ⟨a, t, e1⟩ : ∃ a t, ps = a :: t := by
        cases ps with
        | nil => simp at pl; omega
        | cons a t => exact ⟨a, t, rfl⟩
      obtain ⟨i, z, e2⟩ : ∃ i z, ps = i ++ [z] := ⟨ps.dropLast, ps.getLast (by rw [e1]; simp), (List.dropLast_concat_getLast _).symm⟩
      have hP : Ps ps a z := ⟨fun p hp => (bk.ok p hp).1, ⟨t, e1⟩, ⟨i, e2⟩, bk.far⟩
      have z0 := hP.z0
      have z3 := d3 z
      rw [eg]
      simp [z0, z3]
      exact ⟨ps, a, z, rfl, hP, bk.up, bk.fst a (by rw [e1]; rfl), by omega, by omega, fun p hp => (bk.ok p hp).2⟩
  obtain ⟨r, e, ps, a, z, rfl, h⟩ := key.eq
  exact ⟨ps, a, z, e, h⟩
end
end Fd
set_option Elab.async false
set_option linter.all false
set_option maxRecDepth 100000
set_option maxHeartbeats 4000000
namespace Fd
open PySem MI Num Dw
inductive Fs where
  | str (lo hi : Rat) (L : Int)
  | trn (B low many L : Int)
  | brk (ps : List Pc) (a z : Pc)
  | dys (lo hi L : Int)
  | ord (ws : List (List Nat)) (L : Int)
def Fs.d : Fs → MI.D
  | .str lo hi L => scs lo hi L
  | .trn B low many L => sct B low many L
  | .brk ps _ z => scb ps z
  | .dys lo hi L => scd lo hi L
  | .ord ws L => sco ws L
def Fs.len : Fs → Int
  | .str _ _ L => L
  | .trn _ _ _ L => L
  | .brk _ _ z => z.e
  | .dys _ _ L => L
  | .ord _ L => L
def Fs.Ok : Fs → Prop
  | .str lo hi L => lo < hi ∧ Bd 100 lo ∧ Bd 100 hi ∧ 1 ≤ L ∧ L ≤ 4000
  | .trn B low many L => Tu B low many L ∧ (B = 2 ∨ B = 10)
  | .brk ps a z => Ps ps a z ∧ (ps.Pairwise fun p q => p.hi < q.lo) ∧ a.b = 0 ∧ 2 ≤ ps.length ∧ ps.length ≤ 4 ∧ ∀ p ∈ ps, Bd 90 p.lo ∧ Bd 90 p.hi
  | .dys lo hi L => 364877 ≤ lo ∧ lo < hi ∧ hi ≤ 3286816 ∧ 1 ≤ L ∧ L ≤ 4000
  | .ord ws L => 1 ≤ L ∧ L ≤ 4000 ∧ ws.Nodup ∧ 1 ≤ ws.length ∧ ws.length ≤ 60 ∧ ∀ w ∈ ws, Tb.wordB w = true
inductive Fc where
  | none
  | num (c : Rat)
  | day (i : Int)
  | word (w : List Nat)
def Fc.d : Fc → MI.D
  | .none => .none
  | .num c => nm c
  | .day i => .int i
  | .word w => .str (Tx.S w)
section
end
end Fd
set_option Elab.async false
set_option linter.all false
set_option maxRecDepth 100000
set_option maxHeartbeats 4000000
namespace Fd
open PySem MI Num Dw
section
end
end Fd
set_option Elab.async false
set_option linter.all false
set_option maxRecDepth 100000
set_option maxHeartbeats 4000000
namespace Fd
open PySem MI Num Dw
structure Fl where
  x : Fs
  y : Fs
  x0 : Int
  y0 : Int
def Fl.d (F : Fl) : MI.D := .tuple [F.x.d, F.y.d, .int F.x0, .int F.y0, .int F.x.len, .int F.y.len]
structure Fl.Ok (F : Fl) : Prop where
  x : F.x.Ok
  y : F.y.Ok
@[simp ↓] theorem msat_rep (m : Vw → R (List MI.D)) (b : M) (δ : Vw) (QL : List MI.D → Prop) (E : Str → Option MI.D → Prop) : (nRep m b δ).sat QL E = (m δ).sat (fun xs => xs.length ≤ most ∧ (b δ).sat (fun y => os (intD y) fun k => (-(2 ^ 63) ≤ k ∧ k < 2 ^ 63 ∧ xs.length * k.toNat ≤ most) ∧ QL (repD k xs)) E) E := by
  unfold nRep
  simp only [sat_bind, sat_ite_bad]
  congr
  funext xs
  congr
  funext y
  cases y with
  | int k => simp only [sat_ite_bad, sat_ok, intD_i, os_some]
  | _ => rfl
section
end
end Fd
set_option Elab.async false
set_option linter.all false
set_option maxRecDepth 100000
set_option maxHeartbeats 4000000
namespace Fd
open PySem MI Num Dw
section
variable {fu : Nat}
/-- plain data, so deep -/
inductive Fine : Nat → MI.D → Prop
  | int (n : Nat) (i : Int) : Fine n (.int i)
  | str (n : Nat) (z : Str) : Fine n (.str z)
  | lst {n : Nat} {ds : List MI.D} : ds.length ≤ most → (∀ d ∈ ds, Fine n d) → Fine (n + 1) (.list ds)
  | tup {n : Nat} {ds : List MI.D} : ds.length ≤ most → (∀ d ∈ ds, Fine n d) → Fine (n + 1) (.tuple ds)
theorem Fine.up {n m : Nat} {d : MI.D} (h : Fine n d) (l : n ≤ m) : Fine m d := by
  induction h generalizing m with
  | int n i => exact .int _ _
  | str n z => exact .str _ _
  | lst hl h ih =>
    obtain ⟨k, rfl⟩ : ∃ k, m = k + 1 := ⟨m - 1, by omega⟩
    exact .lst hl fun d hd => ih d hd (by omega)
  | tup hl h ih =>
    obtain ⟨k, rfl⟩ : ∃ k, m = k + 1 := ⟨m - 1, by omega⟩
    exact .tup hl fun d hd => ih d hd (by omega)
@[simp ↓] theorem msat_isi2 (T U : String) (a : M) (δ : Vw) (Q : MI.D → Prop) (E : Str → Option MI.D → Prop) : (mIsi2 T U a δ).sat Q E = (a δ).sat (fun d => os (isT2 T U d) fun b => Q (.bool b)) E := by
  unfold mIsi2
  rw [sat_bind]
  congr
  funext d
  cases isT2 T U d <;> rfl
@[simp ↓] theorem msat_rng (f : List MI.D → Option (List MI.D)) (m : Vw → R (List MI.D)) (δ : Vw) (QL : List MI.D → Prop) (E : Str → Option MI.D → Prop) : (mRng f m δ).sat QL E = (m δ).sat (fun ds => (R.of (f ds)).sat QL E) E := by
  unfold mRng
  rw [sat_bind]
end
end Fd
set_option Elab.async false
set_option linter.all false
set_option maxRecDepth 100000
set_option maxHeartbeats 4000000
namespace Ax
open PySem MI Num Tx Fg Cal PySem.NumText Dr Ord
theorem f_str_n {n : Nat} (h : n < 10 ^ 60) : fStr [.int (n : Int)] = some (.str (S (dg n))) := by
  show (if ((n : Int)).natAbs.log2 < 1920 then some (PyData.str (Str.ofString (toString (n : Int)))) else none) = _
  have : ((n : Int)).natAbs.log2 < 200 := MI.log2_lt (Nat.lt_trans (show ((n : Int)).natAbs < 10 ^ 60 from h) (by decide)) (by decide)
  rw [if_pos (by omega), str_nat]
def lens (ls : List (List Nat)) : List Int := ls.map fun w => (w.length : Int)
/-- the longest -/
def lg (ls : List (List Nat)) : Int := maxI 0 (lens ls)
section
end
@[simp ↓] theorem gsat_ts (m : XA) (g : Ct) (Q : T → Ct → Prop) (E : Str → Option MI.D → Ct → Prop) : (xTs m g).sat Q E = (m g).sat (fun ts g1 => ts.length ≤ most ∧ Q (.tup ts) g1) E := by
  unfold xTs
  simp only [gsat_bind, gsat_ite_bad, gsat_ok]
end Ax
set_option Elab.async false
set_option linter.all false
set_option maxRecDepth 100000
set_option maxHeartbeats 4000000
namespace MI
open PySem
theorem seqT {a b : ST} {g : Ct} {p : PoT} (I : Ct → Prop) (h : (a g).sat ⟨I, p.bk, p.ct, p.rt, p.ex⟩) (h2 : ∀ g', I g' → (b g').sat p) : (tSeq a b g).sat p := by
  rw [tsat_seq]
  exact OutT.sat.mono h h2 (fun _ _ h => h) (fun _ h => h) (fun _ h => h) (fun _ _ _ h => h)
theorem ifT {t : XT} {a b : ST} {g : Ct} {p : PoT} (c : Prop) [Decidable c] (h : (t g).sat (fun k g1 => k = decide c ∧ g1 = g) (fun _ _ _ => False)) (ha : c → (a g).sat p) (hb : ¬ c → (b g).sat p) : (tIf t a b g).sat p := by
  rw [tsat_if]
  refine RG.sat.mono h (fun k g1 hk => ?_) (fun _ _ _ h => h.elim)
  obtain ⟨rfl, rfl⟩ := hk
  exact ⟨fun h => ha (of_decide_eq_true h), fun h => hb (of_decide_eq_false h)⟩
theorem seqT1 {a b : ST} {g : Ct} {p : PoT} (g' : Ct) (h : (a g).sat ⟨fun x => x = g', fun _ => False, fun _ => False, fun _ _ => False, fun _ _ _ => False⟩) (h2 : (b g').sat p) : (tSeq a b g).sat p :=
  seqT (fun x => x = g') (h.mono (fun _ h => h) (fun _ _ h => h.elim) (fun _ h => h.elim) (fun _ h => h.elim) (fun _ _ _ h => h.elim)) (by rintro _ rfl; exact h2)
end MI
set_option Elab.async false
set_option linter.all false
set_option maxRecDepth 100000
set_option maxHeartbeats 4000000
namespace Ax
open PySem MI Num Tx Fg Cal Dr Ord
theorem great_sat {fu : Nat} {s : T} (h : IsSrc s) {n : Int} (hn : 0 < n) (hb : n.natAbs < 2 ^ 200) {Q : T → Ct → Prop} {E : Str → Option MI.D → Ct → Prop} (q : ∀ r s', IsSrc s' → 0 ≤ r → r < n → Q (.dat (.int r)) [.t s', .un]) : (Pg.f_sr_great fu [(true, s), (false, .dat (.int n))]).sat Q E := by
  refine runT_sat rfl _ rfl ?_
  rw [Pg.s_sr_great]
  simp
  refine ⟨lim, ?_⟩
  obtain ⟨I, hI⟩ : ∃ I : Nat → Ct → Prop, ∀ k g, I k g ↔ ∃ (s : T) (f : Int) (c3 : Cl), g = [.b s, .t (.dat (.int n)), .t (.dat (.int f)), c3] ∧ Fr c3 ∧ IsSrc s ∧ 0 ≤ f ∧ f < 2 ^ (21 * k + 1) := ⟨_, fun _ _ => Iff.rfl⟩
  refine loopT_sat I ((hI _ _).mpr ⟨s, 0, .un, rfl, fr_un, h, by decide, by decide⟩) ?_ ?_
  · intro k d g hd hg
    obtain ⟨s1, f, c3, rfl, f3, h1, f0, f1⟩ := (hI _ _).mp hg
    simp at hd
    obtain ⟨kl, rfl⟩ := hd
    have fb : f.natAbs < 2 ^ 100 := by
      have p : 2 ^ (21 * k + 1) ≤ 2 ^ 100 := Nat.pow_le_pow_right (by decide) (by omega)
      have P : (2 : Int) ^ (21 * k + 1) = ((2 ^ (21 * k + 1) : Nat) : Int) := by rw [Int.natCast_pow]; rfl
      omega
    have m := fMul_ii (i := f) (j := 1000003) (okMul_bd 100 100 fb (by decide) (by decide) (by decide) (by decide))
    rw [Pg.b_sr_great_1]
    simp [f3, m]
    refine draw_sat h1 (by omega) (by decide) fun r s2 h2 r0 r1 => ?_
    simp
    refine (hI _ _).mpr ⟨s2, f * 1000003 + r, _, rfl, by simp, h2, by omega, ?_⟩
    have e : (2 : Int) ^ (21 * (k + 1) + 1) = 2 ^ (21 * k + 1) * 2097152 := by
      rw [show 21 * (k + 1) + 1 = (21 * k + 1) + 21 by omega, Int.pow_add]
      rfl
    rw [e]
    omega
  · intro g hg
    obtain ⟨s1, f, c3, rfl, f3, h1, f0, f1⟩ := (hI _ _).mp hg
    have m := fMod_pos (i := f) hn
    simp [m]
    exact q _ _ h1 (Int.emod_nonneg _ (by omega)) (Int.emod_lt_of_pos _ hn)
def un5 : Ct := [.un, .un, .un, .un, .un]
/-- the axis, or NoSpace -/
def Gives (F : Us → RF) (us : Us) (r : Option T) : Prop := (F us).sat (fun t bs => r = some t ∧ bs = un5) (fun c p bs => r = none ∧ c = "NoSpace" ∧ p = none ∧ bs = un5)
theorem Gives.eq {F : Us → RF} {us : Us} {r : Option T} (h : Gives F us r) : F us = match r with
    | some t => .ok t un5
    | none => .exc "NoSpace" none un5 := by
  unfold Gives at h
  cases e : F us with
  | ok t bs => rw [e] at h; obtain ⟨rfl, rfl⟩ := h; rfl
  | exc c p bs => rw [e] at h; obtain ⟨rfl, rfl, rfl, rfl⟩ := h; rfl
  | bad => rw [e] at h; exact h.elim
@[simp ↓] theorem fsat_exc (c : Str) (p : Option MI.D) (bs : Ct) (Q : T → Ct → Prop) (E : Str → Option MI.D → Ct → Prop) : (RF.exc c p bs).sat Q E = E c p bs := Eq.trans rfl rfl
end Ax
set_option Elab.async false
set_option linter.all false
set_option maxRecDepth 100000
set_option maxHeartbeats 4000000
namespace Num
open PySem MI
section
end
end Num
set_option Elab.async false
set_option linter.all false
set_option maxRecDepth 100000
set_option maxHeartbeats 4000000
namespace Ax
open PySem MI Num Tx Fg Dr Ord
def lbl (B e : Int) : List Nat := if e < 0 then 49 :: 47 :: dg (P B (-e)).toNat else dg (P B e).toNat
section
end
end Ax
set_option Elab.async false
set_option linter.all false
set_option maxRecDepth 100000
set_option maxHeartbeats 4000000
namespace Ax
open PySem MI Num Tx Fg Dr Ord
theorem rlt_lt {a b c : Rat} (h : a < b) (k : b < c) : a < c := by grind
theorem eq_of_sat {r : R MI.D} {v : MI.D} (h : r.sat (fun d => d = v) fun _ _ => False) : r = .ok v := by
  obtain ⟨a, e, rfl⟩ := h.eq
  exact e
def Fl (B : Int) (c : Rat) (n : Int) : Prop := (B : Rat) ^ n ≤ c ∧ c < (B : Rat) ^ (n + 1)
def Up (B : Int) (c : Rat) (n : Int) : Prop := (B : Rat) ^ (n - 1) < c ∧ c ≤ (B : Rat) ^ n
section
end
section
end
section
end
section
end
end Ax
set_option Elab.async false
set_option linter.all false
set_option maxRecDepth 100000
set_option maxHeartbeats 4000000
namespace K25
open PySem MI Num Tx Fg Tb Dw Bx Ord
def ltB : MI.D → MI.D → Bool
  | .tuple [.int a, .int b], .tuple [.int c, .int d] => decide (a * d < c * b)
  | _, _ => false
def endB (lo hi : MI.D) : Bool := numB lo && (numB hi && ltB lo hi)
theorem num_of {d : MI.D} (h : numB d = true) : ∃ t b : Int, d = .tuple [.int t, .int b] ∧ 0 < b ∧ b ≤ 60 ∧ t.natAbs < 1000000000000000000 ∧ Int.gcd t b = 1 := by
  unfold numB at h
  split at h
  · rename_i t b
    simp at h
    exact ⟨t, b, rfl, h.1, h.2.2.2, h.2.2.1, h.2.1⟩
  · cases h
theorem num_nm {r : Rat} (h : Told r) : numB (nm r) = true := by
  unfold nm numB
  have := r.den_pos
  have g : Int.gcd r.num (r.den : Int) = 1 := r.reduced
  have a := h.1
  have b := h.2
  simp [g]
  omega
theorem lt_nm (r s : Rat) : ltB (nm r) (nm s) = decide (r < s) := by
  unfold nm ltB
  have := Rat.lt_iff r s
  exact decide_eq_decide.mpr this.symm
section
variable {fu : Nat} (hfu : FU ≤ fu)
include hfu
theorem under_num {lo hi : MI.D} (h1 : numB lo = true) (h2 : numB hi = true) : Pg.f_p_under fu [lo, hi] = .ok (.bool (ltB lo hi)) := by
  obtain ⟨t, b, rfl, b0, b1, t1, _⟩ := num_of h1
  obtain ⟨t', b', rfl, b0', b1', t1', _⟩ := num_of h2
  have P : (2 : Nat) ^ 60 = 1152921504606846976 := by decide
  have m1 := fMul_ii (i := t) (j := b') (okMul_bd 60 60 (by omega) (by omega) (by decide) (by decide) (by decide))
  have m2 := fMul_ii (i := t') (j := b) (okMul_bd 60 60 (by omega) (by omega) (by decide) (by decide) (by decide))
  rw [Pg.f_p_under, Pg.s_p_under]
  simp [run_eq, m1, m2, ltB]
theorem are_ends {lo hi : MI.D} (h1 : Any lo) (h2 : Any hi) : f_p_are_ends fu [lo, hi] = .ok (.bool (endB lo hi)) := by
  have t1 := is_told hfu h1
  have t2 := is_told hfu h2
  rw [f_p_are_ends, s_p_are_ends]
  unfold endB
  cases e1 : numB lo with
  | false =>
    rw [e1] at t1
    simp [run_eq, t1]
  | true =>
    rw [e1] at t1
    cases e2 : numB hi with
    | false =>
      rw [e2] at t2
      simp [run_eq, t1, t2]
    | true =>
      rw [e2] at t2
      simp [run_eq, t1, t2, under_num hfu e1 e2]
inductive PD : MI.D → Prop
  | list {as : List MI.D} : PD (.list as)
  | two {a b : MI.D} : Any a → Any b → PD (.tuple [a, b])
end
def pB : MI.D → Bool
  | .tuple [a, b] => endB a b
  | _ => false
def riB : MI.D → MI.D → Bool
  | .tuple [_, b], .tuple [c, _] => ltB b c
  | _, _ => false
def okAt (ds : List MI.D) (k : Nat) (d : MI.D) : Prop := pB d = true ∧ (0 < k → ∀ e, ds[k - 1]? = some e → riB e d = true)
def okAll (ds : List MI.D) : Prop := ∀ k d, ds[k]? = some d → okAt ds k d
section
variable {fu : Nat} (hfu : FU ≤ fu)
include hfu
open Classical in
theorem are_pieces {ds : List MI.D} (hl : 2 ≤ ds.length ∧ ds.length ≤ 4) (hd : ∀ d ∈ ds, PD d) : f_p_are_pieces fu [.tuple ds] = .ok (.bool (decide (okAll ds))) := by
  have ln : fLen [.tuple ds] = some (.int ds.length) := rfl
  refine Ax.eq_of_sat (run_sat rfl [.dat (.tuple ds), .un] rfl ?_)
  rw [s_p_are_pieces]
  have c1 : (2 : Int) ≤ ds.length := by omega
  have c2 : (ds.length : Int) ≤ 4 := by omega
  obtain ⟨n, hn⟩ : ∃ n : Int, n = ds.length := ⟨_, rfl⟩
  rw [← hn] at ln c1 c2
  simp [ln, c1, c2]
  refine ⟨lim, ?_⟩
  refine loopF_sat (fun k g => (∀ j d, j < k → ds[j]? = some d → okAt ds j d) ∧ ∃ c, g = [.dat (.tuple ds), c]) ⟨fun j d h => by omega, _, rfl⟩ ?_ ?_
  · rintro k d g hd' ⟨hk, c, rfl⟩
    simp at hd'
    obtain ⟨kl, rfl⟩ := hd'
    have kl' : k < ds.length := by omega
    have gk : ds[k]? = some ds[k] := List.getElem?_eq_getElem kl'
    generalize hx : ds[k] = x at *
    have px := hd x (List.mem_of_getElem? gk)
    have ix : fIx (.tuple ds) (.int (k : Int)) = some x := fIx_t gk
    have no : ¬ okAt ds k x → ¬ okAll ds := fun h a => h (a k x gk)
    rw [b_p_are_pieces_1]
    cases px with
    | list =>
      simp [ix]
      intro a
      exact absurd (a k _ gk).1 (by simp [pB])
    | @two a b ha hb =>
      have ae := are_ends hfu ha hb
      have ln2 : fLen [.tuple [a, b]] = some (.int 2) := rfl
      have i0 : fIx (.tuple [a, b]) (.int 0) = some a := fIx_t0 _ _
      have i1 : fIx (.tuple [a, b]) (.int 1) = some b := fIx_t1 _ _ _
      have ty : isT "tuple" (.tuple [a, b]) = some true := rfl
      have pe : pB (.tuple [a, b]) = endB a b := rfl
      generalize hD : PyData.tuple [a, b] = D at *
      cases eb : endB a b with
      | false =>
        rw [eb] at ae pe
        simp [ix, ln2, i0, i1, ty, ae]
        intro q
        have := (q k D gk).1
        rw [pe] at this
        cases this
      | true =>
        rw [eb] at ae pe
        simp [ix, ln2, i0, i1, ty, ae]
        have an : numB a = true := by
          unfold endB at eb
          rw [Bool.and_eq_true] at eb
          exact eb.1
        have nxt : okAt ds k D → ∀ j d, j < k + 1 → ds[j]? = some d → okAt ds j d := fun h j d hj hd => by
          rcases Nat.lt_or_ge j k with z | z
          · exact hk j d z hd
          · rw [show j = k by omega, gk] at hd
            cases hd
            rw [show j = k by omega]
            exact h
        rcases Nat.eq_zero_or_pos k with rfl | kp
        · have := nxt ⟨pe, fun h => absurd h (by decide)⟩
          simpa using this
        · have kn : (0 : Int) < k := by omega
          obtain ⟨e, he⟩ : ∃ e, ds[k - 1]? = some e := ⟨_, List.getElem?_eq_getElem (by omega)⟩
          have oe := (hk (k - 1) e (by omega) he).1
          have ix2 : fIx (.tuple ds) (.int ((k : Int) - 1)) = some e := by
            rw [show (k : Int) - 1 = ((k - 1 : Nat) : Int) by omega]
            exact fIx_t he
          obtain ⟨ea, ebb, ee, hea, heb⟩ : ∃ ea ebb, e = .tuple [ea, ebb] ∧ Any ea ∧ Any ebb := by
            have := hd e (List.mem_of_getElem? he)
            cases this with
            | list => cases oe
            | two x y => exact ⟨_, _, rfl, x, y⟩
          have nb : numB ebb = true := by
            rw [ee] at oe
            have : endB ea ebb = true := oe
            unfold endB at this
            rw [Bool.and_eq_true, Bool.and_eq_true] at this
            exact this.2.1
          have u := under_num hfu nb an
          have ie1 : fIx e (.int 1) = some ebb := by rw [ee]; exact fIx_t1 _ _ _
          have rb : riB e D = ltB ebb a := by rw [ee, ← hD]; rfl
          simp [kn, ix2, ie1, i0, u, ix]
          refine ⟨fun _ => ⟨fun lt => ?_, fun nlt => ?_⟩, fun z => absurd z (by omega)⟩
          · intro q
            have := (q k D gk).2 kp e he
            rw [rb, lt] at this
            cases this
          · refine nxt ⟨pe, fun _ e' he' => ?_⟩
            rw [he] at he'
            cases he'
            rw [rb]
            exact nlt
  · rintro g ⟨hk, c, rfl⟩
    simp
    intro k d h
    exact hk k d (by
      have := (List.getElem?_eq_some_iff.mp h).1
      rw [rngL_length]
      omega) h
end
theorem strs_of : ∀ (ws : List (List Nat)), strsD (ws.map fun w => PyData.str (Tx.S w)) = some (ws.map Tx.S)
  | [] => rfl
  | w :: ws => by
    show (strsD (ws.map fun w => PyData.str (Tx.S w))).map _ = _
    rw [strs_of ws]
    rfl
theorem words_of : ∀ {ds : List MI.D}, (∀ d ∈ ds, wB d = true) → ∃ ws : List (List Nat), ds = ws.map fun w => PyData.str (Tx.S w)
  | [], _ => ⟨[], rfl⟩
  | d :: ds, h => by
    obtain ⟨ws, e⟩ := words_of (ds := ds) fun x hx => h x (List.mem_cons_of_mem _ hx)
    have hd := h d (List.mem_cons_self ..)
    cases d with
    | str z =>
      refine ⟨z.cps.toList :: ws, ?_⟩
      rw [List.map_cons, ← e, ← Tx.eta z]
    | _ => cases hd
/-- unlike ones -/
def unlike (ds : List MI.D) : Bool := match strsD ds with
  | some xs => decide (unl xs xs.length = xs.length)
  | none => false
section
variable {fu : Nat} (hfu : FU ≤ fu)
include hfu
open Classical in
theorem are_words {ds : List MI.D} (hl : ds.length ≤ 1000) (hd : ∀ d ∈ ds, Any d) : f_p_are_words fu [.tuple ds] = .ok (.bool (decide ((1 ≤ ds.length ∧ ds.length ≤ 60) ∧ (∀ d ∈ ds, wB d = true) ∧ unlike ds = true))) := by
  have ln : fLen [.tuple ds] = some (.int ds.length) := rfl
  refine Ax.eq_of_sat (run_sat rfl [.dat (.tuple ds), .un] rfl ?_)
  rw [s_p_are_words]
  obtain ⟨n, hn⟩ : ∃ n : Int, n = ds.length := ⟨_, rfl⟩
  rw [← hn] at ln
  by_cases c : 1 ≤ ds.length ∧ ds.length ≤ 60
  rotate_left
  · have e : decide ((1 ≤ ds.length ∧ ds.length ≤ 60) ∧ (∀ d ∈ ds, wB d = true) ∧ unlike ds = true) = false := decide_eq_false fun h => c h.1
    rw [e]
    by_cases c1 : (1 : Int) ≤ n
    · have c2 : ¬ n ≤ 60 := by omega
      simp [ln, c1, c2]
    · simp [ln, c1]
  have c1 : (1 : Int) ≤ n := by omega
  have c2 : n ≤ 60 := by omega
  simp [ln, c1, c2]
  refine loopF_sat (fun k g => (∀ j d, j < k → ds[j]? = some d → wB d = true) ∧ ∃ c, g = [.dat (.tuple ds), c]) ⟨fun j d h => by omega, _, rfl⟩ ?_ ?_
  · rintro k d g hd' ⟨hk, c, rfl⟩
    have iw := is_word hfu (hd d (List.mem_of_getElem? hd'))
    rw [b_p_are_words_1]
    cases e : wB d with
    | false =>
      rw [e] at iw
      simp [iw]
      intro _ _ h
      have := h d (List.mem_of_getElem? hd')
      rw [e] at this
      cases this
    | true =>
      rw [e] at iw
      simp [iw]
      intro j x hj hx
      rcases Nat.lt_or_ge j k with z | z
      · exact hk j x z hx
      · rw [show j = k by omega, hd'] at hx
        cases hx
        exact e
  · rintro g ⟨hk, c, rfl⟩
    have all : ∀ d ∈ ds, wB d = true := fun d h => by
      obtain ⟨j, hj⟩ := List.getElem?_of_mem h
      exact hk j d (List.getElem?_eq_some_iff.mp hj).1 hj
    obtain ⟨ws, rfl⟩ := words_of all
    have st := strs_of ws
    have fls : fLenSet (.tuple (ws.map fun w => PyData.str (Tx.S w))) = some (.int (unl (ws.map Tx.S) (ws.map Tx.S).length : Nat)) := by
      show lenSetD _ = _
      unfold lenSetD
      rw [st]
      dsimp only
      rw [if_pos (by simp; simp at c2 hn; omega)]
    have ul : unlike (ws.map fun w => PyData.str (Tx.S w)) = decide (unl (ws.map Tx.S) (ws.map Tx.S).length = (ws.map Tx.S).length) := by
      unfold unlike
      rw [st]
    have nl : n = ((ws.map Tx.S).length : Nat) := by simp at hn ⊢; omega
    generalize unl (ws.map Tx.S) (ws.map Tx.S).length = u at *
    generalize (ws.map Tx.S).length = m at *
    generalize (ws.map fun w => PyData.str (Tx.S w)) = ds at *
    simp [fls, ln, ul]
    have da : decide (∀ (d : MI.D), d ∈ ds → wB d = true) = true := decide_eq_true all
    have d1 : decide (1 ≤ ds.length) = true := decide_eq_true c.1
    have d2 : decide (ds.length ≤ 60) = true := decide_eq_true c.2
    rw [da, d1, d2, Bool.true_and, Bool.true_and]
    exact decide_eq_decide.mpr (by omega)
end
theorem d0 : dTup [] = some (PyData.tuple []) := rfl
def turnB : MI.D → Bool
  | .int i => decide (2 = i) || decide (10 = i)
  | _ => false
section
variable {fu : Nat} (hfu : FU ≤ fu)
include hfu
theorem not_tuple {d : MI.D} (h : isT "tuple" d = some false) : f_p_is_wish fu [d] = .ok (.bool false) := by
  rw [f_p_is_wish, s_p_is_wish]
  simp [run_eq, d0, h]
theorem wish_nil : f_p_is_wish fu [.tuple []] = .ok (.bool false) := by
  rw [f_p_is_wish, s_p_is_wish]
  simp [run_eq, d0]
theorem wish_first {a : MI.D} {r : List MI.D} (h : isT "str" a = some false) : f_p_is_wish fu [.tuple (a :: r)] = .ok (.bool false) := by
  have i0 : fIx (.tuple (a :: r)) (.int 0) = some a := fIx_t0 _ _
  rw [f_p_is_wish, s_p_is_wish]
  simp [run_eq, d0, i0, h]
theorem wish_1 (z : Str) : f_p_is_wish fu [.tuple [.str z]] = .ok (.bool (decide (z = "straight") || (decide (z = "days") || decide (z = "order")))) := by
  have i0 : fIx (.tuple [.str z]) (.int 0) = some (.str z) := fIx_t0 _ _
  have ln : fLen [.tuple [.str z]] = some (.int 1) := rfl
  have e : ∀ a : Str, decide (a = z) = decide (z = a) := fun a => decide_eq_decide.mpr ⟨Eq.symm, Eq.symm⟩
  have it : fInT false (.str z) (.tuple [.str "straight", .str "days", .str "order"]) = some (.bool (decide (z = "straight") || (decide (z = "days") || decide (z = "order")))) := by
    rw [← e, ← e, ← e]
    show some (PyData.bool (decide (("straight" : Str) = z) || (decide (("days" : Str) = z) || (decide (("order" : Str) = z) || false)))) = _
    rw [Bool.or_false]
  rw [f_p_is_wish, s_p_is_wish]
  generalize (decide (z = "straight") || (decide (z = "days") || decide (z = "order"))) = B at *
  simp [run_eq, d0, i0, ln, it]
theorem wish_3 (z : Str) {a b : MI.D} (ha : Any a) (hb : Any b) : f_p_is_wish fu [.tuple [.str z, a, b]] = .ok (.bool (decide (z = "straight") && endB a b)) := by
  have i0 : fIx (.tuple [.str z, a, b]) (.int 0) = some (.str z) := fIx_t0 _ _
  have i1 : fIx (.tuple [.str z, a, b]) (.int 1) = some a := fIx_t1 _ _ _
  have i2 : fIx (.tuple [.str z, a, b]) (.int 2) = some b := fIx_t (j := 2) rfl
  have ln : fLen [.tuple [.str z, a, b]] = some (.int 3) := rfl
  have ae := are_ends hfu ha hb
  rw [f_p_is_wish, s_p_is_wish]
  by_cases c : z = "straight"
  · simp [run_eq, d0, i0, i1, i2, ln, ae, c]
  · simp [run_eq, d0, i0, i1, i2, ln, c]
theorem wish_long {z : MI.D} {r : List MI.D} (h : isT "str" z = some true) (l : 3 ≤ r.length) : f_p_is_wish fu [.tuple (z :: r)] = .ok (.bool false) := by
  have i0 : fIx (.tuple (z :: r)) (.int 0) = some z := fIx_t0 _ _
  have ln : fLen [.tuple (z :: r)] = some (.int ((r.length : Int) + 1)) := by
    show some (PyData.int ((z :: r).length : Nat)) = _
    simp
  obtain ⟨n, hn⟩ : ∃ n : Int, n = (r.length : Int) + 1 := ⟨_, rfl⟩
  rw [← hn] at ln
  have n1 : ¬ n = 1 := by omega
  have n2 : ¬ n = 2 := by omega
  have n3 : ¬ n = 3 := by omega
  rw [f_p_is_wish, s_p_is_wish]
  simp [run_eq, d0, i0, h, ln, n1, n2, n3]
theorem wish_turns {a : MI.D} (h : ∀ p kvs, a ≠ .dict (p :: kvs)) : f_p_is_wish fu [.tuple [.str "turns", a]] = .ok (.bool (turnB a)) := by
  have i0 : fIx (.tuple [.str "turns", a]) (.int 0) = some (.str "turns") := fIx_t0 _ _
  have i1 : fIx (.tuple [.str "turns", a]) (.int 1) = some a := fIx_t1 _ _ _
  have ln : fLen [.tuple [.str "turns", a]] = some (.int 2) := rfl
  have iw := is_whole fu h
  have wt : wh a = false → turnB a = false := fun e => by
    cases a with
    | int i => cases e
    | _ => rfl
  have wi : wh a = true → fInTI a (.tuple [.int 2, .int 10]) = some (.bool (turnB a)) := fun e => by
    cases a with
    | int i =>
      show some (PyData.bool (decide (2 = i) || (decide (10 = i) || false))) = some (.bool (decide (2 = i) || decide (10 = i)))
      rw [Bool.or_false]
    | _ => cases e
  generalize turnB a = B at *
  generalize hD : PyData.tuple [.str "turns", a] = D at *
  have ty : isT "tuple" D = some true := by rw [← hD]; rfl
  have ne : fEqE D (.tuple []) = some (.bool false) := by rw [← hD]; rfl
  rw [f_p_is_wish, s_p_is_wish]
  cases e : wh a with
  | false =>
    rw [e] at iw
    simp [run_eq, d0, i0, i1, ln, iw, wt e, ty, ne]
  | true =>
    rw [e] at iw
    simp [run_eq, d0, i0, i1, ln, iw, wi e, ty, ne]
theorem wish_broken {a : MI.D} {b : Bool} (h : f_p_are_pieces fu [a] = .ok (.bool b)) : f_p_is_wish fu [.tuple [.str "broken", a]] = .ok (.bool b) := by
  have i0 : fIx (.tuple [.str "broken", a]) (.int 0) = some (.str "broken") := fIx_t0 _ _
  have i1 : fIx (.tuple [.str "broken", a]) (.int 1) = some a := fIx_t1 _ _ _
  have ln : fLen [.tuple [.str "broken", a]] = some (.int 2) := rfl
  have n1 : (("broken" : Str) = "turns") = False := eq_false (by decide)
  rw [f_p_is_wish, s_p_is_wish]
  simp [run_eq, d0, i0, i1, ln, h, n1]
theorem wish_order {a : MI.D} {b : Bool} (h : f_p_are_words fu [a] = .ok (.bool b)) : f_p_is_wish fu [.tuple [.str "order", a]] = .ok (.bool b) := by
  have i0 : fIx (.tuple [.str "order", a]) (.int 0) = some (.str "order") := fIx_t0 _ _
  have i1 : fIx (.tuple [.str "order", a]) (.int 1) = some a := fIx_t1 _ _ _
  have ln : fLen [.tuple [.str "order", a]] = some (.int 2) := rfl
  have n1 : (("order" : Str) = "turns") = False := eq_false (by decide)
  have n2 : (("order" : Str) = "broken") = False := eq_false (by decide)
  rw [f_p_is_wish, s_p_is_wish]
  simp [run_eq, d0, i0, i1, ln, h, n1, n2]
theorem wish_2no {z : Str} {a : MI.D} (h1 : z ≠ "turns") (h2 : z ≠ "broken") (h3 : z ≠ "order") : f_p_is_wish fu [.tuple [.str z, a]] = .ok (.bool false) := by
  have i0 : fIx (.tuple [.str z, a]) (.int 0) = some (.str z) := fIx_t0 _ _
  have ln : fLen [.tuple [.str z, a]] = some (.int 2) := rfl
  rw [f_p_is_wish, s_p_is_wish]
  simp [run_eq, d0, i0, ln, h1, h2, h3]
theorem pieces_no {d : MI.D} (h : isT "tuple" d = some false) : f_p_are_pieces fu [d] = .ok (.bool false) := by
  rw [f_p_are_pieces, s_p_are_pieces]
  simp [run_eq, d0, h]
theorem pieces_len {ds : List MI.D} (h : ¬ (2 ≤ ds.length ∧ ds.length ≤ 4)) : f_p_are_pieces fu [.tuple ds] = .ok (.bool false) := by
  have ln : fLen [.tuple ds] = some (.int ds.length) := rfl
  obtain ⟨n, hn⟩ : ∃ n : Int, n = ds.length := ⟨_, rfl⟩
  rw [← hn] at ln
  rw [f_p_are_pieces, s_p_are_pieces]
  by_cases c1 : (2 : Int) ≤ n
  · have c2 : ¬ n ≤ 4 := by omega
    simp [run_eq, d0, ln, c1, c2]
  · simp [run_eq, d0, ln, c1]
theorem words_no {d : MI.D} (h : isT "tuple" d = some false) : f_p_are_words fu [d] = .ok (.bool false) := by
  rw [f_p_are_words, s_p_are_words]
  simp [run_eq, d0, h]
end
end K25
set_option Elab.async false
set_option linter.all false
set_option maxRecDepth 100000
set_option maxHeartbeats 4000000
namespace Ax
open PySem MI Num Tx Fg Dr Ord
def pos (cs : List Rat) : List Rat := cs.filter fun c => decide (0 < c)
/-- from power to power -/
structure Rch (B : Int) (ps : List Rat) (lo hi : Int) : Prop where
  h : (ps = [] ∧ lo = 0 ∧ hi = 1) ∨ ∃ h0 : Int, ((∃ c ∈ ps, Fl B c lo) ∧ ∀ c ∈ ps, ∀ n, Fl B c n → lo ≤ n) ∧ ((∃ c ∈ ps, Up B c h0) ∧ ∀ c ∈ ps, ∀ n, Up B c n → n ≤ h0) ∧ hi = (if h0 < lo + 1 then lo + 1 else h0)
theorem Rch.one {B : Int} {ps : List Rat} {a b c d : Int} (x : Rch B ps a b) (y : Rch B ps c d) : a = c ∧ b = d := by
  rcases x.h with ⟨e, rfl, rfl⟩ | ⟨h0, ⟨⟨p, pm, pf⟩, pl⟩, ⟨⟨q, qm, qf⟩, ql⟩, rfl⟩
  · rcases y.h with ⟨_, rfl, rfl⟩ | ⟨_, ⟨⟨p, pm, _⟩, _⟩, _, _⟩
    · exact ⟨rfl, rfl⟩
    · rw [e] at pm; cases pm
  · rcases y.h with ⟨e, _, _⟩ | ⟨h1, ⟨⟨p', pm', pf'⟩, pl'⟩, ⟨⟨q', qm', qf'⟩, ql'⟩, rfl⟩
    · rw [e] at pm; cases pm
    · have e1 := pl _ pm' _ pf'
      have e2 := pl' _ pm _ pf
      have e3 := ql _ qm' _ qf'
      have e4 := ql' _ qm _ qf
      obtain rfl : a = c := by omega
      obtain rfl : h0 = h1 := by omega
      exact ⟨rfl, rfl⟩
section
end
def gp (lo hi m : Int) : Nat := (0 - (0 - hi) / m - lo / m).toNat
def lbs (B f m : Int) (g : Nat) : List (List Nat) := (List.range (g + 1)).map fun k : Nat => lbl B (f + m * (k : Int))
def tfit (w : Bool) (B L lo hi m : Int) : Bool := if w = true then decide (lg (lbs B (lo / m * m) m (gp lo hi m)) ≤ 10) && decide ((6 + 6 * lg (lbs B (lo / m * m) m (gp lo hi m))) * (gp lo hi m : Int) ≤ L) else true
def tin (L lo hi m : Int) : Prop := -200 ≤ lo / m * m ∧ lo / m * m + (gp lo hi m : Int) * m ≤ 200 ∧ 12 * (gp lo hi m : Int) ≤ L
instance (L lo hi m : Int) : Decidable (tin L lo hi m) := by unfold tin; infer_instance
def tok (w : Bool) (B L lo hi m : Int) : Bool := decide (tin L lo hi m) && tfit w B L lo hi m
section
end
end Ax
set_option Elab.async false
set_option linter.all false
set_option maxRecDepth 100000
set_option maxHeartbeats 4000000
namespace Ax
open PySem MI Num Tx Fg Dr Ord
theorem ifRT {t : XT} {a rest : ST} {g : Ct} {p : PoT} (c : Prop) [Decidable c] (h : (t g).sat (fun k g1 => k = decide c ∧ g1 = g) (fun _ _ _ => False)) (ha : c → (tSeq a rest g).sat p) (hb : ¬ c → (rest g).sat p) : (tSeq (tIf t a (tNop)) rest g).sat p := by
  rw [tsat_seq]
  refine ifT c h (fun hc => ?_) (fun hc => ?_)
  · have := ha hc
    rw [tsat_seq] at this
    exact this
  · rw [show tNop g = .nx g from rfl]
    exact hb hc
theorem frzT {i : Nat} {m : ST} {g : Ct} {p : PoT} (g' : Ct) (x : T) (h : g[i]? = some (.t x)) (e : (kil i g).set i (.t (.dat (fz x))) = g') (k : (m g').sat p) : (tFrz i m g).sat p := by
  unfold tFrz
  rw [h]
  dsimp only
  rw [e]
  exact k
theorem nil_eq {ds : List MI.D} (h : ∀ d ∈ ds, Sh 3 d) : fEq (.list ds) (.list []) = some (.bool (decide (ds = []))) := by
  rw [eq_sh (sh_list h) (sh_list (n := 0) fun d hd => by cases hd) (by decide) (by decide)]
  cases ds with
  | nil => simp [PyData.eqv, PyData.eqvAll]
  | cons p ps => simp [PyData.eqv, PyData.eqvAll]
section
end
section
end
end Ax
set_option Elab.async false
set_option linter.all false
set_option maxRecDepth 100000
set_option maxHeartbeats 4000000
namespace K25
open PySem MI Num Tx Fg Tb Dw Ord L2
theorem any_num {r : Rat} (h : Bx.Told r) : Any (nm r) := by
  have a := h.1
  have b := h.2
  have P : (1000000000000000000 : Nat) < 2 ^ 300 := by decide +kernel
  refine .tup (fun d hd => ?_) (by simp)
  simp at hd
  rcases hd with rfl | rfl
  · exact .int (by omega)
  · exact .int (by simp; omega)
theorem any2 {a b : MI.D} (ha : Cmp a) (hb : Cmp b) : Any (.tuple [a, b]) := .tup (fun d hd => by
  simp at hd
  rcases hd with rfl | rfl
  · exact ha
  · exact hb) (by simp)
section
variable {fu : Nat} (hfu : FU ≤ fu)
include hfu
theorem bent_number {s : T} (hs : Dr.IsSrc s) {r : Rat} (hr : Bx.Told r) {Q : T → Ct → Prop} {E : Str → Option MI.D → Ct → Prop} (q : ∀ d s', Dr.IsSrc s' → Any d → numB d = false → Q (.dat d) [.t s', .un]) : (f_law_bent_number fu [(true, s), (false, .dat (nm r))]).sat Q E := by
  have hn := hr.1
  have hd := hr.2
  have dp := r.den_pos
  obtain ⟨t, ht⟩ : ∃ t : Int, t = r.num := ⟨_, rfl⟩
  obtain ⟨b, hb⟩ : ∃ b : Int, b = (r.den : Int) := ⟨_, rfl⟩
  have e : nm r = .tuple [.int t, .int b] := by rw [ht, hb]; rfl
  rw [e]
  have P : (2 : Nat) ^ 70 < 2 ^ 300 := Nat.pow_lt_pow_right (by decide) (by decide)
  have P70 : (2 : Nat) ^ 70 = 1180591620717411303424 := by decide
  have tb : t.natAbs < 2 ^ 70 := by rw [ht]; omega
  have bb : b.natAbs < 2 ^ 70 := by rw [hb]; simp; omega
  have b0 : 0 < b := by omega
  have m1 := fMul_ii (i := t) (j := 2) (okMul_bd 70 4 tb (by decide) (by decide) (by decide) (by decide))
  have m2 := fMul_ii (i := b) (j := 2) (okMul_bd 70 4 bb (by decide) (by decide) (by decide) (by decide))
  have p18 : fPow (.int 10) (.int 18) = some (.int 1000000000000000000) := by rw [fPow_ii ⟨by decide, by decide, by decide⟩]; rfl
  obtain ⟨l15, hl⟩ : ∃ l15 : List MI.D, l15 = [.bool true, .none, .int t, .str "1", .list [.int t, .int b], .tuple [.int t, .int (-b)], .tuple [.int (t * 2), .int (b * 2)], .tuple [.int t, .int 0], .tuple [.int 1000000000000000000, .int 1], .tuple [.int (-1000000000000000000), .int 1], .tuple [.int 1, .int 61], .tuple [.bool true, .int 1], .tuple [.int t, .bool true], .tuple [.int t, .int b, .int 1], .tuple []] := ⟨_, rfl⟩
  have all : ∀ d ∈ l15, Any d ∧ numB d = false := by
    rw [hl]
    intro d hd
    have ci : ∀ {i : Int}, i.natAbs < 2 ^ 71 → Cmp (.int i) := fun h => .int (Nat.lt_of_lt_of_le h (Nat.pow_le_pow_right (by decide) (by decide)))
    have P71 : (2 : Nat) ^ 71 = 2361183241434822606848 := by decide
    have s1 : ("1" : Str) = Tx.S [49] := by decide +kernel
    simp at hd
    rcases hd with rfl | rfl | rfl | rfl | rfl | rfl | rfl | rfl | rfl | rfl | rfl | rfl | rfl | rfl | rfl
    · exact ⟨.cmp (.bool _), rfl⟩
    · exact ⟨.cmp .none, rfl⟩
    · exact ⟨.cmp (ci (by omega)), rfl⟩
    · exact ⟨.cmp (by rw [s1]; exact .str (by decide)), rfl⟩
    · exact ⟨.list, rfl⟩
    · refine ⟨any2 (ci (by omega)) (ci (by omega)), ?_⟩
      have : ¬ b < 0 := by omega
      simp [numB, this]
    · refine ⟨any2 (ci (by omega)) (ci (by omega)), ?_⟩
      have g : ¬ Int.gcd (t * 2) (b * 2) = 1 := by
        rw [Int.gcd_mul_right]
        intro h
        have := Nat.eq_one_of_mul_eq_one_left h
        simp at this
      simp [numB, g]
    · exact ⟨any2 (ci (by omega)) (ci (by decide)), by simp [numB]⟩
    · exact ⟨any2 (ci (by decide)) (ci (by decide)), by simp [numB]⟩
    · exact ⟨any2 (ci (by decide)) (ci (by decide)), by simp [numB]⟩
    · exact ⟨any2 (ci (by decide)) (ci (by decide)), by simp [numB]⟩
    · exact ⟨any2 (.bool _) (ci (by decide)), rfl⟩
    · exact ⟨any2 (ci (by omega)) (.bool _), rfl⟩
    · refine ⟨.tup (fun d hd => ?_) (by simp), rfl⟩
      simp at hd
      rcases hd with rfl | rfl | rfl
      · exact ci (by omega)
      · exact ci (by omega)
      · exact ci (by decide)
    · exact ⟨.tup (fun d hd => by cases hd) (by simp), rfl⟩
  have len : l15.length = 15 := by rw [hl]; rfl
  refine runT_sat rfl [.b s, .t (.dat (.tuple [.int t, .int b])), .un, .un, .un] rfl ?_
  rw [s_law_bent_number]
  refine seqT1 [.b s, .t (.dat (.tuple [.int t, .int b])), .t (.dat (.int t)), .t (.dat (.int b)), .un] (by simp) ?_
  refine seqT1 [.b s, .t (.dat (.tuple [.int t, .int b])), .t (.dat (.int t)), .t (.dat (.int b)), .t (.dat (.list (l15.take 8)))] (by simp [m1, m2, d0, hl]) ?_
  refine seqT1 [.b s, .t (.dat (.tuple [.int t, .int b])), .t (.dat (.int t)), .t (.dat (.int b)), .t (.dat (.list l15))] (by simp [p18, d0, hl]) ?_
  clear hl
  simp [-fIx_ln]
  refine Dr.draw_sat hs (by decide) (by decide) fun k s1 h1 k0 k1 => ?_
  simp [-fIx_ln]
  refine sat_pick k0 (by rw [len]; exact k1) fun d hd => ?_
  obtain ⟨a1, a2⟩ := all d hd
  exact q d s1 h1 a1 a2
theorem bent_ends {s : T} (hs : Dr.IsSrc s) {lo hi : Rat} (hl : Bx.Told lo) (hh : Bx.Told hi) (lt : lo < hi) {Q : T → Ct → Prop} {E : Str → Option MI.D → Ct → Prop} (q : ∀ a b s', Dr.IsSrc s' → Any a → Any b → endB a b = false → Q (.lst [.dat a, .dat b]) [.t s', .un, .un]) : (f_law_bent_ends fu [(true, s), (false, .dat (nm lo)), (false, .dat (nm hi))]).sat Q E := by
  have al := any_num hl
  have ah := any_num hh
  have nl := num_nm hl
  have nh := num_nm hh
  have e1 : endB (nm hi) (nm lo) = false := by
    unfold endB
    rw [lt_nm, nl, nh]
    simp
    exact Rat.not_lt.mpr (Rat.le_of_lt lt)
  have e2 : endB (nm lo) (nm lo) = false := by
    unfold endB
    rw [lt_nm, nl]
    simp
  have e3 : ∀ d, numB d = false → endB d (nm hi) = false := fun d h => by unfold endB; rw [h]; rfl
  have e4 : ∀ d, numB d = false → endB (nm lo) d = false := fun d h => by unfold endB; rw [h, Bool.false_and, Bool.and_false]
  have bl := fun {s} hs {Q} {E} q => bent_number hfu (s := s) hs hl (Q := Q) (E := E) q
  have bh := fun {s} hs {Q} {E} q => bent_number hfu (s := s) hs hh (Q := Q) (E := E) q
  generalize nm lo = L at *
  generalize nm hi = H at *
  refine runT_sat rfl [.b s, .t (.dat L), .t (.dat H), .un] rfl ?_
  rw [s_law_bent_ends]
  refine seqT (fun g => ∃ (s : T) (k : Int), Dr.IsSrc s ∧ g = [.b s, .t (.dat L), .t (.dat H), .t (.dat (.int k))]) ?_ ?_
  · simp
    refine Dr.draw_sat hs (by decide) (by decide) fun k s1 h1 k0 k1 => ?_
    simp
    exact h1
  rintro _ ⟨s1, k, h1, rfl⟩
  refine Ax.ifRT (k = 0) (by simp) (fun _ => ?_) fun _ => ?_
  · simp
    exact q _ _ _ h1 ah al e1
  refine Ax.ifRT (k = 1) (by simp) (fun _ => ?_) fun _ => ?_
  · simp
    exact q _ _ _ h1 al al e2
  refine Ax.ifRT (k = 2) (by simp) (fun _ => ?_) fun _ => ?_
  · simp
    refine bl h1 fun d s2 h2 ad nd => ?_
    simp
    exact q _ _ _ h2 ad ah (e3 d nd)
  · simp
    refine bh h1 fun d s2 h2 ad nd => ?_
    simp
    exact q _ _ _ h2 al ad (e4 d nd)
end
structure Ps (ps : List (Rat × Rat)) : Prop where
  l : 2 ≤ ps.length ∧ ps.length ≤ 4
  t : ∀ p ∈ ps, Bx.Told p.1 ∧ Bx.Told p.2 ∧ p.1 < p.2
  r : ∀ k p p', ps[k]? = some p → ps[k + 1]? = some p' → p.2 < p'.1
def pd (p : Rat × Rat) : MI.D := .tuple [nm p.1, nm p.2]
def pds (ps : List (Rat × Rat)) : List MI.D := ps.map pd
section
variable {fu : Nat} (hfu : FU ≤ fu) {ps : List (Rat × Rat)} (hp : Ps ps)
include hfu hp
theorem pds_pd : ∀ d ∈ pds ps, PD d ∧ pB d = true := fun d hd => by
  obtain ⟨p, hm, rfl⟩ := List.mem_map.mp hd
  obtain ⟨a, b, c⟩ := hp.t p hm
  refine ⟨.two (any_num a) (any_num b), ?_⟩
  show endB (nm p.1) (nm p.2) = true
  unfold endB
  rw [num_nm a, num_nm b, lt_nm]
  simpa using c
theorem pds_len : (pds ps).length = ps.length := List.length_map ..
theorem pds_ok : okAll (pds ps) := fun k d hd => by
  refine ⟨(pds_pd hfu hp d (List.mem_of_getElem? hd)).2, fun k0 e he => ?_⟩
  unfold pds at hd he
  rw [List.getElem?_map] at hd he
  obtain ⟨p, h1, rfl⟩ := Option.map_eq_some_iff.mp hd
  obtain ⟨p', h2, rfl⟩ := Option.map_eq_some_iff.mp he
  have := hp.r (k - 1) p' p h2 (by rw [show k - 1 + 1 = k by omega]; exact h1)
  show ltB (nm p'.2) (nm p.1) = true
  rw [lt_nm]
  simpa using this
open Classical in
theorem pieces_good : f_p_are_pieces fu [.tuple (pds ps)] = .ok (.bool true) := by
  rw [are_pieces hfu (by rw [pds_len hfu hp]; exact hp.l) fun d hd => (pds_pd hfu hp d hd).1]
  rw [decide_eq_true (pds_ok hfu hp)]
open Classical in
/-- one piece exchanged -/
theorem pieces_bent {k : Nat} (hk : k < ps.length) {x : MI.D} (px : PD x) (no : pB x = false) : f_p_are_pieces fu [.tuple ((pds ps).take k ++ [x] ++ (pds ps).drop (k + 1))] = .ok (.bool false) := by
  have lp := pds_len hfu hp
  have hl := hp.l
  have len : ((pds ps).take k ++ [x] ++ (pds ps).drop (k + 1)).length = ps.length := by
    simp
    omega
  rw [are_pieces hfu (by rw [len]; exact hl) fun d hd => ?_]
  · rw [decide_eq_false]
    intro h
    have := (h k x (by
      have tk : ((pds ps).take k).length = k := by rw [List.length_take]; omega
      rw [List.append_assoc, List.getElem?_append_right (by omega), tk, Nat.sub_self]
      rfl)).1
    rw [no] at this
    cases this
  · rcases List.mem_append.mp hd with hd | hd
    · rcases List.mem_append.mp hd with hd | hd
      · exact (pds_pd hfu hp d (List.mem_of_mem_take hd)).1
      · rw [List.mem_singleton.mp hd]; exact px
    · exact (pds_pd hfu hp d (List.mem_of_mem_drop hd)).1
theorem tup_to {ds : List MI.D} {k : Nat} (h : k < ds.length) : fSl (.tuple ds) none (some (k : Int)) = some (.tuple (ds.take k)) := by
  show (if HT.sIx ds.length 0 none = 0 ∧ HT.sIx ds.length ds.length (some (k : Int)) = ds.length then none else some (PyData.tuple (cutD ds none (some (k : Int))))) = _
  rw [HT.sIx_nat, if_neg (by omega), cut_to]
theorem tup_from {ds : List MI.D} {k : Nat} (h : 0 < k) (h2 : k ≤ ds.length) : fSl (.tuple ds) (some (k : Int)) none = some (.tuple (ds.drop k)) := by
  show (if HT.sIx ds.length 0 (some (k : Int)) = 0 ∧ HT.sIx ds.length ds.length none = ds.length then none else some (PyData.tuple (cutD ds (some (k : Int)) none))) = _
  rw [HT.sIx_nat, if_neg (by omega), cut_from]
open Classical in
theorem bent_pieces {s : T} (hs : Dr.IsSrc s) {Q : T → Ct → Prop} {E : Str → Option MI.D → Ct → Prop} (q : ∀ d s', Dr.IsSrc s' → f_p_are_pieces fu [d] = .ok (.bool false) → Q (.dat d) [.t s', .un]) : (f_law_bent_pieces fu [(true, s), (false, .dat (.tuple (pds ps)))]).sat Q E := by
  have hl := hp.l
  have lp := pds_len hfu hp
  have hk : ∀ k : Nat, k < ps.length → ∃ p, ps[k]? = some p ∧ (pds ps)[k]? = some (pd p) ∧ Bx.Told p.1 ∧ Bx.Told p.2 ∧ p.1 < p.2 := fun k h => by
    refine ⟨ps[k], List.getElem?_eq_getElem h, ?_, hp.t _ (List.getElem_mem h)⟩
    unfold pds
    rw [List.getElem?_map, List.getElem?_eq_getElem h]
    rfl
  have bent := fun {k} hk {x} px no => pieces_bent hfu hp (k := k) hk (x := x) px no
  have be := fun {s} hs {p : Rat × Rat} (h1 : Bx.Told p.1) (h2 : Bx.Told p.2) (h3 : p.1 < p.2) {Q} {E} q => bent_ends hfu (s := s) hs h1 h2 h3 (Q := Q) (E := E) q
  obtain ⟨p0, q0, g0, a0, b0, c0⟩ := hk 0 (by omega)
  obtain ⟨p1, q1, g1, a1, b1, c1⟩ := hk 1 (by omega)
  have r01 := hp.r 0 p0 p1 q0 q1
  -- the second piece begun where the first ends
  have two : f_p_are_pieces fu [.tuple ((pds ps).take 1 ++ [.tuple [nm p0.2, nm p1.2]] ++ (pds ps).drop 2)] = .ok (.bool false) := by
    have len : ((pds ps).take 1 ++ [PyData.tuple [nm p0.2, nm p1.2]] ++ (pds ps).drop 2).length = ps.length := by
      simp
      omega
    rw [are_pieces hfu (by rw [len]; exact hl) fun d hd => ?_]
    · have tk : ((pds ps).take 1) = [pd p0] := by
        cases e : pds ps with
        | nil => rw [e] at g0; cases g0
        | cons a r => rw [e] at g0; cases g0; rfl
      rw [tk]
      have : ¬ okAll ([pd p0] ++ [PyData.tuple [nm p0.2, nm p1.2]] ++ (pds ps).drop 2) := fun h => by
        have := (h 1 (.tuple [nm p0.2, nm p1.2]) rfl).2 (by decide) (pd p0) rfl
        have e : riB (pd p0) (.tuple [nm p0.2, nm p1.2]) = decide (p0.2 < p0.2) := lt_nm _ _
        rw [e] at this
        simp at this
      rw [decide_eq_false this]
    · rcases List.mem_append.mp hd with hd | hd
      · rcases List.mem_append.mp hd with hd | hd
        · exact (pds_pd hfu hp d (List.mem_of_mem_take hd)).1
        · rw [List.mem_singleton.mp hd]; exact .two (any_num b0) (any_num b1)
      · exact (pds_pd hfu hp d (List.mem_of_mem_drop hd)).1
  generalize hds : pds ps = ds at *
  have t1 : fSl (.tuple ds) none (some 1) = some (.tuple (ds.take 1)) := tup_to hfu hp (ds := ds) (k := 1) (by omega)
  have f2 : fSl (.tuple ds) (some 2) none = some (.tuple (ds.drop 2)) := tup_from hfu hp (ds := ds) (k := 2) (by decide) (by omega)
  have ln : fLen [.tuple ds] = some (.int (ds.length : Nat)) := rfl
  have M : most = 16777216 := rfl
  obtain ⟨n, hn⟩ : ∃ n : Int, n = (ds.length : Nat) := ⟨_, rfl⟩
  rw [← hn] at ln
  have i0 : fIx (.tuple ds) (.int 0) = some (pd p0) := fIx_t g0
  have i1 : fIx (.tuple ds) (.int 1) = some (pd p1) := fIx_t g1
  have j0 : fIx (pd p0) (.int 1) = some (nm p0.2) := fIx_t1 _ _ _
  have j1 : fIx (pd p1) (.int 1) = some (nm p1.2) := fIx_t1 _ _ _
  refine runT_sat rfl [.b s, .t (.dat (.tuple ds)), .un, .un, .un] rfl ?_
  rw [s_law_bent_pieces]
  refine seqT (fun g => ∃ (s : T) (k : Int), Dr.IsSrc s ∧ g = [.b s, .t (.dat (.tuple ds)), .t (.dat (.int k)), .un, .un]) ?_ ?_
  · simp
    refine Dr.draw_sat hs (by decide) (by decide) fun k s1 h1 k0 k1 => ?_
    simp
    exact h1
  rintro _ ⟨s1, w, h1, rfl⟩
  refine seqT (fun g => ∃ (s : T) (k : Nat), Dr.IsSrc s ∧ k < ds.length ∧ g = [.b s, .t (.dat (.tuple ds)), .t (.dat (.int w)), .t (.dat (.int k)), .un]) ?_ ?_
  · simp [ln]
    refine Dr.draw_sat h1 (by omega) (by omega) fun k s2 h2 k0 k1 => ?_
    simp
    exact ⟨s2, h2, k.toNat, by omega, rfl, by omega⟩
  rintro _ ⟨s2, k, h2, kl, rfl⟩
  obtain ⟨p, qp, gp, ap, bp, cp⟩ := hk k (by omega)
  have ik : fIx (.tuple ds) (.int (k : Int)) = some (pd p) := fIx_t gp
  have tk := tup_to hfu hp (ds := ds) (k := k) kl
  have fk := tup_from hfu hp (ds := ds) (k := k + 1) (by omega) (by omega)
  have bk := fun {x} px no => bent (k := k) (by omega) (x := x) px no
  have ek : ((k + 1 : Nat) : Int) = (k : Int) + 1 := by omega
  rw [ek] at fk
  refine Ax.ifRT (w = 0) (by simp) (fun _ => ?_) fun _ => ?_
  · have := pieces_len hfu (ds := ds.take 1) (by rw [List.length_take]; omega)
    simp [t1]
    exact q _ _ h2 this
  refine Ax.ifRT (w = 1) (by simp) (fun _ => ?_) fun _ => ?_
  · have := pieces_no hfu (d := .list ds) rfl
    simp
    exact q _ _ h2 this
  refine Ax.ifRT (w = 2) (by simp) (fun _ => ?_) fun _ => ?_
  · have a1 := add_tt (a := ds.take 1) (b := [.tuple [nm p0.2, nm p1.2]]) (by simp; omega)
    have a2 := add_tt (a := ds.take 1 ++ [.tuple [nm p0.2, nm p1.2]]) (b := ds.drop 2) (by simp; omega)
    simp [-List.append_assoc, t1, f2, i0, i1, j0, j1, a1, a2]
    exact q _ _ h2 two
  refine Ax.ifRT (w = 3) (by simp) (fun _ => ?_) fun _ => ?_
  · have lk : fListOf [pd p] = some (.list [nm p.1, nm p.2]) := rfl
    have a1 := add_tt (a := ds.take k) (b := [.list [nm p.1, nm p.2]]) (by simp; omega)
    have a2 := add_tt (a := ds.take k ++ [.list [nm p.1, nm p.2]]) (b := ds.drop (k + 1)) (by simp; omega)
    simp [-List.append_assoc, tk, fk, ik, lk, a1, a2]
    exact q _ _ h2 (bk .list rfl)
  refine Ax.ifRT (w = 4) (by simp) (fun _ => ?_) fun _ => ?_
  · have a1 := add_tt (a := ds) (b := ds) (by omega)
    have a2 := add_tt (a := ds ++ ds) (b := ds) (by simp; omega)
    have := pieces_len hfu (ds := ds ++ ds ++ ds) (by simp; omega)
    simp [-List.append_assoc, a1, a2]
    exact q _ _ h2 this
  · have u0 : fIx (pd p) (.int 0) = some (nm p.1) := fIx_t0 _ _
    have u1 : fIx (pd p) (.int 1) = some (nm p.2) := fIx_t1 _ _ _
    simp [-List.append_assoc, ik, u0, u1]
    refine be h2 ap bp cp fun a b s3 h3 aa ab no => ?_
    have a1 := add_tt (a := ds.take k) (b := [.tuple [a, b]]) (by simp; omega)
    have a2 := add_tt (a := ds.take k ++ [.tuple [a, b]]) (b := ds.drop (k + 1)) (by simp; omega)
    simp [-List.append_assoc, tk, fk, a1, a2]
    exact q _ _ h3 (bk (.two aa ab) no)
end
end K25
set_option Elab.async false
set_option linter.all false
set_option maxRecDepth 100000
set_option maxHeartbeats 4000000
namespace K25
open PySem MI Num Tx Fg Tb Dw Ord L2
theorem unl_dup (xs : List Str) (x : Str) (h : x ∈ xs) : unl (xs ++ [x]) (xs ++ [x]).length ≠ (xs ++ [x]).length := by
  have e : (xs ++ [x]).length = xs.length + 1 := by simp
  rw [e]
  have m : met (xs ++ [x]) xs.length ((xs ++ [x]).getD xs.length Str.empty) = true := by
    have g : (xs ++ [x]).getD xs.length Str.empty = x := by
      rw [List.getD_eq_getElem?_getD, List.getElem?_append_right (Nat.le_refl _), Nat.sub_self]
      rfl
    unfold met
    rw [g, List.take_append_of_le_length (Nat.le_refl _), List.take_length]
    exact List.any_eq_true.mpr ⟨x, h, by simp⟩
  unfold unl
  rw [if_pos m]
  have := unl_le (xs ++ [x]) xs.length
  omega
theorem unl_nodup {xs : List Str} (h : xs.Nodup) : ∀ i, i ≤ xs.length → unl xs i = i
  | 0, _ => rfl
  | i + 1, hi => by
    have ih := unl_nodup h i (by omega)
    have m : met xs i (xs.getD i Str.empty) = false := by
      have g : xs.getD i Str.empty = xs[i] := by rw [List.getD_eq_getElem?_getD, List.getElem?_eq_getElem (by omega)]; rfl
      unfold met
      rw [g, Bool.eq_false_iff]
      intro c
      obtain ⟨y, hy, e⟩ := List.any_eq_true.mp c
      have e : y = xs[i] := by simpa using e
      subst e
      obtain ⟨j, hj, ej⟩ := List.mem_iff_getElem.mp hy
      have hj' : j < i := by rw [List.length_take] at hj; omega
      rw [List.getElem_take] at ej
      exact List.pairwise_iff_getElem.mp h j i (by omega) (by omega) hj' ej
    unfold unl
    rw [if_neg (by rw [m]; decide), ih]
def o12 : List MI.D := [.str "", .str "abcdefghi", .str "A", .str "a b", .none, .bool true, .int 5, .tuple [.str "a"], .str "a1", .str "a-", .list [.str "a"], .dict []]
theorem o12_all : ∀ d ∈ o12, Any d ∧ wB d = false := by
  have e2 : ("abcdefghi" : Str) = Tx.S [97, 98, 99, 100, 101, 102, 103, 104, 105] := by decide +kernel
  have e3 : ("A" : Str) = Tx.S [65] := by decide +kernel
  have e4 : ("a b" : Str) = Tx.S [97, 32, 98] := by decide +kernel
  have e5 : ("a" : Str) = Tx.S [97] := by decide +kernel
  have e6 : ("a1" : Str) = Tx.S [97, 49] := by decide +kernel
  have e7 : ("a-" : Str) = Tx.S [97, 45] := by decide +kernel
  have e1 : ("" : Str) = Tx.S [] := by decide +kernel
  have wS : ∀ (z : Str) (w : List Nat), z = Tx.S w → wordB w = false → w.length ≤ 1000 → Any (.str z) ∧ wB (.str z) = false := fun z w e h l => by
    subst e
    exact ⟨.cmp (.str l), by show wordB (Tx.S w).cps.toList = false; rw [Tx.S_cps]; exact h⟩
  intro d hd
  unfold o12 at hd
  rcases List.mem_cons.mp hd with rfl | hd
  · exact wS _ _ e1 (by decide) (by decide)
  rcases List.mem_cons.mp hd with rfl | hd
  · exact wS _ _ e2 (by decide) (by decide)
  rcases List.mem_cons.mp hd with rfl | hd
  · exact wS _ _ e3 (by decide) (by decide)
  rcases List.mem_cons.mp hd with rfl | hd
  · exact wS _ _ e4 (by decide) (by decide)
  rcases List.mem_cons.mp hd with rfl | hd
  · exact ⟨.cmp .none, rfl⟩
  rcases List.mem_cons.mp hd with rfl | hd
  · exact ⟨.cmp (.bool _), rfl⟩
  rcases List.mem_cons.mp hd with rfl | hd
  · exact ⟨.cmp (.int (by decide +kernel)), rfl⟩
  rcases List.mem_cons.mp hd with rfl | hd
  · refine ⟨.tup (fun d hd => ?_) (by decide), rfl⟩
    rw [List.mem_singleton.mp hd, e5]
    exact .str (by decide)
  rcases List.mem_cons.mp hd with rfl | hd
  · exact wS _ _ e6 (by decide) (by decide)
  rcases List.mem_cons.mp hd with rfl | hd
  · exact wS _ _ e7 (by decide) (by decide)
  rcases List.mem_cons.mp hd with rfl | hd
  · exact ⟨.list, rfl⟩
  rw [List.mem_singleton.mp hd]
  exact ⟨.dict, rfl⟩
theorem o12_len : o12.length = 12 := rfl
structure Ws (ws : List (List Nat)) : Prop where
  l : 1 ≤ ws.length ∧ ws.length ≤ 60
  w : ∀ w ∈ ws, wordB w = true
  n : ws.Nodup
def wds (ws : List (List Nat)) : List MI.D := ws.map fun w => PyData.str (Tx.S w)
section
variable {fu : Nat} (hfu : FU ≤ fu)
include hfu
theorem words_len {ds : List MI.D} (h : ¬ (1 ≤ ds.length ∧ ds.length ≤ 60)) : f_p_are_words fu [.tuple ds] = .ok (.bool false) := by
  have ln : fLen [.tuple ds] = some (.int ds.length) := rfl
  obtain ⟨n, hn⟩ : ∃ n : Int, n = ds.length := ⟨_, rfl⟩
  rw [← hn] at ln
  rw [f_p_are_words, s_p_are_words]
  by_cases c1 : (1 : Int) ≤ n
  · have c2 : ¬ n ≤ 60 := by omega
    simp [run_eq, ln, c1, c2]
  · simp [run_eq, ln, c1]
variable {ws : List (List Nat)} (hw : Ws ws)
include hw
theorem wds_len : (wds ws).length = ws.length := List.length_map ..
theorem wds_any : ∀ d ∈ wds ws, Any d ∧ wB d = true := fun d hd => by
  obtain ⟨w, hm, rfl⟩ := List.mem_map.mp hd
  have b := hw.w w hm
  have l : w.length ≤ 8 := by
    unfold wordB at b
    rw [Bool.and_eq_true, Bool.and_eq_true, decide_eq_true_eq] at b
    exact b.2.1 |> fun h => by simpa using h
  exact ⟨.cmp (.str (by omega)), by show wordB (Tx.S w).cps.toList = true; rw [Tx.S_cps]; exact b⟩
open Classical in
theorem words_good : f_p_are_words fu [.tuple (wds ws)] = .ok (.bool true) := by
  have hl := hw.l
  have ll := wds_len hfu hw
  rw [are_words hfu (by rw [ll]; omega) fun d hd => (wds_any hfu hw d hd).1]
  have u : unlike (wds ws) = true := by
    unfold unlike wds
    rw [strs_of]
    dsimp only
    rw [decide_eq_true_eq]
    exact unl_nodup (List.pairwise_map.mpr (hw.n.imp fun {a b} h e => h (by simpa using e))) _ (Nat.le_refl _)
  rw [decide_eq_true ⟨by rw [ll]; exact hl, fun d hd => (wds_any hfu hw d hd).2, u⟩]
open Classical in
theorem words_dup {k : Nat} {w : List Nat} (hk : ws[k]? = some w) : f_p_are_words fu [.tuple (wds ws ++ [.str (Tx.S w)])] = .ok (.bool false) := by
  have hl := hw.l
  have ll := wds_len hfu hw
  have hm := List.mem_of_getElem? hk
  have md : PyData.str (Tx.S w) ∈ wds ws := List.mem_map.mpr ⟨w, hm, rfl⟩
  rw [are_words hfu (by simp; omega) fun d hd => ?_]
  · rw [decide_eq_false]
    rintro ⟨_, _, u⟩
    unfold unlike at u
    have e : wds ws ++ [PyData.str (Tx.S w)] = (ws ++ [w]).map fun w => PyData.str (Tx.S w) := by simp [wds]
    rw [e, strs_of] at u
    dsimp only at u
    rw [decide_eq_true_eq, List.map_append] at u
    exact unl_dup (ws.map Tx.S) (Tx.S w) (List.mem_map.mpr ⟨w, hm, rfl⟩) u
  · rcases List.mem_append.mp hd with hd | hd
    · exact (wds_any hfu hw d hd).1
    · rw [List.mem_singleton.mp hd]; exact (wds_any hfu hw _ md).1
open Classical in
theorem words_odd {k : Nat} (hk : k < ws.length) {x : MI.D} (ax : Any x) (no : wB x = false) : f_p_are_words fu [.tuple ((wds ws).take k ++ [x] ++ (wds ws).drop (k + 1))] = .ok (.bool false) := by
  have hl := hw.l
  have ll := wds_len hfu hw
  rw [are_words hfu (by simp; omega) fun d hd => ?_]
  · rw [decide_eq_false]
    rintro ⟨_, a, _⟩
    have := a x (by simp)
    rw [no] at this
    cases this
  · rcases List.mem_append.mp hd with hd | hd
    · rcases List.mem_append.mp hd with hd | hd
      · exact (wds_any hfu hw d (List.mem_of_mem_take hd)).1
      · rw [List.mem_singleton.mp hd]; exact ax
    · exact (wds_any hfu hw d (List.mem_of_mem_drop hd)).1
end
end K25
set_option Elab.async false
set_option linter.all false
set_option maxRecDepth 100000
set_option maxHeartbeats 400000
namespace K25
open PySem MI Num Tx Fg Tb Dw Ord L2
/-- sixty-one words -/
theorem many_words {n : Int} (hn : n = 61) {s : T} {d1 d2 d3 : MI.D} : (tSet 4 (xLc (xiP (mRng rng1 (mCons (mC (.int n)) (mNil)))) [6] (uV 6) (xYes) (xP (mBin fAddL (mBin fMulS (mC (.str "a")) (mBin fAddL (mC (.int 1)) (mBin fFdv (mVar 6) (mC (.int 26))))) (mBin fIx (mC (.str "abcdefghijklmnopqrstuvwxyz")) (mBin fMod (mVar 6) (mC (.int 26))))))) [.b s, .t (.dat d1), .t (.dat d2), .t (.dat d3), .un, .un, .un]).sat ⟨fun g => ∃ mw : List MI.D, mw.length = 61 ∧ g = [.b s, .t (.dat d1), .t (.dat d2), .t (.dat d3), .t (.lst (mw.map T.dat)), .un, .un], fun _ => False, fun _ => False, fun _ _ => False, fun _ _ _ => False⟩ := by
  have M : most = 16777216 := rfl
  have e5 : ("a" : Str) = Tx.S [97] := by decide +kernel
  have lm : lim62 n = true := lim (by omega)
  have nt : n.toNat = 61 := by omega
  have l26l : l26.length = 26 := rfl
  have el : ∀ k : Int, 0 ≤ k → k < 61 → ∃ z y, fMulS (.str "a") (.int (1 + k / 26)) = some (.str z) ∧ fIx (.str "abcdefghijklmnopqrstuvwxyz") (.int (k % 26)) = some (.str y) ∧ ∃ u, fAdd (.str z) (.str y) = some (.str u) := fun k k0 k1 => by
    have m := Fd.mulS_one (c := 97) (n := 1 + k / 26) (by omega) (by omega)
    rw [← e5] at m
    have kk : (k % 26).toNat < l26.length := by rw [l26l]; omega
    have ix := ix_s (a := l26) (by rw [M, l26l]; omega) (k := (k % 26).toNat) (List.getElem?_eq_getElem kk)
    rw [← l_26, show (((k % 26).toNat : Nat) : Int) = k % 26 by omega] at ix
    refine ⟨_, _, m, ix, _, add_ss (by
      rw [M]
      simp
      omega)⟩
  generalize ("a" : Str) = za at *
  generalize ("abcdefghijklmnopqrstuvwxyz" : Str) = zl at *
  have fd : ∀ k : Int, fFdv (.int k) (.int 26) = some (.int (k / 26)) := fun k => fFdv_pos (by decide) (by decide +kernel)
  have md : ∀ k : Int, fMod (.int k) (.int 26) = some (.int (k % 26)) := fun k => fMod_pos (by decide)
  simp [lm]
  refine loopCT_sat (fun k acc g => acc.length = k ∧ k ≤ 61 ∧ (∃ mw : List MI.D, acc = mw.map T.dat) ∧ g = [.b s, .t (.dat d1), .t (.dat d2), .t (.dat d3), .un, .un, .un]) ⟨rfl, by omega, ⟨[], rfl⟩, by simp [wipeG]⟩ ?_ ?_
  · rintro k d acc g hd ⟨al, k61, ⟨mw, rfl⟩, rfl⟩
    simp at hd
    obtain ⟨k1, rfl⟩ := hd
    obtain ⟨z, y, e1, e2, u, e3⟩ := el (k : Int) (by omega) (by omega)
    have f1 := fd (k : Int)
    have g1 := md (k : Int)
    simp [uV, f1, g1, e1, e2, e3, wipeG]
    have al' : mw.length = k := by simpa using al
    exact ⟨by omega, al', by omega, mw ++ [.str u], by simp⟩
  · rintro acc g ⟨al, k61, ⟨mw, rfl⟩, rfl⟩
    have al' : mw.length = 61 := by rw [rngL_length, nt] at al; simpa using al
    simp
    exact ⟨mw, al', rfl⟩
section
variable {fu : Nat} (hfu : FU ≤ fu) {ws : List (List Nat)} (hw : Ws ws)
include hfu hw
theorem bent_words {s : T} (hs : Dr.IsSrc s) {Q : T → Ct → Prop} {E : Str → Option MI.D → Ct → Prop} (q : ∀ d s', Dr.IsSrc s' → f_p_are_words fu [d] = .ok (.bool false) → Q (.dat d) [.t s', .un]) : (f_law_bent_words fu [(true, s), (false, .dat (.tuple (wds ws)))]).sat Q E := by
  have hl := hw.l
  have ll := wds_len hfu hw
  have dup := fun {k} {w} h => words_dup hfu hw (k := k) (w := w) h
  have odd := fun {k} h {x} a b => words_odd hfu hw (k := k) h (x := x) a b
  have wk : ∀ k : Nat, k < ws.length → ∃ w, ws[k]? = some w ∧ (wds ws)[k]? = some (.str (Tx.S w)) := fun k h => by
    refine ⟨ws[k], List.getElem?_eq_getElem h, ?_⟩
    unfold wds
    rw [List.getElem?_map, List.getElem?_eq_getElem h]
    rfl
  generalize hds : wds ws = ds at *
  have ln : fLen [.tuple ds] = some (.int (ds.length : Nat)) := rfl
  have M : most = 16777216 := rfl
  obtain ⟨n, hn⟩ : ∃ n : Int, n = (ds.length : Nat) := ⟨_, rfl⟩
  rw [← hn] at ln
  have all := o12_all
  have hl12 : o12 = [.str "", .str "abcdefghi", .str "A", .str "a b", .none, .bool true, .int 5, .tuple [.str "a"], .str "a1", .str "a-", .list [.str "a"], .dict []] := rfl
  have l12l := o12_len
  generalize o12 = l12 at *
  obtain ⟨n61, h61⟩ : ∃ n : Int, n = 61 := ⟨_, rfl⟩
  have mwo := fun (s2 : T) (d1 d2 d3 : MI.D) => many_words h61 (s := s2) (d1 := d1) (d2 := d2) (d3 := d3)
  refine runT_sat rfl [.b s, .t (.dat (.tuple ds)), .un, .un, .un, .un, .un] rfl ?_
  rw [s_law_bent_words]
  rw [← h61]
  clear h61
  generalize tSet 4 (xLc (xiP (mRng rng1 (mCons (mC (.int n61)) (mNil)))) [6] (uV 6) (xYes) (xP (mBin fAddL (mBin fMulS (mC (.str "a")) (mBin fAddL (mC (.int 1)) (mBin fFdv (mVar 6) (mC (.int 26))))) (mBin fIx (mC (.str "abcdefghijklmnopqrstuvwxyz")) (mBin fMod (mVar 6) (mC (.int 26))))))) = st4 at *
  refine seqT (fun g => ∃ (s : T) (k : Nat), Dr.IsSrc s ∧ k < ds.length ∧ g = [.b s, .t (.dat (.tuple ds)), .t (.dat (.int k)), .un, .un, .un, .un]) ?_ ?_
  · simp [ln]
    refine Dr.draw_sat hs (by omega) (by omega) fun k s2 h2 k0 k1 => ?_
    simp
    exact ⟨s2, h2, k.toNat, by omega, rfl, by omega⟩
  rintro _ ⟨s1, k, h1, kl, rfl⟩
  refine seqT (fun g => ∃ (s : T) (x : MI.D), Dr.IsSrc s ∧ (Any x ∧ wB x = false) ∧ g = [.b s, .t (.dat (.tuple ds)), .t (.dat (.int k)), .t (.dat x), .un, .un, .un]) ?_ ?_
  · simp [-fIx_ln, -Tx.l_empty, d0]
    rw [← hl12]
    refine Dr.draw_sat h1 (by decide) (by decide) fun r s2 h2 r0 r1 => ?_
    simp [-fIx_ln]
    refine sat_pick r0 (by rw [l12l]; exact r1) fun d hd => ?_
    exact ⟨h2, all d hd⟩
  rintro _ ⟨s2, x, h2, ⟨ax, nx⟩, rfl⟩
  clear all l12l hl12
  refine seqT (fun g => ∃ mw : List MI.D, mw.length = 61 ∧ g = [.b s2, .t (.dat (.tuple ds)), .t (.dat (.int k)), .t (.dat x), .t (.lst (mw.map T.dat)), .un, .un]) ?_ ?_
  · exact (mwo s2 _ _ _).mono (fun _ h => h) (fun _ _ h => h.elim) (fun _ h => h.elim) (fun _ h => h.elim) (fun _ _ _ h => h.elim)
  rintro _ ⟨mw, ml, rfl⟩
  refine Ax.frzT [.b s2, .t (.dat (.tuple ds)), .t (.dat (.int k)), .t (.dat x), .t (.dat (.list mw)), .un, .un] (.lst (mw.map T.dat)) rfl (by rw [fz_lst, fzL_dats]; rfl) ?_
  obtain ⟨w, gw, gd⟩ := wk k (by omega)
  obtain ⟨w0, gw0, gd0⟩ := wk 0 (by omega)
  have ik : fIx (.tuple ds) (.int (k : Int)) = some (.str (Tx.S w)) := fIx_t gd
  have i0 : fIx (.tuple ds) (.int 0) = some (.str (Tx.S w0)) := fIx_t gd0
  have tk : fSl (.tuple ds) none (some (k : Int)) = some (.tuple (ds.take k)) := by
    show (if HT.sIx ds.length 0 none = 0 ∧ HT.sIx ds.length ds.length (some (k : Int)) = ds.length then none else some (PyData.tuple (cutD ds none (some (k : Int))))) = _
    rw [HT.sIx_nat, if_neg (by omega), cut_to]
  have fk : fSl (.tuple ds) (some ((k : Int) + 1)) none = some (.tuple (ds.drop (k + 1))) := by
    have e : (k : Int) + 1 = ((k + 1 : Nat) : Int) := by omega
    rw [e]
    show (if HT.sIx ds.length 0 (some ((k + 1 : Nat) : Int)) = 0 ∧ HT.sIx ds.length ds.length none = ds.length then none else some (PyData.tuple (cutD ds (some ((k + 1 : Nat) : Int)) none))) = _
    rw [HT.sIx_nat, if_neg (by omega), cut_from]
  have a1 := add_tt (a := ds) (b := [.str (Tx.S w)]) (by simp; omega)
  have a2 := add_tt (a := ds.take k) (b := [x]) (by simp; omega)
  have a3 := add_tt (a := ds.take k ++ [x]) (b := ds.drop (k + 1)) (by simp; omega)
  have lo : fListOf [.tuple ds] = some (.list ds) := rfl
  have to : fTupOf [.list mw] = some (.tuple mw) := rfl
  obtain ⟨l6, hl6⟩ : ∃ l6 : List MI.D, l6 = [.tuple [], .tuple (ds ++ [.str (Tx.S w)]), .tuple (ds.take k ++ [x] ++ ds.drop (k + 1)), .list ds, .tuple mw, .str (Tx.S w0)] := ⟨_, rfl⟩
  have all : ∀ d ∈ l6, f_p_are_words fu [d] = .ok (.bool false) := by
    have b0 := words_len hfu (ds := []) (by simp)
    have b1 := dup gw
    have b2 := odd (k := k) (by omega) ax nx
    have b3 := words_no hfu (d := .list ds) rfl
    have b4 := words_len hfu (ds := mw) (by omega)
    have b5 := words_no hfu (d := .str (Tx.S w0)) (by rfl)
    rw [hl6]
    intro d hd
    rcases List.mem_cons.mp hd with rfl | hd
    · exact b0
    rcases List.mem_cons.mp hd with rfl | hd
    · exact b1
    rcases List.mem_cons.mp hd with rfl | hd
    · exact b2
    rcases List.mem_cons.mp hd with rfl | hd
    · exact b3
    rcases List.mem_cons.mp hd with rfl | hd
    · exact b4
    rw [List.mem_singleton.mp hd]
    exact b5
  have l6l : l6.length = 6 := by rw [hl6]; rfl
  refine seqT1 [.b s2, .t (.dat (.tuple ds)), .t (.dat (.int k)), .t (.dat x), .t (.dat (.list mw)), .t (.dat (.list (l6.take 3))), .un] (by simp [-List.append_assoc, d0, ik, tk, fk, a1, a2, a3, hl6]) ?_
  refine seqT1 [.b s2, .t (.dat (.tuple ds)), .t (.dat (.int k)), .t (.dat x), .t (.dat (.list mw)), .t (.dat (.list l6)), .un] (by simp [-List.append_assoc, i0, lo, to, hl6]) ?_
  clear hl6
  simp [-fIx_ln]
  refine Dr.draw_sat h2 (by decide) (by decide) fun r s3 h3 r0 r1 => ?_
  simp [-fIx_ln]
  refine sat_pick r0 (by rw [l6l]; exact r1) fun d hd => ?_
  exact q d s3 h3 (all d hd)
end
end K25
set_option Elab.async false
set_option linter.all false
set_option maxRecDepth 100000
set_option maxHeartbeats 400000
namespace K25
open PySem MI Num Tx Fg Tb Dw Ord L2
inductive Wi : MI.D → Prop
  | one {z : Str} : (z = "straight" ∨ z = "days" ∨ z = "order") → Wi (.tuple [.str z])
  | ends {lo hi : Rat} : Bx.Told lo → Bx.Told hi → lo < hi → Wi (.tuple [.str "straight", nm lo, nm hi])
  | turns {b : Int} : (b = 2 ∨ b = 10) → Wi (.tuple [.str "turns", .int b])
  | broken {ps : List (Rat × Rat)} : Ps ps → Wi (.tuple [.str "broken", .tuple (pds ps)])
  | order {ws : List (List Nat)} : Ws ws → Wi (.tuple [.str "order", .tuple (wds ws)])
def o8 : List MI.D := [.str "Straight", .str "turn", .str "", .none, .int 2, .tuple [.str "straight"], .list [.str "straight"], .dict []]
theorem o8_len : o8.length = 8 := rfl
theorem o8_of {o : MI.D} (h : o ∈ o8) : isT "str" o = some false ∨ ∃ z : Str, o = .str z ∧ z ≠ "straight" ∧ z ≠ "days" ∧ z ≠ "order" ∧ z ≠ "turns" ∧ z ≠ "broken" := by
  unfold o8 at h
  rcases List.mem_cons.mp h with rfl | h
  · exact .inr ⟨_, rfl, by decide, by decide, by decide, by decide, by decide⟩
  rcases List.mem_cons.mp h with rfl | h
  · exact .inr ⟨_, rfl, by decide, by decide, by decide, by decide, by decide⟩
  rcases List.mem_cons.mp h with rfl | h
  · exact .inr ⟨_, rfl, by decide, by decide, by decide, by decide, by decide⟩
  rcases List.mem_cons.mp h with rfl | h
  · exact .inl (by simp)
  rcases List.mem_cons.mp h with rfl | h
  · exact .inl (by simp)
  rcases List.mem_cons.mp h with rfl | h
  · exact .inl (by rfl)
  rcases List.mem_cons.mp h with rfl | h
  · exact .inl (by rfl)
  rw [List.mem_singleton.mp h]
  exact .inl (by rfl)
section
variable {fu : Nat} (hfu : FU ≤ fu)
include hfu
theorem wish_3no {z : Str} {a b : MI.D} (h : z ≠ "straight") : f_p_is_wish fu [.tuple [.str z, a, b]] = .ok (.bool false) := by
  have i0 : fIx (.tuple [.str z, a, b]) (.int 0) = some (.str z) := fIx_t0 _ _
  have ln : fLen [.tuple [.str z, a, b]] = some (.int 3) := rfl
  rw [f_p_is_wish, s_p_is_wish]
  simp [run_eq, d0, i0, ln, h]
theorem wish_good {d : MI.D} (h : Wi d) : f_p_is_wish fu [d] = .ok (.bool true) := by
  cases h with
  | one h =>
    rw [wish_1 hfu]
    rcases h with rfl | rfl | rfl <;> simp
  | @ends lo hi a b c =>
    rw [wish_3 hfu _ (any_num a) (any_num b)]
    unfold endB
    rw [num_nm a, num_nm b, lt_nm]
    simp [c]
  | @turns b h =>
    rw [wish_turns hfu (by intro p k e; cases e)]
    rcases h with rfl | rfl <;> rfl
  | broken h => exact wish_broken hfu (pieces_good hfu h)
  | order h => exact wish_order hfu (words_good hfu h)
theorem wish_odd {o : MI.D} (ho : o ∈ o8) {r : List MI.D} (hr : r.length ≤ 2) : f_p_is_wish fu [.tuple (o :: r)] = .ok (.bool false) := by
  rcases o8_of ho with h | ⟨z, rfl, z1, z2, z3, z4, z5⟩
  · exact wish_first hfu h
  · match r, hr with
    | [], _ =>
      rw [wish_1 hfu]
      simp [z1, z2, z3]
    | [a], _ => exact wish_2no hfu z4 z5 z3
    | [a, b], _ => exact wish_3no hfu z1
theorem wish_none {d : MI.D} (h : Wi d) : ∃ r, d = .tuple r ∧ f_p_is_wish fu [.tuple (r ++ [.none])] = .ok (.bool false) := by
  cases h with
  | @one z h =>
    refine ⟨_, rfl, ?_⟩
    rcases h with rfl | rfl | rfl
    · exact wish_2no hfu (by decide) (by decide) (by decide)
    · exact wish_2no hfu (by decide) (by decide) (by decide)
    · exact wish_order hfu (words_no hfu (d := .none) (by simp))
  | ends a b c => exact ⟨_, rfl, wish_long hfu (by simp) (by simp)⟩
  | turns h => exact ⟨_, rfl, wish_3no hfu (by decide)⟩
  | broken h => exact ⟨_, rfl, wish_3no hfu (by decide)⟩
  | order h => exact ⟨_, rfl, wish_3no hfu (by decide)⟩
theorem wish_shape {d : MI.D} (h : Wi d) : ∃ (z : Str) (r : List MI.D), d = .tuple (.str z :: r) ∧ r.length ≤ 2 := by
  cases h with
  | one h => exact ⟨_, _, rfl, by simp⟩
  | ends a b c => exact ⟨_, _, rfl, by simp⟩
  | turns h => exact ⟨_, _, rfl, by simp⟩
  | broken h => exact ⟨_, _, rfl, by simp⟩
  | order h => exact ⟨_, _, rfl, by simp⟩
end
end K25
set_option Elab.async false
set_option linter.all false
set_option maxRecDepth 100000
set_option maxHeartbeats 400000
namespace K25
open PySem MI Num Tx Fg Tb Dw Ord L2
def o10 : List MI.D := [.int 3, .int 1, .int 0, .int (-2), .bool true, .str "2", .none, .tuple [.int 2, .int 1], .int 100, .list [.int 10]]
theorem o10_len : o10.length = 10 := rfl
theorem o10_of : ∀ o ∈ o10, (∀ p kvs, o ≠ .dict (p :: kvs)) ∧ turnB o = false := by
  intro o h
  unfold o10 at h
  rcases List.mem_cons.mp h with rfl | h
  · exact ⟨fun p k e => (by cases e), rfl⟩
  rcases List.mem_cons.mp h with rfl | h
  · exact ⟨fun p k e => (by cases e), rfl⟩
  rcases List.mem_cons.mp h with rfl | h
  · exact ⟨fun p k e => (by cases e), rfl⟩
  rcases List.mem_cons.mp h with rfl | h
  · exact ⟨fun p k e => (by cases e), rfl⟩
  rcases List.mem_cons.mp h with rfl | h
  · exact ⟨fun p k e => (by cases e), rfl⟩
  rcases List.mem_cons.mp h with rfl | h
  · exact ⟨fun p k e => (by cases e), rfl⟩
  rcases List.mem_cons.mp h with rfl | h
  · exact ⟨fun p k e => (by cases e), rfl⟩
  rcases List.mem_cons.mp h with rfl | h
  · exact ⟨fun p k e => (by cases e), rfl⟩
  rcases List.mem_cons.mp h with rfl | h
  · exact ⟨fun p k e => (by cases e), rfl⟩
  rw [List.mem_singleton.mp h]
  exact ⟨fun p k e => (by cases e), rfl⟩
def o5 : List MI.D := [.tuple [.str "turns"], .tuple [.str "broken"], .tuple [], .tuple [.str "straight", .tuple [.int 0, .int 1]], .tuple [.str "days", .int 1, .int 2]]
theorem o5_len : o5.length = 5 := rfl
section
variable {fu : Nat} (hfu : FU ≤ fu)
include hfu
theorem o5_of : ∀ o ∈ o5, f_p_is_wish fu [o] = .ok (.bool false) := by
  intro o h
  unfold o5 at h
  rcases List.mem_cons.mp h with rfl | h
  · rw [wish_1 hfu]; rfl
  rcases List.mem_cons.mp h with rfl | h
  · rw [wish_1 hfu]; rfl
  rcases List.mem_cons.mp h with rfl | h
  · exact wish_nil hfu
  rcases List.mem_cons.mp h with rfl | h
  · exact wish_2no hfu (by decide) (by decide) (by decide)
  rw [List.mem_singleton.mp h]
  exact wish_3no hfu (by decide)
theorem law_bent {s : T} (hs : Dr.IsSrc s) {d : MI.D} (hd : Wi d) {Q : T → Ct → Prop} {E : Str → Option MI.D → Ct → Prop} (q : ∀ d s', Dr.IsSrc s' → f_p_is_wish fu [d] = .ok (.bool false) → Q (.dat d) [.t s', .un]) : (f_law_bent fu [(true, s), (false, .dat d)]).sat Q E := by
  obtain ⟨r0, er0, wn⟩ := wish_none hfu hd
  obtain ⟨z, r, er, rl⟩ := wish_shape hfu hd
  have wo := fun {o} ho => wish_odd hfu (o := o) ho rl
  have o8e : o8 = [.str "Straight", .str "turn", .str "", .none, .int 2, .tuple [.str "straight"], .list [.str "straight"], .dict []] := rfl
  have o8l := o8_len
  generalize o8 = l8 at *
  have o10e : o10 = [.int 3, .int 1, .int 0, .int (-2), .bool true, .str "2", .none, .tuple [.int 2, .int 1], .int 100, .list [.int 10]] := rfl
  have o10l := o10_len
  have t10 := o10_of
  generalize o10 = l10 at *
  have o5e : o5 = [.tuple [.str "turns"], .tuple [.str "broken"], .tuple [], .tuple [.str "straight", .tuple [.int 0, .int 1]], .tuple [.str "days", .int 1, .int 2]] := rfl
  have o5l := o5_len
  have t5 := o5_of hfu
  generalize o5 = l5 at *
  have ly : fListOf [d] = some (.list r0) := by rw [er0]; rfl
  have a1 : fAddT d (.tuple [.none]) = some (.tuple (r0 ++ [.none])) := by
    rw [er0]
    refine add_tt ?_
    have : r0.length ≤ 3 := by
      rw [er0] at er
      injection er with er
      rw [er]
      simp
      omega
    simp
    omega
  have s1 : fSl d (some 1) none = some (.tuple r) := by
    rw [er]
    show (if HT.sIx (PyData.str z :: r).length 0 (some ((1 : Nat) : Int)) = 0 ∧ HT.sIx (PyData.str z :: r).length (PyData.str z :: r).length none = (PyData.str z :: r).length then none else some (PyData.tuple (cutD (PyData.str z :: r) (some ((1 : Nat) : Int)) none))) = _
    rw [HT.sIx_nat, if_neg (by simp), cut_from]
    rfl
  have a2 := fun o : MI.D => add_tt (a := [o]) (b := r) (by simp; omega)
  refine runT_sat rfl [.b s, .t (.dat d), .un] rfl ?_
  rw [s_law_bent]
  refine seqT (fun g => ∃ (s : T) (k : Int), Dr.IsSrc s ∧ g = [.b s, .t (.dat d), .t (.dat (.int k))]) ?_ ?_
  · simp
    refine Dr.draw_sat hs (by decide) (by decide) fun k s1 h1 k0 k1 => ?_
    simp
    exact h1
  rintro _ ⟨s1', w, h1, rfl⟩
  refine Ax.ifRT (w = 0) (by simp) (fun _ => ?_) fun _ => ?_
  · simp [ly]
    exact q _ _ h1 (not_tuple hfu rfl)
  refine Ax.ifRT (w = 1) (by simp) (fun _ => ?_) fun _ => ?_
  · simp [a1, d0]
    exact q _ _ h1 wn
  refine Ax.ifRT (w = 2) (by simp) (fun _ => ?_) fun _ => ?_
  · simp [-fIx_ln, -Tx.l_empty, d0]
    rw [← o8e]
    refine Dr.draw_sat h1 (by decide) (by decide) fun r s2 h2 r0 r1 => ?_
    simp [-fIx_ln]
    refine sat_pick r0 (by rw [o8l]; exact r1) fun o ho => ?_
    simp [s1, a2]
    exact q _ _ h2 (wo ho)
  clear wn wo o8e o8l ly a1 s1 a2 er0 er
  have be := fun {s} hs {lo hi : Rat} a b c {Q} {E} q => bent_ends hfu (s := s) hs (lo := lo) (hi := hi) a b c (Q := Q) (E := E) q
  have bp := fun {ps} hp {s} hs {Q} {E} q => bent_pieces hfu (ps := ps) hp (s := s) hs (Q := Q) (E := E) q
  have bw := fun {ws} hw {s} hs {Q} {E} q => bent_words hfu (ws := ws) hw (s := s) hs (Q := Q) (E := E) q
  have nbt : (("broken" : Str) = "turns") = False := eq_false (by decide)
  have not_ : (("order" : Str) = "turns") = False := eq_false (by decide)
  have nob : (("order" : Str) = "broken") = False := eq_false (by decide)
  cases hd with
  | @ends lo hi a b c =>
    have al := any_num a
    have ah := any_num b
    have be := fun {s} hs {Q} {E} q => be (s := s) hs a b c (Q := Q) (E := E) q
    generalize nm lo = L at *
    generalize nm hi = H at *
    have ln : fLen [.tuple [.str "straight", L, H]] = some (.int 3) := rfl
    have i1 : fIx (.tuple [.str "straight", L, H]) (.int 1) = some L := fIx_t1 _ _ _
    have i2 : fIx (.tuple [.str "straight", L, H]) (.int 2) = some H := fIx_t (j := 2) rfl
    generalize hD : PyData.tuple [.str "straight", L, H] = D at *
    refine Ax.ifRT (True) (by simp [ln]) (fun _ => ?_) fun h => absurd trivial h
    simp [d0, i1, i2]
    refine be h1 fun a b s2 h2 aa ab no => ?_
    have ad := add_tt (a := [.str "straight"]) (b := [a, b]) (by simp)
    simp [ad]
    refine q _ _ h2 ?_
    rw [wish_3 hfu _ aa ab, no, Bool.and_false]
  | @turns b h =>
    have ln : fLen [.tuple [.str "turns", .int b]] = some (.int 2) := rfl
    have i0 : fIx (.tuple [.str "turns", .int b]) (.int 0) = some (.str "turns") := fIx_t0 _ _
    generalize hD : PyData.tuple [.str "turns", .int b] = D at *
    refine Ax.ifRT (False) (by simp [ln]) (fun h => h.elim) fun _ => ?_
    refine Ax.ifRT (True) (by simp [i0]) (fun _ => ?_) fun h => absurd trivial h
    simp [-fIx_ln, d0]
    rw [← o10e]
    refine Dr.draw_sat h1 (by decide) (by decide) fun r s2 h2 r0 r1 => ?_
    simp [-fIx_ln]
    refine sat_pick r0 (by rw [o10l]; exact r1) fun o ho => ?_
    obtain ⟨o1, o2⟩ := t10 o ho
    refine q _ _ h2 ?_
    rw [wish_turns hfu o1, o2]
  | @broken ps hp =>
    have bp := fun {s} hs {Q} {E} q => bp hp (s := s) hs (Q := Q) (E := E) q
    generalize PyData.tuple (pds ps) = P at *
    have ln : fLen [.tuple [.str "broken", P]] = some (.int 2) := rfl
    have i0 : fIx (.tuple [.str "broken", P]) (.int 0) = some (.str "broken") := fIx_t0 _ _
    have i1 : fIx (.tuple [.str "broken", P]) (.int 1) = some P := fIx_t1 _ _ _
    generalize hD : PyData.tuple [.str "broken", P] = D at *
    refine Ax.ifRT (False) (by simp [ln]) (fun h => h.elim) fun _ => ?_
    refine Ax.ifRT (False) (by simp [i0, nbt]) (fun h => h.elim) fun _ => ?_
    refine Ax.ifRT (True) (by simp [i0]) (fun _ => ?_) fun h => absurd trivial h
    simp [d0, i1]
    refine bp h1 fun d s2 h2 no => ?_
    simp
    exact q _ _ h2 (wish_broken hfu no)
  | @order ws hw =>
    have bw := fun {s} hs {Q} {E} q => bw hw (s := s) hs (Q := Q) (E := E) q
    generalize PyData.tuple (wds ws) = P at *
    have ln : fLen [.tuple [.str "order", P]] = some (.int 2) := rfl
    have i0 : fIx (.tuple [.str "order", P]) (.int 0) = some (.str "order") := fIx_t0 _ _
    have i1 : fIx (.tuple [.str "order", P]) (.int 1) = some P := fIx_t1 _ _ _
    generalize hD : PyData.tuple [.str "order", P] = D at *
    refine Ax.ifRT (False) (by simp [ln]) (fun h => h.elim) fun _ => ?_
    refine Ax.ifRT (False) (by simp [i0, not_]) (fun h => h.elim) fun _ => ?_
    refine Ax.ifRT (False) (by simp [i0, nob]) (fun h => h.elim) fun _ => ?_
    refine Ax.ifRT (True) (by simp [ln]) (fun _ => ?_) fun h => absurd trivial h
    simp [d0, i1]
    refine bw h1 fun d s2 h2 no => ?_
    simp
    exact q _ _ h2 (wish_order hfu no)
  | @one z hz =>
    have ln : fLen [.tuple [.str z]] = some (.int 1) := rfl
    have i0 : fIx (.tuple [.str z]) (.int 0) = some (.str z) := fIx_t0 _ _
    have z1 : (z = "turns") = False := eq_false (by rcases hz with rfl | rfl | rfl <;> decide)
    have z2 : (z = "broken") = False := eq_false (by rcases hz with rfl | rfl | rfl <;> decide)
    generalize hD : PyData.tuple [.str z] = D at *
    refine Ax.ifRT (False) (by simp [ln]) (fun h => h.elim) fun _ => ?_
    refine Ax.ifRT (False) (by simp [i0, z1]) (fun h => h.elim) fun _ => ?_
    refine Ax.ifRT (False) (by simp [i0, z2]) (fun h => h.elim) fun _ => ?_
    refine Ax.ifRT (False) (by simp [ln]) (fun h => h.elim) fun _ => ?_
    simp [-fIx_ln, d0]
    rw [← o5e]
    refine Dr.draw_sat h1 (by decide) (by decide) fun r s2 h2 r0 r1 => ?_
    simp [-fIx_ln]
    refine sat_pick r0 (by rw [o5l]; exact r1) fun o ho => ?_
    exact q _ _ h2 (t5 o ho)
end
end K25
set_option Elab.async false
set_option linter.all false
set_option maxRecDepth 100000
set_option maxHeartbeats 400000
namespace K25
open PySem MI Num Tx Fg Tb Dw Ord L2
def Ris (rs : List Rat) : Prop := ∀ k r r', rs[k]? = some r → rs[k + 1]? = some r' → r < r'
theorem div_lt {t t' b : Int} (hb : 0 < b) (h : t < t') : Rat.divInt t b < Rat.divInt t' b := by
  have bp : (0 : Rat) < (b : Rat) := Rat.intCast_pos.mpr hb
  rw [Rat.divInt_eq_div, Rat.divInt_eq_div, Rat.div_def, Rat.div_def]
  exact Rat.mul_lt_mul_of_pos_right (Rat.intCast_lt_intCast.mpr h) (Rat.inv_pos.mpr bp)
theorem ris_snoc {rs : List Rat} {x : Rat} (h : Ris rs) (l : ∀ r ∈ rs, r < x) : Ris (rs ++ [x]) := fun k r r' h1 h2 => by
  rcases Nat.lt_or_ge (k + 1) rs.length with c | c
  · rw [List.getElem?_append_left (by omega)] at h1
    rw [List.getElem?_append_left c] at h2
    exact h k r r' h1 h2
  · have kl : k + 1 < (rs ++ [x]).length := (List.getElem?_eq_some_iff.mp h2).1
    simp at kl
    have e : k + 1 = rs.length := by omega
    rw [List.getElem?_append_left (by omega)] at h1
    rw [e, List.getElem?_append_right (Nat.le_refl _), Nat.sub_self] at h2
    cases h2
    exact l r (List.mem_of_getElem? h1)
section
variable {fu : Nat} (hfu : FU ≤ fu)
include hfu
theorem law_ends {s : T} (hs : Dr.IsSrc s) {n : Nat} (hn : n ≤ 8) {Q : T → Ct → Prop} {E : Str → Option MI.D → Ct → Prop} (q : ∀ rs s', Dr.IsSrc s' → rs.length = n → (∀ r ∈ rs, Bx.Told r) → Ris rs → Q (.lst ((rs.map nm).map T.dat)) [.t s', .un]) : (f_law_ends fu [(true, s), (false, .dat (.int (n : Int)))]).sat Q E := by
  have p16 : fPow (.int 10) (.int 16) = some (.int 10000000000000000) := by rw [fPow_ii ⟨by decide, by decide, by decide⟩]; rfl
  have P200 : (2 : Nat) ^ 70 < 2 ^ 200 := Nat.pow_lt_pow_right (by decide) (by decide)
  have P70 : (2 : Nat) ^ 70 = 1180591620717411303424 := by decide
  obtain ⟨ni, hni⟩ : ∃ ni : Int, ni = (n : Int) := ⟨_, rfl⟩
  have nt : ni.toNat = n := by omega
  rw [← hni]
  refine runT_sat rfl [.b s, .t (.dat (.int ni)), .un, .un, .un, .un, .un] rfl ?_
  rw [s_law_ends]
  refine seqT (fun g => ∃ (s : T) (b : Int), Dr.IsSrc s ∧ 1 ≤ b ∧ b ≤ 60 ∧ g = [.b s, .t (.dat (.int ni)), .t (.dat (.int b)), .un, .un, .un, .un]) ?_ ?_
  · simp [-fIx_ln]
    refine Dr.draw_sat hs (by decide) (by decide) fun r s1 h1 r0 r1 => ?_
    simp [-fIx_ln]
    refine Dr.draw_sat h1 (by decide) (by decide) fun r2 s2 h2 r20 r21 => ?_
    simp [-fIx_ln]
    refine sat_pick r20 (by simpa using r21) fun d hd => ?_
    simp at hd
    rcases hd with rfl | rfl
    · exact ⟨s2, h2, 1, by decide, by decide, rfl, rfl⟩
    · exact ⟨s2, h2, 1 + r, by omega, by omega, rfl, rfl⟩
  rintro _ ⟨s1, b, h1, b0, b1, rfl⟩
  refine seqT (fun g => ∃ (s : T) (M : Int), Dr.IsSrc s ∧ 20 ≤ M ∧ M ≤ 10000000000000000 ∧ g = [.b s, .t (.dat (.int ni)), .t (.dat (.int b)), .t (.dat (.int M)), .un, .un, .un]) ?_ ?_
  · simp [-fIx_ln, p16]
    refine Dr.draw_sat h1 (by decide) (by decide) fun r s1 h1 r0 r1 => ?_
    simp [-fIx_ln]
    refine sat_pick r0 (by simpa using r1) fun d hd => ?_
    simp at hd
    rcases hd with rfl | rfl
    · exact ⟨s1, h1, 20, by decide, by decide, rfl, rfl⟩
    · exact ⟨s1, h1, 10000000000000000, by decide, by decide, rfl, rfl⟩
  rintro _ ⟨s2, M, h2, M0, M1, rfl⟩
  have m90 := fMul_ii (i := 90) (j := M) (okMul_bd 8 70 (by decide) (by omega) (by decide) (by decide) (by decide))
  have m45 := fMul_ii (i := 45) (j := M) (okMul_bd 8 70 (by decide) (by omega) (by decide) (by decide) (by decide))
  refine seqT (fun g => ∃ (s : T) (t : Int), Dr.IsSrc s ∧ -(45 * M) ≤ t ∧ t ≤ 45 * M ∧ g = [.b s, .t (.dat (.int ni)), .t (.dat (.int b)), .t (.dat (.int M)), .t (.dat (.int t)), .un, .un]) ?_ ?_
  · simp [m90, m45]
    refine Ax.great_sat h2 (by omega) (by omega) fun r s3 h3 r0 r1 => ?_
    simp [m45]
    exact ⟨s3, h3, r - 45 * M, by omega, by omega, rfl, rfl⟩
  rintro _ ⟨s3, t, h3, t0, t1, rfl⟩
  refine seqT1 [.b s3, .t (.dat (.int ni)), .t (.dat (.int b)), .t (.dat (.int M)), .t (.dat (.int t)), .t (.lst []), .un] (by simp) ?_
  simp
  refine ⟨lim, ?_⟩
  obtain ⟨I, hI⟩ : ∃ I : Nat → Ct → Prop, ∀ k g, I k g ↔ ∃ (rs : List Rat) (s : T) (t : Int) (c6 : Cl), g = [.b s, .t (.dat (.int ni)), .t (.dat (.int b)), .t (.dat (.int M)), .t (.dat (.int t)), .t (.lst ((rs.map nm).map T.dat)), c6] ∧ Fr c6 ∧ Dr.IsSrc s ∧ rs.length = k ∧ (-(45 * M) ≤ t ∧ t ≤ 45 * M + M * (k : Int)) ∧ (∀ r ∈ rs, Bx.Told r ∧ r < Rat.divInt t b) ∧ Ris rs := ⟨_, fun _ _ => Iff.rfl⟩
  refine loopT_sat I ((hI _ _).mpr ⟨[], s3, t, .un, rfl, fr_un, h3, rfl, ⟨t0, by simpa using t1⟩, by simp, fun k r r' h => by simp at h⟩) ?_ ?_
  · intro k d g hd hg
    obtain ⟨rs, s4, t, c6, rfl, f6, h4, rl, ⟨ta, tb⟩, ht, hr⟩ := (hI _ _).mp hg
    simp at hd
    obtain ⟨kl, rfl⟩ := hd
    have k8 : M * (k : Int) ≤ M * 8 := Int.mul_le_mul_of_nonneg_left (by omega) (by omega)
    obtain ⟨e, l1, l2⟩ := Dr.low_q fu hfu (top := t) (bottom := b) (by omega) (sm_of (a := 70) (by omega) (by decide))
    have told : Bx.Told (Rat.divInt t b) := ⟨by omega, by omega⟩
    have nxt : ∀ (s : T) (r : Int), Dr.IsSrc s → 0 ≤ r → r < M → I (k + 1) [.b s, .t (.dat (.int ni)), .t (.dat (.int b)), .t (.dat (.int M)), .t (.dat (.int (t + 1 + r))), .t (.lst ((rs.map nm).map T.dat ++ [.dat (nm (Rat.divInt t b))])), .t (.dat (.int (k : Int)))] := fun s r h r0 r1 => by
      have lt := div_lt (b := b) (by omega) (show t < t + 1 + r by omega)
      refine (hI _ _).mpr ⟨rs ++ [Rat.divInt t b], s, t + 1 + r, .t (.dat (.int (k : Int))), by simp, by simp, h, by simp [rl], ⟨by omega, ?_⟩, fun x hx => ?_, ris_snoc hr fun x hx => (ht x hx).2⟩
      · rw [Int.natCast_succ, Int.mul_add, Int.mul_one]
        omega
      · rcases List.mem_append.mp hx with hx | hx
        · exact ⟨(ht x hx).1, Ax.rlt_lt (ht x hx).2 lt⟩
        · rw [List.mem_singleton.mp hx]
          exact ⟨told, lt⟩
    have al : ((rs.map nm).map T.dat).length = k := by simp [rl]
    generalize (rs.map nm).map T.dat = acc at *
    rw [b_law_ends_1]
    simp [f6, e]
    refine ⟨by omega, ?_⟩
    refine Ax.great_sat h4 (by omega) (by omega) fun r s5 h5 r0 r1 => ?_
    simp
    exact nxt s5 r h5 r0 r1
  · intro g hg
    obtain ⟨rs, s4, t, c6, rfl, f6, h4, rl, _, ht, hr⟩ := (hI _ _).mp hg
    have := q rs s4 h4 (by rw [rl, rngL_length]; omega) (fun r h => (ht r h).1) hr
    simp
    simpa using this
end
end K25
set_option Elab.async false
set_option linter.all false
set_option maxRecDepth 100000
set_option maxHeartbeats 400000
namespace K25
open PySem MI Num Tx Fg Tb Dw Ord L2
theorem flat1 : ∀ cs : List Nat, (cs.map fun c => [c]).flatten = cs
  | [] => rfl
  | c :: cs => by rw [List.map_cons, List.flatten_cons, flat1 cs]; rfl
theorem sum1 : ∀ cs : List Nat, ((cs.map fun c => [c]).map List.length).sum = cs.length
  | [] => rfl
  | c :: cs => by
    rw [List.map_cons, List.map_cons, List.sum_cons, sum1 cs, List.length_cons]
    simp
    omega
section
variable {fu : Nat} (hfu : FU ≤ fu)
include hfu
theorem law_word {s : T} (hs : Dr.IsSrc s) {Q : T → Ct → Prop} {E : Str → Option MI.D → Ct → Prop} (q : ∀ w s', Dr.IsSrc s' → wordB w = true → Q (.dat (.str (Tx.S w))) [.t s']) : (f_law_word fu [(true, s)]).sat Q E := by
  have M : most = 16777216 := rfl
  have l26l : l26.length = 26 := rfl
  have pick : ∀ r : Int, 0 ≤ r → r < 26 → ∃ c, fIx (.str "abcdefghijklmnopqrstuvwxyz") (.int r) = some (.str (Tx.S [c])) ∧ ltr c = true := fun r r0 r1 => by
    have kk : r.toNat < l26.length := by rw [l26l]; omega
    have ix := ix_s (a := l26) (by rw [M, l26l]; omega) (k := r.toNat) (List.getElem?_eq_getElem kk)
    rw [← l_26, show ((r.toNat : Nat) : Int) = r by omega] at ix
    refine ⟨_, ix, ?_⟩
    have : ∀ c ∈ l26, ltr c = true := by decide
    exact this _ (List.getElem_mem kk)
  obtain ⟨zl, hzl⟩ : ∃ zl : Str, zl = "abcdefghijklmnopqrstuvwxyz" := ⟨_, rfl⟩
  rw [← hzl] at pick
  refine runT_sat rfl [.b s, .un, .un] rfl ?_
  rw [s_law_word, ← hzl]
  clear hzl
  refine seqT1 [.b s, .t (.dat (.str zl)), .un] (by simp) ?_
  simp
  refine Dr.draw_sat hs (by decide) (by decide) fun n s1 h1 n0 n1 => ?_
  simp
  refine ⟨lim, ?_⟩
  obtain ⟨I, hI⟩ : ∃ I : Nat → List T → Ct → Prop, ∀ k acc g, I k acc g ↔ ∃ (cs : List Nat) (s : T), Dr.IsSrc s ∧ cs.length = k ∧ k ≤ 8 ∧ (∀ c ∈ cs, ltr c = true) ∧ acc = (wsd (cs.map fun c => [c])).map T.dat ∧ g = [.b s, .t (.dat (.str zl)), .un] := ⟨_, fun _ _ _ => Iff.rfl⟩
  refine loopCT_sat I ((hI _ _ _).mpr ⟨[], s1, h1, rfl, by decide, by simp, rfl, rfl⟩) ?_ ?_
  · intro k d acc g hd hg
    obtain ⟨cs, s2, h2, cl, k8, cb, rfl, rfl⟩ := (hI _ _ _).mp hg
    simp at hd
    obtain ⟨k1, rfl⟩ := hd
    have nxt : ∀ (c : Nat) (s : T), ltr c = true → Dr.IsSrc s → I (k + 1) ((wsd (cs.map fun c => [c])).map T.dat ++ [.dat (.str (Tx.S [c]))]) [.b s, .t (.dat (.str zl)), .un] := fun c s hc h => (hI _ _ _).mpr ⟨cs ++ [c], s, h, by simp [cl], by omega, fun x hx => by
      rcases List.mem_append.mp hx with hx | hx
      · exact cb x hx
      · rw [List.mem_singleton.mp hx]; exact hc, by simp [wsd], rfl⟩
    have al : ((wsd (cs.map fun c => [c])).map T.dat).length = k := by simp [wsd, cl]
    generalize (wsd (cs.map fun c => [c])).map T.dat = acc at *
    simp [uV]
    refine Dr.draw_sat h2 (by decide) (by decide) fun r s3 h3 r0 r1 => ?_
    obtain ⟨c, ec, lc⟩ := pick r r0 r1
    simp [ec]
    exact ⟨by omega, nxt c s3 lc h3⟩
  · intro acc g hg
    obtain ⟨cs, s2, h2, cl, k8, cb, rfl, rfl⟩ := (hI _ _ _).mp hg
    have jo := Bx.join_ok (ws := cs.map fun c => [c]) (by rw [sum1]; omega) (by simp; omega)
    rw [flat1] at jo
    have fd := fzL_dats (wsd (cs.map fun c => [c]))
    have c1 : 1 ≤ cs.length := by rw [rngL_length] at cl; omega
    have wd : wordB cs = true := by
      unfold wordB
      have a : cs.all ltr = true := List.all_eq_true.mpr cb
      rw [a, decide_eq_true c1, decide_eq_true (show cs.length ≤ 8 by omega)]
      rfl
    have := q cs s2 h2 wd
    generalize (wsd (cs.map fun c => [c])) = ds at *
    simp [fd, jo]
    exact this
end
end K25
set_option Elab.async false
set_option linter.all false
set_option maxRecDepth 100000
set_option maxHeartbeats 400000
namespace K25
open PySem MI Num Tx Fg Tb Dw Ord L2
theorem pw_of {w : List Nat} (h : wordB w = true) : Pw w := by
  unfold wordB at h
  rw [Bool.and_eq_true, Bool.and_eq_true, decide_eq_true_eq, decide_eq_true_eq] at h
  obtain ⟨_, l, a⟩ := h
  refine ⟨by omega, fun c hc => ?_⟩
  have := List.all_eq_true.mp a c hc
  unfold ltr at this
  simp at this
  omega
section
variable {fu : Nat} (hfu : FU ≤ fu)
include hfu
theorem law_words {s : T} (hs : Dr.IsSrc s) {Q : T → Ct → Prop} {E : Str → Option MI.D → Ct → Prop} (q : ∀ ws s', Dr.IsSrc s' → Ws ws → Q (.dat (.tuple (wds ws))) [.t s']) : (f_law_words fu [(true, s)]).sat Q E := by
  refine runT_sat rfl [.b s, .un, .un, .un] rfl ?_
  rw [s_law_words]
  refine seqT1 [.b s, .t (.lst []), .un, .un] (by simp) ?_
  obtain ⟨J, hJ⟩ : ∃ J : Ct → Prop, ∀ g, J g ↔ ∃ (ws : List (List Nat)) (s : T) (c2 c3 : Cl), Dr.IsSrc s ∧ Ws ws ∧ g = [.b s, .t (.lst ((wsd ws).map T.dat)), c2, c3] ∧ Fr c2 ∧ Fr c3 := ⟨_, fun _ => Iff.rfl⟩
  refine seqT J ?_ (fun g hg => ?_)
  · simp
    refine Dr.draw_sat hs (by decide) (by decide) fun n s1 h1 n0 n1 => ?_
    simp
    refine ⟨lim, ?_⟩
    obtain ⟨I, hI⟩ : ∃ I : Nat → Ct → Prop, ∀ k g, I k g ↔ ∃ (ws : List (List Nat)) (s : T) (c2 c3 : Cl), Dr.IsSrc s ∧ ws.length ≤ k ∧ k ≤ 60 ∧ (0 < k → 1 ≤ ws.length) ∧ (∀ w ∈ ws, wordB w = true) ∧ ws.Nodup ∧ g = [.b s, .t (.lst ((wsd ws).map T.dat)), c2, c3] ∧ Fr c2 ∧ Fr c3 := ⟨_, fun _ _ => Iff.rfl⟩
    refine loopT_sat I ((hI _ _).mpr ⟨[], s1, .un, .un, h1, by simp, by decide, fun h => absurd h (by decide), by simp, List.Pairwise.nil, rfl, fr_un, fr_un⟩) ?_ ?_
    · intro k d g hd hg
      obtain ⟨ws, s2, c2, c3, h2, wl, k60, k1, ww, nd, rfl, f2, f3⟩ := (hI _ _).mp hg
      simp at hd
      obtain ⟨kn, rfl⟩ := hd
      rw [b_law_words_1]
      simp [f2, f3]
      refine law_word hfu h2 fun w s3 h3 hw => ?_
      have iw := in_ws (ws := ws) (w := w) (fun x hx => pw_of (ww x hx)) (pw_of hw) true
      have fd := fzL_dats (wsd ws)
      have al : ((wsd ws).map T.dat).length = ws.length := by simp [wsd]
      have a : w ∈ ws → I (k + 1) [.b s3, .t (.lst ((wsd ws).map T.dat)), .t (.dat (.int (k : Int))), .t (.dat (.str (Tx.S w)))] := fun h => (hI _ _).mpr ⟨ws, s3, _, _, h3, by omega, by omega, fun _ => by
        have := List.length_pos_of_mem h
        omega, ww, nd, rfl, by simp, by simp⟩
      have b : w ∉ ws → I (k + 1) [.b s3, .t (.lst ((wsd ws).map T.dat ++ [.dat (.str (Tx.S w))])), .t (.dat (.int (k : Int))), .t (.dat (.str (Tx.S w)))] := fun h => (hI _ _).mpr ⟨ws ++ [w], s3, .t (.dat (.int (k : Int))), .t (.dat (.str (Tx.S w))), h3, by simp; omega, by omega, fun _ => by simp, fun x hx => by
        rcases List.mem_append.mp hx with hx | hx
        · exact ww x hx
        · rw [List.mem_singleton.mp hx]; exact hw, List.nodup_append.mpr ⟨nd, by simp, fun x hx y hy e => by
          rw [List.mem_singleton.mp hy] at e
          exact h (e ▸ hx)⟩, by simp [wsd], by simp, by simp⟩
      generalize (wsd ws).map T.dat = acc at *
      generalize wsd ws = wd at *
      simp [fd, iw, f2, f3]
      exact ⟨fun h => ⟨by omega, b h⟩, fun h => a h⟩
    · intro g hg
      obtain ⟨ws, s2, c2, c3, h2, wl, k60, k1, ww, nd, rfl, f2, f3⟩ := (hI _ _).mp hg
      rw [rngL_length] at wl k60 k1
      exact (hJ _).mpr ⟨ws, s2, c2, c3, h2, ⟨⟨k1 (by omega), by omega⟩, ww, nd⟩, rfl, f2, f3⟩
  · obtain ⟨ws, s2, c2, c3, h2, hw, rfl, f2, f3⟩ := (hJ _).mp hg
    have to : fTupOf [.list (wsd ws)] = some (.tuple (wds ws)) := rfl
    refine Ax.frzT [.b s2, .t (.dat (.list (wsd ws))), c2, c3] (.lst ((wsd ws).map T.dat)) rfl (by rw [fz_lst, fzL_dats]; simp [f2, f3]) ?_
    simp [to]
    exact q ws s2 h2 hw
end
end K25
set_option Elab.async false
set_option linter.all false
set_option maxRecDepth 100000
set_option maxHeartbeats 400000
namespace K25
open PySem MI Num Tx Fg Tb Dw Ord L2
section
variable {fu : Nat} (hfu : FU ≤ fu)
include hfu
theorem law_good {s : T} (hs : Dr.IsSrc s) {Q : T → Ct → Prop} {E : Str → Option MI.D → Ct → Prop} (q : ∀ t d s', Dr.IsSrc s' → fz t = d → Wi d → Q t [.t s']) : (f_law_good fu [(true, s)]).sat Q E := by
  have le := fun {s} hs {n} hn {Q} {E} q => law_ends hfu (s := s) hs (n := n) hn (Q := Q) (E := E) q
  have lw := fun {s} hs {Q} {E} q => law_words hfu (s := s) hs (Q := Q) (E := E) q
  have w3 : ∀ d ∈ ([.str "straight", .str "days", .str "order"] : List MI.D), Wi (.tuple [d]) := by
    intro d hd
    rcases List.mem_cons.mp hd with rfl | hd
    · exact .one (.inl rfl)
    rcases List.mem_cons.mp hd with rfl | hd
    · exact .one (.inr (.inl rfl))
    rw [List.mem_singleton.mp hd]
    exact .one (.inr (.inr rfl))
  refine runT_sat rfl [.b s, .un, .un, .un, .un, .un] rfl ?_
  rw [s_law_good]
  refine seqT (fun g => ∃ (s : T) (k : Int), Dr.IsSrc s ∧ g = [.b s, .t (.dat (.int k)), .un, .un, .un, .un]) ?_ ?_
  · simp
    refine Dr.draw_sat hs (by decide) (by decide) fun k s1 h1 k0 k1 => ?_
    simp
    exact h1
  rintro _ ⟨s1, k, h1, rfl⟩
  refine Ax.ifRT (k = 0) (by simp) (fun _ => ?_) fun _ => ?_
  · simp [-fIx_ln]
    refine Dr.draw_sat h1 (by decide) (by decide) fun r s2 h2 r0 r1 => ?_
    simp [-fIx_ln]
    refine sat_pick r0 (by simpa using r1) fun d hd => ?_
    exact q _ _ _ h2 rfl (w3 d hd)
  refine Ax.ifRT (k < 3) (by simp) (fun _ => ?_) fun _ => ?_
  · have l2 := fun {s} hs {Q} {E} q => le (s := s) hs (n := 2) (by decide) (Q := Q) (E := E) q
    simp
    refine l2 h1 fun rs s2 h2 rl ht hr => ?_
    match rs, rl with
    | [a, b], _ =>
      have w : Wi (.tuple [.str "straight", nm a, nm b]) := .ends (ht a (by simp)) (ht b (by simp)) (hr 0 a b rfl rfl)
      have z := q (.dat (.tuple [.str "straight", nm a, nm b])) _ _ h2 rfl w
      simp
      exact z
  refine Ax.ifRT (k = 3) (by simp) (fun _ => ?_) fun _ => ?_
  · simp [-fIx_ln]
    refine Dr.draw_sat h1 (by decide) (by decide) fun r s2 h2 r0 r1 => ?_
    simp [-fIx_ln]
    refine sat_pick r0 (by simpa using r1) fun d hd => ?_
    have w : Wi (.tuple [.str "turns", d]) := by
      simp at hd
      rcases hd with rfl | rfl
      · exact .turns (.inl rfl)
      · exact .turns (.inr rfl)
    exact q _ _ _ h2 rfl w
  refine Ax.ifRT (k < 6) (by simp) (fun _ => ?_) fun _ => ?_
  · have l4 := fun {s} hs {Q} {E} q => le (s := s) hs (n := 4) (by decide) (Q := Q) (E := E) q
    have l6 := fun {s} hs {Q} {E} q => le (s := s) hs (n := 6) (by decide) (Q := Q) (E := E) q
    have l8 := fun {s} hs {Q} {E} q => le (s := s) hs (n := 8) (by decide) (Q := Q) (E := E) q
    have g4 : rng3 [.int 0, .int 4, .int 2] = some [.int 0, .int 2] := by rfl
    have g6 : rng3 [.int 0, .int 6, .int 2] = some [.int 0, .int 2, .int 4] := by rfl
    have g8 : rng3 [.int 0, .int 8, .int 2] = some [.int 0, .int 2, .int 4, .int 6] := by rfl
    simp
    refine Dr.draw_sat h1 (by decide) (by decide) fun r s2 h2 r0 r1 => ?_
    rcases (show r = 0 ∨ r = 1 ∨ r = 2 by omega) with rfl | rfl | rfl
    · simp
      refine ⟨by decide +kernel, l4 h2 fun rs s3 h3 rl ht hr => ?_⟩
      match rs, rl with
      | [x0, x1, x2, x3], _ =>
        have P : Ps [(x0, x1), (x2, x3)] := ⟨by simp, fun p hp => by
          simp at hp
          rcases hp with rfl | rfl
          · exact ⟨ht x0 (by simp), ht x1 (by simp), hr 0 x0 x1 rfl rfl⟩
          · exact ⟨ht x2 (by simp), ht x3 (by simp), hr 2 x2 x3 rfl rfl⟩, fun k p p' h1 h2 => by
          rcases k with _ | k
          · cases h1; cases h2; exact hr 1 x1 x2 rfl rfl
          · simp at h2⟩
        have z := q (.dat (.tuple [.str "broken", .tuple (pds [(x0, x1), (x2, x3)])])) _ _ h3 rfl (.broken P)
        have pe : pds [(x0, x1), (x2, x3)] = [.tuple [nm x0, nm x1], .tuple [nm x2, nm x3]] := rfl
        rw [pe] at z
        simp [g4, loopC, vN, mYes, wipeV]
        exact z
    · simp
      refine ⟨by decide +kernel, l6 h2 fun rs s3 h3 rl ht hr => ?_⟩
      match rs, rl with
      | [x0, x1, x2, x3, x4, x5], _ =>
        have P : Ps [(x0, x1), (x2, x3), (x4, x5)] := ⟨by simp, fun p hp => by
          simp at hp
          rcases hp with rfl | rfl | rfl
          · exact ⟨ht x0 (by simp), ht x1 (by simp), hr 0 x0 x1 rfl rfl⟩
          · exact ⟨ht x2 (by simp), ht x3 (by simp), hr 2 x2 x3 rfl rfl⟩
          · exact ⟨ht x4 (by simp), ht x5 (by simp), hr 4 x4 x5 rfl rfl⟩, fun k p p' h1 h2 => by
          rcases k with _ | _ | k
          · cases h1; cases h2; exact hr 1 x1 x2 rfl rfl
          · cases h1; cases h2; exact hr 3 x3 x4 rfl rfl
          · simp at h2⟩
        have z := q (.dat (.tuple [.str "broken", .tuple (pds [(x0, x1), (x2, x3), (x4, x5)])])) _ _ h3 rfl (.broken P)
        have pe : pds [(x0, x1), (x2, x3), (x4, x5)] = [.tuple [nm x0, nm x1], .tuple [nm x2, nm x3], .tuple [nm x4, nm x5]] := rfl
        rw [pe] at z
        simp [g6, loopC, vN, mYes, wipeV]
        exact z
    · simp
      refine ⟨by decide +kernel, l8 h2 fun rs s3 h3 rl ht hr => ?_⟩
      match rs, rl with
      | [x0, x1, x2, x3, x4, x5, x6, x7], _ =>
        have P : Ps [(x0, x1), (x2, x3), (x4, x5), (x6, x7)] := ⟨by simp, fun p hp => by
          simp at hp
          rcases hp with rfl | rfl | rfl | rfl
          · exact ⟨ht x0 (by simp), ht x1 (by simp), hr 0 x0 x1 rfl rfl⟩
          · exact ⟨ht x2 (by simp), ht x3 (by simp), hr 2 x2 x3 rfl rfl⟩
          · exact ⟨ht x4 (by simp), ht x5 (by simp), hr 4 x4 x5 rfl rfl⟩
          · exact ⟨ht x6 (by simp), ht x7 (by simp), hr 6 x6 x7 rfl rfl⟩, fun k p p' h1 h2 => by
          rcases k with _ | _ | _ | k
          · cases h1; cases h2; exact hr 1 x1 x2 rfl rfl
          · cases h1; cases h2; exact hr 3 x3 x4 rfl rfl
          · cases h1; cases h2; exact hr 5 x5 x6 rfl rfl
          · simp at h2⟩
        have z := q (.dat (.tuple [.str "broken", .tuple (pds [(x0, x1), (x2, x3), (x4, x5), (x6, x7)])])) _ _ h3 rfl (.broken P)
        have pe : pds [(x0, x1), (x2, x3), (x4, x5), (x6, x7)] = [.tuple [nm x0, nm x1], .tuple [nm x2, nm x3], .tuple [nm x4, nm x5], .tuple [nm x6, nm x7]] := rfl
        rw [pe] at z
        simp [g8, loopC, vN, mYes, wipeV]
        exact z
  · simp
    refine lw h1 fun ws s2 h2 hw => ?_
    simp
    exact q _ _ _ h2 rfl (.order hw)
end
end K25
set_option Elab.async false
set_option linter.all false
set_option maxRecDepth 100000
set_option maxHeartbeats 400000
namespace K25
open PySem MI Num Tx Fg Tb Dw Ord L2
def o11 : List MI.D := [.none, .bool true, .int 5, .str "straight", .list [.str "straight"], .dict [], .tuple [], .tuple [.tuple []], .tuple [.none], .tuple [.str "straight", .dict [], .tuple [.int 1, .int 1]], .tuple [.str "broken", .tuple []]]
section
variable {fu : Nat} (hfu : FU ≤ fu)
include hfu
theorem o11_of : ∀ o ∈ o11, f_p_is_wish fu [o] = .ok (.bool false) := by
  intro o h
  unfold o11 at h
  rcases List.mem_cons.mp h with rfl | h
  · exact not_tuple hfu (by simp)
  rcases List.mem_cons.mp h with rfl | h
  · exact not_tuple hfu (by simp)
  rcases List.mem_cons.mp h with rfl | h
  · exact not_tuple hfu (by simp)
  rcases List.mem_cons.mp h with rfl | h
  · exact not_tuple hfu (by rfl)
  rcases List.mem_cons.mp h with rfl | h
  · exact not_tuple hfu (by rfl)
  rcases List.mem_cons.mp h with rfl | h
  · exact not_tuple hfu (by rfl)
  rcases List.mem_cons.mp h with rfl | h
  · exact wish_nil hfu
  rcases List.mem_cons.mp h with rfl | h
  · exact wish_first hfu (by rfl)
  rcases List.mem_cons.mp h with rfl | h
  · exact wish_first hfu (by simp)
  rcases List.mem_cons.mp h with rfl | h
  · rw [wish_3 hfu _ .dict (any2 (.int (by decide +kernel)) (.int (by decide +kernel)))]
    rfl
  rw [List.mem_singleton.mp h]
  exact wish_broken hfu (pieces_len hfu (by simp))
theorem same_ok {d : MI.D} (h : Wi d) : f_law_same fu [d] = .ok (.bool true) := by
  have g := wish_good hfu h
  rw [f_law_same, s_law_same]
  simp [run_eq, g]
/-- the axis' word -/
theorem word_ok {d : MI.D} (h : Wi d) : ∃ (z : Str), f_p_axis_word fu [d] = .ok (.str z) ∧ fIx d (.int 0) = some (.str (if z = "turns 2" ∨ z = "turns 10" then "turns" else z)) ∧ ((z = "turns 2" ∧ d = .tuple [.str "turns", .int 2]) ∨ (z = "turns 10" ∧ d = .tuple [.str "turns", .int 10]) ∨ (z ≠ "turns" ∧ z ≠ "turns 2" ∧ z ≠ "turns 10")) := by
  have key : ∀ (z : Str) (r : List MI.D), z ≠ "turns" → f_p_axis_word fu [.tuple (.str z :: r)] = .ok (.str z) := fun z r hz => by
    have i0 : fIx (.tuple (.str z :: r)) (.int 0) = some (.str z) := fIx_t0 _ _
    rw [f_p_axis_word, s_p_axis_word]
    simp [run_eq, i0, hz]
  have pk : ∀ (z : Str) (r : List MI.D), z ≠ "turns" → z ≠ "turns 2" → z ≠ "turns 10" → ∃ z', f_p_axis_word fu [.tuple (.str z :: r)] = .ok (.str z') ∧ fIx (.tuple (.str z :: r)) (.int 0) = some (.str (if z' = "turns 2" ∨ z' = "turns 10" then "turns" else z')) ∧ ((z' = "turns 2" ∧ PyData.tuple (.str z :: r) = .tuple [.str "turns", .int 2]) ∨ (z' = "turns 10" ∧ PyData.tuple (.str z :: r) = .tuple [.str "turns", .int 10]) ∨ (z' ≠ "turns" ∧ z' ≠ "turns 2" ∧ z' ≠ "turns 10")) := fun z r h1 h2 h3 => by
    refine ⟨z, key z r h1, ?_, .inr (.inr ⟨h1, h2, h3⟩)⟩
    rw [if_neg (by rintro (h | h); exact h2 h; exact h3 h)]
    exact fIx_t0 _ _
  cases h with
  | one h => rcases h with rfl | rfl | rfl <;> exact pk _ _ (by decide) (by decide) (by decide)
  | ends a b c => exact pk _ _ (by decide) (by decide) (by decide)
  | broken h => exact pk _ _ (by decide) (by decide) (by decide)
  | order h => exact pk _ _ (by decide) (by decide) (by decide)
  | @turns b h =>
    have i0 : fIx (.tuple [.str "turns", .int b]) (.int 0) = some (.str "turns") := fIx_t0 _ _
    have i1 : fIx (.tuple [.str "turns", .int b]) (.int 1) = some (.int b) := fIx_t1 _ _ _
    have M : most = 16777216 := rfl
    have et : ("turns " : Str) = Tx.S [116, 117, 114, 110, 115, 32] := by decide +kernel
    have go : ∀ (n : Int) (w : List Nat) (z : Str), fStr [.int n] = some (.str (Tx.S w)) → w.length ≤ 10 → z = Tx.S ([116, 117, 114, 110, 115, 32] ++ w) → fIx (.tuple [.str "turns", .int n]) (.int 0) = some (.str "turns") → fIx (.tuple [.str "turns", .int n]) (.int 1) = some (.int n) → f_p_axis_word fu [.tuple [.str "turns", .int n]] = .ok (.str z) := fun n w z hs hl hz j0 j1 => by
      have ad := add_ss (a := [116, 117, 114, 110, 115, 32]) (b := w) (by rw [M]; simp; omega)
      rw [← et, ← hz] at ad
      generalize PyData.tuple [.str "turns", .int n] = D at *
      rw [f_p_axis_word, s_p_axis_word]
      simp [run_eq, j0, j1, hs, ad]
    rcases h with rfl | rfl
    · refine ⟨"turns 2", go 2 [50] _ (Ax.f_str_n (n := 2) (by decide)) (by decide) (by decide +kernel) i0 i1, ?_, .inl ⟨rfl, rfl⟩⟩
      rw [if_pos (.inl rfl)]
      exact i0
    · refine ⟨"turns 10", go 10 [49, 48] _ (Ax.f_str_n (n := 10) (by decide)) (by decide) (by decide +kernel) i0 i1, ?_, .inr (.inl ⟨rfl, rfl⟩)⟩
      rw [if_pos (.inr rfl)]
      exact i0
end
theorem body_sat {fu : Nat} (hfu : FU ≤ fu) {nd : List MI.D} {k : Nat} (src : ∀ {Q : T → Ct → Prop} {E : Str → Option MI.D → Ct → Prop}, (∀ s, Dr.IsSrc s → Q s [.un, .un]) → (Pg.f_sr_source fu [(false, .dat (.list nd)), (false, .dat (.int (k : Int)))]).sat Q E) {c2 c3 c4 c5 c6 : Cl} (f2 : Fr c2) (f3 : Fr c3) (f4 : Fr c4) (f5 : Fr c5) (f6 : Fr c6) :
    (b_p_law_1 fu [.t (.dat (.list nd)), .t (.dat (.int (k : Int))), c2, c3, c4, c5, c6]).sat ⟨fun g => ∃ c2 c3 c4 c5 c6 : Cl, g = [.t (.dat (.list nd)), .t (.dat (.int (k : Int))), c2, c3, c4, c5, c6] ∧ Fr c2 ∧ Fr c3 ∧ Fr c4 ∧ Fr c5 ∧ Fr c6, fun _ => False, fun _ => False, fun _ _ => False, fun _ _ _ => False⟩ := by
  rw [b_p_law_1]
  refine seqT (fun g => ∃ s, Dr.IsSrc s ∧ g = [.t (.dat (.list nd)), .t (.dat (.int (k : Int))), .t s, c3, c4, c5, c6]) ?_ ?_
  · simp [f2, f3, f4, f5, f6]
    refine src fun s hs => ?_
    simp [f2, f3, f4, f5, f6]
    exact hs
  rintro _ ⟨s, hs, rfl⟩
  refine seqT (fun g => ∃ s d, Dr.IsSrc s ∧ Wi d ∧ g = [.t (.dat (.list nd)), .t (.dat (.int (k : Int))), .t s, .t (.dat d), c4, c5, c6]) ?_ ?_
  · simp [f3, f4, f5, f6]
    refine law_good hfu hs fun t d s2 h2 e w => ?_
    simp [e, f3, f4, f5, f6]
    exact ⟨h2, w⟩
  rintro _ ⟨s2, d, h2, w, rfl⟩
  obtain ⟨z, w1, w2, w3⟩ := word_ok hfu w
  have so := same_ok hfu w
  have lb := fun {Q} {E} q => law_bent hfu h2 w (Q := Q) (E := E) q
  refine seqT1 [.t (.dat (.list nd)), .t (.dat (.int (k : Int))), .t s2, .t (.dat d), .t (.dat (.str (if z = "turns 2" ∨ z = "turns 10" then "turns" else z))), c5, c6] (by simp [w2, f4, f5, f6]) ?_
  refine seqT1 [.t (.dat (.list nd)), .t (.dat (.int (k : Int))), .t s2, .t (.dat d), .t (.dat (.str z)), c5, c6] ?_ ?_
  · rcases w3 with ⟨rfl, rfl⟩ | ⟨rfl, rfl⟩ | ⟨n1, n2, n3⟩
    · have i0 : fIx (.tuple [.str "turns", .int 2]) (.int 0) = some (.str "turns") := fIx_t0 _ _
      have i1 : fIx (.tuple [.str "turns", .int 2]) (.int 1) = some (.int 2) := fIx_t1 _ _ _
      have a1 : fAdd (.str "turns ") (.str "2") = some (.str "turns 2") := by rfl
      simp [i0, i1, a1, f5, f6]
    · have i0 : fIx (.tuple [.str "turns", .int 10]) (.int 0) = some (.str "turns") := fIx_t0 _ _
      have i1 : fIx (.tuple [.str "turns", .int 10]) (.int 1) = some (.int 10) := fIx_t1 _ _ _
      have a1 : fAdd (.str "turns ") (.str "10") = some (.str "turns 10") := by rfl
      simp [i0, i1, a1, f5, f6]
    · rw [if_neg (by rintro (h | h); exact n2 h; exact n3 h)] at w2 ⊢
      simp [w2, n1, f5, f6]
  refine Ax.ifRT False (by simp [so, w1]) (fun h => h.elim) fun _ => ?_
  simp
  refine lb fun d' s3 h3 no => ?_
  simp [no, f5, f6]
  exact ⟨_, _, _, _, _, ⟨rfl, rfl, rfl, rfl, rfl⟩, by simp, by simp, by simp, f5, f6⟩
theorem law_sat (fu : Nat) (hfu : FU ≤ fu) (ns : List Int) (hl : ns.length ≤ 63) (hz : ∀ k, (ns.getD k 0).natAbs.log2 ≤ 1048576) : (f_p_law fu [(false, .dat (.list (ns.map .int)))]).sat (fun t _ => t = .dat (.bool true)) (fun _ _ _ => False) := by
  obtain ⟨nd, hnd⟩ : ∃ nd, nd = ns.map PyData.int := ⟨_, rfl⟩
  have src := fun (k : Nat) hk {Q} {E} q => Dr.source_sat (Q := Q) (E := E) (fu := fu) hz (k := k) hk q
  have ndl : nd.length = ns.length := by rw [hnd, List.length_map]
  rw [← hnd] at src ⊢
  clear hnd
  have all := o11_of hfu
  have o11e : o11 = [.none, .bool true, .int 5, .str "straight", .list [.str "straight"], .dict [], .tuple [], .tuple [.tuple []], .tuple [.none], .tuple [.str "straight", .dict [], .tuple [.int 1, .int 1]], .tuple [.str "broken", .tuple []]] := rfl
  generalize o11 = l11 at *
  refine runT_sat rfl [.t (.dat (.list nd)), .un, .un, .un, .un, .un, .un] rfl ?_
  rw [s_p_law]
  obtain ⟨I, hI⟩ : ∃ I : Nat → Ct → Prop, ∀ k g, I k g ↔ ∃ c1 c2 c3 c4 c5 c6 : Cl, g = [.t (.dat (.list nd)), c1, c2, c3, c4, c5, c6] ∧ Fr c1 ∧ Fr c2 ∧ Fr c3 ∧ Fr c4 ∧ Fr c5 ∧ Fr c6 := ⟨_, fun _ _ => Iff.rfl⟩
  refine seqT (I 0) ?_ ?_
  · simp
    have mb : ∀ n : Int, 0 ≤ n → 0 ≤ (if 1 < if 12 < n then 12 else n then if 12 < n then 12 else n else 1) ∧ (if 1 < if 12 < n then 12 else n then if 12 < n then 12 else n else 1) ≤ 12 := fun n _ => by split <;> split <;> omega
    obtain ⟨m0, m1⟩ := mb nd.length (by omega)
    generalize (if 1 < if 12 < (nd.length : Int) then 12 else (nd.length : Int) then if 12 < (nd.length : Int) then 12 else (nd.length : Int) else 1) = mm at m0 m1
    refine ⟨lim, ?_⟩
    refine loopT_sat I ((hI _ _).mpr ⟨_, _, _, _, _, _, rfl, fr_un, fr_un, fr_un, fr_un, fr_un, fr_un⟩) ?_ ?_
    · intro k d g hd hg
      obtain ⟨c1, c2, c3, c4, c5, c6, rfl, f1, f2, f3, f4, f5, f6⟩ := (hI _ _).mp hg
      simp at hd
      obtain ⟨hk, rfl⟩ := hd
      simp [f1, f2, f3, f4, f5, f6]
      refine (body_sat hfu (src k (by omega)) f2 f3 f4 f5 f6).mono ?_ (fun _ _ h => h.elim) (fun _ h => h.elim) (fun _ h => h.elim) (fun _ _ _ h => h.elim)
      rintro g ⟨c2, c3, c4, c5, c6, rfl, f2, f3, f4, f5, f6⟩
      exact (hI _ _).mpr ⟨_, _, _, _, _, _, rfl, by simp, f2, f3, f4, f5, f6⟩
    · intro g hg
      exact (hI _ _).mpr ((hI _ _).mp hg)
  intro g hg
  obtain ⟨c1, c2, c3, c4, c5, c6, rfl, f1, f2, f3, f4, f5, f6⟩ := (hI _ _).mp hg
  refine seqT1 [.t (.dat (.list nd)), c1, c2, c3, c4, .t (.dat (.list l11)), c6] (by simp [d0, f1, f2, f3, f4, f5, f6, o11e]) ?_
  clear o11e
  have lp : ∀ (ds : List MI.D) (δ : Vw), (∀ d ∈ ds, d ∈ l11) → 6 < δ.length → loopC (vN 6) (mTru (mBin fNotB (mCall 1 (f_p_is_wish fu) [] (mCons (mVar 6) (mNil))) (mC (.bool false)))) (mVar 6) δ ds [] = .ok [] := fun ds => by
    induction ds with
    | nil => intro δ _ _; rfl
    | cons d ds ih =>
      intro δ h hδ
      have no := all d (h d (List.mem_cons_self ..))
      have i := ih δ (fun x hx => h x (List.mem_cons_of_mem _ hx)) hδ
      rw [loopC]
      simp [vN, hδ, no]
      exact i
  simp [nLc, wipeV, f1, f2, f3, f4, f6]
  have ne := Ax.nil_eq (ds := []) (fun d h => by cases h)
  rw [lp l11 _ (fun d h => h) (by simp)]
  simp [ne]
theorem law (fu : Nat) (hfu : FU ≤ fu) (ns : List Int) (hl : ns.length ≤ 63) (hb : ∀ z ∈ ns, Builtin.Int.intBits z ≤ 1048576) : ∃ bs, f_p_law fu [(false, .dat (.list (ns.map .int)))] = .ok (.dat (.bool true)) bs := by
  obtain ⟨t, bs, e, rfl⟩ := (law_sat fu hfu ns hl (Dr.bits hb)).eq
  exact ⟨bs, e⟩
end K25
set_option maxRecDepth 100000 in
set_option maxHeartbeats 8000000 in
theorem PySem.Challenge.cw_markscale_k25_wishes_holds : PySem.Challenge.rw_markscale_k25_wishes.Holds :=
  K25.holds_of Num.FU fun ns hn hb => K25.law Num.FU (Nat.le_refl _) ns hn hb
