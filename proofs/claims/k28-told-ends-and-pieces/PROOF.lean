import PyProof.Rows.All
import Wide.All
import OpenK.AllK
import Wide.FinOn
import HandS.ForExc
import HandS.ForMost
import HandS.Wide
import HandS.Defaults
import HandS.HeadHook2
import HandS.Flow
import HandS.IsInst
import HandS.Deep
import HandS.HeadEnd
import HandS.CallSlots
import HandS.RaiseMore
import HandS.StrMore
import HandS.Codes
import HandS.WideBits
import HandS.EndBits
import HandS.ExcIs
import HandS.ExcInit
import HandS.Comp
import HandS.Head2
import HandS.TryOnly
import HandS.More
import HandS.ExcValue
import KE.KTryMore
import KE.KExcIs
import HandS.Style
import KE.DatumOrd
import KE.DataAny
import HandS.SortKw
import HandS.SortInts
import HandS.Zip
import HandS.Iter
import PyProof.StrBlock2
import PyProof.Rows.StrJoinRep
import HandS.ExcField
import HandS.DictEq
import PyProof.ListMulAny
import HandS.TupAny
import HandS.HotCalls
import HandS.Dict
import HandS.Conv
import HandS.Strs
import HandS.HeadHook3
import PyProof.EqKinds
import PyProof.FactsAll.dict
import KE.KDictZip
import HandS.OwnIter
import KE.GoesMore
import PyProof.ByEval2
import KE.IntTextText
import PyProof.Rows.StrFirst
import PyProof.Rows.StrClip
import HandS.SetKeys
import PyProof.DictMoreH
import PySem.Challenge.RW_markscale_k28_told_ends_and_pieces
set_option Elab.async false
set_option linter.all false
set_option maxRecDepth 100000
set_option maxHeartbeats 4000000
namespace MI
open PySem PySem.Spec PyProof.Rows L2
abbrev D := PyData
/-- a result: a value, an exception (its class's name, its one field), or no claim -/
inductive R (α : Type) where
  | ok (a : α)
  | exc (c : Str) (p : Option D)
  | bad
def R.bind {α β : Type} (x : R α) (f : α → R β) : R β := match x with
  | .ok a => f a
  | .exc c p => .exc c p
  | .bad => .bad
def R.of {α : Type} : Option α → R α
  | some a => .ok a
  | none => .bad
@[simp] theorem R.bind_ok {α β : Type} (a : α) (f : α → R β) : (R.ok a).bind f = f a := Eq.trans rfl rfl
@[simp] theorem R.bind_exc {α β : Type} (c : Str) (p : Option D) (f : α → R β) : (R.exc c p : R α).bind f = .exc c p := Eq.trans rfl rfl
@[simp] theorem R.bind_bad {α β : Type} (f : α → R β) : (R.bad : R α).bind f = .bad := Eq.trans rfl rfl
@[simp] theorem R.of_some {α : Type} (a : α) : R.of (some a) = .ok a := Eq.trans rfl rfl
@[simp] theorem R.of_none {α : Type} : R.of (none : Option α) = .bad := Eq.trans rfl rfl
abbrev Vw := List (Option D)
abbrev M := Vw → R D
/-- an exception of the class at C, its dict at od -/
def ExT (a C : Addr) (od : Option Addr) : HO := .ext fun h => ∃ (oe : Obj) (vs : Array Value), h.get? a = some oe ∧ (oe.cls = .ref C ∧ oe.dict = od) ∧ oe.data = .fields vs
/-- the data that stand for it: its class's name, its field -/
def excD (c : Str) (p : Option D) : D := .dict [(.none, .str c), (.none, match p with
  | some d => .tuple [d]
  | none => .none)]
/-- the data that stand for a def of the program -/
def fnD (x : Str) : D := .dict [(.int 0, .str x)]
def vD : V → Option D
  | .non => some .none
  | .bl b => some (.bool b)
  | .int i => some (.int i)
  | .str z => some (.str z)
  | _ => none
/-- a dict's entries: texts as keys -/
def zipKk (ks : List Str) (vs : List V) : List (Key × V) := (ks.zip vs).map fun p => (Sum.inr p.1, p.2)
def zipDd (ks : List Str) (ds : List D) : List (D × D) := (ks.zip ds).map fun p => (PyData.str p.1, p.2)
/-- the one field that some of the exceptions have -/
def xfield (c : Str) : Option Str :=
  if c = "NoTable" then some "row" else if c = "NoPlan" then some "step" else if c = "NoTelling" then some "part" else none
/-- a dict's keys: whole numbers and texts, or tuples of them -/
def keyD : D → Option Key
  | .int i => some (Sum.inl i)
  | .str x => some (Sum.inr x)
  | _ => none
def keyLD : List D → Option (List Key)
  | [] => some []
  | d :: ds => match keyD d, keyLD ds with
    | some k, some ks => some (k :: ks)
    | _, _ => none
def keyT : D → Option (List Key)
  | .tuple ds => keyLD ds
  | _ => none
def keyLT : List D → Option (List (List Key))
  | [] => some []
  | d :: ds => match keyT d, keyLT ds with
    | some k, some ks => some (k :: ks)
    | _, _ => none
/-- the dict of these keys and values; b: tuples as keys -/
def dicO (b : Bool) (ks : List D) (vs : List V) : Option HO := if ks.length = vs.length then (match b with
  | false => (keyLD ks).map fun kk => .dK (kk.zip vs)
  | true => (keyLT ks).map fun kk => .dT (kk.zip vs)) else none
mutual
inductive Dp (K : PySem.W.Frag) (H : Hp) : V → D → Prop
  | non : Dp K H .non .none
  | bl (b : Bool) : Dp K H (.bl b) (.bool b)
  | int (i : Int) : Dp K H (.int i) (.int i)
  | str (x : Str) : Dp K H (.str x) (.str x)
  | lst {a : Addr} {xs : List V} {ds : List D} : SqL K H a xs → DpAll K H xs ds → Dp K H (.ref a) (.list ds)
  | tup {a : Addr} {xs : List V} {ds : List D} : SqT K H a xs → DpAll K H xs ds → Dp K H (.ref a) (.tuple ds)
  | exc {a : Addr} (c : Str) : H a = some (ExT a (He.ga K c) none) → Dp K H (.ref a) (excD c none)
  | excF {a dx : Addr} (c : Str) {f : Str} {v : V} {d : D} : H a = some (ExT a (He.ga K c) (some dx)) → H dx = some (.xd [(f, v)]) → xfield c = some f → vD v = some d → Dp K H (.ref a) (excD c (some d))
  | fn (x : Str) : Dp K H (.ref (He.ga K x)) (fnD x)
  | dct0 {a : Addr} : H a = some (.dK []) → Dp K H (.ref a) (.dict [])
  | dct {a : Addr} {k : Str} {v : V} {d : D} {ks : List Str} {vs : List V} {ds : List D} : H a = some (.dK ((Sum.inr k, v) :: zipKk ks vs)) → DpAll K H (v :: vs) (d :: ds) → ks.length = ds.length → Dp K H (.ref a) (.dict ((.str k, d) :: zipDd ks ds))
  | dic {a : Addr} {b : Bool} {ks : List D} {vs : List V} {ds : List D} {o : HO} : dicO b ks vs = some o → H a = some o → DpAll K H vs ds → Dp K H (.ref a) (.dict ((.bool b, .none) :: ks.zip ds))
inductive DpAll (K : PySem.W.Frag) (H : Hp) : List V → List D → Prop
  | nil : DpAll K H [] []
  | cons {v : V} {vs : List V} {d : D} {ds : List D} : Dp K H v d → DpAll K H vs ds → DpAll K H (v :: vs) (d :: ds)
end
mutual
theorem dp_old {K : PySem.W.Frag} {H : Hp} : ∀ {v : V} {d : D}, Dp K H v d → d.canLay0 = true → L2.Dp K H v d
  | _, _, .non, _ => .non
  | _, _, .bl b, _ => .bl b
  | _, _, .int i, _ => .int i
  | _, _, .str z, _ => .str z
  | _, _, .lst a b, h => .lst a (dpa_old b (by simpa [PyData.canLay0] using h))
  | _, _, .tup a b, h => .tup a (dpa_old b (by simpa [PyData.canLay0] using h))
  | _, _, .exc c a, h => by simp [excD, PyData.canLay0] at h
  | _, _, .excF c a _ _ _, h => by simp [excD, PyData.canLay0] at h
  | _, _, .fn x, h => by simp [fnD, PyData.canLay0] at h
  | _, _, .dct0 a, h => by simp [PyData.canLay0] at h
  | _, _, .dct a b l, h => by simp [PyData.canLay0] at h
  | _, _, .dic a b l, h => by simp [PyData.canLay0] at h
theorem dpa_old {K : PySem.W.Frag} {H : Hp} : ∀ {vs : List V} {ds : List D}, DpAll K H vs ds → PyData.canLayAll0 ds = true → L2.DpAll K H vs ds
  | _, _, .nil, _ => .nil
  | _, _, .cons a b, h => by
    simp only [PyData.canLayAll0, Bool.and_eq_true] at h
    exact .cons (dp_old a h.1) (dpa_old b h.2)
end
theorem dp_shaped {K : PySem.W.Frag} {H : Hp} {v : V} {d : D} (h : Dp K H v d) (s : SeqAt.shaped d = true) : L2.Dp K H v d := dp_old h (Bool.and_eq_true_iff.mp s).1
/-- nothing, or a tuple -/
def Lo (x : Option HO) : Prop := x = none ∨ ∃ xs, x = some (.tup xs)
theorem _root_.L2.Same.lo {F H : Hp} (s : Same F H) {a : Addr} (h : Lo (H a)) : Lo (F a) := by
  cases q : F a with
  | none => exact .inl rfl
  | some u =>
    have := s a u q
    rcases h with h | ⟨xs, h⟩
    · rw [h] at this; cases this
    · rw [h] at this; cases this; exact .inr ⟨_, rfl⟩
structure Ext (F H F' H' : Hp) : Prop where
  f : Same F F'
  h : Same H H'
  s : Same F' H'
  n : ∀ a o, F' a = some o → F a = none → Lo (H a)
theorem Ext.refl {F H : Hp} (s : Same F H) : Ext F H F H := ⟨Same.refl F, Same.refl H, s, fun a o e n => by rw [n] at e; cases e⟩
theorem Ext.trans {F H F1 H1 F2 H2 : Hp} (a : Ext F H F1 H1) (b : Ext F1 H1 F2 H2) : Ext F H F2 H2 := by
  refine ⟨a.f.trans b.f, a.h.trans b.h, b.s, fun x o e n => ?_⟩
  cases q : F1 x with
  | some o1 => exact a.n x o1 q n
  | none => exact a.h.lo (b.n x o e q)
theorem same_upd {H : Hp} {p : Addr} {o : HO} (h : H p = none) : Same H (upd H p o) := fun a u e => by
  rw [upd_ne (ne_of_none e h)]
  exact e
/-- a new object, frozen at once -/
theorem Ext.new {F H : Hp} (s : Same F H) {p : Addr} {o : HO} (h : H p = none) : Ext F H (upd F p o) (upd H p o) := by
  have hf : F p = none := s.free h
  refine ⟨same_upd hf, same_upd h, fun a u e => ?_, fun a u e n => ?_⟩
  · by_cases z : a = p
    · subst z; rw [upd_same] at e ⊢; exact e
    · rw [upd_ne z] at e ⊢; exact s a u e
  · by_cases z : a = p
    · subst z; exact .inl h
    · rw [upd_ne z, n] at e; cases e
/-- a tuple that is there already -/
theorem Ext.tup {F H : Hp} (s : Same F H) {p : Addr} {xs : List V} (h : H p = some (.tup xs)) : Ext F H (upd F p (.tup xs)) H := by
  refine ⟨fun a u e => ?_, Same.refl H, fun a u e => ?_, fun a u e n => ?_⟩
  · by_cases z : a = p
    · subst z
      rw [s _ _ e] at h
      cases h
      exact upd_same
    · rw [upd_ne z]; exact e
  · by_cases z : a = p
    · subst z; rw [upd_same] at e; cases e; exact h
    · rw [upd_ne z] at e; exact s _ _ e
  · by_cases z : a = p
    · subst z; exact .inr ⟨_, h⟩
    · rw [upd_ne z, n] at e; cases e
/-- a new object, not frozen -/
theorem Ext.loose {F H : Hp} (s : Same F H) {p : Addr} {o : HO} (h : H p = none) : Ext F H F (upd H p o) :=
  ⟨Same.refl F, same_upd h, s.trans (same_upd h), fun a u e n => by rw [n] at e; cases e⟩
theorem same_t {K : PySem.W.Frag} {H H' : Hp} {a : Addr} {xs : List V} (e : Same H H') (h : SqT K H a xs) : SqT K H' a xs := by
  rcases h with (h | ⟨o, h⟩) | h
  · exact .inl (.inl (e _ _ h))
  · exact .inl (.inr ⟨o, e _ _ h⟩)
  · exact .inr h
mutual
theorem dp_mono' {K : PySem.W.Frag} {F F' : Hp} (e : Same F F') : ∀ {v : V} {d : D}, Dp K F v d → Dp K F' v d
  | _, _, .non => .non
  | _, _, .bl b => .bl b
  | _, _, .int i => .int i
  | _, _, .str z => .str z
  | _, _, .lst a b => .lst (e.seq a) (dpa_mono' e b)
  | _, _, .tup a b => .tup (same_t e a) (dpa_mono' e b)
  | _, _, .exc c a => .exc c (e _ _ a)
  | _, _, .excF c a b f v => .excF c (e _ _ a) (e _ _ b) f v
  | _, _, .fn x => .fn x
  | _, _, .dct0 a => .dct0 (e _ _ a)
  | _, _, .dct a b l => .dct (e _ _ a) (dpa_mono' e b) l
  | _, _, .dic a b l => .dic a (e _ _ b) (dpa_mono' e l)
theorem dpa_mono' {K : PySem.W.Frag} {F F' : Hp} (e : Same F F') : ∀ {vs : List V} {ds : List D}, DpAll K F vs ds → DpAll K F' vs ds
  | _, _, .nil => .nil
  | _, _, .cons a b => .cons (dp_mono' e a) (dpa_mono' e b)
end
theorem dp_mono {K : PySem.W.Frag} {F F' : Hp} (e : Same F F') (d : D) {v : V} (h : Dp K F v d) : Dp K F' v d := dp_mono' e h
theorem dpa_mono {K : PySem.W.Frag} {F F' : Hp} (e : Same F F') (ds : List D) {vs : List V} (h : DpAll K F vs ds) : DpAll K F' vs ds := dpa_mono' e h
theorem dpa_len {K : PySem.W.Frag} {F : Hp} : ∀ {vs : List V} {ds : List D}, DpAll K F vs ds → vs.length = ds.length
  | [], [], .nil => rfl
  | _ :: _, _ :: _, .cons _ b => congrArg Nat.succ (dpa_len b)
theorem dpa_append {K : PySem.W.Frag} {F : Hp} : ∀ {vs ws : List V} {ds es : List D}, DpAll K F vs ds → DpAll K F ws es → DpAll K F (vs ++ ws) (ds ++ es)
  | [], _, [], _, .nil, h => h
  | _ :: _, _, _ :: _, _, .cons a b, h => .cons a (dpa_append b h)
theorem dpa_get {K : PySem.W.Frag} {F : Hp} : ∀ {vs : List V} {ds : List D} {i : Nat} {d : D}, DpAll K F vs ds → ds[i]? = some d → ∃ v, vs[i]? = some v ∧ Dp K F v d
  | [], [], _, _, .nil, e => by simp at e
  | v :: _, d :: _, 0, _, .cons a b, e => by
    simp at e
    subst e
    exact ⟨v, by simp, a⟩
  | _ :: _, _ :: _, i + 1, _, .cons a b, e => by
    obtain ⟨v, h1, h2⟩ := dpa_get (i := i) b (by simpa using e)
    exact ⟨v, by simpa using h1, h2⟩
theorem dpa_drop {K : PySem.W.Frag} {F : Hp} : ∀ (n : Nat) {vs : List V} {ds : List D}, DpAll K F vs ds → DpAll K F (vs.drop n) (ds.drop n)
  | 0, _, _, h => h
  | _ + 1, _, _, .nil => .nil
  | n + 1, _, _, .cons _ b => dpa_drop n b
theorem dpa_take {K : PySem.W.Frag} {F : Hp} : ∀ (n : Nat) {vs : List V} {ds : List D}, DpAll K F vs ds → DpAll K F (vs.take n) (ds.take n)
  | 0, _, _, _ => .nil
  | _ + 1, _, _, .nil => .nil
  | n + 1, _, _, .cons a b => .cons a (dpa_take n b)
/-- what a view tells of the slots -/
def VwOk (K : PySem.W.Frag) (F : Hp) (σ : L2.St) (δ : Vw) : Prop := δ.length ≤ σ.length ∧ ∀ (i : Nat) (d : D), δ[i]? = some (some d) → ∃ v, σ[i]? = some (some v) ∧ Dp K F v d
theorem VwOk.mono {K : PySem.W.Frag} {F F' : Hp} {σ : L2.St} {δ : Vw} (h : VwOk K F σ δ) (e : Same F F') : VwOk K F' σ δ := ⟨h.1, fun i d q =>
  let ⟨v, a, b⟩ := h.2 i d q
  ⟨v, a, dp_mono e d b⟩⟩
/-- an exception, by its class's name and its field -/
def XV (K : PySem.W.Frag) (mg : Str → Option Value) (F : Hp) (c : Str) (p : Option D) (cls : Value) (od : Option Addr) : Prop :=
  ∃ C, mg c = some (.ref C) ∧ cls = .ref C ∧ match p with
    | none => od = none
    | some d => ∃ dx f v, od = some dx ∧ F dx = some (.xd [(f, v)]) ∧ xfield c = some f ∧ Dp K F v d
section
variable (X : Cx) (W : WX)
def EPost (F H : Hp) (σ : L2.St) (Q : VK) : R D → Prop
  | .ok d => ∀ v F' H', Ext F H F' H' → Dp X.K F' v d → Q v H'
  | .exc c p => ∀ cls od F' H', Ext F H F' H' → XV X.K X.mg F' c p cls od → W cls od σ H'
  | .bad => False
def BPost (F H : Hp) (σ : L2.St) (Q : Bool → Hp → Prop) : R Bool → Prop
  | .ok b => ∀ F' H', Ext F H F' H' → Q b H'
  | .exc c p => ∀ cls od F' H', Ext F H F' H' → XV X.K X.mg F' c p cls od → W cls od σ H'
  | .bad => False
def APost (F H : Hp) (σ : L2.St) (Q : List V → Hp → Prop) : R (List D) → Prop
  | .ok ds => ∀ vs F' H', Ext F H F' H' → DpAll X.K F' vs ds → Q vs H'
  | .exc c p => ∀ cls od F' H', Ext F H F' H' → XV X.K X.mg F' c p cls od → W cls od σ H'
  | .bad => False
def tM (m : M) : TE := fun σ H Q => ∃ F δ, Same F H ∧ VwOk X.K F σ δ ∧ EPost X W F H σ Q (m δ)
def tT (m : Vw → R Bool) : TT := fun σ H Q => ∃ F δ, Same F H ∧ VwOk X.K F σ δ ∧ BPost X W F H σ Q (m δ)
def tA (m : Vw → R (List D)) : TA := fun σ H Q => ∃ F δ, Same F H ∧ VwOk X.K F σ δ ∧ APost X W F H σ Q (m δ)
end
abbrev ME (X : Cx) (W : WX) (e : Expr) (m : M) : Prop := PE X e (tM X W m)
abbrev MT (X : Cx) (W : WX) (e : Expr) (m : Vw → R Bool) : Prop := PT X e (tT X W m)
abbrev MA (X : Cx) (W : WX) (es : List Expr) (m : Vw → R (List D)) : Prop := PA X es (tA X W m)
theorem PE.imp {X : Cx} {e : Expr} {t t' : TE} (h : PE X e t) (i : ∀ σ H Q, t' σ H Q → t σ H Q) : PE X e t' := ⟨fun pins s σ H Q I hw => h.run pins s σ H Q I (i _ _ _ hw)⟩
theorem PT.imp {X : Cx} {e : Expr} {t t' : TT} (h : PT X e t) (i : ∀ σ H Q, t' σ H Q → t σ H Q) : PT X e t' := ⟨fun pins s σ H Q I hw => h.run pins s σ H Q I (i _ _ _ hw)⟩
theorem PW.imp {X : Cx} {e : Expr} {t t' : TT} (h : PW X e t) (i : ∀ σ H Q, t' σ H Q → t σ H Q) : PW X e t' := ⟨fun wh pins s σ H Q I hw => h.run wh pins s σ H Q I (i _ _ _ hw)⟩
theorem PA.imp {X : Cx} {e : List Expr} {t t' : TA} (h : PA X e t) (i : ∀ σ H Q, t' σ H Q → t σ H Q) : PA X e t' := ⟨fun pos pins s σ H Q I hw => h.run pos pins s σ H Q I (i _ _ _ hw)⟩
theorem PS.imp {X : Cx} {e : Stmt} {t t' : TS} (h : PS X e t) (i : ∀ D σ H, t' D σ H → t D σ H) : PS X e t' := ⟨fun pins s σ H D I hw => h.run pins s σ H D I (i _ _ _ hw)⟩
theorem PSs.imp {X : Cx} {e : List Stmt} {t t' : TS} (h : PSs X e t) (i : ∀ D σ H, t' D σ H → t D σ H) : PSs X e t' := ⟨fun pins s σ H D I hw => h.run pins s σ H D I (i _ _ _ hw)⟩
section
variable {X : Cx} {W : WX} {F H : Hp} {σ : L2.St} {δ : Vw}
/-- a reading at a view, with what follows -/
theorem tM_bind {m : M} {f : D → R D} {Q : VK} {P : VK} (s : Same F H) (v : VwOk X.K F σ δ) (h : EPost X W F H σ Q ((m δ).bind f))
    (k : ∀ d x F' H', m δ = .ok d → Ext F H F' H' → Dp X.K F' x d → EPost X W F' H' σ Q (f d) → P x H') : tM X W m σ H P := by
  refine ⟨F, δ, s, v, ?_⟩
  cases e : m δ with
  | ok d =>
    rw [e] at h
    intro x F' H' E hx
    refine k d x F' H' e E hx ?_
    have h' : EPost X W F H σ Q (f d) := h
    cases e2 : f d with
    | ok d2 => rw [e2] at h'; exact fun v2 F2 H2 E2 hd => h' v2 F2 H2 (E.trans E2) hd
    | exc c p => rw [e2] at h'; exact fun cls od F2 H2 E2 hd => h' cls od F2 H2 (E.trans E2) hd
    | bad => rw [e2] at h'; exact h'
  | exc c p => rw [e] at h; exact h
  | bad => rw [e] at h; exact h
theorem tM_bindB {m : M} {f : D → R Bool} {Q : Bool → Hp → Prop} {P : VK} (s : Same F H) (v : VwOk X.K F σ δ) (h : BPost X W F H σ Q ((m δ).bind f))
    (k : ∀ d x F' H', m δ = .ok d → Ext F H F' H' → Dp X.K F' x d → BPost X W F' H' σ Q (f d) → P x H') : tM X W m σ H P := by
  refine ⟨F, δ, s, v, ?_⟩
  cases e : m δ with
  | ok d =>
    rw [e] at h
    intro x F' H' E hx
    refine k d x F' H' e E hx ?_
    have h' : BPost X W F H σ Q (f d) := h
    cases e2 : f d with
    | ok d2 => rw [e2] at h'; exact fun F2 H2 E2 => h' F2 H2 (E.trans E2)
    | exc c p => rw [e2] at h'; exact fun cls od F2 H2 E2 hd => h' cls od F2 H2 (E.trans E2) hd
    | bad => rw [e2] at h'; exact h'
  | exc c p => rw [e] at h; exact h
  | bad => rw [e] at h; exact h
theorem tT_bindB {m : Vw → R Bool} {f : Bool → R Bool} {Q : Bool → Hp → Prop} {P : Bool → Hp → Prop} (s : Same F H) (v : VwOk X.K F σ δ) (h : BPost X W F H σ Q ((m δ).bind f))
    (k : ∀ b F' H', Ext F H F' H' → BPost X W F' H' σ Q (f b) → P b H') : tT X W m σ H P := by
  refine ⟨F, δ, s, v, ?_⟩
  cases e : m δ with
  | ok d =>
    rw [e] at h
    intro F' H' E
    refine k d F' H' E ?_
    have h' : BPost X W F H σ Q (f d) := h
    cases e2 : f d with
    | ok d2 => rw [e2] at h'; exact fun F2 H2 E2 => h' F2 H2 (E.trans E2)
    | exc c p => rw [e2] at h'; exact fun cls od F2 H2 E2 hd => h' cls od F2 H2 (E.trans E2) hd
    | bad => rw [e2] at h'; exact h'
  | exc c p => rw [e] at h; exact h
  | bad => rw [e] at h; exact h
theorem tA_bind {m : Vw → R (List D)} {f : List D → R D} {Q : VK} {P : List V → Hp → Prop} (s : Same F H) (v : VwOk X.K F σ δ) (h : EPost X W F H σ Q ((m δ).bind f))
    (k : ∀ ds xs F' H', m δ = .ok ds → Ext F H F' H' → DpAll X.K F' xs ds → EPost X W F' H' σ Q (f ds) → P xs H') : tA X W m σ H P := by
  refine ⟨F, δ, s, v, ?_⟩
  cases e : m δ with
  | ok d =>
    rw [e] at h
    intro x F' H' E hx
    refine k d x F' H' e E hx ?_
    have h' : EPost X W F H σ Q (f d) := h
    cases e2 : f d with
    | ok d2 => rw [e2] at h'; exact fun v2 F2 H2 E2 hd => h' v2 F2 H2 (E.trans E2) hd
    | exc c p => rw [e2] at h'; exact fun cls od F2 H2 E2 hd => h' cls od F2 H2 (E.trans E2) hd
    | bad => rw [e2] at h'; exact h'
  | exc c p => rw [e] at h; exact h
  | bad => rw [e] at h; exact h
end
def mVar (i : Nat) : M := fun δ => match δ[i]? with
  | some (some d) => .ok d
  | _ => .bad
def mC (d : D) : M := fun _ => .ok d
section
variable {X : Cx} {W : WX} {pos : Pos}
theorem me_var {i : Nat} {x : Str} (hN : X.N[i]? = some x) (hv : Vis X.env.scope x) (hd : (x == ("__debug__" : Str)) = false) (hcd : (x == ("__classdict__" : Str)) = false) : ME X W (.Name x pos) (mVar i) := by
  refine PE.imp (pe_var hN hv hd hcd) fun σ H Q ⟨F, δ, s, v, h⟩ => ?_
  unfold mVar at h
  cases e : δ[i]? with
  | none => rw [e] at h; exact h.elim
  | some o =>
    cases o with
    | none => rw [e] at h; exact h.elim
    | some d =>
      rw [e] at h
      obtain ⟨u, hu, dp⟩ := v.2 i d e
      exact ⟨u, hu, h u F H (Ext.refl s) dp⟩
theorem me_c {e : Expr} {d : D} {x : V} (h : PE X e (tC x)) (hd : ∀ F, Dp X.K F x d) : ME X W e (mC d) := by
  refine PE.imp h fun σ H Q ⟨F, δ, s, v, h⟩ => ?_
  exact h x F H (Ext.refl s) (hd F)
theorem me_int {i j} : ME X W (.Constant (.int i) j pos) (mC (.int i)) := me_c pe_int fun _ => .int i
theorem me_bl {i j} : ME X W (.Constant (.bool i) j pos) (mC (.bool i)) := me_c pe_bl fun _ => .bl i
theorem me_str {i j} : ME X W (.Constant (.str i) j pos) (mC (.str i)) := me_c pe_str fun _ => .str i
theorem me_non {j} : ME X W (.Constant .none j pos) (mC .none) := me_c pe_non fun _ => .non
end
/-- f on data, read on values -/
def rD2 (K : PySem.W.Frag) (f : D → D → Option D) : R2 := fun x y H Q => ∃ F d1 d2 d, Same F H ∧ Dp K F x d1 ∧ Dp K F y d2 ∧ f d1 d2 = some d ∧ ∀ v F' H', Ext F H F' H' → Dp K F' v d → Q v H'
def rD1 (K : PySem.W.Frag) (f : D → Option D) : V → Hp → VK → Prop := fun x H Q => ∃ F d1 d, Same F H ∧ Dp K F x d1 ∧ f d1 = some d ∧ ∀ v F' H', Ext F H F' H' → Dp K F' v d → Q v H'
def rDs (K : PySem.W.Frag) (f : List D → Option D) : List V → Hp → VK → Prop := fun xs H Q => ∃ F ds d, Same F H ∧ DpAll K F xs ds ∧ f ds = some d ∧ ∀ v F' H', Ext F H F' H' → Dp K F' v d → Q v H'
def mBin (f : D → D → Option D) (a b : M) : M := fun δ => (a δ).bind fun x => (b δ).bind fun y => R.of (f x y)
def mUn (f : D → Option D) (a : M) : M := fun δ => (a δ).bind fun x => R.of (f x)
def mDs (f : List D → Option D) (a : Vw → R (List D)) : M := fun δ => (a δ).bind fun x => R.of (f x)
def mNil : Vw → R (List D) := fun _ => .ok []
def mCons (a : M) (r : Vw → R (List D)) : Vw → R (List D) := fun δ => (a δ).bind fun x => (r δ).bind fun y => .ok (x :: y)
section
variable {X : Cx} {W : WX} {pos : Pos} {a b : Expr} {ma mb : M}
theorem of_post {F H : Hp} {σ : L2.St} {Q : VK} {o : Option D} (h : EPost X W F H σ Q (R.of o)) : ∃ d, o = some d ∧ ∀ v F' H', Ext F H F' H' → Dp X.K F' v d → Q v H' := by
  cases o with
  | none => exact h.elim
  | some d => exact ⟨d, rfl, h⟩
theorem bin_tM {r : R2} {f : D → D → Option D} (hr : ∀ x y H Q, rD2 X.K f x y H Q → r x y H Q) {σ : L2.St} {H : Hp} {Q : VK} (h : tM X W (mBin f ma mb) σ H Q) : tOp r (tM X W ma) (tM X W mb) σ H Q := by
  obtain ⟨F, δ, s, v, h⟩ := h
  refine tM_bind s v h fun d x F1 H1 _ E hx h1 => ?_
  refine tM_bind E.s (v.mono E.f) h1 fun d2 y F2 H2 _ E2 hy h2 => ?_
  obtain ⟨d3, e, q⟩ := of_post h2
  exact hr _ _ _ _ ⟨F2, d, d2, d3, E2.s, dp_mono E2.f d hx, hy, e, q⟩
theorem me_op {op : Operator} {f : D → D → Option D} (ho : OpR X (binaryOp op) (rD2 X.K f)) (ha : ME X W a ma) (hb : ME X W b mb) : ME X W (.BinOp a op b pos) (mBin f ma mb) :=
  PE.imp (pe_op ho ha hb) fun _ _ _ h => bin_tM (fun _ _ _ _ z => z) h
theorem me_un {op : UnaryOp} {f : D → Option D} (ho : UnR X (unaryOp op) (rD1 X.K f)) (ha : ME X W a ma) : ME X W (.UnaryOp op a pos) (mUn f ma) := by
  refine PE.imp (pe_un ho ha) fun σ H Q ⟨F, δ, s, v, h⟩ => ?_
  refine tM_bind s v h fun d x F1 H1 _ E hx h1 => ?_
  obtain ⟨d3, e, q⟩ := of_post h1
  exact ⟨F1, d, d3, E.s, hx, e, q⟩
theorem me_cmp {op : CmpOp} {f : D → D → Option D} (ho : OpR X (compareOp op) (rD2 X.K f)) (ha : ME X W a ma) (hb : ME X W b mb) (hm : behindInMarks op b = false) : ME X W (.Compare a [op] [b] pos) (mBin f ma mb) :=
  PE.imp (pe_cmpR ho ha hb hm) fun _ _ _ h => bin_tM (fun _ _ _ _ z => z) h
theorem me_ix {f : D → D → Option D} {r : R2} (hr : IxR X r) (hf : ∀ x y H Q, rD2 X.K f x y H Q → r x y H Q) (ha : ME X W a ma) (hb : ME X W b mb) (hs : PlainIx b) : ME X W (.Subscript a b pos) (mBin f ma mb) :=
  PE.imp (pe_ix hr ha hb hs) fun _ _ _ h => bin_tM hf h
theorem ma_nil : MA X W [] mNil := PA.imp pa_nil fun σ H Q ⟨F, δ, s, v, h⟩ => h [] F H (Ext.refl s) .nil
theorem ma_cons {es : List Expr} {mr : Vw → R (List D)} (ha : ME X W a ma) (hr : MA X W es mr) (hs : starEach (a :: es) X.env = (false, eval a X.env) :: starEach es X.env) : MA X W (a :: es) (mCons ma mr) := by
  refine PA.imp (pa_cons ha hr hs) fun σ H Q ⟨F, δ, s, v, h⟩ => ?_
  refine ⟨F, δ, s, v, ?_⟩
  unfold mCons at h
  cases e : ma δ with
  | ok d =>
    rw [e] at h
    intro x F1 H1 E hx
    refine ⟨F1, δ, E.s, v.mono E.f, ?_⟩
    cases e2 : mr δ with
    | ok ds =>
      rw [R.bind_ok, e2] at h
      intro xs F2 H2 E2 hxs
      exact h (x :: xs) F2 H2 (E.trans E2) (.cons (dp_mono E2.f d hx) hxs)
    | exc c p => rw [R.bind_ok, e2] at h; exact fun cls od F2 H2 E2 hd => h cls od F2 H2 (E.trans E2) hd
    | bad => rw [R.bind_ok, e2] at h; exact h
  | exc c p => rw [e] at h; exact h
  | bad => rw [e] at h; exact h
/-- the longest list, tuple, text -/
def most : Nat := 16777216
theorem most_eq : most = sizeLine := by rw [sizeLine_eq]; rfl
theorem most_le {n : Nat} (h : n ≤ most) : n ≤ sizeLine := by rw [← most_eq]; exact h
def dTup (ds : List D) : Option D := if ds.length ≤ most then some (.tuple ds) else none
def dLst (ds : List D) : Option D := if ds.length ≤ most then some (.list ds) else none
theorem me_tup {es : List Expr} {m : Vw → R (List D)} {k} (h : MA X W es m) : ME X W (.Tuple es k pos) (mDs dTup m) := by
  refine PE.imp (pe_tup h) fun σ H Q ⟨F, δ, s, v, h⟩ => ?_
  refine tA_bind s v h fun ds xs F1 H1 _ E hx h1 => ?_
  obtain ⟨d3, e, q⟩ := of_post h1
  unfold dTup at e
  split at e
  · rename_i hl
    cases e
    refine ⟨by rw [dpa_len hx]; exact most_le hl, fun p hp => ?_⟩
    have E2 := Ext.new (o := .tup xs) E.s hp
    exact q _ _ _ E2 (.tup (SqT.of upd_same) (dpa_mono E2.f _ hx))
  · cases e
theorem me_lst {es : List Expr} {m : Vw → R (List D)} (h : MA X W es m) : ME X W (.List es pos) (mDs dLst m) := by
  refine PE.imp (pe_lst h) fun σ H Q ⟨F, δ, s, v, h⟩ => ?_
  refine tA_bind s v h fun ds xs F1 H1 _ E hx h1 => ?_
  obtain ⟨d3, e, q⟩ := of_post h1
  unfold dLst at e
  split at e
  · rename_i hl
    cases e
    refine ⟨by rw [dpa_len hx]; exact most_le hl, fun p hp => ?_⟩
    have E2 := Ext.new (o := .lst xs) E.s hp
    exact q _ _ _ E2 (.lst (SqL.of upd_same) (dpa_mono E2.f _ hx))
  · cases e
end
def truthD : D → Option Bool
  | .none => some false
  | .bool b => some b
  | .int i => some (i != 0)
  | .str s => if s.length ≤ most then some ((s.length : Int) != 0) else none
  | .list xs => some (!xs.isEmpty)
  | .tuple xs => some (!xs.isEmpty)
  | .dict _ => none
theorem dpall_empty {K : PySem.W.Frag} {F : Hp} {vs : List V} {ds : List D} (h : DpAll K F vs ds) : vs.isEmpty = ds.isEmpty := by
  cases h <;> rfl
theorem truth_ok {K : PySem.W.Frag} {F H : Hp} {x : V} {d : D} {b : Bool} (s : Same F H) (h : Dp K F x d) (e : truthD d = some b) : TruV K x H b := by
  cases h with
  | non => exact (Option.some.inj e).symm
  | bl c => exact (Option.some.inj e).symm
  | int i => exact (Option.some.inj e).symm
  | str z =>
    unfold truthD at e
    dsimp only at e
    split at e
    · rename_i hl
      exact ⟨most_le hl, (Option.some.inj e).symm⟩
    · cases e
  | lst q r =>
    refine .inl ⟨_, s.seq q, ?_⟩
    rw [dpall_empty r]
    exact (Option.some.inj e).symm
  | tup q r =>
    refine .inr (.inl ⟨_, same_t s q, ?_⟩)
    rw [dpall_empty r]
    exact (Option.some.inj e).symm
  | exc c a => cases e
  | excF c a b f v => cases e
  | fn x => cases e
  | dct0 a => cases e
  | dct a b l => cases e
  | dic a b l => cases e
def mTru (m : M) : Vw → R Bool := fun δ => (m δ).bind fun d => R.of (truthD d)
def mNot (t : Vw → R Bool) : Vw → R Bool := fun δ => (t δ).bind fun b => .ok (!b)
def mAndT (t u : Vw → R Bool) : Vw → R Bool := fun δ => (t δ).bind fun b => if b = true then u δ else .ok false
def mOrT (t u : Vw → R Bool) : Vw → R Bool := fun δ => (t δ).bind fun b => if b = true then .ok true else u δ
def mAndV (a b : M) : M := fun δ => (a δ).bind fun x => (R.of (truthD x)).bind fun k => if k = true then b δ else .ok x
def mOrV (a b : M) : M := fun δ => (a δ).bind fun x => (R.of (truthD x)).bind fun k => if k = true then .ok x else b δ
def mIf (t : Vw → R Bool) (a b : M) : M := fun δ => (t δ).bind fun k => if k = true then a δ else b δ
section
variable {X : Cx} {W : WX} {pos : Pos} {a b c : Expr} {ma mb : M} {t u : Vw → R Bool}
theorem of_postB {F H : Hp} {σ : L2.St} {Q : Bool → Hp → Prop} {o : Option Bool} (h : BPost X W F H σ Q (R.of o)) : ∃ d, o = some d ∧ ∀ F' H', Ext F H F' H' → Q d H' := by
  cases o with
  | none => exact h.elim
  | some d => exact ⟨d, rfl, h⟩
theorem mt_tru (ha : ME X W a ma) (he : ∀ whole, isTrue a X.env whole = (do let v ← whole; standAt a.pos; holding [v] (truthy v))) : MT X W a (mTru ma) := by
  refine PT.imp (pt_truth ha he) fun σ H Q ⟨F, δ, s, v, h⟩ => ?_
  refine tM_bindB s v h fun d x F1 H1 _ E hx h1 => ?_
  obtain ⟨k, e, q⟩ := of_postB h1
  exact ⟨k, truth_ok E.s hx e, q F1 H1 (Ext.refl E.s)⟩
theorem mt_cmp {op : CmpOp} {f : D → D → Option D} (ho : OpR X (compareOp op) (rD2 X.K f)) (hb' : ∀ x y d, f x y = some d → ∃ z : Bool, d = .bool z) (ha : ME X W a ma) (hb : ME X W b mb) (hm : behindInMarks op b = false) : MT X W (.Compare a [op] [b] pos) (mTru (mBin f ma mb)) := by
  refine PT.imp (pt_cmpR ho ha hb hm) fun σ H Q ⟨F, δ, s, v, h⟩ => ?_
  refine bin_tM (X := X) (W := W) (fun _ _ _ _ z => z) ?_
  refine tM_bindB s v h fun d x F1 H1 e E hx h1 => ?_
  obtain ⟨k, e2, q⟩ := of_postB h1
  have : ∃ z : Bool, d = .bool z := by
    unfold mBin at e
    cases e3 : ma δ with
    | ok d1 =>
      rw [e3, R.bind_ok] at e
      cases e4 : mb δ with
      | ok d2 =>
        rw [e4, R.bind_ok] at e
        cases e5 : f d1 d2 with
        | none => rw [e5] at e; cases e
        | some z => rw [e5] at e; cases e; exact hb' _ _ _ e5
      | exc c p => rw [e4] at e; cases e
      | bad => rw [e4] at e; cases e
    | exc c p => rw [e3] at e; cases e
    | bad => rw [e3] at e; cases e
  obtain ⟨b0, rfl⟩ := this
  cases hx
  cases e2
  exact ⟨k, rfl, q F1 H1 (Ext.refl E.s)⟩
theorem mt_not (ha : MT X W a t) : MT X W (.UnaryOp .Not a pos) (mNot t) := by
  refine PT.imp (pt_not ha) fun σ H Q ⟨F, δ, s, v, h⟩ => ?_
  refine tT_bindB s v h fun b F1 H1 E h1 => h1 F1 H1 (Ext.refl E.s)
theorem mw_and1 (ha : MT X W a t) : PW X (.BoolOp .And [a] pos) (tT X W t) := pw_and1 ha
theorem mw_or1 (ha : MT X W a t) : PW X (.BoolOp .Or [a] pos) (tT X W t) := pw_or1 ha
theorem mw_and {rest : List Expr} (ha : MT X W a t) (hb : PW X (.BoolOp .And (b :: rest) pos) (tT X W u)) : PW X (.BoolOp .And (a :: b :: rest) pos) (tT X W (mAndT t u)) := by
  refine PW.imp (pw_and ha hb) fun σ H Q ⟨F, δ, s, v, h⟩ => ?_
  refine tT_bindB s v h fun k F1 H1 E h1 => ?_
  cases k with
  | true => exact ⟨F1, δ, E.s, v.mono E.f, h1⟩
  | false => exact h1 F1 H1 (Ext.refl E.s)
theorem mw_or {rest : List Expr} (ha : MT X W a t) (hb : PW X (.BoolOp .Or (b :: rest) pos) (tT X W u)) : PW X (.BoolOp .Or (a :: b :: rest) pos) (tT X W (mOrT t u)) := by
  refine PW.imp (pw_or ha hb) fun σ H Q ⟨F, δ, s, v, h⟩ => ?_
  refine tT_bindB s v h fun k F1 H1 E h1 => ?_
  cases k with
  | false => exact ⟨F1, δ, E.s, v.mono E.f, h1⟩
  | true => exact h1 F1 H1 (Ext.refl E.s)
def mNotV (a : M) : M := fun δ => (a δ).bind fun x => (R.of (truthD x)).bind fun k => .ok (.bool (!k))
end
end MI
set_option Elab.async false
set_option linter.all false
set_option maxRecDepth 100000
set_option maxHeartbeats 4000000
namespace MI
open PySem PySem.Spec PyProof.Rows L2
/-- a slot: nothing, data that stands frozen, a list that this def alone holds -/
inductive Cell where
  | un
  | dat (d : D)
  | own (ds : List D)
abbrev Ce := List Cell
inductive Out where
  | nx (g : Ce)
  | rt (d : D)
  | bk (g : Ce)
  | ct (g : Ce)
  | ex (c : Str) (p : Option D) (g : Ce)
  | bad
abbrev S := Ce → Out
def Cell.vd : Cell → Option D
  | .dat d => some d
  | _ => none
def Cell.va : Cell → Option D
  | .dat d => some d
  | .own ds => some (.list ds)
  | .un => none
def vd (g : Ce) : Vw := g.map Cell.vd
def va (g : Ce) : Vw := g.map Cell.va
mutual
/-- no list within -/
def flat : D → Bool
  | .list _ => false
  | .dict ((.none, _) :: _) => true
  | .dict _ => false
  | .tuple ds => flatL ds
  | _ => true
def flatL : List D → Bool
  | [] => true
  | d :: ds => flat d && flatL ds
end
def flatO : Option D → Bool
  | none => true
  | some d => flat d
/-- frozen: F0, F; tracked: H0 (the def's entry), H -/
structure StOk (K : PySem.W.Frag) (F0 H0 F H : Hp) (σ : L2.St) (g : Ce) : Prop where
  e : Ext F0 H0 F H
  len : σ.length = g.length
  dat : ∀ (i : Nat) (d : D), g[i]? = some (.dat d) → ∃ v, σ[i]? = some (some v) ∧ Dp K F v d
  own : ∀ (i : Nat) (ds : List D), g[i]? = some (.own ds) → ∃ a xs, σ[i]? = some (some (.ref a)) ∧ H a = some (.lst xs) ∧ F a = none ∧ H0 a = none ∧ DpAll K F xs ds
  inj : ∀ (i j : Nat) (ds es : List D) (a : Addr), g[i]? = some (.own ds) → g[j]? = some (.own es) → σ[i]? = some (some (.ref a)) → σ[j]? = some (some (.ref a)) → i = j
section
variable {K : PySem.W.Frag} {F0 H0 F H F' H' : Hp} {σ : L2.St} {g : Ce}
/-- what a tree may hold alone -/
def OwnO (o : HO) : Prop := (∃ xs, o = .lst xs) ∨ (∃ kvs, o = .dK kvs) ∨ ∃ kvs, o = .dT kvs
theorem OwnO.l {xs : List V} : OwnO (.lst xs) := .inl ⟨_, rfl⟩
theorem OwnO.not_lo {o : HO} (h : OwnO o) : ¬ Lo (some o) := by
  rintro (z | ⟨xs, z⟩)
  · cases z
  · cases z
    rcases h with ⟨_, e⟩ | ⟨_, e⟩ | ⟨_, e⟩ <;> cases e
theorem Ext.new_none (E : Ext F H F' H') {a : Addr} {o : HO} (hf : F a = none) (hh : H a = some o) (ho : OwnO o := by exact OwnO.l) : F' a = none := by
  cases q : F' a with
  | none => rfl
  | some o' =>
    have := E.n a o' q hf
    rw [hh] at this
    exact (ho.not_lo this).elim
theorem StOk.mono (ok : StOk K F0 H0 F H σ g) (E : Ext F H F' H') : StOk K F0 H0 F' H' σ g :=
  ⟨ok.e.trans E, ok.len, fun i d q => let ⟨v, a, b⟩ := ok.dat i d q; ⟨v, a, dp_mono E.f d b⟩,
    fun i ds q => let ⟨a, xs, h1, h2, h3, h4, h5⟩ := ok.own i ds q; ⟨a, xs, h1, E.h _ _ h2, E.new_none h3 h2, h4, dpa_mono E.f ds h5⟩, ok.inj⟩
theorem StOk.vd (ok : StOk K F0 H0 F H σ g) : VwOk K F σ (vd g) := by
  refine ⟨by unfold MI.vd; rw [List.length_map]; exact Nat.le_of_eq ok.len.symm, ?_⟩
  intro i d q
  unfold MI.vd at q
  rw [List.getElem?_map] at q
  cases e : g[i]? with
  | none => rw [e] at q; cases q
  | some c =>
    rw [e] at q
    cases c with
    | un => cases q
    | dat d' => cases q; exact ok.dat i d e
    | own ds => cases q
/-- an address of an own list -/
def Own (σ : L2.St) (g : Ce) (a : Addr) : Prop := ∃ (i : Nat) (ds : List D), g[i]? = some (Cell.own ds) ∧ σ[i]? = some (some (V.ref a))
open Classical in
noncomputable def frz (F H : Hp) (σ : L2.St) (g : Ce) : Hp := fun a => if Own σ g a then H a else F a
open Classical in
noncomputable def thw (F' : Hp) (σ : L2.St) (g : Ce) : Hp := fun a => if Own σ g a then none else F' a
theorem frz_own {a : Addr} (h : Own σ g a) : frz F H σ g a = H a := by unfold frz; rw [if_pos h]
theorem frz_not {a : Addr} (h : ¬ Own σ g a) : frz F H σ g a = F a := by unfold frz; rw [if_neg h]
theorem thw_own {a : Addr} (h : Own σ g a) : thw F σ g a = none := by unfold thw; rw [if_pos h]
theorem thw_not {a : Addr} (h : ¬ Own σ g a) : thw F σ g a = F a := by unfold thw; rw [if_neg h]
theorem StOk.ownAt (ok : StOk K F0 H0 F H σ g) {a : Addr} (h : Own σ g a) : ∃ xs, H a = some (.lst xs) ∧ F a = none ∧ H0 a = none := by
  obtain ⟨i, ds, h1, h2⟩ := h
  obtain ⟨b, xs, q1, q2, q3, q4, _⟩ := ok.own i ds h1
  rw [h2] at q1
  cases q1
  exact ⟨xs, q2, q3, q4⟩
theorem StOk.frzF (ok : StOk K F0 H0 F H σ g) : Same F (frz F H σ g) := fun a o e => by
  by_cases h : Own σ g a
  · obtain ⟨_, _, q, _⟩ := ok.ownAt h
    rw [q] at e; cases e
  · rw [frz_not h]; exact e
theorem StOk.frzH (ok : StOk K F0 H0 F H σ g) : Same (frz F H σ g) H := fun a o e => by
  by_cases h : Own σ g a
  · rw [frz_own h] at e; exact e
  · rw [frz_not h] at e; exact ok.e.s _ _ e
theorem StOk.va (ok : StOk K F0 H0 F H σ g) : VwOk K (frz F H σ g) σ (va g) := by
  refine ⟨by unfold MI.va; rw [List.length_map]; exact Nat.le_of_eq ok.len.symm, ?_⟩
  intro i d q
  unfold MI.va at q
  rw [List.getElem?_map] at q
  cases e : g[i]? with
  | none => rw [e] at q; cases q
  | some c =>
    rw [e] at q
    cases c with
    | un => cases q
    | dat d' => cases q; exact let ⟨v, a, b⟩ := ok.dat i d e; ⟨v, a, dp_mono ok.frzF d b⟩
    | own ds =>
      cases q
      obtain ⟨a, xs, h1, h2, h3, h4, h5⟩ := ok.own i ds e
      refine ⟨_, h1, .lst (.inl (.inl ?_)) (dpa_mono ok.frzF ds h5)⟩
      rw [frz_own ⟨i, ds, e, h1⟩]
      exact h2
mutual
theorem dp_flat' {K : PySem.W.Frag} {F G : Hp} (h : ∀ a o, F a = some o → ¬ OwnO o → G a = some o) : ∀ {v : V} {d : D}, Dp K F v d → flat d = true → Dp K G v d
  | _, _, .non, _ => .non
  | _, _, .bl b, _ => .bl b
  | _, _, .int i, _ => .int i
  | _, _, .str z, _ => .str z
  | _, _, .lst a b, f => by unfold flat at f; cases f
  | _, _, .tup a b, f => by
    unfold flat at f
    refine .tup ?_ (dpa_flat' h b f)
    rcases a with (a | ⟨o, a⟩) | a
    · exact .inl (.inl (h _ _ a (by rintro (⟨_, e⟩ | ⟨_, e⟩ | ⟨_, e⟩) <;> cases e)))
    · exact .inl (.inr ⟨o, h _ _ a (by rintro (⟨_, e⟩ | ⟨_, e⟩ | ⟨_, e⟩) <;> cases e)⟩)
    · exact .inr a
  | _, _, .exc c a, _ => .exc c (h _ _ a (by rintro (⟨_, e⟩ | ⟨_, e⟩ | ⟨_, e⟩) <;> cases e))
  | _, _, .excF c a b f v, _ => .excF c (h _ _ a (by rintro (⟨_, e⟩ | ⟨_, e⟩ | ⟨_, e⟩) <;> cases e)) (h _ _ b (by rintro (⟨_, e⟩ | ⟨_, e⟩ | ⟨_, e⟩) <;> cases e)) f v
  | _, _, .fn x, f => by unfold fnD flat at f; cases f
  | _, _, .dct0 a, f => by unfold flat at f; cases f
  | _, _, .dct a b l, f => by unfold flat at f; cases f
  | _, _, .dic a b l, f => by unfold flat at f; cases f
theorem dpa_flat' {K : PySem.W.Frag} {F G : Hp} (h : ∀ a o, F a = some o → ¬ OwnO o → G a = some o) : ∀ {vs : List V} {ds : List D}, DpAll K F vs ds → flatL ds = true → DpAll K G vs ds
  | _, _, .nil, _ => .nil
  | _, _, .cons a b, f => by
    unfold flatL at f
    rw [Bool.and_eq_true] at f
    exact .cons (dp_flat' h a f.1) (dpa_flat' h b f.2)
end
theorem dp_flat {F G : Hp} (h : ∀ a o, F a = some o → (∀ xs, o ≠ .lst xs) → G a = some o) (d : D) {v : V} (a : Dp K F v d) (f : flat d = true) : Dp K G v d := dp_flat' (fun a o e n => h a o e fun xs q => n (.inl ⟨xs, q⟩)) a f
theorem StOk.thwOk (ok : StOk K F0 H0 F H σ g) (E : Ext (frz F H σ g) H F' H') : StOk K F0 H0 (thw F' σ g) H' σ g := by
  have fF : Same F (thw F' σ g) := fun a o e => by
    have hn : ¬ Own σ g a := fun h => by
      obtain ⟨_, _, q, _⟩ := ok.ownAt h
      rw [q] at e; cases e
    rw [thw_not hn]
    exact E.f _ _ (by rw [frz_not hn]; exact e)
  have tF : Same (thw F' σ g) F' := fun a o e => by
    by_cases h : Own σ g a
    · rw [thw_own h] at e; cases e
    · rw [thw_not h] at e; exact e
  refine ⟨⟨ok.e.f.trans fF, ok.e.h.trans E.h, tF.trans E.s, fun a o e n => ?_⟩, ok.len, fun i d q => let ⟨v, a, b⟩ := ok.dat i d q; ⟨v, a, dp_mono fF d b⟩, fun i ds q => ?_, ok.inj⟩
  · have hn : ¬ Own σ g a := fun h => by rw [thw_own h] at e; cases e
    rw [thw_not hn] at e
    cases q : frz F H σ g a with
    | some u =>
      rw [frz_not hn] at q
      exact ok.e.n a u q n
    | none => exact ok.e.h.lo (E.n a o e q)
  · obtain ⟨a, xs, h1, h2, h3, h4, h5⟩ := ok.own i ds q
    exact ⟨a, xs, h1, E.h _ _ h2, thw_own ⟨i, ds, q, h1⟩, h4, dpa_mono fF ds h5⟩
theorem StOk.thwKeep (ok : StOk K F0 H0 F H σ g) (E : Ext (frz F H σ g) H F' H') : ∀ a o, F' a = some o → (∀ xs, o ≠ .lst xs) → thw F' σ g a = some o := fun a o e n => by
  have hn : ¬ Own σ g a := fun h => by
    obtain ⟨xs, q, _, _⟩ := ok.ownAt h
    have : F' a = some (.lst xs) := E.f _ _ (by rw [frz_own h]; exact q)
    rw [this] at e
    cases e
    exact n xs rfl
  rw [thw_not hn]
  exact e
theorem dp_flatO {F G : Hp} (h : ∀ a o, F a = some o → ¬ OwnO o → G a = some o) (d : D) {v : V} (a : Dp K F v d) (f : flat d = true) : Dp K G v d := dp_flat' h a f
theorem xv_flatO {mg : Str → Option Value} {G : Hp} {c : Str} {p : Option D} {cls : Value} {od : Option Addr} (x : XV K mg F c p cls od) (f : flatO p = true) (h : ∀ a o, F a = some o → ¬ OwnO o → G a = some o) : XV K mg G c p cls od := by
  obtain ⟨C, h1, h2, h3⟩ := x
  refine ⟨C, h1, h2, ?_⟩
  cases p with
  | none => exact h3
  | some d =>
    obtain ⟨dx, fl, v, q1, q2, q3, q4⟩ := h3
    exact ⟨dx, fl, v, q1, h _ _ q2 (by rintro (⟨_, e⟩ | ⟨_, e⟩ | ⟨_, e⟩) <;> cases e), q3, dp_flatO h d q4 f⟩
theorem xv_flat {mg : Str → Option Value} {G : Hp} {c : Str} {p : Option D} {cls : Value} {od : Option Addr} (x : XV K mg F c p cls od) (f : flatO p = true) (h : ∀ a o, F a = some o → (∀ xs, o ≠ .lst xs) → G a = some o) : XV K mg G c p cls od := by
  obtain ⟨C, h1, h2, h3⟩ := x
  refine ⟨C, h1, h2, ?_⟩
  cases p with
  | none => exact h3
  | some d =>
    obtain ⟨dx, fl, v, q1, q2, q3, q4⟩ := h3
    exact ⟨dx, fl, v, q1, h _ _ q2 (by intro xs e; cases e), q3, dp_flat h d q4 f⟩
theorem StOk.set (ok : StOk K F0 H0 F H σ g) {i : Nat} {v : V} {d : D} (h : Dp K F v d) : StOk K F0 H0 F H (σ.set i (some v)) (g.set i (.dat d)) := by
  refine ⟨ok.e, by simpa using ok.len, fun j d' q => ?_, fun j ds q => ?_, fun j k ds es a q1 q2 q3 q4 => ?_⟩
  · rw [List.getElem?_set] at q ⊢
    by_cases e : i = j
    · subst e
      rw [if_pos rfl] at q ⊢
      by_cases l : i < g.length
      · rw [if_pos l] at q
        rw [if_pos (by rw [ok.len]; exact l)]
        cases q
        exact ⟨v, rfl, h⟩
      · rw [if_neg l] at q; cases q
    · rw [if_neg e] at q ⊢
      exact ok.dat j d' q
  · rw [List.getElem?_set] at q ⊢
    by_cases e : i = j
    · subst e
      rw [if_pos rfl] at q
      split at q <;> cases q
    · rw [if_neg e] at q ⊢
      exact ok.own j ds q
  · rw [List.getElem?_set] at q1 q2 q3 q4
    by_cases e : i = j
    · subst e
      rw [if_pos rfl] at q1
      split at q1 <;> cases q1
    · by_cases e2 : i = k
      · subst e2
        rw [if_pos rfl] at q2
        split at q2 <;> cases q2
      · rw [if_neg e] at q1 q3
        rw [if_neg e2] at q2 q4
        exact ok.inj j k ds es a q1 q2 q3 q4
/-- a list that nobody else holds -/
theorem StOk.setOwn (ok : StOk K F0 H0 F H σ g) {i : Nat} {a : Addr} {xs : List V} {ds : List D} (h : DpAll K F xs ds) (hH : H a = some (.lst xs)) (hF : F a = none) (h0 : H0 a = none) (ho : ∀ j es, j ≠ i → g[j]? = some (.own es) → σ[j]? ≠ some (some (.ref a))) :
    StOk K F0 H0 F H (σ.set i (some (.ref a))) (g.set i (.own ds)) := by
  refine ⟨ok.e, by simpa using ok.len, fun j d' q => ?_, fun j es q => ?_, fun j k ds' es b q1 q2 q3 q4 => ?_⟩
  · rw [List.getElem?_set] at q ⊢
    by_cases e : i = j
    · subst e
      rw [if_pos rfl] at q
      split at q <;> cases q
    · rw [if_neg e] at q ⊢
      exact ok.dat j d' q
  · rw [List.getElem?_set] at q ⊢
    by_cases e : i = j
    · subst e
      rw [if_pos rfl] at q ⊢
      by_cases l : i < g.length
      · rw [if_pos l] at q
        rw [if_pos (by rw [ok.len]; exact l)]
        cases q
        exact ⟨a, xs, rfl, hH, hF, h0, h⟩
      · rw [if_neg l] at q; cases q
    · rw [if_neg e] at q ⊢
      exact ok.own j es q
  · rw [List.getElem?_set] at q1 q2 q3 q4
    by_cases e : i = j
    · subst e
      by_cases e2 : i = k
      · exact e2
      · rw [if_neg e2] at q2 q4
        rw [if_pos rfl] at q3
        split at q3
        · cases q3
          exact absurd q4 (ho k es (Ne.symm e2) q2)
        · cases q3
    · by_cases e2 : i = k
      · subst e2
        rw [if_neg e] at q1 q3
        rw [if_pos rfl] at q4
        split at q4
        · cases q4
          exact absurd q3 (ho j ds' (Ne.symm e) q1)
        · cases q4
      · rw [if_neg e] at q1 q3
        rw [if_neg e2] at q2 q4
        exact ok.inj j k ds' es b q1 q2 q3 q4
/-- new ground for a part: what is frozen now stays -/
theorem StOk.base (ok : StOk K F0 H0 F H σ g) : StOk K F H0 F H σ g :=
  ⟨⟨Same.refl F, ok.e.h, ok.e.s, fun a o e n => by rw [n] at e; cases e⟩, ok.len, ok.dat, ok.own, ok.inj⟩
theorem Ext.back (b : Ext F0 H0 F H) (a : Ext F H0 F' H') : Ext F0 H0 F' H' :=
  ⟨b.f.trans a.f, a.h, a.s, fun x o e n => by
    cases q : F x with
    | some u => exact b.n x u q n
    | none => exact a.n x o e q⟩
theorem StOk.back {σ' : L2.St} {g' : Ce} (b : Ext F0 H0 F H) (ok : StOk K F H0 F' H' σ' g') : StOk K F0 H0 F' H' σ' g' :=
  ⟨b.back ok.e, ok.len, ok.dat, ok.own, ok.inj⟩
end
section
variable (K : PySem.W.Frag) (mg : Str → Option Value) (W : WX)
def SPost (F0 H0 : Hp) (D : Ends) : Out → Prop
  | .nx g => ∀ F H σ, StOk K F0 H0 F H σ g → D.nx σ H
  | .rt d => ∀ v F H, Ext F0 H0 F H → Dp K F v d → D.rt v H
  | .bk g => ∀ F H σ, StOk K F0 H0 F H σ g → D.bk σ H
  | .ct g => ∀ F H σ, StOk K F0 H0 F H σ g → D.ct σ H
  | .ex c p g => ∀ cls od F H σ, StOk K F0 H0 F H σ g → XV K mg F c p cls od → W cls od σ H
  | .bad => False
def tS (m : S) : TS := fun D σ H => ∃ F0 H0 F g, StOk K F0 H0 F H σ g ∧ SPost K mg W F0 H0 D (m g)
end
section
variable {K : PySem.W.Frag} {mg : Str → Option Value} {W : WX} {F0 H0 F H : Hp} {D D' : Ends} {o : Out}
theorem SPost.base (b : Ext F0 H0 F H) (h : SPost K mg W F0 H0 D o) : SPost K mg W F H0 D o := by
  cases o with
  | nx g => exact fun F' H' σ ok => h F' H' σ (ok.back b)
  | rt d => exact fun v F' H' e q => h v F' H' (b.back e) q
  | bk g => exact fun F' H' σ ok => h F' H' σ (ok.back b)
  | ct g => exact fun F' H' σ ok => h F' H' σ (ok.back b)
  | ex c p g => exact fun cls od F' H' σ ok x => h cls od F' H' σ (ok.back b) x
  | bad => exact h
end
abbrev MS (X : Cx) (W : WX) (st : Stmt) (m : S) : Prop := PS X st (tS X.K X.mg W m)
abbrev MSs (X : Cx) (W : WX) (st : List Stmt) (m : S) : Prop := PSs X st (tS X.K X.mg W m)
/-- what an expression told, to what follows; g: the cells, if it raised -/
def R.to {α : Type} (x : R α) (g : Ce) (k : α → Out) : Out := match x with
  | .ok a => k a
  | .exc c p => if flatO p = true then .ex c p g else .bad
  | .bad => .bad
section
variable {X : Cx} {W : WX} {F0 H0 F H : Hp} {σ : L2.St} {g : Ce} {D : Ends}
theorem ev_vd {m : M} {k : MI.D → Out} {Q : VK} (ok : StOk X.K F0 H0 F H σ g) (h : SPost X.K X.mg W F0 H0 D ((m (vd g)).to g k))
    (q : ∀ d v F' H', m (vd g) = .ok d → StOk X.K F0 H0 F' H' σ g → Dp X.K F' v d → SPost X.K X.mg W F0 H0 D (k d) → Q v H') : tM X W m σ H Q := by
  refine ⟨F, vd g, ok.e.s, ok.vd, ?_⟩
  cases e : m (vd g) with
  | ok d => rw [e] at h; exact fun v F' H' E hd => q d v F' H' e (ok.mono E) hd h
  | exc c p =>
    rw [e] at h
    unfold R.to at h
    dsimp only at h
    split at h
    · exact fun cls od F' H' E x => h cls od F' H' σ (ok.mono E) x
    · exact h.elim
  | bad => rw [e] at h; exact h
theorem evA_vd {m : Vw → R (List MI.D)} {k : List MI.D → Out} {Q : List V → Hp → Prop} (ok : StOk X.K F0 H0 F H σ g) (h : SPost X.K X.mg W F0 H0 D ((m (vd g)).to g k))
    (q : ∀ ds vs F' H', m (vd g) = .ok ds → StOk X.K F0 H0 F' H' σ g → DpAll X.K F' vs ds → SPost X.K X.mg W F0 H0 D (k ds) → Q vs H') : tA X W m σ H Q := by
  refine ⟨F, vd g, ok.e.s, ok.vd, ?_⟩
  cases e : m (vd g) with
  | ok d => rw [e] at h; exact fun v F' H' E hd => q d v F' H' e (ok.mono E) hd h
  | exc c p =>
    rw [e] at h
    unfold R.to at h
    dsimp only at h
    split at h
    · exact fun cls od F' H' E x => h cls od F' H' σ (ok.mono E) x
    · exact h.elim
  | bad => rw [e] at h; exact h
theorem ev_va {m : M} {k : MI.D → Out} {Q : VK} (ok : StOk X.K F0 H0 F H σ g) (h : SPost X.K X.mg W F0 H0 D ((m (va g)).to g k))
    (q : ∀ d v F' H', m (va g) = .ok d → StOk X.K F0 H0 F' H' σ g → (flat d = true → Dp X.K F' v d) → SPost X.K X.mg W F0 H0 D (k d) → Q v H') : tM X W m σ H Q := by
  refine ⟨frz F H σ g, va g, ok.frzH, ok.va, ?_⟩
  cases e : m (va g) with
  | ok d => rw [e] at h; exact fun v F' H' E hd => q d v _ H' e (ok.thwOk E) (fun f => dp_flat (ok.thwKeep E) d hd f) h
  | exc c p =>
    rw [e] at h
    unfold R.to at h
    dsimp only at h
    split at h
    · rename_i fl
      exact fun cls od F' H' E x => h cls od _ H' σ (ok.thwOk E) (xv_flat x fl (ok.thwKeep E))
    · exact h.elim
  | bad => rw [e] at h; exact h
theorem evT_va {m : Vw → R Bool} {k : Bool → Out} {Q : Bool → Hp → Prop} (ok : StOk X.K F0 H0 F H σ g) (h : SPost X.K X.mg W F0 H0 D ((m (va g)).to g k))
    (q : ∀ b F' H', m (va g) = .ok b → StOk X.K F0 H0 F' H' σ g → SPost X.K X.mg W F0 H0 D (k b) → Q b H') : tT X W m σ H Q := by
  refine ⟨frz F H σ g, va g, ok.frzH, ok.va, ?_⟩
  cases e : m (va g) with
  | ok b => rw [e] at h; exact fun F' H' E => q b _ H' e (ok.thwOk E) h
  | exc c p =>
    rw [e] at h
    unfold R.to at h
    dsimp only at h
    split at h
    · rename_i fl
      exact fun cls od F' H' E x => h cls od _ H' σ (ok.thwOk E) (xv_flat x fl (ok.thwKeep E))
    · exact h.elim
  | bad => rw [e] at h; exact h
end
def sNop : S := .nx
def sSeq (a b : S) : S := fun g => match a g with
  | .nx g' => b g'
  | o => o
def sIf (t : Vw → R Bool) (a b : S) : S := fun g => (t (va g)).to g fun k => if k = true then a g else b g
def sRet (m : M) : S := fun g => match m (va g) with
  | .ok d => .rt d
  | .exc c p => if flatO p = true then .ex c p g else .bad
  | .bad => .bad
def sRetN : S := fun _ => .rt .none
def sBreak : S := .bk
def sCont : S := .ct
def sExpr (m : M) : S := fun g => (m (va g)).to g fun _ => .nx g
def sSet (i : Nat) (m : M) : S := fun g => (m (vd g)).to g fun d => .nx (g.set i (.dat d))
def sSetF (i : Nat) (m : M) : S := fun g => (m (va g)).to g fun d => if flat d = true then .nx (g.set i (.dat d)) else .bad
def sPar (i j : Nat) (m : Vw → R (List D)) : S := fun g => (m (vd g)).to g fun ds => match ds with
  | [x, y] => .nx ((g.set i (.dat x)).set j (.dat y))
  | _ => .bad
def sRaise (c : Str) : S := fun g => .ex c none g
def sApp (i : Nat) (m : M) : S := fun g => match g[i]? with
  | some (.own ds) => (m (vd g)).to g fun d => if ds.length < most then .nx (g.set i (.own (ds ++ [d]))) else .bad
  | _ => .bad
section
variable {X : Cx} {W : WX} {pos : Pos} {st : Stmt} {rest : List Stmt} {a b : S}
theorem mss_nil : MSs X W [] sNop := PSs.imp pss_nil fun D σ H ⟨F0, H0, F, g, ok, h⟩ => h F H σ ok
theorem mss_cons (h1 : MS X W st a) (h2 : MSs X W rest b) : MSs X W (st :: rest) (sSeq a b) := by
  refine PSs.imp (pss_cons h1 h2) fun D σ H ⟨F0, H0, F, g, ok, h⟩ => ⟨F0, H0, F, g, ok, ?_⟩
  unfold sSeq at h
  cases e : a g with
  | nx g' =>
    rw [e] at h
    intro F' H' σ' ok'
    exact ⟨F0, H0, F', g', ok', h⟩
  | rt d => rw [e] at h; exact h
  | bk g' => rw [e] at h; exact h
  | ct g' => rw [e] at h; exact h
  | ex c p g' => rw [e] at h; exact h
  | bad => rw [e] at h; exact h
theorem mss_one (h1 : MS X W st a) : MSs X W [st] a := pss_one h1
theorem ms_if {c : Expr} {p q : List Stmt} {t : Vw → R Bool} (hc : MT X W c t) (ha : MSs X W p a) (hb : MSs X W q b) : MS X W (.If c p q pos) (sIf t a b) := by
  refine PS.imp (ps_if hc ha hb) fun D σ H ⟨F0, H0, F, g, ok, h⟩ => evT_va ok h fun k F' H' e ok' h' => ?_
  cases k with
  | true => exact ⟨F0, H0, F', g, ok', h'⟩
  | false => exact ⟨F0, H0, F', g, ok', h'⟩
theorem ms_ret {e : Expr} {m : M} (he : ME X W e m) : MS X W (.Return (some e) pos) (sRet m) := by
  refine PS.imp (ps_ret he) fun D σ H ⟨F0, H0, F, g, ok, h⟩ => ⟨frz F H σ g, va g, ok.frzH, ok.va, ?_⟩
  unfold sRet at h
  cases e : m (va g) with
  | ok d =>
    rw [e] at h
    intro v F' H' E hd
    refine h v F' H' ⟨ok.e.f.trans (ok.frzF.trans E.f), ok.e.h.trans E.h, E.s, fun a o q n => ?_⟩ hd
    cases z : frz F H σ g a with
    | some u =>
      by_cases w : Own σ g a
      · obtain ⟨_, _, _, y⟩ := ok.ownAt w
        exact .inl y
      · rw [frz_not w] at z
        exact ok.e.n a u z n
    | none => exact ok.e.h.lo (E.n a o q z)
  | exc c p =>
    rw [e] at h
    dsimp only at h
    split at h
    · rename_i fl
      exact fun cls od F' H' E x => h cls od _ H' σ (ok.thwOk E) (xv_flat x fl (ok.thwKeep E))
    · exact h.elim
  | bad => rw [e] at h; exact h
theorem ms_set {i : Nat} {x : Str} {e : Expr} {m : M} {pos' : Pos} (hN : X.N.Nodup) (hi : X.N[i]? = some x) (hx : Loc X.env.scope x) (he : ME X W e m) (hs : swapsWith e (some (.Name x pos')) pos.line X.env = pure false) (hf : X.fn x = true ∨ X.env.scope.names.lookup x = some .local) :
    MS X W (.Assign [.Name x pos'] e pos) (sSet i m) := by
  refine PS.imp (ps_set hN hi hx he hs hf) fun D σ H ⟨F0, H0, F, g, ok, h⟩ => ?_
  exact ev_vd (Q := fun v H1 => D.nx (σ.set i (some v)) H1) ok h fun d v F' H' e ok' hd h' => h' F' H' _ (ok'.set hd)
theorem ms_par {i j : Nat} {x y : Str} {e f : Expr} {m : Vw → R (List D)} {px py pt : Pos} {kt k2 pt2} (hc : X.calm = true) (hN : X.N.Nodup) (hi : X.N[i]? = some x) (hj : X.N[j]? = some y) (hij : i ≠ j)
    (hx : X.env.scope.names.lookup x = some .local) (hy : X.env.scope.names.lookup y = some .local) (ha : MA X W [e, f] m)
    (hw : swappedStores [.Tuple [.Name x px, .Name y py] kt pt] (.Tuple [e, f] k2 pt2) X.env = pure (some [x, y]))
    (hs : swapsWithSole [.Tuple [.Name x px, .Name y py] kt pt] (.Tuple [e, f] k2 pt2) pos.line X.env = pure false) :
    MS X W (.Assign [.Tuple [.Name x px, .Name y py] kt pt] (.Tuple [e, f] k2 pt2) pos) (sPar i j m) := by
  refine PS.imp (ps_par hc hN hi hj hij hx hy ha hw hs) fun D σ H ⟨F0, H0, F, g, ok, h⟩ => ?_
  refine evA_vd ok h fun ds vs F' H' e ok' hd h' => ?_
  cases hd with
  | nil => exact h'.elim
  | cons h1 r =>
    cases r with
    | nil => exact h'.elim
    | cons h2 r =>
      cases r with
      | nil => exact ⟨_, _, rfl, h' F' H' _ ((ok'.set h1).set h2)⟩
      | cons h3 r => exact h'.elim
theorem ms_raise {c : Str} {e : Expr} {C : Addr} (hc : X.calm = true) (tk : Takes X W) (gC : X.mg c = some (.ref C)) (he : PMk X e (fun _ H Q => Q (.ref C) none H)) : MS X W (.Raise (some e) none pos) (sRaise c) :=
  PS.imp (ps_raise hc tk he) fun D σ H ⟨F0, H0, F, g, ok, h⟩ => h (.ref C) none F H σ ok ⟨C, gC, rfl, rfl⟩
end
end MI
set_option Elab.async false
set_option linter.all false
set_option maxRecDepth 100000
set_option maxHeartbeats 4000000
namespace MI
open PySem PySem.Spec PyProof.Rows L2
abbrev Tg := D → Ce → Option Ce
def gN (i : Nat) : Tg := fun d g => some (g.set i (.dat d))
abbrev Tgs := List D → Ce → Option Ce
def gsNil : Tgs := fun ds g => match ds with
  | [] => some g
  | _ => none
def gsCons (t : Tg) (u : Tgs) : Tgs := fun ds g => match ds with
  | d :: r => (t d g).bind (u r)
  | [] => none
/-- a, b, .. = a tuple -/
def gT (u : Tgs) : Tg := fun d g => match d with
  | .tuple ds => u ds g
  | _ => none
/-- what a target's rule asks -/
def TgOk (K : PySem.W.Frag) (r : TG) (t : Tg) : Prop := ∀ (F0 H0 F H : Hp) (σ : L2.St) (g g' : Ce) (v : V) (d : D) (Q : L2.St → Hp → Prop),
  StOk K F0 H0 F H σ g → Dp K F v d → t d g = some g' → (∀ σ', StOk K F0 H0 F H σ' g' → Q σ' H) → r v σ H Q
def TgsOk (K : PySem.W.Frag) (n : Nat) (r : TGs) (t : Tgs) : Prop := (∀ ds g g', t ds g = some g' → ds.length = n) ∧ ∀ (F0 H0 F H : Hp) (σ : L2.St) (g g' : Ce) (vs : List V) (ds : List D) (Q : L2.St → Hp → Prop),
  StOk K F0 H0 F H σ g → DpAll K F vs ds → t ds g = some g' → (∀ σ', StOk K F0 H0 F H σ' g' → Q σ' H) → r vs σ H Q
theorem gN_ok {K : PySem.W.Frag} {i : Nat} : TgOk K (gName i) (gN i) := fun F0 H0 F H σ g g' v d Q ok hd e q => by
  cases e
  exact q _ (ok.set hd)
theorem gsNil_ok {K : PySem.W.Frag} : TgsOk K 0 gNil gsNil := by
  refine ⟨fun ds g g' e => ?_, fun F0 H0 F H σ g g' vs ds Q ok hd e q => ?_⟩
  · cases ds with
    | nil => rfl
    | cons a b => cases e
  · cases hd with
    | nil =>
      cases e
      exact ⟨rfl, q _ ok⟩
    | cons a b => cases e
theorem gsCons_ok {K : PySem.W.Frag} {n : Nat} {r : TG} {rs : TGs} {t : Tg} {ts : Tgs} (h1 : TgOk K r t) (h2 : TgsOk K n rs ts) : TgsOk K (n + 1) (gCons r rs) (gsCons t ts) := ⟨fun ds g g' e => by
  cases ds with
  | nil => cases e
  | cons d ds =>
    have e' : (t d g).bind (ts ds) = some g' := e
    cases q : t d g with
    | none => rw [q] at e'; cases e'
    | some g1 =>
      rw [q] at e'
      exact congrArg Nat.succ (h2.1 ds g1 g' e'), fun F0 H0 F H σ g g' vs ds Q ok hd e Q' => by
  cases hd with
  | nil => cases e
  | @cons v vs d ds a b =>
    have e' : (t d g).bind (ts ds) = some g' := e
    cases q : t d g with
    | none => rw [q] at e'; cases e'
    | some g1 =>
      rw [q] at e'
      exact ⟨v, vs, rfl, h1 F0 H0 F H σ g g1 v d _ ok a q fun σ' ok' => h2.2 F0 H0 F H σ' g1 g' vs ds Q ok' b e' Q'⟩⟩
theorem gT_ok {K : PySem.W.Frag} {n : Nat} {r : TGs} {t : Tgs} (h : TgsOk K n r t) : TgOk K (gTup K n r) (gT t) := fun F0 H0 F H σ g g' v d Q ok hd e q => by
  cases hd with
  | tup a b =>
    exact ⟨_, _, rfl, same_t ok.e.s a, (dpa_len b).trans (h.1 _ _ _ e), h.2 F0 H0 F H σ g g' _ _ Q ok b e q⟩
  | _ => cases e
def sAsg (t : Tg) (m : M) : S := fun g => (m (vd g)).to g fun d => match t d g with
  | some g' => .nx g'
  | none => .bad
theorem ms_asg {X : Cx} {W : WX} {pos : Pos} {tg e : Expr} {m : M} {r : TG} {t : Tg} (he : ME X W e m) (hg : PG X tg r) (ht : TgOk X.K r t) (hs : swapsWithSole [tg] e pos.line X.env = pure false) (hw : swappedStores [tg] e X.env = pure none) (h1 : (assignEach [tg] X.env).map (·.2) = [assign tg X.env]) : MS X W (.Assign [tg] e pos) (sAsg t m) := by
  refine PS.imp (ps_asg he hg hs hw h1) fun D σ H ⟨F0, H0, F, g, ok, h⟩ => ?_
  refine ev_vd (Q := fun v H1 => r v σ H1 D.nx) ok h fun d v F' H' e ok' hd h' => ?_
  cases q : t d g with
  | none => rw [q] at h'; exact h'.elim
  | some g' =>
    rw [q] at h'
    exact ht F0 H0 F' H' σ g g' v d D.nx ok' hd q fun σ' ok2 => h' F' H' σ' ok2
def loopF (t : Tg) (b : S) : List D → S
  | [], g => .nx g
  | d :: ds, g => match t d g with
    | none => .bad
    | some g1 => match b g1 with
      | .nx g2 => loopF t b ds g2
      | .ct g2 => loopF t b ds g2
      | .bk g2 => .nx g2
      | o => o
def iLT (K : PySem.W.Frag) (tl : TE) : TI := fun σ H R => iList K tl σ H R ∨ iTup K tl σ H R
theorem pi_lt {X : Cx} {tg l : Expr} {tl : TE} (hl : PE X l tl) : PI X tg l (iLT X.K tl) := ⟨fun pins s σ H R I h => by
  rcases h with h | h
  · exact (pi_list hl).run pins s σ H R I h
  · exact (pi_tup hl).run pins s σ H R I h⟩
/-- one turn -/
theorem loopF_turn {K : PySem.W.Frag} {mg : Str → Option Value} {W : WX} {F0 H0 F H : Hp} {σ : L2.St} {g : Ce} {D : Ends} {r : TG} {t : Tg} {b : S} {d : MI.D} {ds : List MI.D} {x : V} {N : L2.St → Hp → Prop} (ht : TgOk K r t)
    (ok : StOk K F0 H0 F H σ g) (hd : Dp K F x d) (h : SPost K mg W F0 H0 D (loopF t b (d :: ds) g))
    (n : ∀ F' H' σ' g', StOk K F H0 F' H' σ' g' → SPost K mg W F0 H0 D (loopF t b ds g') → N σ' H') :
    r x σ H fun σ2 H2 => tS K mg W b { D with nx := N, ct := N, bk := D.nx } σ2 H2 := by
  unfold loopF at h
  cases q : t d g with
  | none => rw [q] at h; exact h.elim
  | some g1 =>
    rw [q] at h
    refine ht F0 H0 F H σ g g1 x d _ ok hd q fun σ' ok' => ⟨F, H0, F, g1, ok'.base, ?_⟩
    dsimp only at h
    cases e : b g1 with
    | nx g2 =>
      rw [e] at h
      exact fun F' H' σ2 ok2 => n F' H' σ2 g2 ok2 h
    | ct g2 =>
      rw [e] at h
      exact fun F' H' σ2 ok2 => n F' H' σ2 g2 ok2 h
    | bk g2 =>
      rw [e] at h
      exact fun F' H' σ2 ok2 => h F' H' σ2 (ok2.back ok'.e)
    | rt v =>
      rw [e] at h
      have h' : SPost K mg W F0 H0 D (.rt v) := h
      exact fun v F' H' E q => h' v F' H' (ok'.e.back E) q
    | ex c p g2 =>
      rw [e] at h
      have h' : SPost K mg W F0 H0 D (.ex c p g2) := h
      exact fun cls od F' H' σ2 ok2 x => h' cls od F' H' σ2 (ok2.back ok'.e) x
    | bad => rw [e] at h; exact h
theorem drop_get {α : Type} {l : List α} {i : Nat} {x : α} (h : l[i]? = some x) : l.drop i = x :: l.drop (i + 1) := by
  obtain ⟨hi, e⟩ := List.getElem?_eq_some_iff.mp h
  rw [List.drop_eq_getElem_cons hi, e]
def loopW (t : Vw → R Bool) (b : S) : Nat → S
  | 0, _ => .bad
  | n + 1, g => (t (va g)).to g fun k => if k = true then (match b g with
      | .nx g2 => loopW t b n g2
      | .ct g2 => loopW t b n g2
      | .bk g2 => .nx g2
      | o => o) else .nx g
theorem ms_while {X : Cx} {W : WX} {pos : Pos} {c : Expr} {body : List Stmt} {t : Vw → R Bool} {b : S} {n : Nat} (hp : PassesOwn (model X.prog X.w) X.A X.env X.xe) (hc : MT X W c t) (hb : MSs X W body b) : MS X W (.While c body [] pos) (loopW t b n) := by
  refine PS.imp (ps_while hp hc hb) fun D σ H ⟨F0, H0, F, g, ok, h⟩ => ?_
  refine ⟨fun m σ H => ∃ F g, StOk X.K F0 H0 F H σ g ∧ SPost X.K X.mg W F0 H0 D (loopW t b m g), ⟨n, F, g, ok, h⟩, ?_⟩
  rintro m σ H ⟨F, g, ok, h⟩
  cases m with
  | zero => exact h.elim
  | succ m =>
    refine evT_va ok h fun k F' H' e ok' h' => ?_
    cases k with
    | false => exact h' F' H' σ ok'
    | true =>
      rw [if_pos rfl] at h' ⊢
      refine ⟨fun σ' H' => ∃ F g, StOk X.K F0 H0 F H' σ' g ∧ SPost X.K X.mg W F0 H0 D (loopW t b m g), fun σ' H' q => ⟨m, Nat.lt_succ_self m, q⟩, F0, H0, F', g, ok', ?_⟩
      cases e : b g with
      | nx g2 =>
        rw [e] at h'
        exact fun F3 H3 σ3 ok3 => ⟨F3, g2, ok3, h'⟩
      | ct g2 =>
        rw [e] at h'
        exact fun F3 H3 σ3 ok3 => ⟨F3, g2, ok3, h'⟩
      | bk g2 =>
        rw [e] at h'
        exact fun F3 H3 σ3 ok3 => h' F3 H3 σ3 ok3
      | rt v => rw [e] at h'; exact h'
      | ex c p g2 => rw [e] at h'; exact h'
      | bad => rw [e] at h'; exact h'
def rngL (lo c : Int) (n : Nat) : List D := (List.range n).map fun (i : Nat) => .int (lo + (i : Int) * c)
theorem rngL_get {lo c : Int} {n i : Nat} (h : i < n) : (rngL lo c n)[i]? = some (.int (lo + (i : Int) * c)) := by
  unfold rngL
  rw [List.getElem?_map, List.getElem?_range h]
  rfl
theorem rngL_len {lo c : Int} {n : Nat} : (rngL lo c n).length = n := by
  unfold rngL
  rw [List.length_map, List.length_range]
def lim62 (i : Int) : Bool := decide (-(2 ^ 62) ≤ i) && decide (i < 2 ^ 62)
def rng1 : List D → Option (List D)
  | [.int j] => if lim62 j = true then some (rngL 0 1 j.toNat) else none
  | _ => none
def rng2 : List D → Option (List D)
  | [.int i, .int j] => if (lim62 i && lim62 j) = true then some (rngL i 1 (j - i).toNat) else none
  | _ => none
def rng3 : List D → Option (List D)
  | [.int i, .int j, .int c] => if c ≠ 0 ∧ c.natAbs < 1073741824 ∧ Builtin.Range.small i j c = true ∧ 0 ≤ Builtin.Range.rangeSize i j c then some (rngL i c (Builtin.Range.rangeSize i j c).toNat) else none
  | _ => none
section
end
theorem dpa1 {K : PySem.W.Frag} {F : Hp} {vs : List V} {a : D} (h : DpAll K F vs [a]) : ∃ v, vs = [v] ∧ Dp K F v a := by
  cases h with
  | cons a b => cases b; exact ⟨_, rfl, a⟩
theorem dpa2 {K : PySem.W.Frag} {F : Hp} {vs : List V} {a b : D} (h : DpAll K F vs [a, b]) : ∃ v w, vs = [v, w] ∧ Dp K F v a ∧ Dp K F w b := by
  cases h with
  | cons a r =>
    obtain ⟨w, rfl, q⟩ := dpa1 r
    exact ⟨_, _, rfl, a, q⟩
theorem dpa3 {K : PySem.W.Frag} {F : Hp} {vs : List V} {a b c : D} (h : DpAll K F vs [a, b, c]) : ∃ v w x, vs = [v, w, x] ∧ Dp K F v a ∧ Dp K F w b ∧ Dp K F x c := by
  cases h with
  | cons a r =>
    obtain ⟨w, x, rfl, q, q'⟩ := dpa2 r
    exact ⟨_, _, _, rfl, a, q, q'⟩
theorem dp_int {K : PySem.W.Frag} {F : Hp} {v : V} {i : Int} (h : Dp K F v (.int i)) : v = .int i := by cases h; rfl
section
end
/-- sub: whether an exception of that class is caught; none: no claim -/
def sTry (sub : Str → Option Bool) (b u : S) : S := fun g => match b g with
  | .ex c p g' => (match sub c with
    | some true => (match u g' with
      | .ex _ _ _ => .bad
      | o => o)
    | some false => .ex c p g'
    | none => .bad)
  | o => o
def SubOk (K : PySem.W.Frag) (mg : Str → Option Value) (sub : Str → Option Bool) (c : Value) : Prop := ∀ x k C, sub x = some k → mg x = some (.ref C) → PySem.W.exmOne K (.ref C) c = some k
end MI
set_option Elab.async false
set_option linter.all false
set_option maxRecDepth 100000
set_option maxHeartbeats 4000000
namespace MI
open PySem PySem.Spec PyProof.Rows L2
def run (n N : Nat) (m : S) (ds : List D) : R D := if ds.length = n then (match m (ds.map Cell.dat ++ List.replicate (N - n) Cell.un) with
  | .nx _ => .ok .none
  | .rt d => .ok d
  | .ex c p _ => .exc c p
  | _ => .bad) else .bad
def FPost (K : PySem.W.Frag) (mg : Str → Option Value) (F H : Hp) (Q : VK) (E : XK) : R D → Prop
  | .ok d => ∀ v F' H', Ext F H F' H' → Dp K F' v d → Q v H'
  | .exc c p => ∀ cls od F' H', Ext F H F' H' → XV K mg F' c p cls od → E cls od H'
  | .bad => False
def spD (K : PySem.W.Frag) (mg : Str → Option Value) (n : Nat) (f : List D → R D) : Sp := fun vs H Q E => ∃ F ds, Same F H ∧ DpAll K F vs ds ∧ ds.length = n ∧ FPost K mg F H Q E (f ds)
theorem StOk.start {K : PySem.W.Frag} {F H : Hp} {vs : List V} {ds : List D} {N : List Str} (s : Same F H) (h : DpAll K F vs ds) (l : ds.length ≤ N.length) : StOk K F H F H (start N vs) (ds.map Cell.dat ++ List.replicate (N.length - ds.length) Cell.un) := by
  have hl := dpa_len h
  refine ⟨Ext.refl s, ?_, fun i d q => ?_, fun i es q => ?_, fun i j es es' a q => ?_⟩
  · unfold L2.start
    simp
    omega
  · by_cases hi : i < ds.length
    · rw [List.getElem?_append_left (by simpa using hi), List.getElem?_map] at q
      cases e : ds[i]? with
      | none => rw [e] at q; cases q
      | some d' =>
        rw [e] at q
        cases q
        obtain ⟨v, h1, h2⟩ := dpa_get h e
        refine ⟨v, ?_, h2⟩
        unfold L2.start
        rw [List.getElem?_append_left (by simpa [hl] using hi), List.getElem?_map, h1]
        rfl
    · rw [List.getElem?_append_right (by simpa using hi), List.getElem?_replicate] at q
      split at q <;> cases q
  · by_cases hi : i < ds.length
    · rw [List.getElem?_append_left (by simpa using hi), List.getElem?_map] at q
      cases e : ds[i]? with
      | none => rw [e] at q; cases q
      | some d' => rw [e] at q; cases q
    · rw [List.getElem?_append_right (by simpa using hi), List.getElem?_replicate] at q
      split at q <;> cases q
  · exfalso
    by_cases hi : i < ds.length
    · rw [List.getElem?_append_left (by simpa using hi), List.getElem?_map] at q
      cases e : ds[i]? with
      | none => rw [e] at q; cases q
      | some d' => rw [e] at q; cases q
    · rw [List.getElem?_append_right (by simpa using hi), List.getElem?_replicate] at q
      split at q <;> cases q
/-- a def's W -/
abbrev WD (E : XK) : WX := fun cls d _ H => E cls d H
theorem fn_ok {P : Program} {w : World} {K : PySem.W.Frag} {mg : Str → Option Value} {base : Heap} {x qual : Str} {params : Arguments} {body : List Stmt} {scope : Scope} {dvs : List V} {kws : List (Str × V)} {f : Addr} {fd : FuncData} {N ps : List Str} {k : Nat} {m : S}
    (F : FunD K x qual params body scope dvs kws f fd) (Sc : FnScope N ps scope)
    (hbody : ∀ (cdv : Value) (A : Around) (outer : List Env) (s : Shared) (H : Hp) (E : XK), Room k (A.deeper (envOfC qual scope s.heap.objs.size f cdv)) →
      MSs (cxOf (L2.CX P w) P w K mg base N qual scope f cdv A outer s H E) (WD E) body m) :
    FnOk P w K mg base (L2.CX P w) (k + 1) f fd ps (spD K mg ps.length (run ps.length N.length m)) := by
  refine F.ok Sc (fun vs H Q E ⟨F, ds, s, h, l, _⟩ => (dpa_len h).trans l) fun cdv A outer s H vs Q E hr ⟨F, ds, sm, h, l, hp⟩ => ⟨_, hbody cdv A outer s H E hr, F, H, F, _, StOk.start (N := N) sm h ?_, ?_⟩
  · rw [l]
    have := congrArg List.length Sc.pre
    rw [List.length_take] at this
    omega
  · unfold run at hp
    rw [if_pos l] at hp
    rw [l]
    cases e : m (ds.map Cell.dat ++ List.replicate (N.length - ps.length) Cell.un) with
    | nx g =>
      rw [e] at hp
      exact fun F' H' σ ok => hp .non F' H' ok.e .non
    | rt d =>
      rw [e] at hp
      exact hp
    | ex c p g =>
      rw [e] at hp
      exact fun cls od F' H' σ ok xv => hp cls od F' H' ok.e xv
    | bk g => rw [e] at hp; exact (show False from hp).elim
    | ct g => rw [e] at hp; exact (show False from hp).elim
    | bad => rw [e] at hp; exact (show False from hp).elim
theorem FPost.ext {K : PySem.W.Frag} {mg : Str → Option Value} {F H F' H' : Hp} {Q : VK} {E : XK} {r : R D} (e : Ext F H F' H') (h : FPost K mg F H Q E r) : FPost K mg F' H' Q E r := by
  cases r with
  | ok d => exact fun v F2 H2 e2 q => h v F2 H2 (e.trans e2) q
  | exc c p => exact fun cls od F2 H2 e2 q => h cls od F2 H2 (e.trans e2) q
  | bad => exact h
def mCall (n : Nat) (f : List D → R D) (dds : List D) (m : Vw → R (List D)) : M := fun δ => (m δ).bind fun ds => if (ds ++ dds).length = n then f (ds ++ dds) else .bad
theorem me_call {X : Cx} {W : WX} {k n : Nat} {f : Addr} {fd : FuncData} {ps : List Str} {dvs : List V} {ds : List Value} {x : Str} {p pos : Pos} {e : Expr} {es : List Expr} {m : Vw → R (List D)} {fn : List D → R D} {dds : List D}
    (G : FnOk X.prog X.w X.K X.mg X.base (L2.CX X.prog X.w) k f fd ps (spD X.K X.mg n fn)) (hr : Room k X.A) (hg : Gl X x) (hm : X.mg x = some (.ref f)) (hk : PySem.W.keepIn X.K (.ref f) = true) (hb : Binds X.K fd ps ds) (hd : Vals dvs ds)
    (hdd : ∀ F, DpAll X.K F dvs dds) (tk : Takes X W) (ha : MA X W (e :: es) m) (hdb : (x == ("__debug__" : Str)) = false) (he : starEach (e :: es) X.env = (false, eval e X.env) :: starEach es X.env) (hpl : (backTo pos (starEach es X.env)).any (·.1) = false) :
    ME X W (.Call (.Name x p) (e :: es) [] pos) (mCall n fn dds m) := by
  refine PE.imp (pe_callSD (E := WE W) G hr hg hm hk hb hd (fun σ => passAt tk σ) ha hdb he hpl) fun σ H Q ⟨F, δ, s, v, h⟩ => ?_
  refine ⟨F, δ, s, v, ?_⟩
  unfold mCall at h
  cases q : m δ with
  | ok ds' =>
    rw [q, R.bind_ok] at h
    intro vs F' H' E hvs
    split at h
    · rename_i hl
      refine ⟨F', ds' ++ dds, E.s, dpa_append hvs (hdd F'), hl, ?_⟩
      have h2 : FPost X.K X.mg F H Q (WE W σ) (fn (ds' ++ dds)) := by
        cases z : fn (ds' ++ dds) with
        | ok d => rw [z] at h; exact h
        | exc c p => rw [z] at h; exact h
        | bad => rw [z] at h; exact h
      exact h2.ext E
    · exact h.elim
  | exc c p => rw [q] at h; exact h
  | bad => rw [q] at h; exact h
section
variable {X : Cx}
theorem opr_of {f : Value → Value → Sem Value} {r' : R2} (h : ∀ x y H Q, r' x y H Q → ∃ r, OpR X f r ∧ r x y H Q) : OpR X f r' := fun pins s σ H x y v u Q I rx ry hh => by
  obtain ⟨r, ho, q⟩ := h x y H Q hh
  exact ho pins s σ H x y v u Q I rx ry q
theorem unr_of {f : Value → Sem Value} {r' : V → Hp → VK → Prop} (h : ∀ x H Q, r' x H Q → ∃ r, UnR X f r ∧ r x H Q) : UnR X f r' := fun pins s σ H x v Q I rx hh => by
  obtain ⟨r, ho, q⟩ := h x H Q hh
  exact ho pins s σ H x v Q I rx q
theorem callr_of {f : Value} {r' : List V → Hp → VK → Prop} (h : ∀ xs H Q, r' xs H Q → ∃ r, CallR X f r ∧ r xs H Q) : CallR X f r' := fun pins s σ H xs us Q I rx hh => by
  obtain ⟨r, ho, q⟩ := h xs H Q hh
  exact ho pins s σ H xs us Q I rx q
theorem mtr_of {id : String} {r' : V → List V → Hp → VK → Prop} (h : ∀ x xs H Q, r' x xs H Q → ∃ r, MtR X id r ∧ r x xs H Q) : MtR X id r' := fun pins s σ H x xs v us Q I rx rs hh => by
  obtain ⟨r, ho, q⟩ := h x xs H Q hh
  exact ho pins s σ H x xs v us Q I rx rs q
end
theorem dp_str {K : PySem.W.Frag} {F : Hp} {v : V} {i : Str} (h : Dp K F v (.str i)) : v = .str i := by cases h; rfl
theorem dp_bl {K : PySem.W.Frag} {F : Hp} {v : V} {i : Bool} (h : Dp K F v (.bool i)) : v = .bl i := by cases h; rfl
/-- great factors: together below a hundred million bits -/
def okMul (i j : Int) : Bool := decide (i.natAbs.log2 + j.natAbs.log2 < 100000000)
theorem okMul_ok {i j : Int} (h : okMul i j = true) : CMulX i j := by
  unfold okMul at h
  rw [decide_eq_true_eq] at h
  have b : ∀ x : Int, Builtin.Int.intBits x ≤ x.natAbs.log2 + 1 := fun x => by
    unfold Builtin.Int.intBits
    split <;> omega
  have x := b i
  have y := b j
  unfold CMulX
  omega
def okDiv (j : Int) : Bool := decide (j ≠ 0) && decide (j.natAbs.log2 < 9000)
def fAdd : D → D → Option D
  | .int i, .int j => some (.int (i + j))
  | .str a, .str b => if a.length + b.length ≤ most then some (.str (a ++ b)) else none
  | .list a, .list b => none
  | .tuple a, .tuple b => if a ≠ [] ∧ a.length + b.length ≤ most then some (.tuple (a ++ b)) else none
  | _, _ => none
def fSub : D → D → Option D
  | .int i, .int j => some (.int (i - j))
  | _, _ => none
def fMul : D → D → Option D
  | .int i, .int j => if okMul i j = true then some (.int (i * j)) else none
  | _, _ => none
def fFdv : D → D → Option D
  | .int i, .int j => if okDiv j = true then some (.int (i.fdiv j)) else none
  | _, _ => none
def fMod : D → D → Option D
  | .int i, .int j => if j ≠ 0 then some (.int (i.fmod j)) else none
  | _, _ => none
def fPow : D → D → Option D
  | .int i, .int j => if 0 ≤ j ∧ j ≤ 1000000 ∧ i.natAbs < 2 ^ 64 then some (.int (i ^ j.toNat)) else none
  | _, _ => none
def fNeg : D → Option D
  | .int i => some (.int (-i))
  | _ => none
section
variable {X : Cx}
theorem o_add : OpR X (binaryOp .Add) (rD2 X.K fAdd) := opr_of fun x y H Q ⟨F, d1, d2, d, s, h1, h2, e, q⟩ => by
  unfold fAdd at e
  split at e
  · cases e
    cases dp_int h1
    cases dp_int h2
    exact ⟨_, op_add, _, _, rfl, rfl, q _ F H (Ext.refl s) (.int _)⟩
  · split at e
    · rename_i l
      cases e
      cases dp_str h1
      cases dp_str h2
      exact ⟨_, op_add_str, _, _, rfl, rfl, most_le l, q _ F H (Ext.refl s) (.str _)⟩
    · cases e
  · cases e
  · split at e
    · rename_i l
      cases e
      cases h1 with
      | tup a b =>
        cases h2 with
        | tup a2 b2 =>
          refine ⟨_, op_catT, _, _, _, _, rfl, rfl, same_t s a, same_t s a2, ?_, ?_, fun z => ?_, fun _ p hp => q _ _ _ (Ext.new s hp) (.tup (SqT.of upd_same) (dpa_mono (Ext.new (o := .tup _) s hp).f _ (dpa_append b b2)))⟩
          · intro z
            subst z
            cases b
            exact l.1 rfl
          · rw [dpa_len b, dpa_len b2]
            exact most_le l.2
          · subst z
            cases b2
            rw [List.append_nil] at q
            exact q _ F H (Ext.refl s) (.tup a b)
    · cases e
  · cases e
theorem o_sub : OpR X (binaryOp .Sub) (rD2 X.K fSub) := opr_of fun x y H Q ⟨F, d1, d2, d, s, h1, h2, e, q⟩ => by
  unfold fSub at e
  split at e
  · cases e
    cases dp_int h1
    cases dp_int h2
    exact ⟨_, op_sub, _, _, rfl, rfl, q _ F H (Ext.refl s) (.int _)⟩
  · cases e
theorem o_mul : OpR X (binaryOp .Mult) (rD2 X.K fMul) := opr_of fun x y H Q ⟨F, d1, d2, d, s, h1, h2, e, q⟩ => by
  unfold fMul at e
  split at e
  · split at e
    · rename_i l
      cases e
      cases dp_int h1
      cases dp_int h2
      exact ⟨_, op_mulX, _, _, rfl, rfl, okMul_ok l, q _ F H (Ext.refl s) (.int _)⟩
    · cases e
  · cases e
theorem op_fdivZ : OpR X (binaryOp .FloorDiv) (rI (fun _ j => j ≠ 0 ∧ j.natAbs.log2 < 9000) fun i j => .int (i.fdiv j)) :=
  opI fun _ _ _ _ _ _ _ hc q => floordiv_int hc.1 q (.inl (PyProof.noPylong_of_log2 hc.2))
theorem o_fdv : OpR X (binaryOp .FloorDiv) (rD2 X.K fFdv) := opr_of fun x y H Q ⟨F, d1, d2, d, s, h1, h2, e, q⟩ => by
  unfold fFdv at e
  split at e
  · split at e
    · rename_i l
      cases e
      cases dp_int h1
      cases dp_int h2
      unfold okDiv at l
      rw [Bool.and_eq_true, decide_eq_true_eq, decide_eq_true_eq] at l
      exact ⟨_, op_fdivZ, _, _, rfl, rfl, l, q _ F H (Ext.refl s) (.int _)⟩
    · cases e
  · cases e
theorem o_mod : OpR X (binaryOp .Mod) (rD2 X.K fMod) := opr_of fun x y H Q ⟨F, d1, d2, d, s, h1, h2, e, q⟩ => by
  unfold fMod at e
  split at e
  · split at e
    · rename_i l
      cases e
      cases dp_int h1
      cases dp_int h2
      exact ⟨_, op_modN, _, _, rfl, rfl, l, q _ F H (Ext.refl s) (.int _)⟩
    · cases e
  · cases e
theorem o_pow : OpR X (binaryOp .Pow) (rD2 X.K fPow) := opr_of fun x y H Q ⟨F, d1, d2, d, s, h1, h2, e, q⟩ => by
  unfold fPow at e
  split at e
  · split at e
    · rename_i l
      cases e
      cases dp_int h1
      cases dp_int h2
      exact ⟨_, op_pow, _, _, rfl, rfl, l, q _ F H (Ext.refl s) (.int _)⟩
    · cases e
  · cases e
theorem o_neg : UnR X (unaryOp .USub) (rD1 X.K fNeg) := unr_of fun x H Q ⟨F, d1, d, s, h1, e, q⟩ => by
  unfold fNeg at e
  split at e
  · cases e
    cases dp_int h1
    exact ⟨_, un_neg, _, rfl, q _ F H (Ext.refl s) (.int _)⟩
  · cases e
end
def fLt : D → D → Option D
  | .int i, .int j => some (.bool (decide (i < j)))
  | .str a, .str b => some (.bool (decide (a.cps.toList < b.cps.toList)))
  | _, _ => none
def fLe : D → D → Option D
  | .int i, .int j => some (.bool (decide (i ≤ j)))
  | _, _ => none
def fGt : D → D → Option D
  | .int i, .int j => some (.bool (decide (j < i)))
  | _, _ => none
def fGe : D → D → Option D
  | .int i, .int j => some (.bool (decide (j ≤ i)))
  | _, _ => none
def dEq : D → D → Option Bool
  | .int i, .int j => some (decide (i = j))
  | .str a, .str b => some (decide (a = b))
  | .bool a, .bool b => some (decide (a = b))
  | .none, .none => some true
  | d, e => if (SeqAt.shaped d && SeqAt.shaped e) = true then some (PyData.eqv d e) else none
def fEq (d e : D) : Option D := (dEq d e).map .bool
def fNe (d e : D) : Option D := (dEq d e).map fun b => .bool (!b)
def fIs (d e : D) : Option D := match e with
  | .none => (match d with
    | .none => some (.bool true)
    | _ => some (.bool false))
  | _ => none
def fIsN (d e : D) : Option D := match e with
  | .none => (match d with
    | .none => some (.bool false)
    | _ => some (.bool true))
  | _ => none
def fIn (neg : Bool) : D → D → Option D
  | d, .list ds => if (SeqAt.shaped d && SeqAt.shaped (.list ds)) = true then some (.bool (if neg = true then !(ds.any fun z => PyData.eqv z d) else ds.any fun z => PyData.eqv z d)) else none
  | .str a, .str b => some (.bool (if neg = true then !(!(Builtin.Str.occurrences b a 0 b.length 1).isEmpty) else !(Builtin.Str.occurrences b a 0 b.length 1).isEmpty))
  | _, _ => none
section
variable {X : Cx}
theorem o_lt : OpR X (compareOp .Lt) (rD2 X.K fLt) := opr_of fun x y H Q ⟨F, d1, d2, d, s, h1, h2, e, q⟩ => by
  unfold fLt at e
  split at e
  · cases e
    cases dp_int h1
    cases dp_int h2
    exact ⟨_, op_lt, _, _, rfl, rfl, q _ F H (Ext.refl s) (.bl _)⟩
  · cases e
    cases dp_str h1
    cases dp_str h2
    exact ⟨_, op_lt_str, _, _, rfl, rfl, q _ F H (Ext.refl s) (.bl _)⟩
  · cases e
theorem o_le : OpR X (compareOp .LtE) (rD2 X.K fLe) := opr_of fun x y H Q ⟨F, d1, d2, d, s, h1, h2, e, q⟩ => by
  unfold fLe at e
  split at e
  · cases e
    cases dp_int h1
    cases dp_int h2
    exact ⟨_, op_le, _, _, rfl, rfl, q _ F H (Ext.refl s) (.bl _)⟩
  · cases e
theorem o_gt : OpR X (compareOp .Gt) (rD2 X.K fGt) := opr_of fun x y H Q ⟨F, d1, d2, d, s, h1, h2, e, q⟩ => by
  unfold fGt at e
  split at e
  · cases e
    cases dp_int h1
    cases dp_int h2
    exact ⟨_, op_gt, _, _, rfl, rfl, q _ F H (Ext.refl s) (.bl _)⟩
  · cases e
theorem o_ge : OpR X (compareOp .GtE) (rD2 X.K fGe) := opr_of fun x y H Q ⟨F, d1, d2, d, s, h1, h2, e, q⟩ => by
  unfold fGe at e
  split at e
  · cases e
    cases dp_int h1
    cases dp_int h2
    exact ⟨_, op_ge, _, _, rfl, rfl, q _ F H (Ext.refl s) (.bl _)⟩
  · cases e
theorem dEq_ok {K : PySem.W.Frag} {F H : Hp} {x y : V} {d e : D} {b : Bool} (s : Same F H) (h1 : Dp K F x d) (h2 : Dp K F y e) (q : dEq d e = some b) :
    (scal x y = true ∧ decide (x = y) = b) ∨ (L2.Dp K H x d ∧ L2.Dp K H y e ∧ SeqAt.shaped d = true ∧ SeqAt.shaped e = true ∧ PyData.eqv d e = b) := by
  unfold dEq at q
  split at q
  · cases q
    cases dp_int h1
    cases dp_int h2
    exact .inl ⟨rfl, by simp⟩
  · cases q
    cases dp_str h1
    cases dp_str h2
    exact .inl ⟨rfl, by simp⟩
  · cases q
    cases dp_bl h1
    cases dp_bl h2
    exact .inl ⟨rfl, by simp⟩
  · cases q
    cases h1
    cases h2
    exact .inl ⟨rfl, by simp⟩
  · split at q
    · rename_i l
      cases q
      rw [Bool.and_eq_true] at l
      exact .inr ⟨dp_shaped (dp_mono s _ h1) l.1, dp_shaped (dp_mono s _ h2) l.2, l.1, l.2, rfl⟩
    · cases q
theorem o_eq (hu : X.A.units + 64 < cLine) : OpR X (compareOp .Eq) (rD2 X.K fEq) := opr_of fun x y H Q ⟨F, d1, d2, d, s, h1, h2, e, q⟩ => by
  unfold fEq at e
  cases z : dEq d1 d2 with
  | none => rw [z] at e; cases e
  | some b =>
    rw [z] at e
    cases e
    have q' := q (.bl b) F H (Ext.refl s) (.bl b)
    rcases dEq_ok s h1 h2 z with ⟨a1, a2⟩ | ⟨a1, a2, a3, a4, a5⟩
    · exact ⟨_, op_eq, a1, by rw [a2]; exact q'⟩
    · exact ⟨_, op_eqD hu, _, _, a1, a2, a3, a4, by rw [a5]; exact q'⟩
theorem o_ne (hu : X.A.units + 64 < cLine) : OpR X (compareOp .NotEq) (rD2 X.K fNe) := opr_of fun x y H Q ⟨F, d1, d2, d, s, h1, h2, e, q⟩ => by
  unfold fNe at e
  cases z : dEq d1 d2 with
  | none => rw [z] at e; cases e
  | some b =>
    rw [z] at e
    cases e
    have q' := q (.bl (!b)) F H (Ext.refl s) (.bl _)
    rcases dEq_ok s h1 h2 z with ⟨a1, a2⟩ | ⟨a1, a2, a3, a4, a5⟩
    · exact ⟨_, op_ne, a1, by rw [a2]; exact q'⟩
    · exact ⟨_, op_neD hu, _, _, a1, a2, a3, a4, by rw [a5]; exact q'⟩
theorem o_is : OpR X (compareOp .Is) (rD2 X.K fIs) := opr_of fun x y H Q ⟨F, d1, d2, d, s, h1, h2, e, q⟩ => by
  unfold fIs at e
  split at e
  · cases h2
    refine ⟨_, op_isN, rfl, ?_⟩
    split at e
    · cases e
      cases h1
      exact q _ F H (Ext.refl s) (.bl _)
    · rename_i hn
      cases e
      have : decide (x = .non) = false := by
        cases h1 with
        | non => exact absurd rfl hn
        | _ => rfl
      rw [this]
      exact q _ F H (Ext.refl s) (.bl _)
  · cases e
theorem o_isN : OpR X (compareOp .IsNot) (rD2 X.K fIsN) := opr_of fun x y H Q ⟨F, d1, d2, d, s, h1, h2, e, q⟩ => by
  unfold fIsN at e
  split at e
  · cases h2
    refine ⟨_, op_notN, rfl, ?_⟩
    split at e
    · cases e
      cases h1
      exact q _ F H (Ext.refl s) (.bl _)
    · rename_i hn
      cases e
      have : decide (x = .non) = false := by
        cases h1 with
        | non => exact absurd rfl hn
        | _ => rfl
      rw [this]
      exact q _ F H (Ext.refl s) (.bl _)
  · cases e
theorem o_notIn (hu : X.A.units + 65 < cLine) : OpR X (compareOp .NotIn) (rD2 X.K (fIn true)) := opr_of fun x y H Q ⟨F, d1, d2, d, s, h1, h2, e, q⟩ => by
  unfold fIn at e
  split at e
  · split at e
    · rename_i l
      cases e
      rw [Bool.and_eq_true] at l
      exact ⟨_, op_notInD hu, _, _, dp_shaped (dp_mono s _ h1) l.1, dp_shaped (dp_mono s _ h2) l.2, l.1, l.2, q _ F H (Ext.refl s) (.bl _)⟩
    · cases e
  · cases e
    cases dp_str h1
    cases dp_str h2
    exact ⟨_, op_notIn_str, _, _, rfl, rfl, q _ F H (Ext.refl s) (.bl _)⟩
  · cases e
end
/-- a comparison tells a truth -/
theorem bl_lt : ∀ x y d, fLt x y = some d → ∃ z : Bool, d = .bool z := fun x y d e => by
  unfold fLt at e
  split at e <;> cases e <;> exact ⟨_, rfl⟩
theorem bl_le : ∀ x y d, fLe x y = some d → ∃ z : Bool, d = .bool z := fun x y d e => by
  unfold fLe at e
  split at e <;> cases e <;> exact ⟨_, rfl⟩
theorem bl_gt : ∀ x y d, fGt x y = some d → ∃ z : Bool, d = .bool z := fun x y d e => by
  unfold fGt at e
  split at e <;> cases e <;> exact ⟨_, rfl⟩
theorem bl_eq : ∀ x y d, fEq x y = some d → ∃ z : Bool, d = .bool z := fun x y d e => by
  unfold fEq at e
  cases z : dEq x y with
  | none => rw [z] at e; cases e
  | some b => rw [z] at e; cases e; exact ⟨_, rfl⟩
theorem bl_ne : ∀ x y d, fNe x y = some d → ∃ z : Bool, d = .bool z := fun x y d e => by
  unfold fNe at e
  cases z : dEq x y with
  | none => rw [z] at e; cases e
  | some b => rw [z] at e; cases e; exact ⟨_, rfl⟩
theorem bl_is : ∀ x y d, fIs x y = some d → ∃ z : Bool, d = .bool z := fun x y d e => by
  unfold fIs at e
  split at e
  · split at e <;> cases e <;> exact ⟨_, rfl⟩
  · cases e
theorem bl_isN : ∀ x y d, fIsN x y = some d → ∃ z : Bool, d = .bool z := fun x y d e => by
  unfold fIsN at e
  split at e
  · split at e <;> cases e <;> exact ⟨_, rfl⟩
  · cases e
theorem bl_in (n : Bool) : ∀ x y d, fIn n x y = some d → ∃ z : Bool, d = .bool z := fun x y d e => by
  unfold fIn at e
  split at e
  · split at e <;> cases e <;> exact ⟨_, rfl⟩
  · cases e; exact ⟨_, rfl⟩
  · cases e
def fIx : D → D → Option D
  | .list ds, .int i => atI ds i
  | .tuple ds, .int i => atI ds i
  | .str z, .int i => if z.length ≤ most then (atI z.cps.toList i).map fun c => .str ⟨#[c]⟩ else none
  | _, _ => none
theorem dpa_at {K : PySem.W.Frag} {F : Hp} {vs : List V} {ds : List D} {i : Int} {d : D} (h : DpAll K F vs ds) (e : atI ds i = some d) : ∃ v, atI vs i = some v ∧ Dp K F v d := by
  unfold atI at e ⊢
  rw [dpa_len h]
  cases q : ixN ds.length i with
  | none => rw [q] at e; cases e
  | some j => rw [q] at e; exact dpa_get h e
theorem i_ix {K : PySem.W.Frag} : ∀ x y H Q, rD2 K fIx x y H Q → rIx K x y H Q := fun x y H Q ⟨F, d1, d2, d, s, h1, h2, e, q⟩ => by
  unfold fIx at e
  split at e
  · cases dp_int h2
    cases h1 with
    | lst a b =>
      obtain ⟨v, e1, e2⟩ := dpa_at b e
      exact .inl ⟨_, _, _, _, rfl, rfl, s.seq a, e1, q _ F H (Ext.refl s) e2⟩
  · cases dp_int h2
    cases h1 with
    | tup a b =>
      obtain ⟨v, e1, e2⟩ := dpa_at b e
      exact .inr (.inl ⟨_, _, _, _, rfl, rfl, same_t s a, e1, q _ F H (Ext.refl s) e2⟩)
  · split at e
    · rename_i z i l
      cases dp_int h2
      cases dp_str h1
      cases w : atI z.cps.toList i with
      | none => rw [w] at e; cases e
      | some c =>
        rw [w] at e
        cases e
        exact .inr (.inr ⟨_, _, _, rfl, rfl, most_le l, w, q _ F H (Ext.refl s) (.str _)⟩)
    · cases e
  · cases e
/-- a part of a slice -/
def mPart (m : M) : Vw → R (Option Int) := fun δ => (m δ).bind fun d => match d with
  | .int i => .ok (some i)
  | _ => .bad
def mNoPart : Vw → R (Option Int) := fun _ => .ok none
def cutD (xs : List D) (lo hi : Option Int) : List D := (xs.drop (HT.sIx xs.length 0 lo)).take (HT.sIx xs.length xs.length hi - HT.sIx xs.length 0 lo)
def fSl (d : D) (lo hi : Option Int) : Option D := match d with
  | .list ds => some (.list (cutD ds lo hi))
  | .tuple ds => if HT.sIx ds.length 0 lo = 0 ∧ HT.sIx ds.length ds.length hi = ds.length then none else some (.tuple (cutD ds lo hi))
  | .str z => if z.length ≤ most then some (.str (Txt.slice z lo hi)) else none
  | _ => none
def mSl (m : M) (lo hi : Vw → R (Option Int)) : M := fun δ => (m δ).bind fun d => (lo δ).bind fun l => (hi δ).bind fun h => R.of (fSl d l h)
section
variable {X : Cx} {W : WX}
def OPost (F H : Hp) (σ : L2.St) (Q : Option Int → Hp → Prop) : R (Option Int) → Prop
  | .ok b => ∀ F' H', Ext F H F' H' → Q b H'
  | .exc c p => ∀ cls od F' H', Ext F H F' H' → XV X.K X.mg F' c p cls od → W cls od σ H'
  | .bad => False
def tO (X : Cx) (W : WX) (m : Vw → R (Option Int)) : TO := fun σ H Q => ∃ F δ, Same F H ∧ VwOk X.K F σ δ ∧ OPost (X := X) (W := W) F H σ Q (m δ)
abbrev MO (X : Cx) (W : WX) (e : Option Expr) (m : Vw → R (Option Int)) : Prop := PO X e (tO X W m)
theorem PO.imp {e : Option Expr} {t t' : TO} (h : PO X e t) (i : ∀ σ H Q, t' σ H Q → t σ H Q) : PO X e t' := ⟨fun pins s σ H Q I hw => h.run pins s σ H Q I (i _ _ _ hw)⟩
theorem mo_none : MO X W none mNoPart := PO.imp po_none fun σ H Q ⟨F, δ, s, v, h⟩ => h F H (Ext.refl s)
theorem mo_some {e : Expr} {m : M} (he : ME X W e m) : MO X W (some e) (mPart m) := PO.imp (po_some he) fun σ H Q ⟨F, δ, s, v, h⟩ => by
  refine ⟨F, δ, s, v, ?_⟩
  unfold mPart at h
  cases e : m δ with
  | ok d =>
    rw [e, R.bind_ok] at h
    cases d with
    | int i =>
      intro x F' H' E hx
      cases dp_int hx
      exact ⟨i, rfl, h F' H' E⟩
    | _ => exact h.elim
  | exc c p => rw [e] at h; exact h
  | bad => rw [e] at h; exact h
theorem dpa_cut {K : PySem.W.Frag} {F : Hp} {vs : List V} {ds : List D} {lo hi : Option Int} (h : DpAll K F vs ds) : DpAll K F (cutV vs lo hi) (cutD ds lo hi) := by
  unfold cutV cutD
  rw [dpa_len h]
  exact dpa_take _ (dpa_drop _ h)
def rSlD (K : PySem.W.Frag) : V → Option Int → Option Int → Hp → VK → Prop := fun x lo hi H Q => ∃ F d1 d, Same F H ∧ Dp K F x d1 ∧ fSl d1 lo hi = some d ∧ ∀ v F' H', Ext F H F' H' → Dp K F' v d → Q v H'
theorem slr_of {r' : V → Option Int → Option Int → Hp → VK → Prop} (h : ∀ x lo hi H Q, r' x lo hi H Q → ∃ r, SlR X r ∧ r x lo hi H Q) : SlR X r' := by
  intro pins s σ H x v vl vu lo hi sl Q I rx hs pl pu hh
  obtain ⟨r, ho, q⟩ := h x lo hi H Q hh
  exact ho pins s σ H x v vl vu lo hi sl Q I rx hs pl pu q
theorem l_sl : SlR X (rSlD X.K) := slr_of fun x lo hi H Q ⟨F, d1, d, s, h1, e, q⟩ => by
  unfold fSl at e
  split at e
  · cases e
    cases h1 with
    | lst a b => exact ⟨_, sl_list, _, _, rfl, s.seq a, fun p hp => q _ _ _ (Ext.new s hp) (.lst (SqL.of upd_same) (dpa_mono (Ext.new (o := .lst _) s hp).f _ (dpa_cut b)))⟩
  · split at e
    · cases e
    · rename_i l
      cases e
      cases h1 with
      | tup a b => exact ⟨_, sl_tup, _, _, rfl, same_t s a, by rw [dpa_len b]; exact l, fun p hp => q _ _ _ (Ext.new s hp) (.tup (SqT.of upd_same) (dpa_mono (Ext.new (o := .tup _) s hp).f _ (dpa_cut b)))⟩
  · split at e
    · rename_i l
      cases e
      cases dp_str h1
      exact ⟨_, C8.sl_txt, _, rfl, most_le l, q _ F H (Ext.refl s) (.str _)⟩
    · cases e
  · cases e
theorem me_sl {e : Expr} {lo hi : Option Expr} {m : M} {ml mh : Vw → R (Option Int)} {pos p2 : Pos} (he : ME X W e m) (hl : MO X W lo ml) (hh : MO X W hi mh) : ME X W (.Subscript e (.Slice lo hi none p2) pos) (mSl m ml mh) := by
  refine PE.imp (pe_slice l_sl he hl hh) fun σ H Q ⟨F, δ, s, v, h⟩ => ?_
  refine tM_bind s v h fun d x F1 H1 _ E hx h1 => ?_
  refine ⟨F1, δ, E.s, v.mono E.f, ?_⟩
  cases e1 : ml δ with
  | ok l =>
    rw [e1, R.bind_ok] at h1
    intro F2 H2 E2
    refine ⟨F2, δ, E2.s, (v.mono E.f).mono E2.f, ?_⟩
    cases e2 : mh δ with
    | ok u =>
      rw [e2, R.bind_ok] at h1
      obtain ⟨d3, e3, q⟩ := of_post h1
      intro F3 H3 E3
      exact ⟨F3, d, d3, E3.s, dp_mono (E2.f.trans E3.f) d hx, e3, fun w F4 H4 E4 hw => q w F4 H4 (E2.trans (E3.trans E4)) hw⟩
    | exc c p =>
      rw [e2] at h1
      exact fun cls od F3 H3 E3 xv => h1 cls od F3 H3 (E2.trans E3) xv
    | bad => rw [e2] at h1; exact h1.elim
  | exc c p => rw [e1] at h1; exact h1
  | bad => rw [e1] at h1; exact h1.elim
end
section
variable {X : Cx} {W : WX} {x : Str} {p pos : Pos} {e : Expr} {es : List Expr} {m : Vw → R (List D)} {id T : String} {f : List D → Option D}
theorem me_cB (hc : CallR X (.builtin id) (rDs X.K f)) (hg : Gl X x) (hm : X.mg x = none) (hv : bootBuiltins x = some (.builtin id)) (ha : MA X W (e :: es) m) (hn : x ≠ "__name__") (hdb : (x == ("__debug__" : Str)) = false)
    (he : starEach (e :: es) X.env = (false, eval e X.env) :: starEach es X.env) (hpl : (backTo pos (starEach es X.env)).any (·.1) = false) : ME X W (.Call (.Name x p) (e :: es) [] pos) (mDs f m) := by
  refine PE.imp (pe_callB hc hg hm hv ha hn hdb he hpl) fun σ H Q ⟨F, δ, s, v, h⟩ => ?_
  refine tA_bind s v h fun ds xs F1 H1 _ E hx h1 => ?_
  obtain ⟨d3, e, q⟩ := of_post h1
  exact ⟨F1, ds, d3, E.s, hx, e, q⟩
theorem me_cT (hc : CallR X (.type T) (rDs X.K f)) (hg : Gl X x) (hm : X.mg x = none) (hv : bootBuiltins x = some (.type T)) (ha : MA X W (e :: es) m) (hn : x ≠ "__name__") (hdb : (x == ("__debug__" : Str)) = false)
    (he : starEach (e :: es) X.env = (false, eval e X.env) :: starEach es X.env) (hpl : (backTo pos (starEach es X.env)).any (·.1) = false) : ME X W (.Call (.Name x p) (e :: es) [] pos) (mDs f m) := by
  refine PE.imp (pe_callTy hc hg hm hv ha hn hdb he hpl) fun σ H Q ⟨F, δ, s, v, h⟩ => ?_
  refine tA_bind s v h fun ds xs F1 H1 _ E hx h1 => ?_
  obtain ⟨d3, e, q⟩ := of_post h1
  exact ⟨F1, ds, d3, E.s, hx, e, q⟩
end
def fAbs : List D → Option D
  | [.int i] => some (.int (if i < 0 then -i else i))
  | _ => none
def fLen : List D → Option D
  | [.list ds] => some (.int ds.length)
  | [.tuple ds] => some (.int ds.length)
  | [.str z] => if z.length ≤ most then some (.int z.length) else none
  | _ => none
def fMax : List D → Option D
  | [.int i, .int j] => some (.int (if j > i then j else i))
  | _ => none
def fMin : List D → Option D
  | [.int i, .int j] => some (.int (if j < i then j else i))
  | _ => none
def fInt : List D → Option D
  | [.int i] => some (.int i)
  | [.bool k] => some (.int (if k then 1 else 0))
  | _ => none
def fStr : List D → Option D
  | [.int i] => if i.natAbs.log2 < 1920 then some (.str (toString i)) else none
  | [.str z] => some (.str z)
  | _ => none
def fListOf : List D → Option D
  | [.list ds] => some (.list ds)
  | [.tuple ds] => some (.list ds)
  | _ => none
def fTupOf : List D → Option D
  | [.list ds] => some (.tuple ds)
  | [.tuple ds] => some (.tuple ds)
  | _ => none
section
variable {X : Cx}
theorem c_abs : CallR X (.builtin "abs") (rDs X.K fAbs) := callr_of fun xs H Q ⟨F, ds, d, s, h, e, q⟩ => by
  unfold fAbs at e
  split at e
  · cases e
    obtain ⟨v, rfl, hv⟩ := dpa1 h
    cases dp_int hv
    exact ⟨_, call_abs, _, rfl, q _ F H (Ext.refl s) (.int _)⟩
  · cases e
theorem c_len : CallR X (.builtin "len") (rDs X.K fLen) := callr_of fun xs H Q ⟨F, ds, d, s, h, e, q⟩ => by
  unfold fLen at e
  split at e
  · cases e
    obtain ⟨v, rfl, hv⟩ := dpa1 h
    cases hv with
    | lst a b => exact ⟨_, call_len_seq, _, _, rfl, .inl (s.seq a), by rw [dpa_len b]; exact q _ F H (Ext.refl s) (.int _)⟩
  · cases e
    obtain ⟨v, rfl, hv⟩ := dpa1 h
    cases hv with
    | tup a b => exact ⟨_, call_len_seq, _, _, rfl, .inr (same_t s a), by rw [dpa_len b]; exact q _ F H (Ext.refl s) (.int _)⟩
  · split at e
    · rename_i l
      cases e
      obtain ⟨v, rfl, hv⟩ := dpa1 h
      cases dp_str hv
      exact ⟨_, call_len_str, _, rfl, most_le l, q _ F H (Ext.refl s) (.int _)⟩
    · cases e
  · cases e
theorem c_max (hc : X.calm = true) : CallR X (.builtin "max") (rDs X.K fMax) := callr_of fun xs H Q ⟨F, ds, d, s, h, e, q⟩ => by
  unfold fMax at e
  split at e
  · cases e
    obtain ⟨v, w, rfl, hv, hw⟩ := dpa2 h
    cases dp_int hv
    cases dp_int hw
    exact ⟨_, call_max2 hc, _, _, rfl, q _ F H (Ext.refl s) (.int _)⟩
  · cases e
theorem c_min (hc : X.calm = true) : CallR X (.builtin "min") (rDs X.K fMin) := callr_of fun xs H Q ⟨F, ds, d, s, h, e, q⟩ => by
  unfold fMin at e
  split at e
  · cases e
    obtain ⟨v, w, rfl, hv, hw⟩ := dpa2 h
    cases dp_int hv
    cases dp_int hw
    exact ⟨_, call_min2 hc, _, _, rfl, q _ F H (Ext.refl s) (.int _)⟩
  · cases e
theorem c_int : CallR X (.type "int") (rDs X.K fInt) := callr_of fun xs H Q ⟨F, ds, d, s, h, e, q⟩ => by
  unfold fInt at e
  split at e
  · cases e
    obtain ⟨v, rfl, hv⟩ := dpa1 h
    cases dp_int hv
    exact ⟨_, call_int1, .inl ⟨_, rfl, q _ F H (Ext.refl s) (.int _)⟩⟩
  · cases e
    obtain ⟨v, rfl, hv⟩ := dpa1 h
    cases dp_bl hv
    exact ⟨_, call_int1, .inr ⟨_, rfl, q _ F H (Ext.refl s) (.int _)⟩⟩
  · cases e
theorem c_str : CallR X (.type "str") (rDs X.K fStr) := callr_of fun xs H Q ⟨F, ds, d, s, h, e, q⟩ => by
  unfold fStr at e
  split at e
  · split at e
    · rename_i l
      cases e
      obtain ⟨v, rfl, hv⟩ := dpa1 h
      cases dp_int hv
      exact ⟨_, call_str_int, _, rfl, l, q _ F H (Ext.refl s) (.str _)⟩
    · cases e
  · cases e
    obtain ⟨v, rfl, hv⟩ := dpa1 h
    cases dp_str hv
    exact ⟨_, SkE.call_str_str, _, rfl, q _ F H (Ext.refl s) (.str _)⟩
  · cases e
theorem c_list : CallR X (.type "list") (rDs X.K fListOf) := callr_of fun xs H Q ⟨F, ds, d, s, h, e, q⟩ => by
  unfold fListOf at e
  split at e
  · cases e
    obtain ⟨v, rfl, hv⟩ := dpa1 h
    cases hv with
    | lst a b => exact ⟨_, call_list_of, _, _, rfl, .inl (s.seq a), fun p hp => q _ _ _ (Ext.new s hp) (.lst (SqL.of upd_same) (dpa_mono (Ext.new (o := .lst _) s hp).f _ b))⟩
  · cases e
    obtain ⟨v, rfl, hv⟩ := dpa1 h
    cases hv with
    | tup a b => exact ⟨_, call_list_of, _, _, rfl, .inr (same_t s a), fun p hp => q _ _ _ (Ext.new s hp) (.lst (SqL.of upd_same) (dpa_mono (Ext.new (o := .lst _) s hp).f _ b))⟩
  · cases e
theorem c_tuple : CallR X (.type "tuple") (rDs X.K fTupOf) := callr_of fun xs H Q ⟨F, ds, d, s, h, e, q⟩ => by
  unfold fTupOf at e
  split at e
  · cases e
    obtain ⟨v, rfl, hv⟩ := dpa1 h
    cases hv with
    | lst a b => exact ⟨_, call_tuple_of, _, _, rfl, .inl ⟨s.seq a, fun p hp => q _ _ _ (Ext.new s hp) (.tup (SqT.of upd_same) (dpa_mono (Ext.new (o := .tup _) s hp).f _ b))⟩⟩
  · cases e
    obtain ⟨v, rfl, hv⟩ := dpa1 h
    cases hv with
    | tup a b => exact ⟨_, call_tuple_of, _, _, rfl, .inr ⟨same_t s a, q _ F H (Ext.refl s) (.tup a b)⟩⟩
  · cases e
end
def tyD : D → String
  | .none => "NoneType"
  | .bool _ => "bool"
  | .int _ => "int"
  | .str _ => "str"
  | .list _ => "list"
  | .tuple _ => "tuple"
  | .dict _ => "dict"
theorem tyx_of {K : PySem.W.Frag} {F H : Hp} {x : V} {d : D} (s : Same F H) (h : Dp K F x d) (hd : ∀ p kvs, d ≠ .dict (p :: kvs)) : TyX K H x (.type (tyD d)) := by
  cases h with
  | exc c a => exact absurd rfl (hd _ _)
  | excF c a _ _ _ => exact absurd rfl (hd _ _)
  | fn x => exact absurd rfl (hd _ _)
  | dct0 a => exact .base (.dK (s _ _ a))
  | dct a b l => exact absurd rfl (hd _ _)
  | dic a b l => exact absurd rfl (hd _ _)
  | non => exact .base .non
  | bl b => exact .base (.bl b)
  | int i => exact .base (.int i)
  | str z => exact .base (.str z)
  | lst a b =>
    rcases s.seq a with (h | ⟨o, h⟩) | ⟨o, its, n, h1, h2, _⟩
    · exact .base (.lst h)
    · exact .base (.frz h)
    · exact .kList h1 h2
  | tup a b =>
    rcases same_t s a with (h | ⟨o, h⟩) | ⟨o, its, n, h1, h2, _⟩
    · exact .base (.tup h)
    · exact .fTuple h
    · exact .kTuple h1 h2
/-- the built-in classes that are asked for, by data's own classes -/
def isT (T : String) (d : D) : Option Bool := match d with
  | .dict (_ :: _) => none
  | d => kitB (tyD d) T
theorem isT_nd {T : String} {d : D} {b : Bool} (h : isT T d = some b) : ∀ p kvs, d ≠ .dict (p :: kvs) := fun p kvs e => by
  subst e
  cases h
def mIsi (T : String) (a : M) : M := fun δ => (a δ).bind fun d => R.of ((isT T d).map .bool)
theorem pe_bty {X : Cx} {x : Str} {T : String} {pos : Pos} (hg : Gl X x) (hm : X.mg x = none) (hv : bootBuiltins x = some (.type T)) (hn : x ≠ "__name__") (hdb : (x == ("__debug__" : Str)) = false) : PE X (.Name x pos) (tC (.ty T)) :=
  ⟨fun pins s σ H Q I h => ld_blt I hg hm hv ⟨.ty T, H, I, rfl, h⟩ hn hdb⟩
theorem me_isi {X : Cx} {W : WX} {a : Expr} {ma : M} {x : Str} {T : String} {p p2 pos : Pos} (hgi : Gl X "isinstance") (hmi : X.mg "isinstance" = none) (ha : ME X W a ma) (hg : Gl X x) (hm : X.mg x = none) (hv : bootBuiltins x = some (.type T)) (hn : x ≠ "__name__") (hdb : (x == ("__debug__" : Str)) = false)
    (he : starEach [a, .Name x p2] X.env = (false, eval a X.env) :: starEach [.Name x p2] X.env) (he2 : starEach [.Name x p2] X.env = (false, eval (.Name x p2) X.env) :: starEach [] X.env) (hpl : (backTo pos (starEach [.Name x p2] X.env)).any (·.1) = false) :
    ME X W (.Call (.Name "isinstance" p) [a, .Name x p2] [] pos) (mIsi T ma) := by
  refine PE.imp (pe_callB call_isi hgi hmi (by decide +kernel) (pa_cons ha (pa_cons (pe_bty hg hm hv hn hdb) pa_nil he2) he) (by decide) (by decide) he hpl) fun σ H Q ⟨F, δ, s, v, h⟩ => ?_
  refine tM_bind s v h fun d y F1 H1 _ E hx h1 => ?_
  cases q : isT T d with
  | none => rw [q] at h1; exact h1.elim
  | some b =>
    rw [q] at h1
    refine ⟨y, .ty T, .type (tyD d), .type T, b, rfl, .ty T, tyx_of E.s hx (isT_nd q), ?_, h1 (.bl b) F1 H1 (Ext.refl E.s) (.bl b)⟩
    unfold isT at q
    split at q
    · cases q
    · exact kit_ty q
end MI
set_option Elab.async false
set_option linter.all false
set_option maxRecDepth 100000
set_option maxHeartbeats 4000000
namespace MI
open PySem PySem.Spec PyProof.Rows L2
/-- a def of the row, with what it tells; dds: the defaults that a call may leave out -/
structure DefOk (P : Program) (w : World) (K : PySem.W.Frag) (mg : Str → Option Value) (base : Heap) (k : Nat) (x : Str) (n : Nat) (f : List D → R D) (dds : List (List D)) : Prop where
  gl : mg x = some (.ref (He.ga K x))
  ex : ∃ (fd : FuncData) (ps : List Str), PySem.W.keepIn K (.ref (He.ga K x)) = true ∧ FnOk P w K mg base (L2.CX P w) k (He.ga K x) fd ps (spD K mg n f) ∧ ∀ dd ∈ dds, ∃ (dvs : List V) (ds : List Value), Vals dvs ds ∧ (∀ F, DpAll K F dvs dd) ∧ Binds K fd ps ds
theorem me_def {X : Cx} {W : WX} {j k n : Nat} {x : Str} {p pos : Pos} {e : Expr} {es : List Expr} {m : Vw → R (List D)} {fn : List D → R D} {dds : List (List D)} {dd : List D}
    (G : DefOk X.prog X.w X.K X.mg X.base k x n fn dds) (hr : Room j X.A) (tk : Takes X W) (ha : MA X W (e :: es) m) (hmem : dd ∈ dds := by first | exact List.mem_cons_self | simp) (hk : k ≤ j := by decide) (hg : Gl X x := by rfl)
    (hdb : (x == ("__debug__" : Str)) = false := by decide) (he : starEach (e :: es) X.env = (false, eval e X.env) :: starEach es X.env := by rfl) (hpl : (backTo pos (starEach es X.env)).any (·.1) = false := by rfl) :
    ME X W (.Call (.Name x p) (e :: es) [] pos) (mCall n fn dd m) := by
  obtain ⟨fd, ps, kp, F, b⟩ := G.ex
  obtain ⟨dvs, ds, h1, h2, h3⟩ := b dd hmem
  exact me_call F (hr.mono hk) hg G.gl kp h3 h1 h2 tk ha hdb he hpl
/-- the package of a def -/
theorem def_ok {P : Program} {w : World} {K : PySem.W.Frag} {mg : Str → Option Value} {base : Heap} {d : He.DefD} {k n : Nat} {f : List D → R D} {dds : List (List D)} {fd : FuncData} {ps : List Str} (gl : mg d.name = some (.ref (He.ga K d.name)))
    (F : FunD K d.name d.qual d.params d.body d.scope (d.dvs K) (d.kws K) (He.ga K d.name) fd) (G : FnOk P w K mg base (L2.CX P w) k (He.ga K d.name) fd ps (spD K mg n f))
    (b : ∀ dd ∈ dds, ∃ (dvs : List V) (ds : List Value), Vals dvs ds ∧ (∀ F, DpAll K F dvs dd) ∧ Binds K fd ps ds) : DefOk P w K mg base k d.name n f dds := ⟨gl, fd, ps, F.kp, G, b⟩
section
variable {X : Cx} {W : WX}
theorem mv (i : Nat) {x : Str} {pos : Pos} (hN : X.N[i]? = some x := by rfl) (hv : Vis X.env.scope x := by first | exact Or.inl rfl | exact Or.inr (Or.inl rfl) | exact Or.inr (Or.inr rfl)) (hd : (x == ("__debug__" : Str)) = false := by decide)
    (hcd : (x == ("__classdict__" : Str)) = false := by decide) : ME X W (.Name x pos) (mVar i) := me_var hN hv hd hcd
theorem mac {a : Expr} {ma : M} {es : List Expr} {mr : Vw → R (List D)} (ha : ME X W a ma) (hr : MA X W es mr) (hs : starEach (a :: es) X.env = (false, eval a X.env) :: starEach es X.env := by rfl) : MA X W (a :: es) (mCons ma mr) := ma_cons ha hr hs
theorem mbin {op : Operator} {f : D → D → Option D} {pos : Pos} {a b : Expr} {ma mb : M} (ho : OpR X (binaryOp op) (rD2 X.K f)) (ha : ME X W a ma) (hb : ME X W b mb) : ME X W (.BinOp a op b pos) (mBin f ma mb) := me_op ho ha hb
theorem mcmp {op : CmpOp} {f : D → D → Option D} {pos : Pos} {a b : Expr} {ma mb : M} (ho : OpR X (compareOp op) (rD2 X.K f)) (ha : ME X W a ma) (hb : ME X W b mb) (hm : behindInMarks op b = false := by rfl) : ME X W (.Compare a [op] [b] pos) (mBin f ma mb) := me_cmp ho ha hb hm
theorem tcmp {op : CmpOp} {f : D → D → Option D} {pos : Pos} {a b : Expr} {ma mb : M} (ho : OpR X (compareOp op) (rD2 X.K f)) (hf : ∀ x y d, f x y = some d → ∃ z : Bool, d = .bool z) (ha : ME X W a ma) (hb : ME X W b mb) (hm : behindInMarks op b = false := by rfl) : MT X W (.Compare a [op] [b] pos) (mTru (mBin f ma mb)) := mt_cmp ho hf ha hb hm
theorem ttru {a : Expr} {ma : M} (ha : ME X W a ma) (he : ∀ whole, isTrue a X.env whole = (do let v ← whole; standAt a.pos; holding [v] (truthy v)) := by intro _; rfl) : MT X W a (mTru ma) := mt_tru ha he
theorem mix {pos : Pos} {a b : Expr} {ma mb : M} (ha : ME X W a ma) (hb : ME X W b mb) (hs : PlainIx b := by exact fun _ _ => rfl) : ME X W (.Subscript a b pos) (mBin fIx ma mb) := me_ix ix_seq i_ix ha hb hs
theorem mcB {x : Str} {p pos : Pos} {e : Expr} {es : List Expr} {m : Vw → R (List D)} {id : String} {f : List D → Option D} (hc : CallR X (.builtin id) (rDs X.K f)) (hm : X.mg x = none) (ha : MA X W (e :: es) m) (hg : Gl X x := by rfl) (hv : bootBuiltins x = some (.builtin id) := by decide +kernel) (hn : x ≠ "__name__" := by decide) (hdb : (x == ("__debug__" : Str)) = false := by decide)
    (he : starEach (e :: es) X.env = (false, eval e X.env) :: starEach es X.env := by rfl) (hpl : (backTo pos (starEach es X.env)).any (·.1) = false := by rfl) : ME X W (.Call (.Name x p) (e :: es) [] pos) (mDs f m) := me_cB hc hg hm hv ha hn hdb he hpl
theorem mcT {x : Str} {p pos : Pos} {e : Expr} {es : List Expr} {m : Vw → R (List D)} {T : String} {f : List D → Option D} (hc : CallR X (.type T) (rDs X.K f)) (hm : X.mg x = none) (ha : MA X W (e :: es) m) (hg : Gl X x := by rfl) (hv : bootBuiltins x = some (.type T) := by decide +kernel) (hn : x ≠ "__name__" := by decide) (hdb : (x == ("__debug__" : Str)) = false := by decide)
    (he : starEach (e :: es) X.env = (false, eval e X.env) :: starEach es X.env := by rfl) (hpl : (backTo pos (starEach es X.env)).any (·.1) = false := by rfl) : ME X W (.Call (.Name x p) (e :: es) [] pos) (mDs f m) := me_cT hc hg hm hv ha hn hdb he hpl
theorem misi {a : Expr} {ma : M} {x : Str} {p p2 pos : Pos} (T : String) (hmi : X.mg "isinstance" = none) (hm : X.mg x = none) (ha : ME X W a ma) (hgi : Gl X "isinstance" := by rfl) (hg : Gl X x := by rfl) (hv : bootBuiltins x = some (.type T) := by decide +kernel) (hn : x ≠ "__name__" := by decide) (hdb : (x == ("__debug__" : Str)) = false := by decide)
    (he : starEach [a, .Name x p2] X.env = (false, eval a X.env) :: starEach [.Name x p2] X.env := by rfl) (he2 : starEach [.Name x p2] X.env = (false, eval (.Name x p2) X.env) :: starEach [] X.env := by rfl) (hpl : (backTo pos (starEach [.Name x p2] X.env)).any (·.1) = false := by rfl) :
    ME X W (.Call (.Name "isinstance" p) [a, .Name x p2] [] pos) (mIsi T ma) := me_isi hgi hmi ha hg hm hv hn hdb he he2 hpl
theorem sset (i : Nat) {pos : Pos} {x : Str} {e : Expr} {m : M} {pos' : Pos} (hN : X.N.Nodup) (he : ME X W e m) (hi : X.N[i]? = some x := by rfl) (hx : Loc X.env.scope x := by first | exact Or.inl rfl | exact Or.inr rfl) (hs : swapsWith e (some (.Name x pos')) pos.line X.env = pure false := by rfl) (hf : X.fn x = true ∨ X.env.scope.names.lookup x = some .local := by first | exact .inl rfl | exact .inr rfl) :
    MS X W (.Assign [.Name x pos'] e pos) (sSet i m) := ms_set hN hi hx he hs hf
theorem spar (i j : Nat) {pos : Pos} {x y : Str} {e f : Expr} {m : Vw → R (List D)} {px py pt : Pos} {kt k2 pt2} (hN : X.N.Nodup) (ha : MA X W [e, f] m) (hc : X.calm = true := by rfl) (hi : X.N[i]? = some x := by rfl) (hj : X.N[j]? = some y := by rfl) (hij : i ≠ j := by decide)
    (hx : X.env.scope.names.lookup x = some .local := by rfl) (hy : X.env.scope.names.lookup y = some .local := by rfl)
    (hw : swappedStores [.Tuple [.Name x px, .Name y py] kt pt] (.Tuple [e, f] k2 pt2) X.env = pure (some [x, y]) := by rfl)
    (hs : swapsWithSole [.Tuple [.Name x px, .Name y py] kt pt] (.Tuple [e, f] k2 pt2) pos.line X.env = pure false := by rfl) :
    MS X W (.Assign [.Tuple [.Name x px, .Name y py] kt pt] (.Tuple [e, f] k2 pt2) pos) (sPar i j m) := ms_par hc hN hi hj hij hx hy ha hw hs
theorem sraise {c : Str} {m : Str} {j : Nat} {p p2 pos pos2 : Pos} (hc : X.mg c = some (.ref (He.ga X.K c))) (xf : (He.Fa.exc c).ok X.K = true) (tk : Takes X W) (hcalm : X.calm = true := by rfl) (hg : Gl X c := by rfl) (hdb : (c == ("__debug__" : Str)) = false := by decide) :
    MS X W (.Raise (some (.Call (.Name c p) [.Constant (.str m) j p2] [] pos)) none pos2) (sRaise c) := by
  obtain ⟨x1, x2, x3, x4⟩ := He.exc_ok xf
  exact ms_raise hcalm tk hc (pmk_own PySem.F.excBase_ValueError x1 hc x2 (raises_own x3 x4) hg hdb)
theorem gname (i : Nat) {x : Str} {pos : Pos} (hN : X.N.Nodup) (hi : X.N[i]? = some x := by rfl) (hx : Loc X.env.scope x := by first | exact Or.inl rfl | exact Or.inr rfl) (hf : X.fn x = true ∨ X.env.scope.names.lookup x = some .local := by first | exact .inl rfl | exact .inr rfl) : PG X (.Name x pos) (gName i) := pg_name hN hi hx hf
theorem sasg {pos : Pos} {tg e : Expr} {m : M} {r : TG} {t : Tg} (he : ME X W e m) (hg : PG X tg r) (ht : TgOk X.K r t) (hs : swapsWithSole [tg] e pos.line X.env = pure false := by rfl) (hw : swappedStores [tg] e X.env = pure none := by rfl) (h1 : (assignEach [tg] X.env).map (·.2) = [assign tg X.env] := by rfl) : MS X W (.Assign [tg] e pos) (sAsg t m) := ms_asg he hg ht hs hw h1
/-- a module's int, text -/
theorem mgInt {x : Str} {i : Int} {pos : Pos} (hm : ∃ t, X.mg x = some (.int i t)) (hg : Gl X x := by rfl) (hd : (x == ("__debug__" : Str)) = false := by decide) : ME X W (.Name x pos) (mC (.int i)) := by
  obtain ⟨t, h⟩ := hm
  exact me_c (pe_glob (v := .int i) hg h ⟨t, rfl⟩ hd) fun _ => .int i
end
/-- which exceptions a clause takes, from a table -/
def subT (tb : List (Str × Bool)) : Str → Option Bool := fun c => tb.lookup c
theorem subT_ok {K : PySem.W.Frag} {mg : Str → Option Value} {y : Str} : ∀ (tb : List (Str × Bool)), (∀ p ∈ tb, mg p.1 = some (.ref (He.ga K p.1)) ∧ PySem.W.exmOne K (.ref (He.ga K p.1)) (.ref (He.ga K y)) = some p.2) → SubOk K mg (subT tb) (.ref (He.ga K y))
  | [], _ => fun x k C e _ => by cases e
  | p :: tb, h => fun x k C e g => by
    unfold subT at e
    rw [List.lookup_cons] at e
    cases q : (x == p.1) with
    | true =>
      rw [q] at e
      cases e
      have := beq_iff_eq.mp q
      subst this
      obtain ⟨h1, h2⟩ := h p (List.mem_cons_self ..)
      rw [h1] at g
      cases g
      exact h2
    | false =>
      rw [q] at e
      exact subT_ok tb (fun p' hp => h p' (List.mem_cons_of_mem _ hp)) x k C e g
end MI
namespace MI
open PySem PySem.Spec PyProof.Rows L2
/-- further facts: an exception's class as isinstance asks it; isinstance's answer for two classes, for a class and a built-in one; a module's tuple -/
inductive Fx where
  | exc (x : Str)
  | kit (x y : Str) (b : Bool)
  | kitB (x : Str) (T : String) (b : Bool)
  | tup (x : Str) (vs : List He.Dv)
  | oex (x f : Str)
/-- a class of exceptions with an __init__ of its own -/
def oexIn (K : PySem.W.Frag) (C : Addr) : Bool := match K.lookup C with
  | some ⟨.type "type", _, .cls cd, sl⟩ => (match cd.mro, sl.toList with
    | .ref C' :: bm, [_, _, _, _, some (.builtin n), _] => C' == C && n == "ValueError.__new__" && !cd.hasDel && PySem.HandSPX.refsVE bm && cd.hasDict
    | _, _ => false)
  | _ => false
theorem oexIn_ok {K : PySem.W.Frag} {C : Addr} (q : oexIn K C = true) : ∃ nm q N bs bm sn sub ab col dd k0 k1 k2 k3 k5, K.lookup C = some (excClassObj nm q C N bs bm true sn sub ab col dd k0 k1 k2 k3 k5 "ValueError.__new__") ∧ PySem.HandSPX.refsVE bm = true := by
  unfold oexIn at q
  split at q
  · rename_i dd cd sl ho
    split at q
    · rename_i C' bm k0 k1 k2 k3 n k5 hm hs
      simp only [Bool.and_eq_true, beq_iff_eq, Bool.not_eq_true'] at q
      obtain ⟨⟨⟨⟨rfl, rfl⟩, hdel⟩, ht⟩, hdct⟩ := q
      obtain ⟨nm, bs, mro, ns, qn, hd, sn, sub, ab, col, del⟩ := cd
      dsimp only at hm hdel hdct
      subst hm hdel hdct
      have hsl : sl = #[k0, k1, k2, k3, some (.builtin "ValueError.__new__"), k5] := by
        obtain ⟨l⟩ := sl
        simp only at hs
        rw [hs]
      subst hsl
      exact ⟨nm, qn, ns, bs, bm, sn, sub, ab, col, dd, k0, k1, k2, k3, k5, ho, ht⟩
    · cases q
  · cases q
def eqB (a b : Option Bool) : Bool := decide (a = b)
def Fx.ok (K : PySem.W.Frag) : Fx → Bool
  | .exc x => He.eqO (PySem.W.findIn K (.ref (He.ga K x)) "__getattribute__") (some (some (.builtin "BaseException.__getattribute__"))) && (He.eqO (PySem.W.findIn K (.ref (He.ga K x)) "__getattr__") (some none) &&
      (eqB (PySem.W.subIn K (.ref (He.ga K x)) (.type "BaseException")) (some true) && (PySem.W.hasDictIn K (He.ga K x) && (He.eqO (PySem.W.findIn K (.ref (He.ga K x)) "__class__") (some (some (.builtin "object.__class__"))) &&
      (He.eqO (PySem.W.specialIn K (.builtin "object.__class__") "__get__") (some (some (.builtin "getset_descriptor.__get__"))) && (eqB (PySem.W.takesIn K (.builtin "object.__class__")) (some true) && eqB (PySem.W.mroIn K (He.ga K x) (.type "object")) (some true)))))))
  | .kit x y b => eqB (PySem.W.kitOne K (.ref (He.ga K x)) (.ref (He.ga K y))) (some b)
  | .kitB x T b => eqB (PySem.W.kitOne K (.ref (He.ga K x)) (.type T)) (some b)
  | .tup x vs => He.tupB K x vs
  | .oex x f => oexIn K (He.ga K x) && (He.eqO (PySem.W.findIn K (.ref (He.ga K x)) "__setattr__") (some (some (.builtin "object.__setattr__"))) && (eqB (PySem.W.subIn K (.ref (He.ga K x)) (.type "BaseException")) (some true) && (decide (PySem.W.typeIn K (.ref (He.ga K x)) = some (.type "type")) &&
      (PySem.W.keepIn K (.ref (He.ga K x)) && (He.eqO (PySem.W.findIn K (.ref (He.ga K x)) f) (some none) && (He.eqO (PySem.W.findIn K (.ref (He.ga K x)) "__init__") (some (some (.ref (He.ma K (He.ga K x) "__init__")))) && decide (PySem.W.typeIn K (.ref (He.ma K (He.ga K x) "__init__")) = some (.type "function"))))))))
/-- what is so of such a class -/
structure OexF (K : PySem.W.Frag) (x f : Str) : Prop where
  T : OexC K (He.ga K x)
  no : PySem.W.findIn K (.ref (He.ga K x)) f = some none
  iC : PySem.W.findIn K (.ref (He.ga K x)) "__init__" = some (some (.ref (He.ma K (He.ga K x) "__init__")))
  tI : PySem.W.typeIn K (.ref (He.ma K (He.ga K x) "__init__")) = some (.type "function")
theorem fx_oex {K : PySem.W.Frag} {x f : Str} (h : (Fx.oex x f).ok K = true) : OexF K x f := by
  obtain ⟨h1, h⟩ := He.ba h
  obtain ⟨h2, h⟩ := He.ba h
  obtain ⟨h3, h⟩ := He.ba h
  obtain ⟨h4, h⟩ := He.ba h
  obtain ⟨h5, h⟩ := He.ba h
  obtain ⟨h6, h⟩ := He.ba h
  obtain ⟨h7, h8⟩ := He.ba h
  exact ⟨⟨oexIn_ok h1, He.eqO_ok h2, of_decide_eq_true h3, of_decide_eq_true h4, h5⟩, He.eqO_ok h6, He.eqO_ok h7, of_decide_eq_true h8⟩
abbrev AlM : Type := He.AlD × Bool
def obsM (n : Nat) (fa : List He.Fa) (fn : List He.DefD) (fx : List Fx) (g : Addr → Option Obj) : AlM := (He.obsDG n fa fn g, fx.all fun f => f.ok (He.frG g (He.asD g n)))
def hookM (n : Nat) (fa : List He.Fa) (fn : List He.DefD) (fx : List Fx) : PySem.W.Hook where
  α := AlM
  obs := fun s => obsM n fa fn fx s.heap.get?
  val := fun _ => (He.valD fn, true)
  says := fun _ h => ∃ K : PySem.W.Frag, K.In h ∧ He.SaysD fa fn K ∧ (fx.all fun f => f.ok K) = true
  of := fun _ _ e => ⟨_, He.frG_in, congrArg (fun z : AlM => z.1) e, congrArg (fun z : AlM => z.2) e⟩
  keeps := fun _ _ _ ⟨K, hK, c⟩ k => ⟨K, PySem.W.Frag.In.keeps hK k, c⟩
theorem obsM_eq {n : Nat} {fa : List He.Fa} {fn : List He.DefD} {fx : List Fx} {g : Addr → Option Obj} {s : Shared} (h : ∀ a, g a = s.heap.get? a) : obsM n fa fn fx g = (hookM n fa fn fx).obs s := by
  have e : g = s.heap.get? := funext h
  rw [e] <;> rfl
/-- what the row's top has left, by facts -/
structure Tx (fa : List He.Fa) (fn : List He.DefD) (fx : List Fx) (K : PySem.W.Frag) (mg : Str → Option Value) : Prop where
  says : He.SaysD fa fn K
  at_ : ∃ h : Heap, K.In h ∧ h.Ns mainGlobals mg
  more : (fx.all fun f => f.ok K) = true
section
variable {fa : List He.Fa} {fn : List He.DefD} {fx : List Fx} {K : PySem.W.Frag} {mg : Str → Option Value}
theorem Tx.glo (T : Tx fa fn fx K mg) (i : Nat) {x : Str} (h : fa[i]? = some (.glo x) := by rfl) : mg x = some (.ref (He.ga K x)) := let ⟨_, a, b⟩ := T.at_; He.glo_ok a b (T.says.fact i h)
theorem Tx.free (T : Tx fa fn fx K mg) (i : Nat) {x : Str} (h : fa[i]? = some (.free x) := by rfl) : mg x = none := let ⟨_, a, b⟩ := T.at_; He.free_ok a b (T.says.fact i h)
theorem Tx.int (T : Tx fa fn fx K mg) (i : Nat) {x : Str} {z : Int} (h : fa[i]? = some (.int x z) := by rfl) : ∃ t, mg x = some (.int z t) := let ⟨_, a, b⟩ := T.at_; He.int_ok a b (T.says.fact i h)
theorem Tx.str (T : Tx fa fn fx K mg) (i : Nat) {x z : Str} (h : fa[i]? = some (.str x z) := by rfl) : ∃ t, mg x = some (.str z t) := let ⟨_, a, b⟩ := T.at_; He.str_ok a b (T.says.fact i h)
theorem Tx.exc (T : Tx fa fn fx K mg) (i : Nat) {x : Str} (h : fa[i]? = some (.exc x) := by rfl) : (He.Fa.exc x).ok K = true := T.says.fact i h
theorem Tx.exm (T : Tx fa fn fx K mg) (i : Nat) {x y : Str} {b : Bool} (h : fa[i]? = some (.exm x y b) := by rfl) : PySem.W.exmOne K (.ref (He.ga K x)) (.ref (He.ga K y)) = some b := He.exm_ok (T.says.fact i h)
theorem Tx.mo (T : Tx fa fn fx K mg) (i : Nat) {f : Fx} (h : fx[i]? = some f := by rfl) : f.ok K = true := List.all_eq_true.mp T.more f (List.mem_of_getElem? h)
theorem Tx.kit (T : Tx fa fn fx K mg) (i : Nat) {x y : Str} {b : Bool} (h : fx[i]? = some (.kit x y b) := by rfl) : PySem.W.kitOne K (.ref (He.ga K x)) (.ref (He.ga K y)) = some b := of_decide_eq_true (T.mo i h)
theorem Tx.kitB (T : Tx fa fn fx K mg) (i : Nat) {x : Str} {n : String} {b : Bool} (h : fx[i]? = some (.kitB x n b) := by rfl) : PySem.W.kitOne K (.ref (He.ga K x)) (.type n) = some b := of_decide_eq_true (T.mo i h)
theorem Tx.oex (T : Tx fa fn fx K mg) (i : Nat) {x f : Str} (h : fx[i]? = some (.oex x f) := by rfl) : OexF K x f := fx_oex (T.mo i h)
theorem Tx.tup (T : Tx fa fn fx K mg) (i : Nat) {x : Str} {vs : List He.Dv} (h : fx[i]? = some (.tup x vs) := by rfl) (H : Hp) : SqT K H (He.ga K x) (vs.map (He.Dv.v K)) := He.tupB_ok (T.mo i h) H
end
theorem all0 {α : Type} {P : α → Prop} : ∀ x ∈ ([] : List α), P x := fun _ h => nomatch h
theorem allC {α : Type} {P : α → Prop} {a : α} {r : List α} (h : P a) (hr : ∀ x ∈ r, P x) : ∀ x ∈ a :: r, P x := fun x hx => by
  rcases List.mem_cons.mp hx with e | e
  · rw [e]; exact h
  · exact hr x e
theorem hu65 {A : Around} {k : Nat} (hr : Room k A) : A.units + 65 < cLine := by
  have := hr.un
  omega
end MI
set_option Elab.async false
set_option linter.all false
set_option maxRecDepth 100000
set_option maxHeartbeats 4000000
namespace MI
open PySem PySem.Spec PyProof.Rows L2
def wipeV (δ : Vw) : List Nat → Vw
  | [] => δ
  | v :: vs => (wipeV δ vs).set v none
theorem wipe_get {σ : L2.St} {j : Nat} : ∀ vs : List Nat, (wipe σ vs)[j]? = if j ∈ vs then (if j < σ.length then some none else none) else σ[j]?
  | [] => by simp [wipe]
  | v :: vs => by
    unfold wipe
    rw [List.getElem?_set, wipe_length, wipe_get vs]
    by_cases e : v = j
    · subst e
      simp
    · have e' : ¬ j = v := fun h => e h.symm
      simp [e, e']
theorem wipe_idem {σ : L2.St} {vs : List Nat} : wipe (wipe σ vs) vs = wipe σ vs := by
  apply List.ext_getElem?
  intro j
  rw [wipe_get, wipe_length, wipe_get]
  by_cases h : j ∈ vs <;> simp [h]
theorem wipe_set {σ : L2.St} {vs : List Nat} {i : Nat} {x : Option V} (h : i ∈ vs) : wipe (σ.set i x) vs = wipe σ vs := by
  apply List.ext_getElem?
  intro j
  rw [wipe_get, wipe_get, List.length_set]
  by_cases hj : j ∈ vs
  · simp [hj]
  · have : i ≠ j := fun e => hj (e ▸ h)
    simp [hj, List.getElem?_set_ne this]
theorem VwOk.wipe {K : PySem.W.Frag} {F : Hp} {σ : L2.St} {δ : Vw} (h : VwOk K F σ δ) : ∀ vs : List Nat, VwOk K F (L2.wipe σ vs) (wipeV δ vs)
  | [] => h
  | v :: vs => by
    have ih := VwOk.wipe h vs
    unfold L2.wipe wipeV
    refine ⟨by simpa using ih.1, fun i d q => ?_⟩
    rw [List.getElem?_set] at q ⊢
    by_cases e : v = i
    · subst e
      rw [if_pos rfl] at q
      split at q <;> cases q
    · rw [if_neg e] at q ⊢
      exact ih.2 i d q
theorem VwOk.set {K : PySem.W.Frag} {F : Hp} {σ : L2.St} {δ : Vw} (h : VwOk K F σ δ) {i : Nat} {v : V} {d : D} (hd : Dp K F v d) : VwOk K F (σ.set i (some v)) (δ.set i (some d)) := by
  refine ⟨by simpa using h.1, fun j e q => ?_⟩
  rw [List.getElem?_set] at q ⊢
  by_cases z : i = j
  · subst z
    rw [if_pos rfl] at q ⊢
    split at q
    · rename_i l
      cases q
      rw [if_pos (Nat.lt_of_lt_of_le l h.1)]
      exact ⟨v, rfl, hd⟩
    · cases q
  · rw [if_neg z] at q ⊢
    exact h.2 j e q
abbrev VTg := D → Vw → Option Vw
abbrev VTgs := List D → Vw → Option Vw
def vN (i : Nat) : VTg := fun d δ => some (δ.set i (some d))
def vsNil : VTgs := fun ds δ => match ds with
  | [] => some δ
  | _ => none
def vsCons (t : VTg) (u : VTgs) : VTgs := fun ds δ => match ds with
  | d :: r => (t d δ).bind (u r)
  | [] => none
def vT (u : VTgs) : VTg := fun d δ => match d with
  | .tuple ds => u ds δ
  | _ => none
def VTgOk (K : PySem.W.Frag) (vs : List Nat) (r : TG) (t : VTg) : Prop := ∀ (F H : Hp) (σ : L2.St) (δ δ' : Vw) (v : V) (d : D) (Q : L2.St → Hp → Prop),
  Same F H → VwOk K F σ δ → Dp K F v d → t d δ = some δ' → (∀ σ', VwOk K F σ' δ' → wipe σ' vs = wipe σ vs → Q σ' H) → r v σ H Q
def VTgsOk (K : PySem.W.Frag) (vs : List Nat) (n : Nat) (r : TGs) (t : VTgs) : Prop := (∀ ds δ δ', t ds δ = some δ' → ds.length = n) ∧ ∀ (F H : Hp) (σ : L2.St) (δ δ' : Vw) (xs : List V) (ds : List D) (Q : L2.St → Hp → Prop),
  Same F H → VwOk K F σ δ → DpAll K F xs ds → t ds δ = some δ' → (∀ σ', VwOk K F σ' δ' → wipe σ' vs = wipe σ vs → Q σ' H) → r xs σ H Q
theorem vN_ok {K : PySem.W.Frag} {vs : List Nat} {i : Nat} (h : i ∈ vs) : VTgOk K vs (gName i) (vN i) := fun F H σ δ δ' v d Q s ok hd e q => by
  cases e
  exact q _ (ok.set hd) (wipe_set h)
theorem vsNil_ok {K : PySem.W.Frag} {vs : List Nat} : VTgsOk K vs 0 gNil vsNil := by
  refine ⟨fun ds δ δ' e => ?_, fun F H σ δ δ' xs ds Q s ok hd e q => ?_⟩
  · cases ds with
    | nil => rfl
    | cons a b => cases e
  · cases hd with
    | nil =>
      cases e
      exact ⟨rfl, q _ ok rfl⟩
    | cons a b => cases e
theorem vsCons_ok {K : PySem.W.Frag} {vs : List Nat} {n : Nat} {r : TG} {rs : TGs} {t : VTg} {ts : VTgs} (h1 : VTgOk K vs r t) (h2 : VTgsOk K vs n rs ts) : VTgsOk K vs (n + 1) (gCons r rs) (vsCons t ts) := by
  refine ⟨fun ds δ δ' e => ?_, fun F H σ δ δ' xs ds Q s ok hd e Q' => ?_⟩
  · cases ds with
    | nil => cases e
    | cons d ds =>
      have e' : (t d δ).bind (ts ds) = some δ' := e
      cases q : t d δ with
      | none => rw [q] at e'; cases e'
      | some g1 =>
        rw [q] at e'
        exact congrArg Nat.succ (h2.1 ds g1 δ' e')
  · cases hd with
    | nil => cases e
    | @cons v vs' d ds a b =>
      have e' : (t d δ).bind (ts ds) = some δ' := e
      cases q : t d δ with
      | none => rw [q] at e'; cases e'
      | some g1 =>
        rw [q] at e'
        exact ⟨v, vs', rfl, h1 F H σ δ g1 v d _ s ok a q fun σ' ok' w => h2.2 F H σ' g1 δ' vs' ds Q s ok' b e' fun σ2 ok2 w2 => Q' σ2 ok2 (w2.trans w)⟩
theorem vT_ok {K : PySem.W.Frag} {vs : List Nat} {n : Nat} {r : TGs} {t : VTgs} (h : VTgsOk K vs n r t) : VTgOk K vs (gTup K n r) (vT t) := fun F H σ δ δ' v d Q s ok hd e q => by
  cases hd with
  | tup a b => exact ⟨_, _, rfl, same_t s a, (dpa_len b).trans (h.1 _ _ _ e), h.2 F H σ δ δ' _ _ Q s ok b e q⟩
  | _ => cases e
structure ItOk (K : PySem.W.Frag) (F : Hp) (J : L2.It) (ds : List D) : Prop where
  go : ∀ (i : Nat) (H : Hp) (d : D), Same F H → ds[i]? = some d → J.go i H ∧ ∀ x H' F2, Same F F2 → Same F2 H → J.yld i H x H' → ∃ F3, Ext F2 H F3 H' ∧ Dp K F3 x d
  stop : ∀ (i : Nat) (H : Hp), Same F H → ds.length ≤ i → J.stop i H
theorem it_list {K : PySem.W.Frag} {F : Hp} {a : Addr} {xs : List V} {ds : List D} (hs : SqL K F a xs) (ha : DpAll K F xs ds) : ItOk K F (Itl K a) ds := by
  refine ⟨fun i H d s e => ?_, fun i H s l => ⟨xs, s.seq hs, by rw [dpa_len ha]; exact l⟩⟩
  obtain ⟨v, h1, h2⟩ := dpa_get ha e
  refine ⟨⟨xs, v, s.seq hs, h1⟩, fun x H' F2 f2 s2 ⟨e1, y⟩ => ?_⟩
  subst e1
  have := y xs (s.seq hs)
  rw [h1] at this
  cases this
  exact ⟨F2, Ext.refl s2, dp_mono f2 d h2⟩
theorem it_tup {K : PySem.W.Frag} {F : Hp} {a : Addr} {xs : List V} {ds : List D} (hs : SqT K F a xs) (ha : DpAll K F xs ds) : ItOk K F (Itt K a) ds := by
  refine ⟨fun i H d s e => ?_, fun i H s l => ⟨xs, same_t s hs, by rw [dpa_len ha]; exact l⟩⟩
  obtain ⟨v, h1, h2⟩ := dpa_get ha e
  refine ⟨⟨xs, v, same_t s hs, h1⟩, fun x H' F2 f2 s2 ⟨e1, y⟩ => ?_⟩
  subst e1
  have := y xs (same_t s hs)
  rw [h1] at this
  cases this
  exact ⟨F2, Ext.refl s2, dp_mono f2 d h2⟩
theorem it_rng {K : PySem.W.Frag} {F : Hp} {lo : Int} {n : Nat} : ItOk K F (Itr lo n) (rngL lo 1 n) := by
  refine ⟨fun i H d s e => ?_, fun i H s l => by rw [rngL_len] at l; exact l⟩
  have hi : i < n := by
    have := (List.getElem?_eq_some_iff.mp e).1
    rwa [rngL_len] at this
  rw [rngL_get hi] at e
  cases e
  refine ⟨hi, fun x H' F2 f2 s2 ⟨e1, y⟩ => ?_⟩
  subst e1 y
  rw [Int.mul_one]
  exact ⟨F2, Ext.refl s2, .int _⟩
theorem it_rngC {K : PySem.W.Frag} {F : Hp} {lo c : Int} {n : Nat} : ItOk K F (Itc lo c n) (rngL lo c n) := by
  refine ⟨fun i H d s e => ?_, fun i H s l => by rw [rngL_len] at l; exact l⟩
  have hi : i < n := by
    have := (List.getElem?_eq_some_iff.mp e).1
    rwa [rngL_len] at this
  rw [rngL_get hi] at e
  cases e
  refine ⟨hi, fun x H' F2 f2 s2 ⟨e1, y⟩ => ?_⟩
  subst e1 y
  exact ⟨F2, Ext.refl s2, .int _⟩
def IPost (X : Cx) (W : WX) (F H : Hp) (σ : L2.St) (Q : L2.It → Hp → Prop) : R (List D) → Prop
  | .ok ds => ∀ F' H' J, Ext F H F' H' → ItOk X.K F' J ds → Q J H'
  | .exc c p => ∀ cls od F' H', Ext F H F' H' → XV X.K X.mg F' c p cls od → W cls od σ H'
  | .bad => False
def tI (X : Cx) (W : WX) (m : Vw → R (List D)) : TI := fun σ H Q => ∃ F δ, Same F H ∧ VwOk X.K F σ δ ∧ IPost X W F H σ Q (m δ)
abbrev MIt (X : Cx) (W : WX) (tg e : Expr) (m : Vw → R (List D)) : Prop := PI X tg e (tI X W m)
theorem PI.imp {X : Cx} {tg e : Expr} {t t' : TI} (h : PI X tg e t) (i : ∀ σ H Q, t' σ H Q → t σ H Q) : PI X tg e t' := ⟨fun pins s σ H Q I hw => h.run pins s σ H Q I (i _ _ _ hw)⟩
def mItems (m : M) : Vw → R (List D) := fun δ => (m δ).bind fun d => match d with
  | .list ds => .ok ds
  | .tuple ds => .ok ds
  | _ => .bad
def mRng (f : List D → Option (List D)) (m : Vw → R (List D)) : Vw → R (List D) := fun δ => (m δ).bind fun ds => R.of (f ds)
section
variable {X : Cx} {W : WX} {tg : Expr}
theorem mi_items {e : Expr} {m : M} (he : ME X W e m) : MIt X W tg e (mItems m) := by
  refine PI.imp (pi_lt he) fun σ H Q ⟨F, δ, s, v, h⟩ => ?_
  unfold mItems at h
  cases em : m δ with
  | ok d =>
    rw [em, R.bind_ok] at h
    cases d with
    | list ds =>
      refine .inl ⟨F, δ, s, v, ?_⟩
      rw [em]
      intro y F' H' E hy
      cases hy with
      | lst a b => exact ⟨_, rfl, ⟨_, E.s.seq a⟩, h F' H' _ E (it_list a b)⟩
    | tuple ds =>
      refine .inr ⟨F, δ, s, v, ?_⟩
      rw [em]
      intro y F' H' E hy
      cases hy with
      | tup a b => exact ⟨_, rfl, ⟨_, same_t E.s a⟩, h F' H' _ E (it_tup a b)⟩
    | _ => exact h.elim
  | exc c p =>
    rw [em] at h
    refine .inl ⟨F, δ, s, v, ?_⟩
    rw [em]
    exact h
  | bad => rw [em] at h; exact h.elim
theorem mi_post {F H : Hp} {σ : L2.St} {Q : L2.It → Hp → Prop} {o : Option (List D)} (h : IPost X W F H σ Q (R.of o)) : ∃ xs, o = some xs ∧ ∀ F' H' J, Ext F H F' H' → ItOk X.K F' J xs → Q J H' := by
  cases o with
  | none => exact h.elim
  | some d => exact ⟨d, rfl, h⟩
theorem tA_bindI {m : Vw → R (List D)} {f : List D → Option (List D)} {F H : Hp} {σ : L2.St} {δ : Vw} {Q : L2.It → Hp → Prop} {P : List V → Hp → Prop} (s : Same F H) (v : VwOk X.K F σ δ) (h : IPost X W F H σ Q ((m δ).bind fun ds => R.of (f ds)))
    (k : ∀ ds xs F' H' ys, Ext F H F' H' → DpAll X.K F' xs ds → f ds = some ys → (∀ J, ItOk X.K F' J ys → Q J H') → P xs H') : tA X W m σ H P := by
  refine ⟨F, δ, s, v, ?_⟩
  cases e : m δ with
  | ok ds =>
    rw [e, R.bind_ok] at h
    obtain ⟨ys, e1, q⟩ := mi_post h
    exact fun xs F' H' E hx => k ds xs F' H' ys E hx e1 fun J => q F' H' J E
  | exc c p => rw [e] at h; exact h
  | bad => rw [e] at h; exact h
theorem mi_rng1 {a : Expr} {m : Vw → R (List D)} {p pos : Pos} (hm : X.mg "range" = none) (ha : MA X W [a] m) (hG : Gl X "range" := by rfl) (hst : starEach [a] X.env = [(false, eval a X.env)] := by rfl) : MIt X W tg (.Call (.Name "range" p) [a] [] pos) (mRng rng1 m) := by
  refine PI.imp (pi_range1 hG hm ha hst) fun σ H Q ⟨F, δ, s, v, h⟩ => tA_bindI s v h fun ds xs F' H' ys E hx e q => ?_
  unfold rng1 at e
  split at e
  · split at e
    · rename_i l
      cases e
      obtain ⟨x, rfl, hv⟩ := dpa1 hx
      cases dp_int hv
      unfold lim62 at l
      rw [Bool.and_eq_true, decide_eq_true_eq, decide_eq_true_eq] at l
      exact ⟨_, rfl, l.1, l.2, q _ it_rng⟩
    · cases e
  · cases e
theorem mi_rng3 {a b c : Expr} {m : Vw → R (List D)} {p pos : Pos} (hm : X.mg "range" = none) (ha : MA X W [a, b, c] m) (hG : Gl X "range" := by rfl) (hst : starEach [a, b, c] X.env = (false, eval a X.env) :: starEach [b, c] X.env := by rfl) (hpl : (backTo pos (starEach [b, c] X.env)).any (·.1) = false := by rfl) :
    MIt X W tg (.Call (.Name "range" p) [a, b, c] [] pos) (mRng rng3 m) := by
  refine PI.imp (pi_range3 hG hm ha hst hpl) fun σ H Q ⟨F, δ, s, v, h⟩ => tA_bindI s v h fun ds xs F' H' ys E hx e q => ?_
  unfold rng3 at e
  split at e
  · split at e
    · rename_i l
      cases e
      obtain ⟨x, y, z, rfl, hv, hw, hz⟩ := dpa3 hx
      cases dp_int hv
      cases dp_int hw
      cases dp_int hz
      exact ⟨_, _, _, _, rfl, ⟨l.1, l.2.1, l.2.2.1, (Int.toNat_of_nonneg l.2.2.2).symm⟩, q _ it_rngC⟩
    · cases e
  · cases e
end
def NPost (X : Cx) (W : WX) (F H : Hp) (σ : L2.St) (Q : VK) : R (List D) → Prop
  | .ok ds => ∀ p xs F' H', Ext F H F' H' → H p = none → F' p = none → H' p = some (.lst xs) → DpAll X.K F' xs ds → Q (.ref p) H'
  | .exc c p => ∀ cls od F' H', Ext F H F' H' → XV X.K X.mg F' c p cls od → W cls od σ H'
  | .bad => False
def tN (X : Cx) (W : WX) (m : Vw → R (List D)) : TE := fun σ H Q => ∃ F δ, Same F H ∧ VwOk X.K F σ δ ∧ NPost X W F H σ Q (m δ)
/-- an expression that makes a list anew -/
abbrev MN (X : Cx) (W : WX) (e : Expr) (m : Vw → R (List D)) : Prop := PE X e (tN X W m)
def mL (m : Vw → R (List D)) : M := fun δ => (m δ).bind fun ds => .ok (.list ds)
theorem Ext.frzOne {F H F' H' : Hp} (E : Ext F H F' H') {p : Addr} {xs : List V} (h0 : H p = none) (hF : F' p = none) (hH : H' p = some (.lst xs)) : Ext F H (upd F' p (.lst xs)) H' := by
  refine ⟨fun a o e => ?_, E.h, fun a o e => ?_, fun a o e n => ?_⟩
  · have := E.f a o e
    rw [upd_ne (ne_of_none this hF)]
    exact this
  · by_cases z : a = p
    · subst z
      rw [upd_same] at e
      cases e
      exact hH
    · rw [upd_ne z] at e
      exact E.s a o e
  · by_cases z : a = p
    · subst z; exact .inl h0
    · rw [upd_ne z] at e
      exact E.n a o e n
theorem new_read {X : Cx} {W : WX} {m : Vw → R (List D)} {σ : L2.St} {H : Hp} {Q : VK} (h : tM X W (mL m) σ H Q) : tN X W m σ H Q := by
  obtain ⟨F, δ, s, v, q⟩ := h
  refine ⟨F, δ, s, v, ?_⟩
  unfold mL at q
  cases em : m δ with
  | ok ds =>
    rw [em, R.bind_ok] at q
    intro p xs F' H' E h0 hF hH hd
    refine q _ _ _ (E.frzOne h0 hF hH) (.lst (SqL.of upd_same) (dpa_mono (fun a o w => ?_) _ hd))
    rw [upd_ne (ne_of_none w hF)]
    exact w
  | exc c p => rw [em] at q; exact q
  | bad => rw [em] at q; exact q
theorem me_new {X : Cx} {W : WX} {e : Expr} {m : Vw → R (List D)} (h : MN X W e m) : ME X W e (mL m) := PE.imp h fun σ H Q q => new_read q
def sOwn (i : Nat) (m : Vw → R (List D)) : S := fun g => (m (vd g)).to g fun ds => .nx (g.set i (.own ds))
theorem own_read {X : Cx} {W : WX} {F0 H0 F H : Hp} {σ : L2.St} {g : Ce} {D : Ends} {i : Nat} {m : Vw → R (List MI.D)} (ok : StOk X.K F0 H0 F H σ g) (h : SPost X.K X.mg W F0 H0 D (sOwn i m g)) : tN X W m σ H (fun v H1 => D.nx (σ.set i (some v)) H1) := by
  refine ⟨F, vd g, ok.e.s, ok.vd, ?_⟩
  unfold sOwn at h
  cases em : m (vd g) with
  | ok ds =>
    rw [em] at h
    intro p xs F' H' E h0 hF hH hd
    have ok' := ok.mono E
    refine h F' H' _ (ok'.setOwn hd hH hF (ok.e.h.free h0) fun j es' _ hj hs' => ?_)
    obtain ⟨b, ys, q1, q2, _⟩ := ok.own j es' hj
    rw [q1] at hs'
    cases hs'
    rw [h0] at q2
    cases q2
  | exc c p =>
    rw [em] at h
    unfold R.to at h
    dsimp only at h
    split at h
    · exact fun cls od F' H' E x => h cls od F' H' σ (ok.mono E) x
    · exact h.elim
  | bad => rw [em] at h; exact h.elim
theorem ms_own {X : Cx} {W : WX} {pos : Pos} (i : Nat) {x : Str} {e : Expr} {m : Vw → R (List D)} {pos' : Pos} (hN : X.N.Nodup) (he : MN X W e m) (hi : X.N[i]? = some x := by rfl) (hx : Loc X.env.scope x := by first | exact Or.inl rfl | exact Or.inr rfl) (hs : swapsWith e (some (.Name x pos')) pos.line X.env = pure false := by rfl) (hf : X.fn x = true ∨ X.env.scope.names.lookup x = some .local := by first | exact .inl rfl | exact .inr rfl) :
    MS X W (.Assign [.Name x pos'] e pos) (sOwn i m) := PS.imp (ps_set hN hi hx he hs hf) fun D σ H ⟨F0, H0, F, g, ok, h⟩ => own_read ok h
def nLst (m : Vw → R (List D)) : Vw → R (List D) := fun δ => (m δ).bind fun ds => if ds.length ≤ most then .ok ds else .bad
def nOf (m : M) : Vw → R (List D) := fun δ => (m δ).bind fun d => match d with
  | .list ds => .ok ds
  | .tuple ds => .ok ds
  | _ => .bad
section
variable {X : Cx} {W : WX}
theorem mn_lst {es : List Expr} {m : Vw → R (List D)} {pos : Pos} (h : MA X W es m) : MN X W (.List es pos) (nLst m) := by
  refine PE.imp (pe_lst h) fun σ H Q ⟨F, δ, s, v, h⟩ => ⟨F, δ, s, v, ?_⟩
  unfold nLst at h
  cases em : m δ with
  | ok ds =>
    rw [em, R.bind_ok] at h
    intro xs F' H' E hd
    split at h
    · rename_i l
      refine ⟨by rw [dpa_len hd]; exact most_le l, fun p hp => h p xs F' _ (E.trans (Ext.loose E.s hp)) (E.h.free hp) (E.s.free hp) upd_same hd⟩
    · exact h.elim
  | exc c p => rw [em] at h; exact h
  | bad => rw [em] at h; exact h
end
def loopC (t : VTg) (tt : Vw → R Bool) (te : M) (δ0 : Vw) : List D → List D → R (List D)
  | [], acc => .ok acc
  | d :: ds, acc => match t d δ0 with
    | none => .bad
    | some δ => match tt δ with
      | .ok true => (match te δ with
        | .ok y => if acc.length < most then loopC t tt te δ0 ds (acc ++ [y]) else .bad
        | _ => .bad)
      | .ok false => loopC t tt te δ0 ds acc
      | _ => .bad
def nLc (it : Vw → R (List D)) (vs : List Nat) (t : VTg) (tt : Vw → R Bool) (te : M) : Vw → R (List D) := fun δ => (it δ).bind fun ds => loopC t tt te (wipeV δ vs) ds []
def mYes : Vw → R Bool := fun _ => .ok true
abbrev W0 : WX := fun _ _ _ _ => False
abbrev MTs (X : Cx) (ifs : List Expr) (m : Vw → R Bool) : Prop := PTs X ifs (tT X W0 m)
theorem mts_nil {X : Cx} : MTs X [] mYes := ⟨fun pins s σ H Q I ⟨F, δ, sm, v, h⟩ => pts_nil.run pins s σ H Q I (h F H (Ext.refl sm))⟩
theorem lc_key {K : PySem.W.Frag} {mg : Str → Option Value} {vs : List Nat} {g : TG} {t : VTg} {tt : Vw → R Bool} {te : M} {ttr : TT} {ter : TE} (ht : VTgOk K vs g t)
    (htt : ∀ F H σ δ b Q, Same F H → VwOk K F σ δ → tt δ = .ok b → (∀ F' H', Ext F H F' H' → Q b H') → ttr σ H Q) (hte : ∀ F H σ δ y Q, Same F H → VwOk K F σ δ → te δ = .ok y → (∀ v F' H', Ext F H F' H' → Dp K F' v y → Q v H') → ter σ H Q)
    {F1 H1 : Hp} {σ : L2.St} {δ : Vw} {J : L2.It} {ds res : List D} {Q : VK} (s : Same F1 H1) (v : VwOk K F1 σ δ) (io : ItOk K F1 J ds) (he : loopC t tt te (wipeV δ vs) ds [] = .ok res)
    (q : ∀ p xs F' H', Ext F1 H1 F' H' → H1 p = none → F' p = none → H' p = some (.lst xs) → DpAll K F' xs res → Q (.ref p) H') :
    ∀ Dl, H1 Dl = none → ∃ W : Nat → Nat → Hp → Prop, (∃ m, W 0 m (upd H1 Dl (.lst []))) ∧ ∀ i m H, W i m H →
      (J.stop i H ∧ Q (.ref Dl) H) ∨ (J.go i H ∧ ∃ Nx : Hp → Prop, (∀ H', Nx H' → ∃ m', m' < m ∧ W (i + 1) m' H') ∧ ∀ x H', J.yld i H x H' → g x (wipe σ vs) H' fun σ2 H2 => wipe σ2 vs = wipe σ vs ∧ ttr σ2 H2 fun b H3 =>
        if b = true then ter σ2 H3 fun y H4 => ∃ acc, H4 Dl = some (.lst acc) ∧ acc.length < sizeLine ∧ Nx (upd H4 Dl (.lst (acc ++ [y]))) else Nx H3) := by
  intro Dl hD
  -- behind i items: the list at Dl holds acc
  let Pv : Nat → Hp → Prop := fun i H => ∃ F2 acc accD, Same F1 F2 ∧ Same F2 H ∧ Same H1 H ∧ (∀ a o, F2 a = some o → F1 a = none → Lo (H1 a)) ∧ F2 Dl = none ∧ H Dl = some (.lst acc) ∧ DpAll K F2 acc accD ∧ i ≤ ds.length ∧ loopC t tt te (wipeV δ vs) (ds.drop i) accD = .ok res
  refine ⟨fun i m H => m = ds.length - i ∧ Pv i H, ⟨ds.length, by simp, F1, [], [], Same.refl _, s.trans (same_upd hD), same_upd hD, (fun a o e n => by rw [n] at e; cases e), s.free hD, upd_same, .nil, Nat.zero_le _, by simpa using he⟩, ?_⟩
  rintro i m H ⟨rfl, F2, acc, accD, f, s2, h2, hn, hF2, hHD, hacc, hi, hl⟩
  by_cases hlt : i < ds.length
  · have ed : ds[i]? = some ds[i] := List.getElem?_eq_getElem hlt
    obtain ⟨go, yl⟩ := io.go i H _ (f.trans s2) ed
    refine .inr ⟨go, Pv (i + 1), fun H' p' => ⟨ds.length - (i + 1), by omega, rfl, p'⟩, fun x H' hy => ?_⟩
    obtain ⟨F3, E3, dx⟩ := yl x H' F2 f s2 hy
    rw [drop_get ed] at hl
    unfold loopC at hl
    cases et : t ds[i] (wipeV δ vs) with
    | none => rw [et] at hl; cases hl
    | some δ1 =>
      rw [et] at hl
      refine ht F3 H' (wipe σ vs) (wipeV δ vs) δ1 x _ _ E3.s (((v.mono f).mono E3.f).wipe vs) dx et fun σ2 ok2 hw => ⟨hw.trans wipe_idem, ?_⟩
      dsimp only at hl
      cases ett : tt δ1 with
      | ok b =>
        rw [ett] at hl
        refine htt F3 H' σ2 δ1 b _ E3.s ok2 ett fun F4 H4 E4 => ?_
        have E := E3.trans E4
        have next : ∀ a o, F4 a = some o → F1 a = none → Lo (H1 a) := fun a o e n => by
          cases w : F2 a with
          | some u => exact hn a u w n
          | none => exact h2.lo (E.n a o e w)
        cases b with
        | false =>
          rw [if_neg Bool.false_ne_true]
          exact ⟨F4, acc, accD, f.trans E.f, E.s, h2.trans E.h, next, E.new_none hF2 hHD, E.h _ _ hHD, dpa_mono E.f _ hacc, hlt, hl⟩
        | true =>
          rw [if_pos rfl]
          dsimp only at hl
          cases ete : te δ1 with
          | ok y =>
            rw [ete] at hl
            dsimp only at hl
            split at hl
            · rename_i lm
              refine hte F4 H4 σ2 δ1 y _ E4.s (ok2.mono E4.f) ete fun w F5 H5 E5 dw => ?_
              have E' := E.trans E5
              refine ⟨acc, E'.h _ _ hHD, by rw [dpa_len hacc]; exact Nat.lt_of_lt_of_le lm (Nat.le_of_eq most_eq), F5, acc ++ [w], accD ++ [y], f.trans E'.f, fun a o e => ?_, fun a o e => ?_, fun a o e n => ?_, E'.new_none hF2 hHD, upd_same, dpa_append (dpa_mono E'.f _ hacc) (.cons dw .nil), hlt, hl⟩
              · rw [upd_ne (ne_of_none e (E'.new_none hF2 hHD))]
                exact E'.s a o e
              · rw [upd_ne (ne_of_none e hD)]
                exact E'.h a o (h2 a o e)
              · cases w : F2 a with
                | some u => exact hn a u w n
                | none => exact h2.lo (E'.n a o e w)
            · cases hl
          | exc c p => rw [ete] at hl; cases hl
          | bad => rw [ete] at hl; cases hl
      | exc c p => rw [ett] at hl; cases hl
      | bad => rw [ett] at hl; cases hl
  · have e : i = ds.length := by omega
    subst e
    rw [List.drop_length] at hl
    cases hl
    exact .inl ⟨io.stop _ H (f.trans s2) (Nat.le_refl _), q Dl acc F2 H ⟨f, h2, s2, hn⟩ hD hF2 hHD hacc⟩
theorem lc_bad {t : VTg} {tt : Vw → R Bool} {te : M} {δ : Vw} : ∀ (ds acc : List D) (c : Str) (p : Option D), loopC t tt te δ ds acc ≠ .exc c p
  | [], acc, c, p, e => by cases e
  | d :: ds, acc, c, p, e => by
    unfold loopC at e
    split at e
    · cases e
    · split at e
      · split at e
        · split at e
          · exact lc_bad ds _ c p e
          · cases e
        · cases e
      · exact lc_bad ds _ c p e
      · cases e
theorem lc_read {X : Cx} {W : WX} {it : Vw → R (List D)} {vs : List Nat} {g : TG} {t : VTg} {tt : Vw → R Bool} {te : M} (hv : VTgOk X.K vs g t) {σ : L2.St} {H : Hp} {Q : VK} (h : tN X W (nLc it vs t tt te) σ H Q) : tLc (tI X W it) g (tT X W0 tt) (tM X W0 te) vs σ H Q := by
  obtain ⟨F, δ, s, v, h⟩ := h
  refine ⟨F, δ, s, v, ?_⟩
  unfold nLc at h
  cases ei : it δ with
  | ok ds =>
    rw [ei, R.bind_ok] at h
    intro F1 H1 J E io
    cases el : loopC t tt te (wipeV δ vs) ds [] with
    | ok res =>
      rw [el] at h
      refine lc_key (mg := X.mg) hv (fun F H σ δ b Q s v e k => ⟨F, δ, s, v, by rw [e]; exact k⟩) (fun F H σ δ y Q s v e k => ⟨F, δ, s, v, by rw [e]; exact k⟩) E.s (v.mono E.f) io el fun p xs F' H' E2 h0 hF hH hd => h p xs F' H' (E.trans E2) (E.h.free h0) hF hH hd
    | exc c p => exact absurd el (lc_bad _ _ _ _)
    | bad => rw [el] at h; exact h.elim
  | exc c p => rw [ei] at h; exact h
  | bad => rw [ei] at h; exact h
section
variable {X : Cx} {W : WX} {elt tg iter : Expr} {ifs : List Expr} {scope : Scope} {own : List (Str × Nat)} {pos : Pos} {it : Vw → R (List D)} {g : TG} {t : VTg} {tt : Vw → R Bool} {te : M} (hN : X.N.Nodup) (hi : MIt X W tg iter it) (ok : BlkOk X.N X.env.scope scope own) (hv : VTgOk X.K (own.map (·.2)) g t)
    (hg : ∀ (s : Shared) (H : Hp) (C : Addr) (cl : List (Str × Addr)) (fp : List Addr), PG (X.blk s H scope (compEnvC scope cl C X.env) fp) tg g) (ht : ∀ (s : Shared) (H : Hp) (C : Addr) (cl : List (Str × Addr)) (fp : List Addr), MTs (X.blk s H scope (compEnvC scope cl C X.env) fp) ifs tt)
    (he : ∀ (s : Shared) (H : Hp) (C : Addr) (cl : List (Str × Addr)) (fp : List Addr), ME (X.blk s H scope (compEnvC scope cl C X.env) fp) W0 elt te)
include hN hi ok hv hg ht he
theorem mn_lc (hc : X.calm = true := by rfl) (hs : ∀ x, foldedSetIterable iter X.env x = pure x := by intro _; rfl) : MN X W (.ListComp elt [⟨tg, iter, ifs, 0⟩] scope pos) (nLc it (own.map (·.2)) t tt te) :=
  PE.imp (pe_lc hc hN hi ok hg (fun s H C cl fp => ht s H C cl fp) (fun s H C cl fp => he s H C cl fp) hs) fun σ H Q h => lc_read hv h
/-- y = [..], a statement of its own in the model; y's list is this def's own -/
theorem ms_ownLc (j : Nat) {y : Str} {py spos : Pos} (hy : X.N[j]? = some y := by rfl) (hyl : X.env.scope.names.lookup y = some .local := by rfl) (hsw : swapsWith (.ListComp elt [⟨tg, iter, ifs, 0⟩] scope pos) (some (.Name y py)) spos.line X.env = pure true := by exact sw_true rfl rfl rfl (by decide +kernel)) (hc : X.calm = true := by rfl) (hs : ∀ x, foldedSetIterable iter X.env x = pure x := by intro _; rfl) :
    MS X W (.Assign [.Name y py] (.ListComp elt [⟨tg, iter, ifs, 0⟩] scope pos) spos) (sOwn j (nLc it (own.map (·.2)) t tt te)) := by
  refine PS.imp (ps_setLc hc hN hy hyl hsw hi ok hg (fun s H C cl fp => ht s H C cl fp) (fun s H C cl fp => he s H C cl fp) hs) fun D σ H ⟨F0, H0, F, g, ok, h⟩ => lc_read hv (own_read ok h)
/-- the same, its list data at once -/
theorem ms_setLc (j : Nat) {y : Str} {py spos : Pos} (hy : X.N[j]? = some y := by rfl) (hyl : X.env.scope.names.lookup y = some .local := by rfl) (hsw : swapsWith (.ListComp elt [⟨tg, iter, ifs, 0⟩] scope pos) (some (.Name y py)) spos.line X.env = pure true := by exact sw_true rfl rfl rfl (by decide +kernel)) (hc : X.calm = true := by rfl) (hs : ∀ x, foldedSetIterable iter X.env x = pure x := by intro _; rfl) :
    MS X W (.Assign [.Name y py] (.ListComp elt [⟨tg, iter, ifs, 0⟩] scope pos) spos) (sSet j (mL (nLc it (own.map (·.2)) t tt te))) := by
  refine PS.imp (ps_setLc hc hN hy hyl hsw hi ok hg (fun s H C cl fp => ht s H C cl fp) (fun s H C cl fp => he s H C cl fp) hs) fun D σ H ⟨F0, H0, F, g, ok, h⟩ => lc_read hv (new_read (ev_vd (Q := fun v H1 => D.nx (σ.set j (some v)) H1) ok h fun d v F' H' e ok' hd h' => h' F' H' _ (ok'.set hd)))
end
end MI
set_option Elab.async false
set_option linter.all false
set_option maxRecDepth 100000
set_option maxHeartbeats 4000000
namespace MI
open PySem PySem.Spec PyProof.Rows L2
section
variable {X : Cx}
theorem op_catL : OpR X (binaryOp .Add) (fun x y H Q => ∃ l b xs zs, x = .ref l ∧ y = .ref b ∧ SqL X.K H l xs ∧ SqL X.K H b zs ∧ xs.length + zs.length ≤ sizeLine ∧ ∀ p, H p = none → Q (.ref p) (upd H p (.lst (xs ++ zs)))) := by
  intro pins s σ H x y v u Q I rx ry h
  obtain ⟨l, b, xs, zs, rfl, rfl, hl, hb, hz, q⟩ := h
  cases rx
  cases ry
  obtain ⟨i1, r1, ⟨⟨c1, d1, t1, s1⟩, n1, o1, h1, _, g1⟩, z1⟩ := I.list hl
  obtain ⟨i2, r2, ⟨⟨c2, d2, t2, s2⟩, n2, o2, h2, _, g2⟩, z2⟩ := I.list hb
  simp only at h1 g1 h2 g2
  subst h1 g1 h2 g2
  have l1 := r1.length
  have l2 := r2.length
  refine PySem.concat_meets ⟨_, o1, rfl⟩ ⟨_, o2, rfl⟩ noFill_list_add seq_list_add PySem.F.slot_list_add PySem.F.entry_list_add (PySem.F.args_list_add_2 _ _) (list_addW l b i1.toArray i2.toArray n1 n2 d1 d2 s1 s2 (by rw [List.size_toArray, List.size_toArray]; omega)) ⟨o1, o2, ?_⟩
  rw [show i1.toArray ++ i2.toArray = (i1 ++ i2).toArray by simp]
  exact ⟨.ref _, _, I.lnew (t' := s.toks) (r1.append r2) (by rw [List.length_append]; omega), rfl, q _ I.fresh⟩
end
def fAddL : D → D → Option D
  | .list a, .list b => if a.length + b.length ≤ most then some (.list (a ++ b)) else none
  | x, y => fAdd x y
section
variable {X : Cx}
theorem o_addL : OpR X (binaryOp .Add) (rD2 X.K fAddL) := opr_of fun x y H Q ⟨F, d1, d2, d, s, h1, h2, e, q⟩ => by
  unfold fAddL at e
  split at e
  · split at e
    · rename_i l
      cases e
      cases h1 with
      | lst a b =>
        cases h2 with
        | lst a2 b2 =>
          exact ⟨_, op_catL, _, _, _, _, rfl, rfl, s.seq a, s.seq a2, by rw [dpa_len b, dpa_len b2]; exact most_le l, fun p hp => q _ _ _ (Ext.new s hp) (.lst (SqL.of upd_same) (dpa_mono (Ext.new (o := .lst _) s hp).f _ (dpa_append b b2)))⟩
    · cases e
  · exact ⟨_, o_add, F, d1, d2, d, s, h1, h2, e, q⟩
end
def intsD : List D → Option (List Int)
  | [] => some []
  | .int i :: ds => (intsD ds).map fun r => i :: r
  | _ => none
theorem dpa_ints {K : PySem.W.Frag} {F : Hp} : ∀ {ds : List D} {xs : List V} {ns : List Int}, DpAll K F xs ds → intsD ds = some ns → xs = ns.map V.int
  | [], _, ns, h, e => by
    cases e
    cases h
    rfl
  | .int i :: ds, _, ns, h, e => by
    cases h with
    | cons a b =>
      unfold intsD at e
      cases q : intsD ds with
      | none => rw [q] at e; cases e
      | some r =>
        rw [q] at e
        cases e
        cases dp_int a
        rw [dpa_ints b q]
        rfl
  | .none :: _, _, _, _, e => by cases e
  | .bool _ :: _, _, _, _, e => by cases e
  | .str _ :: _, _, _, _, e => by cases e
  | .list _ :: _, _, _, _, e => by cases e
  | .tuple _ :: _, _, _, _, e => by cases e
  | .dict _ :: _, _, _, _, e => by cases e
def fSum : List D → Option D
  | [.list ds] => (intsD ds).map fun ns => .int ns.sum
  | _ => none
section
variable {X : Cx}
theorem c_sum (hc : X.calm = true) : CallR X (.builtin "sum") (rDs X.K fSum) := callr_of fun xs H Q ⟨F, ds, d, s, h, e, q⟩ => by
  unfold fSum at e
  split at e
  · rename_i ds
    cases z : intsD ds with
    | none => rw [z] at e; cases e
    | some ns =>
      rw [z] at e
      cases e
      obtain ⟨v, rfl, hv⟩ := dpa1 h
      cases hv with
      | lst a b =>
        have w := dpa_ints b z
        subst w
        exact ⟨_, cr_sum hc, _, _, rfl, s.seq a, q _ F H (Ext.refl s) (.int _)⟩
  · cases e
end
def rM (K : PySem.W.Frag) (f : D → List D → Option D) : V → List V → Hp → VK → Prop := fun x xs H Q => ∃ F d ds r, Same F H ∧ Dp K F x d ∧ DpAll K F xs ds ∧ f d ds = some r ∧ ∀ v F' H', Ext F H F' H' → Dp K F' v r → Q v H'
def mMt (T : String) (f : D → List D → Option D) (o : M) (a : Vw → R (List D)) : M := fun δ => (o δ).bind fun d => if tyD d = T ∧ (T = "str" ∨ T = "list") then (a δ).bind fun ds => R.of (f d ds) else .bad
theorem tyV_of {K : PySem.W.Frag} {F H : Hp} {x : V} {d : D} {T : String} (s : Same F H) (h : Dp K F x d) (e : tyD d = T ∧ (T = "str" ∨ T = "list")) : tyV K T x H := by
  obtain ⟨e1, e2⟩ := e
  cases h with
  | str z => exact e1.symm
  | lst a b => exact .inl ⟨e1.symm, _, s.seq a⟩
  | non => subst e1; rcases e2 with e2 | e2 <;> exact absurd (show ("NoneType" : String) = _ from e2) (by decide)
  | bl _ => subst e1; rcases e2 with e2 | e2 <;> exact absurd (show ("bool" : String) = _ from e2) (by decide)
  | int _ => subst e1; rcases e2 with e2 | e2 <;> exact absurd (show ("int" : String) = _ from e2) (by decide)
  | tup _ _ => subst e1; rcases e2 with e2 | e2 <;> exact absurd (show ("tuple" : String) = _ from e2) (by decide)
  | exc _ _ => subst e1; rcases e2 with e2 | e2 <;> exact absurd (show ("dict" : String) = _ from e2) (by decide)
  | excF _ _ _ _ _ => subst e1; rcases e2 with e2 | e2 <;> exact absurd (show ("dict" : String) = _ from e2) (by decide)
  | fn _ => subst e1; rcases e2 with e2 | e2 <;> exact absurd (show ("dict" : String) = _ from e2) (by decide)
  | dct0 _ => subst e1; rcases e2 with e2 | e2 <;> exact absurd (show ("dict" : String) = _ from e2) (by decide)
  | dct _ _ _ => subst e1; rcases e2 with e2 | e2 <;> exact absurd (show ("dict" : String) = _ from e2) (by decide)
  | dic _ _ _ => subst e1; rcases e2 with e2 | e2 <;> exact absurd (show ("dict" : String) = _ from e2) (by decide)
theorem me_mt {X : Cx} {W : WX} {T name id : String} {f : D → List D → Option D} {o e : Expr} {es : List Expr} {mo : M} {ma : Vw → R (List D)} {apos cpos : Pos} (pa : PlainAttrs T) (slot : Slot T name id) (hty : typeOf (.builtin id) = pure (.type "method_descriptor")) (hm : MtR X id (rM X.K f)) (ho : ME X W o mo) (ha : MA X W (e :: es) ma)
    (hbase : attributeBase o name X.env (eval o X.env) = eval o X.env := by rfl)
    (hfew : ((backTo cpos (starEach (e :: es) X.env)).all (fun x => !x.1) && (backToKw cpos (keywordEach [] X.env)).all (fun x => x.1.isSome)
      && decide ((e :: es).length + ([] : List Keyword).length + (if ([] : List Keyword).isEmpty then 0 else 1) < 30)) = true := by rfl)
    (hline : (apos.endLine == cpos.line) = true := by rfl) (hs : starEach (e :: es) X.env = (false, eval e X.env) :: starEach es X.env := by rfl) (hplain : (backTo cpos (starEach es X.env)).any (·.1) = false := by rfl) :
    ME X W (.Call (.Attribute o name apos) (e :: es) [] cpos) (mMt T f mo ma) := by
  refine PE.imp (pe_bm pa slot hty hm ho ha hbase hfew hline hs hplain) fun σ H Q ⟨F, δ, s, v, h⟩ => ?_
  refine tM_bind s v h fun d x F1 H1 _ E hx h1 => ?_
  split at h1
  · rename_i c
    refine ⟨tyV_of E.s hx c, ?_⟩
    refine tA_bind E.s (v.mono E.f) h1 fun ds xs F2 H2 _ E2 hxs h2 => ?_
    obtain ⟨r, e, q⟩ := of_post h2
    exact ⟨F2, d, ds, r, E2.s, dp_mono E2.f d hx, hxs, e, q⟩
  · exact h1.elim
/-- the first place of an equal item -/
def firstIx (d : D) : List D → Nat → Option Nat
  | [], _ => none
  | z :: zs, n => if PyData.eqv z d = true then some n else firstIx d zs (n + 1)
theorem firstIx_ok {d : D} : ∀ {ds : List D} {n j : Nat}, firstIx d ds n = some j → ∃ (i : Nat) (z : D), j = n + i ∧ ds[i]? = some z ∧ PyData.eqv z d = true ∧ ∀ (m : Nat) (z' : D), m < i → ds[m]? = some z' → PyData.eqv z' d = false
  | [], _, _, e => by cases e
  | z :: zs, n, j, e => by
    unfold firstIx at e
    split at e
    · rename_i h
      cases e
      exact ⟨0, z, rfl, rfl, h, fun m _ hm => absurd hm (Nat.not_lt_zero m)⟩
    · rename_i h
      obtain ⟨i, z', h1, h2, h3, h4⟩ := firstIx_ok e
      refine ⟨i + 1, z', by omega, by simpa using h2, h3, fun m z2 hm hz => ?_⟩
      cases m with
      | zero =>
        simp at hz
        subst hz
        exact Bool.eq_false_iff.mpr h
      | succ m => exact h4 m z2 (Nat.lt_of_succ_lt_succ hm) (by simpa using hz)
def fIndex : D → List D → Option D
  | .list ds, [d] => if (SeqAt.shaped (.list ds) && SeqAt.shaped d) = true then (firstIx d ds 0).map fun j => .int (j : Nat) else none
  | _, _ => none
section
variable {X : Cx}
theorem m_index (hu : X.A.units + 65 < cLine) : MtR X "list.index" (rM X.K fIndex) := mtr_of fun x xs H Q ⟨F, d, ds, r, s, h1, h2, e, q⟩ => by
  unfold fIndex at e
  split at e
  · rename_i ds d
    split at e
    · rename_i l
      rw [Bool.and_eq_true] at l
      cases z : firstIx d ds 0 with
      | none => rw [z] at e; cases e
      | some j =>
        rw [z] at e
        cases e
        obtain ⟨i, y, e1, e2, e3, e4⟩ := firstIx_ok z
        obtain ⟨v, rfl, hv⟩ := dpa1 h2
        have hji : j = i := by omega
        subst hji
        have h1' := dp_mono s _ h1
        cases h1 with
        | lst a b => exact ⟨_, mt_indexD hu, _, _, d, ds, j, y, rfl, rfl, dp_shaped h1' l.1, dp_shaped (dp_mono s _ hv) l.2, l.1, l.2, e2, e3, e4, q _ F H (Ext.refl s) (.int _)⟩
    · cases e
  · cases e
end
def fIntT : List D → Option D
  | [.str a] => if a.length ≤ 640 then (intText? a).map .int else none
  | ds => fInt ds
theorem c_intT {X : Cx} : CallR X (.type "int") (rDs X.K fIntT) := callr_of fun xs H Q ⟨F, ds, d, s, h, e, q⟩ => by
  unfold fIntT at e
  split at e
  · rename_i a
    split at e
    · rename_i l
      cases z : intText? a with
      | none => rw [z] at e; cases e
      | some n =>
        rw [z] at e
        cases e
        obtain ⟨v, rfl, hv⟩ := dpa1 h
        cases dp_str hv
        exact ⟨_, call_int_str, _, _, rfl, z, l, q _ F H (Ext.refl s) (.int _)⟩
    · cases e
  · exact ⟨_, c_int, F, ds, d, s, h, e, q⟩
/-- xs[i] = e, xs this def's own -/
def sPut (j : Nat) (mi m : M) : S := fun g => match g[j]? with
  | some (.own ds) => (m (vd g)).to g fun d => (mi (vd g)).to g fun i => match i with
    | .int i => (match ixN ds.length i with
      | some k => .nx (g.set j (.own (ds.set k d)))
      | none => .bad)
    | _ => .bad
  | _ => .bad
/-- an own list changed in its place -/
theorem StOk.write {K : PySem.W.Frag} {F0 H0 F H : Hp} {σ : L2.St} {g : Ce} (ok : StOk K F0 H0 F H σ g) {j : Nat} {ds ds' : List D} {a : Addr} {xs xs' : List V} (hj : g[j]? = some (.own ds)) (hs : σ[j]? = some (some (.ref a))) (hF : F a = none) (h0 : H0 a = none) (hH : H a = some (.lst xs)) (hd : DpAll K F xs' ds') :
    StOk K F0 H0 F (upd H a (.lst xs')) σ (g.set j (.own ds')) := by
  have jl : j < g.length := (List.getElem?_eq_some_iff.mp hj).1
  refine ⟨⟨ok.e.f, fun b o e => ?_, fun b o e => ?_, ok.e.n⟩, by simpa using ok.len, fun i d q => ?_, fun i es q => ?_, fun i k es es' b q1 q2 q3 q4 => ?_⟩
  · rw [upd_ne (ne_of_none e h0)]
    exact ok.e.h b o e
  · rw [upd_ne (ne_of_none e hF)]
    exact ok.e.s b o e
  · rw [List.getElem?_set] at q
    by_cases z : j = i
    · subst z
      rw [if_pos rfl] at q
      split at q <;> cases q
    · rw [if_neg z] at q
      exact ok.dat i d q
  · rw [List.getElem?_set] at q
    by_cases z : j = i
    · subst z
      rw [if_pos rfl, if_pos jl] at q
      cases q
      exact ⟨a, xs', hs, upd_same, hF, h0, hd⟩
    · rw [if_neg z] at q
      obtain ⟨b, ys, h1, h2, h3, h4, h5⟩ := ok.own i es q
      have : b ≠ a := fun e => by
        subst e
        exact z (ok.inj j i ds es b hj q hs h1)
      exact ⟨b, ys, h1, by rw [upd_ne this]; exact h2, h3, h4, h5⟩
  · have un : ∀ (i : Nat) (es : List D), (g.set j (.own ds'))[i]? = some (.own es) → ∃ fs, g[i]? = some (.own fs) := fun i es q => by
      rw [List.getElem?_set] at q
      by_cases z : j = i
      · subst z; exact ⟨ds, hj⟩
      · rw [if_neg z] at q; exact ⟨es, q⟩
    obtain ⟨f1, w1⟩ := un i es q1
    obtain ⟨f2, w2⟩ := un k es' q2
    exact ok.inj i k f1 f2 b w1 w2 q3 q4
end MI
set_option Elab.async false
set_option linter.all false
set_option maxRecDepth 100000
set_option maxHeartbeats 4000000
namespace MI
open PySem PySem.Spec PyProof.Rows L2
section
variable {X : Cx} {W : WX}
theorem ms_app (j : Nat) {x : Str} {e : Expr} {m : M} {px apos cpos pos : Pos} (he : ME X W e m) (hx : PE X (.Name x px) (tVar j))
    (hbase : attributeBase (.Name x px) "append" X.env (eval (.Name x px) X.env) = eval (.Name x px) X.env := by rfl)
    (hfew : ((backTo cpos (starEach (e :: []) X.env)).all (fun x => !x.1) && (backToKw cpos (keywordEach [] X.env)).all (fun x => x.1.isSome)
      && decide ((e :: []).length + ([] : List Keyword).length + (if ([] : List Keyword).isEmpty then 0 else 1) < 30)) = true := by rfl)
    (hline : (apos.endLine == cpos.line) = true := by rfl) (hs : starEach (e :: []) X.env = (false, eval e X.env) :: starEach [] X.env := by rfl) (hplain : (backTo cpos (starEach [] X.env)).any (·.1) = false := by rfl)
    (hw : swapsWith (.Call (.Attribute (.Name x px) "append" apos) [e] [] cpos) none pos.line X.env = pure false := by rfl) :
    MS X W (.Expr (.Call (.Attribute (.Name x px) "append" apos) [e] [] cpos) pos) (sApp j m) := by
  refine PS.imp (ps_expr (pe_bm PySem.F.plainAttrs_list PySem.F.slot_list_append PySem.F.type_list_append mt_append hx (pa_cons he pa_nil hs) hbase hfew hline hs hplain) hw) fun D σ H ⟨F0, H0, F, g, ok, h⟩ => ?_
  unfold sApp at h
  split at h
  · rename_i ds ej
    obtain ⟨a, xs0, hσ, hH0, _, _, _⟩ := ok.own j ds ej
    refine ⟨_, hσ, .inl ⟨rfl, xs0, SqL.of hH0⟩, ?_⟩
    refine ev_vd (Q := fun y H1 => rAppend (.ref a) [y] H1 fun _ H2 => D.nx σ H2) ok h fun d v F1 H1 e1 ok1 hd h1 => ?_
    split at h1
    · rename_i l
      obtain ⟨a', xs, q1, q2, q3, q4, q5⟩ := ok1.own j ds ej
      rw [hσ] at q1
      cases q1
      exact ⟨a, xs, v, rfl, rfl, q2, by rw [dpa_len q5]; exact Nat.lt_of_lt_of_le l (Nat.le_of_eq most_eq), h1 F1 _ σ (ok1.write ej hσ q3 q4 q2 (dpa_append q5 (.cons hd .nil)))⟩
    · exact h1.elim
  · exact h.elim
end
def sFor (it : Vw → R (List D)) (t : Tg) (b : S) : S := fun g => (it (vd g)).to g fun ds => loopF t b ds g
theorem ms_for {X : Cx} {W : WX} {pos : Pos} {tg iter : Expr} {body : List Stmt} {it : Vw → R (List D)} {r : TG} {t : Tg} {b : S} (hp : PassesOwn (model X.prog X.w) X.A X.env X.xe) (hi : MIt X W tg iter it) (hg : PG X tg r) (ht : TgOk X.K r t) (hb : MSs X W body b) (hc : X.calm = true := by rfl)
    (hs : ∀ x, foldedSetIterable iter X.env x = pure x := by intro _; rfl) : MS X W (.For tg iter body [] pos) (sFor it t b) := by
  refine PS.imp (ps_for hp hc hi hg hb hs) fun D σ H ⟨F0, H0, F, g, ok, h⟩ => ⟨F, vd g, ok.e.s, ok.vd, ?_⟩
  unfold sFor at h
  cases ei : it (vd g) with
  | exc c p =>
    rw [ei] at h
    unfold R.to at h
    dsimp only at h
    split at h
    · exact fun cls od F' H' E x => h cls od F' H' σ (ok.mono E) x
    · exact h.elim
  | bad => rw [ei] at h; exact h.elim
  | ok ds =>
    rw [ei] at h
    have h : SPost X.K X.mg W F0 H0 D (loopF t b ds g) := h
    intro F1 H1 J E io
    have ok1 := ok.mono E
    refine ⟨fun i m σ H => m = ds.length - i ∧ i ≤ ds.length ∧ ∃ F2 g2, Ext F1 H0 F2 H ∧ StOk X.K F0 H0 F2 H σ g2 ∧ SPost X.K X.mg W F0 H0 D (loopF t b (ds.drop i) g2), ⟨ds.length, by simp, Nat.zero_le _, F1, g, ok1.base.e, ok1, by simpa using h⟩, ?_⟩
    rintro i m σ H ⟨rfl, hi, F2, g2, E2, ok2, h2⟩
    by_cases hlt : i < ds.length
    · have ed : ds[i]? = some ds[i] := List.getElem?_eq_getElem hlt
      obtain ⟨go, yl⟩ := io.go i H _ (E2.f.trans E2.s) ed
      refine .inr ⟨go, fun σ' H' => ∃ F2 g2, Ext F1 H0 F2 H' ∧ StOk X.K F0 H0 F2 H' σ' g2 ∧ SPost X.K X.mg W F0 H0 D (loopF t b (ds.drop (i + 1)) g2), fun σ' H' q => ⟨ds.length - (i + 1), by omega, rfl, hlt, q⟩, fun x H' hy => ?_⟩
      obtain ⟨F3, E3, dx⟩ := yl x H' F2 E2.f E2.s hy
      rw [drop_get ed] at h2
      have ok3 := ok2.mono E3
      exact loopF_turn ht ok3 dx h2 fun F4 H4 σ4 g4 ok4 h4 => ⟨F4, g4, ((E2.trans E3).back ok4.e), ok4.back ok3.e, h4⟩
    · have e : i = ds.length := by omega
      subst e
      rw [List.drop_length] at h2
      exact .inl ⟨io.stop _ H (E2.f.trans E2.s) (Nat.le_refl _), h2 F2 H σ ok2⟩
theorem StOk.unset {K : PySem.W.Frag} {F0 H0 F H : Hp} {σ : L2.St} {g : Ce} (ok : StOk K F0 H0 F H σ g) (i : Nat) (x : Option V) : StOk K F0 H0 F H (σ.set i x) (g.set i .un) := by
  refine ⟨ok.e, by simpa using ok.len, fun j d q => ?_, fun j ds q => ?_, fun j k ds es a q1 q2 q3 q4 => ?_⟩
  · rw [List.getElem?_set] at q ⊢
    by_cases e : i = j
    · subst e
      rw [if_pos rfl] at q
      split at q <;> cases q
    · rw [if_neg e] at q ⊢
      exact ok.dat j d q
  · rw [List.getElem?_set] at q ⊢
    by_cases e : i = j
    · subst e
      rw [if_pos rfl] at q
      split at q <;> cases q
    · rw [if_neg e] at q ⊢
      exact ok.own j ds q
  · rw [List.getElem?_set] at q1 q2 q3 q4
    by_cases e : i = j
    · subst e
      rw [if_pos rfl] at q1
      split at q1 <;> cases q1
    · by_cases e2 : i = k
      · subst e2
        rw [if_pos rfl] at q2
        split at q2 <;> cases q2
      · rw [if_neg e] at q1 q3
        rw [if_neg e2] at q2 q4
        exact ok.inj j k ds es a q1 q2 q3 q4
/-- u: the suite, by the class of what was raised; i: the exception's name -/
def sTryAs (sub : Str → Option Bool) (i : Nat) (b : S) (u : Str → S) : S := fun g => match b g with
  | .ex c p g' => (match sub c with
    | some true => if p.isNone = true ∧ i < g'.length then (match u c (g'.set i .un) with
      | .nx g2 => .nx (g2.set i .un)
      | .bk g2 => .bk (g2.set i .un)
      | .ct g2 => .ct (g2.set i .un)
      | .rt d => .rt d
      | _ => .bad) else .bad
    | some false => .ex c p g'
    | none => .bad)
  | o => o
section
end
section
end
end MI
namespace MI
open PySem
end MI
set_option Elab.async false
set_option linter.all false
set_option maxRecDepth 100000
set_option maxHeartbeats 4000000
namespace MI
open PySem PySem.Spec PyProof.Rows L2
def sAsgF (t : Tg) (m : M) : S := fun g => (m (va g)).to g fun d => if flat d = true then (match t d g with
  | some g' => .nx g'
  | none => .bad) else .bad
def sPutF (j : Nat) (mi m : M) : S := fun g => match g[j]? with
  | some (.own ds) => (m (va g)).to g fun d => if flat d = true then (mi (vd g)).to g fun i => (match i with
    | .int i => (match L2.ixN ds.length i with
      | some k => .nx (g.set j (.own (ds.set k d)))
      | none => .bad)
    | _ => .bad) else .bad
  | _ => .bad
/-- a, b, .. = a list -/
def gL (u : Tgs) : Tg := fun d g => match d with
  | .list ds => u ds g
  | _ => none
def sAppF (i : Nat) (m : M) : S := fun g => match g[i]? with
  | some (.own ds) => (m (va g)).to g fun d => if flat d = true ∧ ds.length < most then .nx (g.set i (.own (ds ++ [d]))) else .bad
  | _ => .bad
section
variable {X : Cx} {W : WX}
theorem ms_appF (j : Nat) {x : Str} {e : Expr} {m : M} {px apos cpos pos : Pos} (he : ME X W e m) (hx : PE X (.Name x px) (tVar j))
    (hbase : attributeBase (.Name x px) "append" X.env (eval (.Name x px) X.env) = eval (.Name x px) X.env := by rfl)
    (hfew : ((backTo cpos (starEach (e :: []) X.env)).all (fun x => !x.1) && (backToKw cpos (keywordEach [] X.env)).all (fun x => x.1.isSome)
      && decide ((e :: []).length + ([] : List Keyword).length + (if ([] : List Keyword).isEmpty then 0 else 1) < 30)) = true := by rfl)
    (hline : (apos.endLine == cpos.line) = true := by rfl) (hs : starEach (e :: []) X.env = (false, eval e X.env) :: starEach [] X.env := by rfl) (hplain : (backTo cpos (starEach [] X.env)).any (·.1) = false := by rfl)
    (hw : swapsWith (.Call (.Attribute (.Name x px) "append" apos) [e] [] cpos) none pos.line X.env = pure false := by rfl) :
    MS X W (.Expr (.Call (.Attribute (.Name x px) "append" apos) [e] [] cpos) pos) (sAppF j m) := by
  refine PS.imp (ps_expr (pe_bm PySem.F.plainAttrs_list PySem.F.slot_list_append PySem.F.type_list_append mt_append hx (pa_cons he pa_nil hs) hbase hfew hline hs hplain) hw) fun D σ H ⟨F0, H0, F, g, ok, h⟩ => ?_
  unfold sAppF at h
  split at h
  · rename_i ds ej
    obtain ⟨a, xs0, hσ, hH0, _, _, _⟩ := ok.own j ds ej
    refine ⟨_, hσ, .inl ⟨rfl, xs0, SqL.of hH0⟩, ?_⟩
    refine ev_va (Q := fun y H1 => rAppend (.ref a) [y] H1 fun _ H2 => D.nx σ H2) ok h fun d v F1 H1 e1 ok1 hd0 h1 => ?_
    split at h1
    · rename_i l
      have hd := hd0 l.1
      obtain ⟨a', xs, q1, q2, q3, q4, q5⟩ := ok1.own j ds ej
      rw [hσ] at q1
      cases q1
      exact ⟨a, xs, v, rfl, rfl, q2, by rw [dpa_len q5]; exact Nat.lt_of_lt_of_le l.2 (Nat.le_of_eq most_eq), h1 F1 _ σ (ok1.write ej hσ q3 q4 q2 (dpa_append q5 (.cons hd .nil)))⟩
    · exact h1.elim
  · exact h.elim
end
end MI
set_option Elab.async false
set_option linter.all false
set_option maxRecDepth 100000
set_option maxHeartbeats 4000000
namespace MI
open PySem PySem.Spec PyProof.Rows L2
def frzA (g : Ce) : Ce := g.map fun c => match c with
  | .own ds => .dat (.list ds)
  | c => c
def sFz (m : S) : S := fun g => m (frzA g)
theorem frzA_va {g : Ce} {i : Nat} {d : D} (h : (frzA g)[i]? = some (.dat d)) : (va g)[i]? = some (some d) := by
  unfold frzA at h
  unfold va
  rw [List.getElem?_map] at h ⊢
  cases e : g[i]? with
  | none => rw [e] at h; cases h
  | some c =>
    rw [e] at h
    cases c with
    | un => cases h
    | dat d' => cases h; rfl
    | own ds => cases h; rfl
theorem frzA_own {g : Ce} {i : Nat} {ds : List D} (h : (frzA g)[i]? = some (.own ds)) : False := by
  unfold frzA at h
  rw [List.getElem?_map] at h
  cases e : g[i]? with
  | none => rw [e] at h; cases h
  | some c =>
    rw [e] at h
    cases c <;> cases h
theorem StOk.frzAll {K : PySem.W.Frag} {F0 H0 F H : Hp} {σ : L2.St} {g : Ce} (ok : StOk K F0 H0 F H σ g) : StOk K F0 H0 (frz F H σ g) H σ (frzA g) := by
  refine ⟨⟨ok.e.f.trans ok.frzF, ok.e.h, ok.frzH, fun a o e n => ?_⟩, by unfold frzA; rw [List.length_map]; exact ok.len, fun i d h => ok.va.2 i d (frzA_va h), fun i ds h => (frzA_own h).elim, fun i j ds es a h => (frzA_own h).elim⟩
  by_cases w : Own σ g a
  · obtain ⟨_, _, _, q⟩ := ok.ownAt w
    exact .inl q
  · rw [frz_not w] at e
    exact ok.e.n a o e n
theorem mss_fz {X : Cx} {W : WX} {ss : List Stmt} {b : S} (h : MSs X W ss b) : MSs X W ss (sFz b) :=
  PSs.imp h fun D σ H ⟨F0, H0, F, g, ok, q⟩ => ⟨F0, H0, frz F H σ g, frzA g, ok.frzAll, q⟩
@[simp] theorem sFz_ap (m : S) (g : Ce) : sFz m g = m (frzA g) := Eq.trans rfl rfl
@[simp] theorem frzA_nil : frzA [] = [] := Eq.trans rfl rfl
@[simp] theorem frzA_un (g : Ce) : frzA (.un :: g) = .un :: frzA g := Eq.trans rfl rfl
@[simp] theorem frzA_dat (d : D) (g : Ce) : frzA (.dat d :: g) = .dat d :: frzA g := Eq.trans rfl rfl
@[simp] theorem frzA_ow (ds : List D) (g : Ce) : frzA (.own ds :: g) = .dat (.list ds) :: frzA g := Eq.trans rfl rfl
end MI
set_option Elab.async false
set_option linter.all false
set_option maxRecDepth 100000
set_option maxHeartbeats 4000000
namespace MI
open PySem PySem.Spec PyProof.Rows L2
def gX (u : Tgs) : Tg := fun d g => match d with
  | .list ds => u ds g
  | .tuple ds => u ds g
  | _ => none
def gSeq (K : PySem.W.Frag) (n : Nat) (t : TGs) : TG := fun v σ H Q => gTup K n t v σ H Q ∨ gLst K n t v σ H Q
theorem pg_seq {X : Cx} {pos : Pos} {es : List Expr} {k : Nat} {t : TGs} {n : Nat} (hc : X.calm = true) (h : PGs X es t)
    (hn : (assignEach es X.env).length = n := by rfl) (hst : (assignEach es X.env).findIdx? (·.1) = none := by rfl) : PG X (.Tuple es k pos) (gSeq X.K n t) :=
  ⟨fun pins s σ H v u Q I r hw => by
    rcases hw with hw | hw
    · exact (pg_tup (pos := pos) (k := k) hc h hn hst).run pins s σ H v u Q I r hw
    · exact (pg_lst (pos := pos) (k := k) hc h hn hst).run pins s σ H v u Q I r hw⟩
end MI
set_option Elab.async false
set_option linter.all false
set_option maxRecDepth 100000
set_option maxHeartbeats 4000000
namespace MI
open PySem
@[simp] theorem to_ok {α : Type} (a : α) (g : Ce) (k : α → Out) : (R.ok a).to g k = k a := Eq.trans rfl rfl
@[simp] theorem to_exc {α : Type} (c : Str) (g : Ce) (k : α → Out) : (R.exc c none : R α).to g k = .ex c none g := Eq.trans rfl rfl
@[simp] theorem to_bad {α : Type} (g : Ce) (k : α → Out) : (R.bad : R α).to g k = .bad := Eq.trans rfl rfl
@[simp] theorem vd_cons (c : Cell) (g : Ce) : vd (c :: g) = c.vd :: vd g := Eq.trans rfl rfl
@[simp] theorem vd_nil : vd [] = [] := Eq.trans rfl rfl
@[simp] theorem va_cons (c : Cell) (g : Ce) : va (c :: g) = c.va :: va g := Eq.trans rfl rfl
@[simp] theorem va_nil : va [] = [] := Eq.trans rfl rfl
@[simp] theorem vd_dat (d : D) : (Cell.dat d).vd = some d := Eq.trans rfl rfl
@[simp] theorem vd_un : Cell.un.vd = none := Eq.trans rfl rfl
@[simp] theorem vd_own (ds : List D) : (Cell.own ds).vd = none := Eq.trans rfl rfl
@[simp] theorem va_dat (d : D) : (Cell.dat d).va = some d := Eq.trans rfl rfl
@[simp] theorem va_un : Cell.un.va = none := Eq.trans rfl rfl
@[simp] theorem va_own (ds : List D) : (Cell.own ds).va = some (.list ds) := Eq.trans rfl rfl
@[simp] theorem sNop_ap (c0 : Cell) (g0 : Ce) : sNop (c0 :: g0) = .nx (c0 :: g0) := Eq.trans rfl rfl
@[simp] theorem sSeq_ap (a b : S) (c0 : Cell) (g0 : Ce) : sSeq a b (c0 :: g0) = match a (c0 :: g0) with
  | .nx g' => b g'
  | o => o := Eq.trans rfl rfl
@[simp] theorem sIf_ap (t : Vw → R Bool) (a b : S) (c0 : Cell) (g0 : Ce) : sIf t a b (c0 :: g0) = (t (va (c0 :: g0))).to (c0 :: g0) fun k => if k = true then a (c0 :: g0) else b (c0 :: g0) := Eq.trans rfl rfl
@[simp] theorem sRet_ap (m : M) (c0 : Cell) (g0 : Ce) : sRet m (c0 :: g0) = match m (va (c0 :: g0)) with
  | .ok d => .rt d
  | .exc c p => if flatO p = true then .ex c p (c0 :: g0) else .bad
  | .bad => .bad := Eq.trans rfl rfl
@[simp] theorem sRetN_ap (c0 : Cell) (g0 : Ce) : sRetN (c0 :: g0) = .rt .none := Eq.trans rfl rfl
@[simp] theorem sBreak_ap (c0 : Cell) (g0 : Ce) : sBreak (c0 :: g0) = .bk (c0 :: g0) := Eq.trans rfl rfl
@[simp] theorem sCont_ap (c0 : Cell) (g0 : Ce) : sCont (c0 :: g0) = .ct (c0 :: g0) := Eq.trans rfl rfl
@[simp] theorem sExpr_ap (m : M) (c0 : Cell) (g0 : Ce) : sExpr m (c0 :: g0) = (m (va (c0 :: g0))).to (c0 :: g0) fun _ => .nx (c0 :: g0) := Eq.trans rfl rfl
@[simp] theorem sSet_ap (i : Nat) (m : M) (c0 : Cell) (g0 : Ce) : sSet i m (c0 :: g0) = (m (vd (c0 :: g0))).to (c0 :: g0) fun d => .nx ((c0 :: g0).set i (.dat d)) := Eq.trans rfl rfl
@[simp] theorem sSetF_ap (i : Nat) (m : M) (c0 : Cell) (g0 : Ce) : sSetF i m (c0 :: g0) = (m (va (c0 :: g0))).to (c0 :: g0) fun d => if flat d = true then .nx ((c0 :: g0).set i (.dat d)) else .bad := Eq.trans rfl rfl
@[simp] theorem sPar_ap (i j : Nat) (m : Vw → R (List D)) (c0 : Cell) (g0 : Ce) : sPar i j m (c0 :: g0) = (m (vd (c0 :: g0))).to (c0 :: g0) fun ds => match ds with
  | [x, y] => .nx (((c0 :: g0).set i (.dat x)).set j (.dat y))
  | _ => .bad := Eq.trans rfl rfl
@[simp] theorem sRaise_ap (c : Str) (c0 : Cell) (g0 : Ce) : sRaise c (c0 :: g0) = .ex c none (c0 :: g0) := Eq.trans rfl rfl
@[simp] theorem sAsg_ap (t : Tg) (m : M) (c0 : Cell) (g0 : Ce) : sAsg t m (c0 :: g0) = (m (vd (c0 :: g0))).to (c0 :: g0) fun d => match t d (c0 :: g0) with
  | some g' => .nx g'
  | none => .bad := Eq.trans rfl rfl
@[simp] theorem sTry_ap (sub : Str → Option Bool) (b u : S) (c0 : Cell) (g0 : Ce) : sTry sub b u (c0 :: g0) = match b (c0 :: g0) with
  | .ex c p g' => (match sub c with
    | some true => (match u g' with
      | .ex _ _ _ => .bad
      | o => o)
    | some false => .ex c p g'
    | none => .bad)
  | o => o := Eq.trans rfl rfl
@[simp] theorem gN_ap (i : Nat) (d : D) (g : Ce) : gN i d g = some (g.set i (.dat d)) := Eq.trans rfl rfl
@[simp] theorem gT_ap (u : Tgs) (ds : List D) (g : Ce) : gT u (.tuple ds) g = u ds g := Eq.trans rfl rfl
@[simp] theorem gL_ap (u : Tgs) (ds : List D) (g : Ce) : gL u (.list ds) g = u ds g := Eq.trans rfl rfl
@[simp] theorem gX_l (u : Tgs) (ds : List D) (g : Ce) : gX u (.list ds) g = u ds g := Eq.trans rfl rfl
@[simp] theorem gX_t (u : Tgs) (ds : List D) (g : Ce) : gX u (.tuple ds) g = u ds g := Eq.trans rfl rfl
@[simp] theorem gsNil_ap (g : Ce) : gsNil [] g = some g := Eq.trans rfl rfl
@[simp] theorem gsCons_ap (t : Tg) (u : Tgs) (d : D) (r : List D) (g : Ce) : gsCons t u (d :: r) g = (t d g).bind (u r) := Eq.trans rfl rfl
@[simp] theorem mVar_ap (i : Nat) (δ : Vw) : mVar i δ = match δ[i]? with
  | some (some d) => .ok d
  | _ => .bad := Eq.trans rfl rfl
@[simp] theorem mC_ap (d : D) (δ : Vw) : mC d δ = .ok d := Eq.trans rfl rfl
@[simp] theorem mBin_ap (f : D → D → Option D) (a b : M) (δ : Vw) : mBin f a b δ = (a δ).bind fun x => (b δ).bind fun y => R.of (f x y) := Eq.trans rfl rfl
@[simp] theorem mUn_ap (f : D → Option D) (a : M) (δ : Vw) : mUn f a δ = (a δ).bind fun x => R.of (f x) := Eq.trans rfl rfl
@[simp] theorem mDs_ap (f : List D → Option D) (a : Vw → R (List D)) (δ : Vw) : mDs f a δ = (a δ).bind fun x => R.of (f x) := Eq.trans rfl rfl
@[simp] theorem mNil_ap (δ : Vw) : mNil δ = .ok [] := Eq.trans rfl rfl
@[simp] theorem mCons_ap (a : M) (r : Vw → R (List D)) (δ : Vw) : mCons a r δ = (a δ).bind fun x => (r δ).bind fun y => .ok (x :: y) := Eq.trans rfl rfl
@[simp] theorem mTru_ap (m : M) (δ : Vw) : mTru m δ = (m δ).bind fun d => R.of (truthD d) := Eq.trans rfl rfl
@[simp] theorem mNot_ap (t : Vw → R Bool) (δ : Vw) : mNot t δ = (t δ).bind fun b => .ok (!b) := Eq.trans rfl rfl
@[simp] theorem mAndT_ap (t u : Vw → R Bool) (δ : Vw) : mAndT t u δ = (t δ).bind fun b => if b = true then u δ else .ok false := Eq.trans rfl rfl
@[simp] theorem mOrT_ap (t u : Vw → R Bool) (δ : Vw) : mOrT t u δ = (t δ).bind fun b => if b = true then .ok true else u δ := Eq.trans rfl rfl
@[simp] theorem mAndV_ap (a b : M) (δ : Vw) : mAndV a b δ = (a δ).bind fun x => (R.of (truthD x)).bind fun k => if k = true then b δ else .ok x := Eq.trans rfl rfl
@[simp] theorem mOrV_ap (a b : M) (δ : Vw) : mOrV a b δ = (a δ).bind fun x => (R.of (truthD x)).bind fun k => if k = true then .ok x else b δ := Eq.trans rfl rfl
@[simp] theorem mIf_ap (t : Vw → R Bool) (a b : M) (δ : Vw) : mIf t a b δ = (t δ).bind fun k => if k = true then a δ else b δ := Eq.trans rfl rfl
@[simp] theorem mNotV_ap (a : M) (δ : Vw) : mNotV a δ = (a δ).bind fun x => (R.of (truthD x)).bind fun k => .ok (.bool (!k)) := Eq.trans rfl rfl
@[simp] theorem mCall_ap (n : Nat) (f : List D → R D) (dds : List D) (m : Vw → R (List D)) (δ : Vw) : mCall n f dds m δ = (m δ).bind fun ds => if (ds ++ dds).length = n then f (ds ++ dds) else .bad := Eq.trans rfl rfl
@[simp] theorem mIsi_ap (T : String) (a : M) (δ : Vw) : mIsi T a δ = (a δ).bind fun d => R.of ((isT T d).map .bool) := Eq.trans rfl rfl
@[simp] theorem mNoPart_ap (δ : Vw) : mNoPart δ = .ok none := Eq.trans rfl rfl
@[simp] theorem mPart_ap (m : M) (δ : Vw) : mPart m δ = (m δ).bind fun d => match d with
  | .int i => .ok (some i)
  | _ => .bad := Eq.trans rfl rfl
@[simp] theorem mSl_ap (m : M) (lo hi : Vw → R (Option Int)) (δ : Vw) : mSl m lo hi δ = (m δ).bind fun d => (lo δ).bind fun l => (hi δ).bind fun h => R.of (fSl d l h) := Eq.trans rfl rfl
theorem forG {it : Vw → R (List D)} {t : Tg} {b : S} {g : Ce} {ds : List D} (h1 : it (vd g) = .ok ds) : sFor it t b g = loopF t b ds g := by
  show (it (vd g)).to g (fun ds => loopF t b ds g) = _
  rw [h1, to_ok]
theorem run_eq (n N : Nat) (m : S) (ds : List D) (h : ds.length = n) : run n N m ds = match m (ds.map Cell.dat ++ List.replicate (N - n) Cell.un) with
  | .nx _ => .ok .none
  | .rt d => .ok d
  | .ex c p _ => .exc c p
  | _ => .bad := by
  unfold run
  refine (if_pos h).trans ?_
  cases m (ds.map Cell.dat ++ List.replicate (N - n) Cell.un) <;> rfl
@[simp] theorem mItems_ap (m : M) (δ : Vw) : mItems m δ = (m δ).bind fun d => match d with
  | .list ds => .ok ds
  | .tuple ds => .ok ds
  | _ => .bad := Eq.trans rfl rfl
@[simp] theorem mRng_ap (f : List D → Option (List D)) (m : Vw → R (List D)) (δ : Vw) : mRng f m δ = (m δ).bind fun ds => R.of (f ds) := Eq.trans rfl rfl
@[simp] theorem mL_ap (m : Vw → R (List D)) (δ : Vw) : mL m δ = (m δ).bind fun ds => .ok (.list ds) := Eq.trans rfl rfl
@[simp] theorem nLst_ap (m : Vw → R (List D)) (δ : Vw) : nLst m δ = (m δ).bind fun ds => if ds.length ≤ most then .ok ds else .bad := Eq.trans rfl rfl
@[simp] theorem nOf_ap (m : M) (δ : Vw) : nOf m δ = (m δ).bind fun d => match d with
  | .list ds => .ok ds
  | .tuple ds => .ok ds
  | _ => .bad := Eq.trans rfl rfl
@[simp] theorem sOwn_ap (i : Nat) (m : Vw → R (List D)) (c0 : Cell) (g0 : Ce) : sOwn i m (c0 :: g0) = (m (vd (c0 :: g0))).to (c0 :: g0) fun ds => .nx ((c0 :: g0).set i (.own ds)) := Eq.trans rfl rfl
@[simp] theorem sPut_ap (j : Nat) (mi m : M) (c0 : Cell) (g0 : Ce) : sPut j mi m (c0 :: g0) = match (c0 :: g0)[j]? with
  | some (.own ds) => (m (vd (c0 :: g0))).to (c0 :: g0) fun d => (mi (vd (c0 :: g0))).to (c0 :: g0) fun i => match i with
    | .int i => (match L2.ixN ds.length i with
      | some k => .nx ((c0 :: g0).set j (.own (ds.set k d)))
      | none => .bad)
    | _ => .bad
  | _ => .bad := Eq.trans rfl rfl
@[simp] theorem sApp_ap (i : Nat) (m : M) (c0 : Cell) (g0 : Ce) : sApp i m (c0 :: g0) = match (c0 :: g0)[i]? with
  | some (.own ds) => (m (vd (c0 :: g0))).to (c0 :: g0) fun d => if ds.length < most then .nx ((c0 :: g0).set i (.own (ds ++ [d]))) else .bad
  | _ => .bad := Eq.trans rfl rfl
@[simp] theorem sPutF_ap (j : Nat) (mi m : M) (c0 : Cell) (g0 : Ce) : sPutF j mi m (c0 :: g0) = match (c0 :: g0)[j]? with
  | some (.own ds) => (m (va (c0 :: g0))).to (c0 :: g0) fun d => if flat d = true then (mi (vd (c0 :: g0))).to (c0 :: g0) fun i => (match i with
    | .int i => (match L2.ixN ds.length i with
      | some k => .nx ((c0 :: g0).set j (.own (ds.set k d)))
      | none => .bad)
    | _ => .bad) else .bad
  | _ => .bad := Eq.trans rfl rfl
@[simp] theorem sAsgF_ap (t : Tg) (m : M) (c0 : Cell) (g0 : Ce) : sAsgF t m (c0 :: g0) = (m (va (c0 :: g0))).to (c0 :: g0) fun d => if flat d = true then (match t d (c0 :: g0) with
  | some g' => .nx g'
  | none => .bad) else .bad := Eq.trans rfl rfl
@[simp] theorem sAppF_ap (i : Nat) (m : M) (c0 : Cell) (g0 : Ce) : sAppF i m (c0 :: g0) = match (c0 :: g0)[i]? with
  | some (.own ds) => (m (va (c0 :: g0))).to (c0 :: g0) fun d => if flat d = true ∧ ds.length < most then .nx ((c0 :: g0).set i (.own (ds ++ [d]))) else .bad
  | _ => .bad := Eq.trans rfl rfl
@[simp] theorem most_val : most = 16777216 := Eq.trans rfl rfl
@[simp] theorem sTryAs_ap (sub : Str → Option Bool) (i : Nat) (b : S) (u : Str → S) (c0 : Cell) (g0 : Ce) : sTryAs sub i b u (c0 :: g0) = match b (c0 :: g0) with
  | .ex c p g' => (match sub c with
    | some true => if p.isNone = true ∧ i < g'.length then (match u c (g'.set i .un) with
      | .nx g2 => .nx (g2.set i .un)
      | .bk g2 => .bk (g2.set i .un)
      | .ct g2 => .ct (g2.set i .un)
      | .rt d => .rt d
      | _ => .bad) else .bad
    | some false => .ex c p g'
    | none => .bad)
  | o => o := Eq.trans rfl rfl
@[simp] theorem fAdd_ii (i j : Int) : fAdd (.int i) (.int j) = some (.int (i + j)) := Eq.trans rfl rfl
@[simp] theorem fAddL_ii (i j : Int) : fAddL (.int i) (.int j) = some (.int (i + j)) := Eq.trans rfl rfl
@[simp] theorem fAddL_ss (a b : Str) : fAddL (.str a) (.str b) = fAdd (.str a) (.str b) := Eq.trans rfl rfl
@[simp] theorem fIntT_i (i : Int) : fIntT [.int i] = some (.int i) := Eq.trans rfl rfl
@[simp] theorem fIntT_b (b : Bool) : fIntT [.bool b] = some (.int (if b then 1 else 0)) := Eq.trans rfl rfl
@[simp] theorem fSub_ii (i j : Int) : fSub (.int i) (.int j) = some (.int (i - j)) := Eq.trans rfl rfl
theorem fMul_ii {i j : Int} (h : okMul i j = true) : fMul (.int i) (.int j) = some (.int (i * j)) := by
  show (if okMul i j = true then some (PyData.int (i * j)) else none) = _
  rw [if_pos h]
theorem fFdv_ii {i j : Int} (h : okDiv j = true) : fFdv (.int i) (.int j) = some (.int (i.fdiv j)) := by
  show (if okDiv j = true then some (PyData.int (i.fdiv j)) else none) = _
  rw [if_pos h]
theorem fFdv_pos {i j : Int} (h : 0 < j) (l : j.natAbs.log2 < 9000) : fFdv (.int i) (.int j) = some (.int (i / j)) := by
  rw [fFdv_ii, Int.fdiv_eq_ediv_of_nonneg i (by omega)]
  unfold okDiv
  rw [Bool.and_eq_true, decide_eq_true_eq, decide_eq_true_eq]
  exact ⟨by omega, l⟩
theorem fMod_ii {i j : Int} (h : j ≠ 0) : fMod (.int i) (.int j) = some (.int (i.fmod j)) := by
  show (if j ≠ 0 then some (PyData.int (i.fmod j)) else none) = _
  rw [if_pos h]
theorem fMod_pos {i j : Int} (h : 0 < j) : fMod (.int i) (.int j) = some (.int (i % j)) := by
  rw [fMod_ii (by omega), Int.fmod_eq_emod_of_nonneg i (by omega)]
theorem fPow_ii {i j : Int} (h : 0 ≤ j ∧ j ≤ 1000000 ∧ i.natAbs < 2 ^ 64) : fPow (.int i) (.int j) = some (.int (i ^ j.toNat)) := by
  show (if 0 ≤ j ∧ j ≤ 1000000 ∧ i.natAbs < 2 ^ 64 then some (PyData.int (i ^ j.toNat)) else none) = _
  rw [if_pos h]
@[simp] theorem fNeg_i (i : Int) : fNeg (.int i) = some (.int (-i)) := Eq.trans rfl rfl
@[simp] theorem fLt_ii (i j : Int) : fLt (.int i) (.int j) = some (.bool (decide (i < j))) := Eq.trans rfl rfl
@[simp] theorem fLe_ii (i j : Int) : fLe (.int i) (.int j) = some (.bool (decide (i ≤ j))) := Eq.trans rfl rfl
@[simp] theorem fGt_ii (i j : Int) : fGt (.int i) (.int j) = some (.bool (decide (j < i))) := Eq.trans rfl rfl
@[simp] theorem fGe_ii (i j : Int) : fGe (.int i) (.int j) = some (.bool (decide (j ≤ i))) := Eq.trans rfl rfl
@[simp] theorem fEq_ii (i j : Int) : fEq (.int i) (.int j) = some (.bool (decide (i = j))) := Eq.trans rfl rfl
@[simp] theorem fEq_ss (i j : Str) : fEq (.str i) (.str j) = some (.bool (decide (i = j))) := Eq.trans rfl rfl
@[simp] theorem fEq_bb (i j : Bool) : fEq (.bool i) (.bool j) = some (.bool (decide (i = j))) := Eq.trans rfl rfl
@[simp] theorem fNe_ii (i j : Int) : fNe (.int i) (.int j) = some (.bool (!decide (i = j))) := Eq.trans rfl rfl
@[simp] theorem fNe_ss (i j : Str) : fNe (.str i) (.str j) = some (.bool (!decide (i = j))) := Eq.trans rfl rfl
@[simp] theorem fNe_bb (i j : Bool) : fNe (.bool i) (.bool j) = some (.bool (!decide (i = j))) := Eq.trans rfl rfl
@[simp] theorem truth_b (b : Bool) : truthD (.bool b) = some b := Eq.trans rfl rfl
@[simp] theorem fAbs_i (i : Int) : fAbs [.int i] = some (.int (if i < 0 then -i else i)) := Eq.trans rfl rfl
@[simp] theorem fLen_l (ds : List D) : fLen [.list ds] = some (.int ds.length) := Eq.trans rfl rfl
@[simp] theorem fLen_t (ds : List D) : fLen [.tuple ds] = some (.int ds.length) := Eq.trans rfl rfl
@[simp] theorem fMax_ii (i j : Int) : fMax [.int i, .int j] = some (.int (if j > i then j else i)) := Eq.trans rfl rfl
@[simp] theorem fMin_ii (i j : Int) : fMin [.int i, .int j] = some (.int (if j < i then j else i)) := Eq.trans rfl rfl
@[simp] theorem fInt_i (i : Int) : fInt [.int i] = some (.int i) := Eq.trans rfl rfl
@[simp] theorem fInt_b (b : Bool) : fInt [.bool b] = some (.int (if b then 1 else 0)) := Eq.trans rfl rfl
theorem fIx_t {ds : List D} {j : Nat} {d : D} (h : ds[j]? = some d) : fIx (.tuple ds) (.int (j : Int)) = some d := L2.atI_nat h
theorem fIx_l {ds : List D} {j : Nat} {d : D} (h : ds[j]? = some d) : fIx (.list ds) (.int (j : Int)) = some d := L2.atI_nat h
@[simp] theorem fIx_t0 (a : D) (r : List D) : fIx (.tuple (a :: r)) (.int 0) = some a := fIx_t (j := 0) rfl
@[simp] theorem fIx_t1 (a b : D) (r : List D) : fIx (.tuple (a :: b :: r)) (.int 1) = some b := fIx_t (j := 1) rfl
@[simp] theorem fIx_t2 (a b c : D) (r : List D) : fIx (.tuple (a :: b :: c :: r)) (.int 2) = some c := fIx_t (j := 2) rfl
@[simp] theorem dTup_1 (a : D) : dTup [a] = some (.tuple [a]) := Eq.trans rfl rfl
@[simp] theorem dTup_2 (a b : D) : dTup [a, b] = some (.tuple [a, b]) := Eq.trans rfl rfl
@[simp] theorem dTup_3 (a b c : D) : dTup [a, b, c] = some (.tuple [a, b, c]) := Eq.trans rfl rfl
@[simp] theorem isT_int_none  : isT "int" (.none) = some false := show L2.kitB "NoneType" "int" = some false by decide +kernel
@[simp] theorem isT_int_bool (b : Bool) : isT "int" (.bool b) = some true := show L2.kitB "bool" "int" = some true by decide +kernel
@[simp] theorem isT_int_int (i : Int) : isT "int" (.int i) = some true := show L2.kitB "int" "int" = some true by decide +kernel
@[simp] theorem isT_int_str (z : Str) : isT "int" (.str z) = some false := show L2.kitB "str" "int" = some false by decide +kernel
@[simp] theorem isT_int_list (ds : List D) : isT "int" (.list ds) = some false := show L2.kitB "list" "int" = some false by decide +kernel
@[simp] theorem isT_int_tuple (ds : List D) : isT "int" (.tuple ds) = some false := show L2.kitB "tuple" "int" = some false by decide +kernel
@[simp] theorem isT_bool_none  : isT "bool" (.none) = some false := show L2.kitB "NoneType" "bool" = some false by decide +kernel
@[simp] theorem isT_bool_bool (b : Bool) : isT "bool" (.bool b) = some true := show L2.kitB "bool" "bool" = some true by decide +kernel
@[simp] theorem isT_bool_int (i : Int) : isT "bool" (.int i) = some false := show L2.kitB "int" "bool" = some false by decide +kernel
@[simp] theorem isT_bool_str (z : Str) : isT "bool" (.str z) = some false := show L2.kitB "str" "bool" = some false by decide +kernel
@[simp] theorem isT_bool_list (ds : List D) : isT "bool" (.list ds) = some false := show L2.kitB "list" "bool" = some false by decide +kernel
@[simp] theorem isT_bool_tuple (ds : List D) : isT "bool" (.tuple ds) = some false := show L2.kitB "tuple" "bool" = some false by decide +kernel
@[simp] theorem isT_tuple_none  : isT "tuple" (.none) = some false := show L2.kitB "NoneType" "tuple" = some false by decide +kernel
@[simp] theorem isT_tuple_bool (b : Bool) : isT "tuple" (.bool b) = some false := show L2.kitB "bool" "tuple" = some false by decide +kernel
@[simp] theorem isT_tuple_int (i : Int) : isT "tuple" (.int i) = some false := show L2.kitB "int" "tuple" = some false by decide +kernel
@[simp] theorem isT_tuple_str (z : Str) : isT "tuple" (.str z) = some false := show L2.kitB "str" "tuple" = some false by decide +kernel
@[simp] theorem isT_tuple_list (ds : List D) : isT "tuple" (.list ds) = some false := show L2.kitB "list" "tuple" = some false by decide +kernel
@[simp] theorem isT_tuple_tuple (ds : List D) : isT "tuple" (.tuple ds) = some true := show L2.kitB "tuple" "tuple" = some true by decide +kernel
@[simp] theorem isT_str_none  : isT "str" (.none) = some false := show L2.kitB "NoneType" "str" = some false by decide +kernel
@[simp] theorem isT_str_bool (b : Bool) : isT "str" (.bool b) = some false := show L2.kitB "bool" "str" = some false by decide +kernel
@[simp] theorem isT_str_int (i : Int) : isT "str" (.int i) = some false := show L2.kitB "int" "str" = some false by decide +kernel
@[simp] theorem isT_str_str (z : Str) : isT "str" (.str z) = some true := show L2.kitB "str" "str" = some true by decide +kernel
@[simp] theorem isT_str_list (ds : List D) : isT "str" (.list ds) = some false := show L2.kitB "list" "str" = some false by decide +kernel
@[simp] theorem isT_str_tuple (ds : List D) : isT "str" (.tuple ds) = some false := show L2.kitB "tuple" "str" = some false by decide +kernel
@[simp] theorem isT_list_none  : isT "list" (.none) = some false := show L2.kitB "NoneType" "list" = some false by decide +kernel
@[simp] theorem isT_list_bool (b : Bool) : isT "list" (.bool b) = some false := show L2.kitB "bool" "list" = some false by decide +kernel
@[simp] theorem isT_list_int (i : Int) : isT "list" (.int i) = some false := show L2.kitB "int" "list" = some false by decide +kernel
@[simp] theorem isT_list_str (z : Str) : isT "list" (.str z) = some false := show L2.kitB "str" "list" = some false by decide +kernel
@[simp] theorem isT_list_list (ds : List D) : isT "list" (.list ds) = some true := show L2.kitB "list" "list" = some true by decide +kernel
@[simp] theorem isT_list_tuple (ds : List D) : isT "list" (.tuple ds) = some false := show L2.kitB "tuple" "list" = some false by decide +kernel
@[simp] theorem tyD_str (x : Str) : tyD (.str x) = "str" := Eq.trans rfl rfl
@[simp] theorem tyD_list (x : List D) : tyD (.list x) = "list" := Eq.trans rfl rfl
@[simp] theorem tyD_tuple (x : List D) : tyD (.tuple x) = "tuple" := Eq.trans rfl rfl
@[simp] theorem tyD_int (x : Int) : tyD (.int x) = "int" := Eq.trans rfl rfl
@[simp] theorem tyD_bool (x : Bool) : tyD (.bool x) = "bool" := Eq.trans rfl rfl
theorem loopF_cons {t : Tg} {b : S} {d : D} {ds : List D} {g g1 g2 : Ce} (ht : t d g = some g1) (hb : b g1 = .nx g2) : loopF t b (d :: ds) g = loopF t b ds g2 := by
  rw [loopF, ht]
  dsimp only
  rw [hb]
theorem loopF_nil {t : Tg} {b : S} {g : Ce} : loopF t b [] g = .nx g := Eq.trans rfl rfl
theorem loopW_ap (t : Vw → R Bool) (b : S) (n : Nat) (g : Ce) : loopW t b (n + 1) g = (t (va g)).to g fun k => if k = true then (match b g with
      | .nx g2 => loopW t b n g2
      | .ct g2 => loopW t b n g2
      | .bk g2 => .nx g2
      | o => o) else .nx g := rfl
theorem cut_take (ds : List D) (n : Nat) : fSl (.list ds) none (some (n : Int)) = some (.list (ds.take n)) := by
  have : cutD ds none (some (n : Int)) = ds.take n := by
    unfold cutD
    rw [HT.sIx_nat, HT.sIx_none]
    simp
  show some (PyData.list (cutD ds none (some (n : Int)))) = _
  rw [this]
theorem log2_lt {i : Int} {a : Nat} (h : i.natAbs < 2 ^ a) (h0 : 0 < a) : i.natAbs.log2 < a := PySem.Flt.log2_lt_of h0 h
theorem okMul_bd {i j : Int} (a b : Nat) (ha : i.natAbs < 2 ^ a) (hb : j.natAbs < 2 ^ b) (h0 : 0 < a) (h1 : 0 < b) (h : a + b ≤ 100000000) : okMul i j = true := by
  have x := log2_lt ha h0
  have y := log2_lt hb h1
  unfold okMul
  rw [decide_eq_true_eq]
  omega
theorem okDiv_bd {j : Int} (a : Nat) (hj : j ≠ 0) (ha : j.natAbs < 2 ^ a) (h0 : 0 < a) (h : a ≤ 9000) : okDiv j = true := by
  have x := log2_lt ha h0
  unfold okDiv
  rw [Bool.and_eq_true, decide_eq_true_eq, decide_eq_true_eq]
  exact ⟨hj, by omega⟩
theorem natAbs_mul_lt {i j : Int} {a b : Nat} (ha : i.natAbs < a) (hb : j.natAbs < b) : (i * j).natAbs < a * b := by
  rw [Int.natAbs_mul]
  exact Nat.mul_lt_mul'' ha hb
end MI
set_option Elab.async false
set_option linter.all false
set_option maxRecDepth 100000
set_option maxHeartbeats 4000000
namespace MI
open PySem PySem.Spec PyProof.Rows L2
inductive T where
  | dat (d : D)
  | lst (ts : List T)
  | tup (ts : List T)
  | dic (b : Bool) (ks : List D) (ts : List T)
mutual
def fz : T → D
  | .dat d => d
  | .lst ts => .list (fzL ts)
  | .tup ts => .tuple (fzL ts)
  | .dic b ks ts => .dict ((.bool b, .none) :: ks.zip (fzL ts))
def fzL : List T → List D
  | [] => []
  | t :: ts => fz t :: fzL ts
end
theorem dicO_own {b : Bool} {ks : List D} {vs : List V} {o : HO} (h : dicO b ks vs = some o) : OwnO o := by
  unfold dicO at h
  split at h
  · cases b with
    | false =>
      dsimp only at h
      cases e : keyLD ks with
      | none => rw [e] at h; cases h
      | some kk => rw [e] at h; cases h; exact .inr (.inl ⟨_, rfl⟩)
    | true =>
      dsimp only at h
      cases e : keyLT ks with
      | none => rw [e] at h; cases h
      | some kk => rw [e] at h; cases h; exact .inr (.inr ⟨_, rfl⟩)
  · cases h
mutual
inductive TR (K : PySem.W.Frag) (F H : Hp) : V → T → (Addr → Prop) → Prop
  | dat {v : V} {d : D} : Dp K F v d → TR K F H v (.dat d) (fun _ => False)
  | lst {a : Addr} {vs : List V} {ts : List T} {S : Addr → Prop} : H a = some (.lst vs) → F a = none → TRs K F H vs ts S → ¬ S a → TR K F H (.ref a) (.lst ts) (fun b => b = a ∨ S b)
  | tup {a : Addr} {vs : List V} {ts : List T} {S : Addr → Prop} : F a = some (.tup vs) → TRs K F H vs ts S → TR K F H (.ref a) (.tup ts) S
  | dic {a : Addr} {b : Bool} {ks : List D} {vs : List V} {ts : List T} {S : Addr → Prop} {o : HO} : dicO b ks vs = some o → H a = some o → F a = none → TRs K F H vs ts S → ¬ S a → TR K F H (.ref a) (.dic b ks ts) (fun b => b = a ∨ S b)
inductive TRs (K : PySem.W.Frag) (F H : Hp) : List V → List T → (Addr → Prop) → Prop
  | nil : TRs K F H [] [] (fun _ => False)
  | cons {v : V} {t : T} {S : Addr → Prop} {vs : List V} {ts : List T} {S' : Addr → Prop} : TR K F H v t S → TRs K F H vs ts S' → (∀ a, S a → S' a → False) → TRs K F H (v :: vs) (t :: ts) (fun b => S b ∨ S' b)
end
section
variable {K : PySem.W.Frag} {F H F' H' : Hp}
mutual
theorem tr_own : ∀ {v : V} {t : T} {S : Addr → Prop}, TR K F H v t S → ∀ a, S a → ∃ o, H a = some o ∧ F a = none ∧ OwnO o
  | _, _, _, .dat _, _, h => h.elim
  | _, _, _, .lst h1 h2 hs hn, b, h => by
    rcases h with h | h
    · subst h; exact ⟨_, h1, h2, .l⟩
    · exact trs_own hs b h
  | _, _, _, .tup _ hs, b, h => trs_own hs b h
  | _, _, _, .dic ho h1 h2 hs hn, b, h => by
    rcases h with h | h
    · subst h; exact ⟨_, h1, h2, dicO_own ho⟩
    · exact trs_own hs b h
theorem trs_own : ∀ {vs : List V} {ts : List T} {S : Addr → Prop}, TRs K F H vs ts S → ∀ a, S a → ∃ o, H a = some o ∧ F a = none ∧ OwnO o
  | _, _, _, .nil, _, h => h.elim
  | _, _, _, .cons a b _, x, h => by
    rcases h with h | h
    · exact tr_own a x h
    · exact trs_own b x h
end
mutual
theorem tr_mono (f : Same F F') : ∀ {v : V} {t : T} {S : Addr → Prop}, TR K F H v t S → (∀ a, S a → H' a = H a ∧ F' a = none) → TR K F' H' v t S
  | _, _, _, .dat d, _ => .dat (dp_mono' f d)
  | _, _, _, .lst h1 h2 hs hn, h => .lst ((h _ (.inl rfl)).1.trans h1) (h _ (.inl rfl)).2 (trs_mono f hs fun a q => h a (.inr q)) hn
  | _, _, _, .tup h1 hs, h => .tup (f _ _ h1) (trs_mono f hs h)
  | _, _, _, .dic ho h1 h2 hs hn, h => .dic ho ((h _ (.inl rfl)).1.trans h1) (h _ (.inl rfl)).2 (trs_mono f hs fun a q => h a (.inr q)) hn
theorem trs_mono (f : Same F F') : ∀ {vs : List V} {ts : List T} {S : Addr → Prop}, TRs K F H vs ts S → (∀ a, S a → H' a = H a ∧ F' a = none) → TRs K F' H' vs ts S
  | _, _, _, .nil, _ => .nil
  | _, _, _, .cons a b n, h => .cons (tr_mono f a fun x q => h x (.inl q)) (trs_mono f b fun x q => h x (.inr q)) n
end
mutual
theorem tr_fz (f : Same F F') : ∀ {v : V} {t : T} {S : Addr → Prop}, TR K F H v t S → (∀ a, S a → F' a = H a) → Dp K F' v (fz t)
  | _, _, _, .dat d, _ => dp_mono' f d
  | _, _, _, .lst h1 h2 hs hn, h => .lst (.inl (.inl ((h _ (.inl rfl)).trans h1))) (trs_fz f hs fun a q => h a (.inr q))
  | _, _, _, .tup h1 hs, h => .tup (.inl (.inl (f _ _ h1))) (trs_fz f hs h)
  | _, _, _, .dic ho h1 h2 hs hn, h => .dic ho ((h _ (.inl rfl)).trans h1) (trs_fz f hs fun a q => h a (.inr q))
theorem trs_fz (f : Same F F') : ∀ {vs : List V} {ts : List T} {S : Addr → Prop}, TRs K F H vs ts S → (∀ a, S a → F' a = H a) → DpAll K F' vs (fzL ts)
  | _, _, _, .nil, _ => .nil
  | _, _, _, .cons a b n, h => .cons (tr_fz f a fun x q => h x (.inl q)) (trs_fz f b fun x q => h x (.inr q))
end
theorem trs_len : ∀ {vs : List V} {ts : List T} {S : Addr → Prop}, TRs K F H vs ts S → vs.length = ts.length
  | _, _, _, .nil => rfl
  | _, _, _, .cons _ b _ => congrArg Nat.succ (trs_len b)
theorem trs_dat : ∀ {vs : List V} {ds : List D}, DpAll K F vs ds → ∃ S, TRs K F H vs (ds.map T.dat) S ∧ ∀ a, ¬ S a
  | _, _, .nil => ⟨_, .nil, fun _ h => h⟩
  | _, _, .cons a b => by
    obtain ⟨S, h1, h2⟩ := trs_dat b
    exact ⟨_, .cons (.dat a) h1 (fun _ q => q.elim), fun x q => by rcases q with q | q; exact q; exact h2 x q⟩
theorem trs_at : ∀ {vs : List V} {ts : List T} {S : Addr → Prop} {k : Nat} {t : T}, TRs K F H vs ts S → ts[k]? = some t →
    ∃ (v : V) (S1 O : Addr → Prop), vs[k]? = some v ∧ TR K F H v t S1 ∧ (∀ a, S a ↔ S1 a ∨ O a) ∧ (∀ a, S1 a → O a → False) ∧
      ∀ {F' H' : Hp} {v' : V} {t' : T} {S1' : Addr → Prop}, Same F F' → (∀ a, O a → H' a = H a ∧ F' a = none) → TR K F' H' v' t' S1' → (∀ a, S1' a → O a → False) → ∃ S', TRs K F' H' (vs.set k v') (ts.set k t') S' ∧ ∀ a, S' a ↔ S1' a ∨ O a
  | _, _, _, k, t, .nil, e => by simp at e
  | _, _, _, 0, t, .cons (S := Sa) (S' := Sb) a b n, e => by
    simp at e
    subst e
    refine ⟨_, Sa, Sb, rfl, a, fun x => Iff.rfl, n, fun f h a' n' => ⟨_, .cons a' (trs_mono f b h) n', fun x => Iff.rfl⟩⟩
  | _, _, _, k + 1, t, .cons (S := Sa) (S' := Sb) a b n, e => by
    obtain ⟨v, S1, O, h1, h2, h3, h4, h5⟩ := trs_at (k := k) b (by simpa using e)
    refine ⟨v, S1, fun x => Sa x ∨ O x, by simpa using h1, h2, fun x => ⟨?_, ?_⟩, ?_, fun f h a' n' => ?_⟩
    · rintro (q | q)
      · exact .inr (.inl q)
      · rcases (h3 x).mp q with q | q
        · exact .inl q
        · exact .inr (.inr q)
    · rintro (q | q | q)
      · exact .inr ((h3 x).mpr (.inl q))
      · exact .inl q
      · exact .inr ((h3 x).mpr (.inr q))
    · rintro x q (w | w)
      · exact n x w ((h3 x).mpr (.inl q))
      · exact h4 x q w
    · obtain ⟨S', q1, q2⟩ := h5 f (fun x w => h x (.inr w)) a' (fun x w z => n' x w (.inr z))
      refine ⟨_, .cons (tr_mono f a fun x w => h x (.inl w)) q1 (fun x w z => ?_), fun x => ⟨?_, ?_⟩⟩
      · rcases (q2 x).mp z with z | z
        · exact n' x z (.inl w)
        · exact n x w ((h3 x).mpr (.inr z))
      · rintro (w | w)
        · exact .inr (.inl w)
        · rcases (q2 x).mp w with w | w
          · exact .inl w
          · exact .inr (.inr w)
      · rintro (w | w | w)
        · exact .inr ((q2 x).mpr (.inl w))
        · exact .inl w
        · exact .inr ((q2 x).mpr (.inr w))
theorem trs_dAt {vs : List V} {ts : List T} {S : Addr → Prop} {k : Nat} {d : D} (h : TRs K F H vs ts S) (e : ts[k]? = some (.dat d)) : ∃ v, vs[k]? = some v ∧ Dp K F v d := by
  obtain ⟨v, S1, O, h1, h2, _⟩ := trs_at h e
  cases h2 with
  | dat q => exact ⟨v, h1, q⟩
theorem trs_setD {vs : List V} {ts : List T} {S : Addr → Prop} {k : Nat} {v : V} {d : D} (h : TRs K F H vs ts S) (hd : Dp K F v d) : ∃ S', TRs K F H (vs.set k v) (ts.set k (.dat d)) S' ∧ ∀ a, S' a → S a := by
  by_cases l : k < ts.length
  · obtain ⟨v0, S1, O, h1, h2, h3, h4, h5⟩ := trs_at h (List.getElem?_eq_getElem l)
    obtain ⟨S', q1, q2⟩ := h5 (Same.refl F) (fun a o => ⟨rfl, (trs_own h a ((h3 a).mpr (.inr o))).choose_spec.2.1⟩) (.dat hd) (fun _ z => z.elim)
    exact ⟨S', q1, fun a z => by rcases (q2 a).mp z with w | w; exact w.elim; exact (h3 a).mpr (.inr w)⟩
  · refine ⟨S, ?_, fun _ z => z⟩
    rw [List.set_eq_of_length_le (by rw [trs_len h]; omega), List.set_eq_of_length_le (by omega)]
    exact h
theorem trs_append : ∀ {vs ws : List V} {ts us : List T} {S S2 : Addr → Prop}, TRs K F H vs ts S → TRs K F H ws us S2 → (∀ a, S a → S2 a → False) → ∃ S', TRs K F H (vs ++ ws) (ts ++ us) S' ∧ ∀ a, S' a ↔ S a ∨ S2 a
  | _, _, _, _, _, S2, .nil, h, _ => ⟨S2, h, fun a => by simp⟩
  | _, _, _, _, _, _, .cons a b n, h, m => by
    obtain ⟨S', q1, q2⟩ := trs_append b h (fun x w z => m x (.inr w) z)
    refine ⟨_, .cons a q1 (fun x w z => ?_), fun x => ?_⟩
    · rcases (q2 x).mp z with z | z
      · exact n x w z
      · exact m x (.inl w) z
    · simp only [q2 x, or_assoc]
end
def T.get : T → List Nat → Option T
  | t, [] => some t
  | .lst ts, k :: p => match ts[k]? with
    | some u => u.get p
    | none => none
  | .tup ts, k :: p => match ts[k]? with
    | some u => u.get p
    | none => none
  | .dat _, _ :: _ => none
  | .dic _ _ _, _ :: _ => none
def T.put : T → List Nat → T → T
  | _, [], n => n
  | .lst ts, k :: p, n => match ts[k]? with
    | some u => .lst (ts.set k (u.put p n))
    | none => .lst ts
  | .tup ts, k :: p, n => match ts[k]? with
    | some u => .tup (ts.set k (u.put p n))
    | none => .tup ts
  | .dat d, _ :: _, _ => .dat d
  | .dic b ks ts, _ :: _, _ => .dic b ks ts
theorem T.put_nil (t n : T) : t.put [] n = n := by cases t <;> simp [T.put]
theorem T.get_nil (t : T) : t.get [] = some t := by cases t <;> simp [T.get]
/-- the value that stands at a place -/
inductive Sub (F H : Hp) : V → List Nat → V → Prop
  | nil {v : V} : Sub F H v [] v
  | lst {a : Addr} {vs : List V} {k : Nat} {u w : V} {p : List Nat} : H a = some (.lst vs) → vs[k]? = some u → Sub F H u p w → Sub F H (.ref a) (k :: p) w
  | tup {a : Addr} {vs : List V} {k : Nat} {u w : V} {p : List Nat} : F a = some (.tup vs) → vs[k]? = some u → Sub F H u p w → Sub F H (.ref a) (k :: p) w
section
variable {K : PySem.W.Frag} {F H : Hp}
/-- what hangs at a place, and what may stand there in its stead -/
theorem tr_focus : ∀ (p : List Nat) {v : V} {t : T} {S : Addr → Prop} {u : T}, TR K F H v t S → t.get p = some u →
    ∃ (w : V) (S1 O : Addr → Prop), Sub F H v p w ∧ TR K F H w u S1 ∧ (∀ a, S a ↔ S1 a ∨ O a) ∧ (∀ a, S1 a → O a → False) ∧ (∀ b ts0, v = .ref b → t = .lst ts0 → p ≠ [] → ¬ S1 b) ∧
      ∀ {F' H' : Hp} {u' : T} {S1' : Addr → Prop}, Same F F' → (∀ a, O a → H' a = H a ∧ F' a = none) → TR K F' H' w u' S1' → (∀ a, S1' a → O a → False) → ∃ S', TR K F' H' v (t.put p u') S' ∧ ∀ a, S' a ↔ S1' a ∨ O a
  | [], v, t, S, u, h, e => by
    rw [T.get_nil] at e
    cases e
    refine ⟨v, S, fun _ => False, .nil, h, fun a => by simp, fun _ _ z => z, fun _ _ _ _ z => absurd rfl z, fun {F' H' u' S1'} f _ h' _ => ⟨S1', ?_, fun a => by simp⟩⟩
    rw [T.put_nil]
    exact h'
  | k :: p, _, _, _, u, .dat d, e => by cases e
  | k :: p, _, _, _, u, .dic _ _ _ _ _, e => by cases e
  | k :: p, _, _, _, u, .lst (a := a) (vs := vs) (ts := ts) (S := Sc) h1 h2 hs hn, e => by
    unfold T.get at e
    cases q : ts[k]? with
    | none => rw [q] at e; cases e
    | some c =>
      rw [q] at e
      obtain ⟨v0, S0, O0, a1, a2, a3, a4, a5⟩ := trs_at hs q
      obtain ⟨w, S1, O1, b1, b2, b3, b4, b6, b5⟩ := tr_focus p a2 e
      refine ⟨w, S1, fun x => x = a ∨ O0 x ∨ O1 x, .lst h1 a1 b1, b2, fun x => ?_, fun x z y => ?_, fun b ts0 q1 _ _ z => ?_, fun {F' H' u' S1'} f h h' n => ?_⟩
      · simp only [a3 x, b3 x]
        constructor
        · rintro (z | (z | z) | z)
          · exact .inr (.inl z)
          · exact .inl z
          · exact .inr (.inr (.inr z))
          · exact .inr (.inr (.inl z))
        · rintro (z | z | z | z)
          · exact .inr (.inl (.inl z))
          · exact .inl z
          · exact .inr (.inr z)
          · exact .inr (.inl (.inr z))
      · rcases y with y | y | y
        · exact hn (y ▸ (a3 x).mpr (.inl ((b3 x).mpr (.inl z))))
        · exact a4 x ((b3 x).mpr (.inl z)) y
        · exact b4 x z y
      · cases q1
        exact hn ((a3 _).mpr (.inl ((b3 _).mpr (.inl z))))
      · obtain ⟨S2, c1, c2⟩ := b5 f (fun x z => h x (.inr (.inr z))) h' (fun x z y => n x z (.inr (.inr y)))
        obtain ⟨S3, d1, d2⟩ := a5 (v' := v0) f (fun x z => h x (.inr (.inl z))) c1 (fun x z y => by
          rcases (c2 x).mp z with z | z
          · exact n x z (.inr (.inl y))
          · exact a4 x ((b3 x).mpr (.inr z)) y)
        have ev : vs.set k v0 = vs := by
          apply List.ext_getElem?
          intro j
          rw [List.getElem?_set]
          split
          · rename_i e; subst e
            split
            · exact a1.symm
            · rw [List.getElem?_eq_none (by omega)]
          · rfl
        rw [ev] at d1
        refine ⟨fun b => b = a ∨ S3 b, ?_, fun x => ?_⟩
        · unfold T.put
          rw [q]
          exact .lst ((h a (.inl rfl)).1.trans h1) (h a (.inl rfl)).2 d1 (fun z => by
            rcases (d2 a).mp z with z | z
            · rcases (c2 a).mp z with z | z
              · exact n a z (.inl rfl)
              · exact hn ((a3 a).mpr (.inl ((b3 a).mpr (.inr z))))
            · exact hn ((a3 a).mpr (.inr z)))
        · simp only [d2 x, c2 x]
          constructor
          · rintro (z | (z | z) | z)
            · exact .inr (.inl z)
            · exact .inl z
            · exact .inr (.inr (.inr z))
            · exact .inr (.inr (.inl z))
          · rintro (z | z | z | z)
            · exact .inr (.inl (.inl z))
            · exact .inl z
            · exact .inr (.inr z)
            · exact .inr (.inl (.inr z))
  | k :: p, _, _, _, u, .tup (a := a) (vs := vs) (ts := ts) (S := Sc) h1 hs, e => by
    unfold T.get at e
    cases q : ts[k]? with
    | none => rw [q] at e; cases e
    | some c =>
      rw [q] at e
      obtain ⟨v0, S0, O0, a1, a2, a3, a4, a5⟩ := trs_at hs q
      obtain ⟨w, S1, O1, b1, b2, b3, b4, b6, b5⟩ := tr_focus p a2 e
      refine ⟨w, S1, fun x => O0 x ∨ O1 x, .tup h1 a1 b1, b2, fun x => ?_, fun x z y => ?_, fun b ts0 _ q _ _ => (by cases q), fun {F' H' u' S1'} f h h' n => ?_⟩
      · simp only [a3 x, b3 x]
        constructor
        · rintro ((z | z) | z)
          · exact .inl z
          · exact .inr (.inr z)
          · exact .inr (.inl z)
        · rintro (z | z | z)
          · exact .inl (.inl z)
          · exact .inr z
          · exact .inl (.inr z)
      · rcases y with y | y
        · exact a4 x ((b3 x).mpr (.inl z)) y
        · exact b4 x z y
      · obtain ⟨S2, c1, c2⟩ := b5 f (fun x z => h x (.inr z)) h' (fun x z y => n x z (.inr y))
        obtain ⟨S3, d1, d2⟩ := a5 (v' := v0) f (fun x z => h x (.inl z)) c1 (fun x z y => by
          rcases (c2 x).mp z with z | z
          · exact n x z (.inl y)
          · exact a4 x ((b3 x).mpr (.inr z)) y)
        have ev : vs.set k v0 = vs := by
          apply List.ext_getElem?
          intro j
          rw [List.getElem?_set]
          split
          · rename_i e; subst e
            split
            · exact a1.symm
            · rw [List.getElem?_eq_none (by omega)]
          · rfl
        rw [ev] at d1
        refine ⟨S3, ?_, fun x => ?_⟩
        · unfold T.put
          rw [q]
          exact .tup (f _ _ h1) d1
        · simp only [d2 x, c2 x]
          constructor
          · rintro ((z | z) | z)
            · exact .inl z
            · exact .inr (.inr z)
            · exact .inr (.inl z)
          · rintro (z | z | z)
            · exact .inl (.inl z)
            · exact .inr z
            · exact .inl (.inr z)
end
end MI
set_option Elab.async false
set_option linter.all false
set_option maxRecDepth 100000
set_option maxHeartbeats 4000000
namespace MI
open PySem PySem.Spec PyProof.Rows L2
/-- a slot: nothing; a tree; a tree lent by the caller; another name of a child of slot i's list -/
inductive Cl where
  | un
  | t (x : T)
  | b (x : T)
  | tm (x : T)
  | al (i k : Nat)
  | pin
abbrev Ct := List Cl
def Cl.tr : Cl → Option T
  | .t x => some x
  | .b x => some x
  | .tm x => some x
  | _ => none
def Cl.nm : Cl → Option T
  | .t x => some x
  | .b x => some x
  | _ => none
/-- whether the slot's value is the caller's -/
def Cl.bd : Cl → Bool
  | .b _ => true
  | .pin => true
  | _ => false
def gt (g : Ct) (i : Nat) : Option T := (g[i]?).bind Cl.tr
/-- a named one -/
def nt (g : Ct) (i : Nat) : Option T := (g[i]?).bind Cl.nm
theorem gt_nt {g : Ct} {i : Nat} {x : T} (h : nt g i = some x) : gt g i = some x := by
  unfold nt at h
  unfold gt
  cases e : g[i]? with
  | none => rw [e] at h; cases h
  | some c =>
    rw [e] at h
    cases c <;> first | exact h | cases h
structure StT (K : PySem.W.Frag) (V0 : Nat → Option V) (F0 H0 : Hp) (B : Addr → Prop) (F H : Hp) (σ : L2.St) (g : Ct) : Prop where
  f : Same F0 F
  h : ∀ a o, ¬ B a → H0 a = some o → H a = some o
  s : Same F H
  n : ∀ a o, F a = some o → F0 a = none → Lo (H0 a) ∨ B a
  len : σ.length = g.length
  own : ∃ S : Nat → Addr → Prop, (∀ i x, gt g i = some x → ∃ v, σ[i]? = some (some v) ∧ TR K F H v x (S i)) ∧ (∀ i a, S i a → B a ∨ H0 a = none) ∧ (∀ i j a, S i a → S j a → i = j) ∧ (∀ i, gt g i = none → ∀ a, ¬ S i a)
  bd : ∀ (i : Nat) (c : Cl), g[i]? = some c → c.bd = true → ∃ v, V0 i = some v ∧ σ[i]? = some (some v)
  al : ∀ (j i k : Nat), g[j]? = some (Cl.al i k) → ∃ a vs v, σ[i]? = some (some (.ref a)) ∧ H a = some (.lst vs) ∧ F a = none ∧ vs[k]? = some v ∧ σ[j]? = some (some v) ∧ ∃ ts, nt g i = some (.lst ts)
section
variable {K : PySem.W.Frag} {V0 V1 : Nat → Option V} {F0 H0 F H F' H' : Hp} {B : Addr → Prop} {σ σ' : L2.St} {g g' : Ct}
theorem StT.bor (ok : StT K V0 F0 H0 B F H σ g) (i : Nat) (x : T) (e : g[i]? = some (Cl.b x)) : ∃ v, V0 i = some v ∧ σ[i]? = some (some v) := ok.bd i _ e rfl
theorem lo_base {B : Addr → Prop} {H0 H : Hp} (h : ∀ a o, ¬ B a → H0 a = some o → H a = some o) {a : Addr} (z : Lo (H a)) : Lo (H0 a) ∨ B a := by
  by_cases b : B a
  · exact .inr b
  · left
    cases w : H0 a with
    | none => exact .inl rfl
    | some u => rw [h a u b w] at z; exact z
theorem StT.mono (ok : StT K V0 F0 H0 B F H σ g) (E : Ext F H F' H') : StT K V0 F0 H0 B F' H' σ g := by
  obtain ⟨S, s1, s2, s3, s4⟩ := ok.own
  refine ⟨ok.f.trans E.f, fun a o nb e => E.h _ _ (ok.h a o nb e), E.s, fun a o e n => ?_, ok.len, ⟨S, fun i x hx => ?_, s2, s3, s4⟩, ok.bd, fun j i k e => ?_⟩
  · cases q : F a with
    | some u => exact ok.n a u q n
    | none =>
      have z := E.n a o e q
      exact lo_base ok.h z
  · obtain ⟨v, h1, h2⟩ := s1 i x hx
    refine ⟨v, h1, tr_mono E.f h2 fun a q => ?_⟩
    obtain ⟨xs, q1, q2, q3⟩ := tr_own h2 a q
    exact ⟨(E.h _ _ q1).trans q1.symm, E.new_none q2 q1 q3⟩
  · obtain ⟨a, vs, v, h1, h2, h3, h4⟩ := ok.al j i k e
    exact ⟨a, vs, v, h1, E.h _ _ h2, E.new_none h3 h2, h4⟩
/-- new ground -/
theorem StT.base (ok : StT K V0 F0 H0 B F H σ g) : ∃ B' : Addr → Prop, StT K V0 F H B' F H σ g ∧ (∀ a, B a → B' a) ∧ ∀ V1 F' H' σ' g', StT K V1 F H B' F' H' σ' g' → StT K V1 F0 H0 B F' H' σ' g' := by
  obtain ⟨S, s1, s2, s3, s4⟩ := ok.own
  refine ⟨fun a => B a ∨ ∃ i, S i a, ⟨Same.refl F, fun a o _ e => e, ok.s, fun a o e n => (by rw [n] at e; cases e), ok.len, ⟨S, s1, fun i a q => .inl (.inr ⟨i, q⟩), s3, s4⟩, ok.bd, ok.al⟩, fun a b => .inl b, fun V1 F' H' σ' g' ok' => ?_⟩
  have key : ∀ a, (B a ∨ ∃ i, S i a) → B a ∨ H0 a = none := fun a q => by
    rcases q with q | ⟨i, q⟩
    · exact .inl q
    · exact s2 i a q
  obtain ⟨S', t1, t2, t3, t4⟩ := ok'.own
  refine ⟨ok.f.trans ok'.f, fun a o nb e => ?_, ok'.s, fun a o e n => ?_, ok'.len, ⟨S', t1, fun i a q => ?_, t3, t4⟩, ok'.bd, ok'.al⟩
  · refine ok'.h a o (fun q => ?_) (ok.h a o nb e)
    rcases key a q with q | q
    · exact nb q
    · rw [q] at e; cases e
  · cases q : F a with
    | some u => exact ok.n a u q n
    | none =>
      rcases ok'.n a o e q with z | z
      · exact lo_base ok.h z
      · rcases key a z with z | z
        · exact .inr z
        · exact .inl (.inl z)
  · rcases t2 i a q with q | q
    · exact key a q
    · by_cases b : B a
      · exact .inl b
      · cases w : H0 a with
        | none => exact .inr rfl
        | some u => rw [ok.h a u b w] at q; cases q
def Cl.vd (g : Ct) : Cl → Option D
  | .t (.dat d) => some d
  | .b (.dat d) => some d
  | .al i k => match nt g i with
    | some (.lst ts) => (match ts[k]? with
      | some (.dat d) => some d
      | _ => none)
    | _ => none
  | _ => none
def Cl.va (g : Ct) : Cl → Option D
  | .t x => some (fz x)
  | .b x => some (fz x)
  | .al i k => match nt g i with
    | some (.lst ts) => (ts[k]?).map fz
    | _ => none
  | _ => none
def tvd (g : Ct) : Vw := g.map (Cl.vd g)
def tva (g : Ct) : Vw := g.map (Cl.va g)
theorem al_child (ok : StT K V0 F0 H0 B F H σ g) {j i k : Nat} {ts : List T} {c : T} {Si : Addr → Prop} {w : V} (e : g[j]? = some (.al i k)) (hw : σ[i]? = some (some w)) (ht : TR K F H w (.lst ts) Si) (hc : ts[k]? = some c) : ∃ (v : V) (S1 : Addr → Prop), σ[j]? = some (some v) ∧ TR K F H v c S1 ∧ ∀ a, S1 a → Si a := by
  obtain ⟨a, vs, v, h1, h2, h3, h4, h5, _⟩ := ok.al j i k e
  rw [h1] at hw
  cases hw
  cases ht with
  | lst q1 q2 q3 q4 =>
    rw [h2] at q1
    cases q1
    obtain ⟨v0, S1, O, a1, a2, a3, _⟩ := trs_at q3 hc
    rw [h4] at a1
    cases a1
    exact ⟨v, S1, h5, a2, fun b hb => .inr ((a3 b).mpr (.inl hb))⟩
theorem gt_of {i : Nat} {x : T} (h : g[i]? = some (.t x) ∨ g[i]? = some (.b x)) : gt g i = some x := by
  unfold gt
  rcases h with h | h <;> rw [h] <;> rfl
theorem StT.vd (ok : StT K V0 F0 H0 B F H σ g) : VwOk K F σ (tvd g) := by
  obtain ⟨S, s1, _, _, _⟩ := ok.own
  refine ⟨by unfold tvd; rw [List.length_map]; exact Nat.le_of_eq ok.len.symm, fun i d q => ?_⟩
  unfold tvd at q
  rw [List.getElem?_map] at q
  cases e : g[i]? with
  | none => rw [e] at q; cases q
  | some c =>
    rw [e] at q
    have q : Cl.vd g c = some d := by simpa using q
    cases c with
    | un => cases q
    | pin => cases q
    | tm x => cases q
    | t x =>
      cases x with
      | dat d' =>
        cases q
        obtain ⟨v, h1, h2⟩ := s1 i _ (gt_of (.inl e))
        generalize S i = Si at h2
        cases h2 with
        | dat z => exact ⟨v, h1, z⟩
      | _ => cases q
    | b x =>
      cases x with
      | dat d' =>
        cases q
        obtain ⟨v, h1, h2⟩ := s1 i _ (gt_of (.inr e))
        generalize S i = Si at h2
        cases h2 with
        | dat z => exact ⟨v, h1, z⟩
      | _ => cases q
    | al j k =>
      unfold Cl.vd at q
      dsimp only at q
      split at q
      · rename_i ts ht
        split at q
        · rename_i d' hc
          cases q
          obtain ⟨w, w1, w2⟩ := s1 j _ (gt_nt ht)
          obtain ⟨v, S1, h1, h2, _⟩ := al_child ok e w1 w2 hc
          cases h2 with
          | dat z => exact ⟨v, h1, z⟩
        · cases q
      · cases q
open Classical in
noncomputable def tfr (S : Nat → Addr → Prop) (F H : Hp) : Hp := fun a => if ∃ i, S i a then H a else F a
open Classical in
noncomputable def tth (S : Nat → Addr → Prop) (F' : Hp) : Hp := fun a => if ∃ i, S i a then none else F' a
theorem tfr_in {S : Nat → Addr → Prop} {a : Addr} (h : ∃ i, S i a) : tfr S F H a = H a := by unfold tfr; rw [if_pos h]
theorem tfr_out {S : Nat → Addr → Prop} {a : Addr} (h : ¬ ∃ i, S i a) : tfr S F H a = F a := by unfold tfr; rw [if_neg h]
theorem tth_in {S : Nat → Addr → Prop} {a : Addr} (h : ∃ i, S i a) : tth S F a = none := by unfold tth; rw [if_pos h]
theorem tth_out {S : Nat → Addr → Prop} {a : Addr} (h : ¬ ∃ i, S i a) : tth S F a = F a := by unfold tth; rw [if_neg h]
/-- all trees as data, for a while -/
theorem StT.vaS (ok : StT K V0 F0 H0 B F H σ g) : ∃ F1, Same F1 H ∧ Same F F1 ∧ VwOk K F1 σ (tva g) ∧
    ∀ F' H', Ext F1 H F' H' → ∃ F2, StT K V0 F0 H0 B F2 H' σ g ∧ Same F F2 ∧ (∀ d v, Dp K F' v d → flat d = true → Dp K F2 v d) ∧ (∀ a o, F' a = some o → ¬ OwnO o → F2 a = some o) ∧ Same F2 F' ∧ (∀ a o, F2 a = some o → F a = none → F1 a = none) := by
  obtain ⟨S, s1, s2, s3, s4⟩ := ok.own
  have ow : ∀ a, (∃ i, S i a) → ∃ o, H a = some o ∧ F a = none ∧ OwnO o := fun a ⟨i, q⟩ => by
    cases e : gt g i with
    | none => exact (s4 i e a q).elim
    | some x =>
      obtain ⟨v, _, h2⟩ := s1 i x e
      exact tr_own h2 a q
  have sF : Same F (tfr S F H) := fun a o e => by
    by_cases h : ∃ i, S i a
    · obtain ⟨_, _, q, _⟩ := ow a h
      rw [q] at e; cases e
    · rw [tfr_out h]; exact e
  have sH : Same (tfr S F H) H := fun a o e => by
    by_cases h : ∃ i, S i a
    · rw [tfr_in h] at e; exact e
    · rw [tfr_out h] at e; exact ok.s _ _ e
  refine ⟨tfr S F H, sH, sF, ⟨by unfold tva; rw [List.length_map]; exact Nat.le_of_eq ok.len.symm, fun i d q => ?_⟩, fun F' H' E => ?_⟩
  · unfold tva at q
    rw [List.getElem?_map] at q
    cases e : g[i]? with
    | none => rw [e] at q; cases q
    | some c =>
      rw [e] at q
      have q : Cl.va g c = some d := by simpa using q
      cases c with
      | un => cases q
      | pin => cases q
      | tm x => cases q
      | t x =>
        cases q
        obtain ⟨v, h1, h2⟩ := s1 i _ (gt_of (.inl e))
        exact ⟨v, h1, tr_fz sF h2 fun a z => tfr_in ⟨i, z⟩⟩
      | b x =>
        cases q
        obtain ⟨v, h1, h2⟩ := s1 i _ (gt_of (.inr e))
        exact ⟨v, h1, tr_fz sF h2 fun a z => tfr_in ⟨i, z⟩⟩
      | al j k =>
        unfold Cl.va at q
        dsimp only at q
        split at q
        · rename_i ts ht
          cases hc : ts[k]? with
          | none => rw [hc] at q; cases q
          | some c =>
            rw [hc] at q
            cases q
            obtain ⟨w, w1, w2⟩ := s1 j _ (gt_nt ht)
            obtain ⟨v, S1, h1, h2, h3⟩ := al_child ok e w1 w2 hc
            exact ⟨v, h1, tr_fz sF h2 fun a z => tfr_in ⟨j, h3 a z⟩⟩
        · cases q
  · have keep : ∀ a o, F' a = some o → ¬ OwnO o → tth S F' a = some o := fun a o e n => by
      have hn : ¬ ∃ i, S i a := fun h => by
        obtain ⟨xs, q, _, w⟩ := ow a h
        have : F' a = some xs := E.f _ _ (by rw [tfr_in h]; exact q)
        rw [this] at e
        cases e
        exact n w
      rw [tth_out hn]
      exact e
    have fF : Same F (tth S F') := fun a o e => by
      have hn : ¬ ∃ i, S i a := fun h => by
        obtain ⟨_, _, q, _⟩ := ow a h
        rw [q] at e; cases e
      rw [tth_out hn]
      exact E.f _ _ (sF _ _ e)
    have tF : Same (tth S F') F' := fun a o e => by
      by_cases h : ∃ i, S i a
      · rw [tth_in h] at e; cases e
      · rw [tth_out h] at e; exact e
    refine ⟨tth S F', ⟨ok.f.trans fF, fun a o nb e => E.h _ _ (ok.h a o nb e), tF.trans E.s, fun a o e n => ?_, ok.len, ⟨S, fun i x hx => ?_, s2, s3, s4⟩, ok.bd, fun j i k e => ?_⟩, fF, fun d v hd fl => dp_flatO keep d hd fl, keep, tF, fun a o e n => by
      have hn : ¬ ∃ i, S i a := fun h => by rw [tth_in h] at e; cases e
      rw [tfr_out hn]
      exact n⟩
    · have hn : ¬ ∃ i, S i a := fun h => by rw [tth_in h] at e; cases e
      rw [tth_out hn] at e
      cases q : tfr S F H a with
      | some u =>
        rw [tfr_out hn] at q
        exact ok.n a u q n
      | none =>
        have z := E.n a o e q
        exact lo_base ok.h z
    · obtain ⟨v, h1, h2⟩ := s1 i x hx
      refine ⟨v, h1, tr_mono fF h2 fun a q => ?_⟩
      obtain ⟨xs, q1, q2, _⟩ := tr_own h2 a q
      exact ⟨(E.h _ _ q1).trans q1.symm, tth_in ⟨i, q⟩⟩
    · obtain ⟨a, vs, v, h1, h2, h3, h4, h5, ts, h6⟩ := ok.al j i k e
      obtain ⟨w, w1, w2⟩ := s1 i _ (gt_nt h6)
      rw [h1] at w1
      cases w1
      generalize hS : S i = Si at w2
      cases w2 with
      | lst q1 q2 q3 q4 =>
        exact ⟨a, vs, v, h1, E.h _ _ h2, tth_in ⟨i, by rw [hS]; exact .inl rfl⟩, h4, h5, ts, h6⟩
theorem StT.va (ok : StT K V0 F0 H0 B F H σ g) : ∃ F1, Same F1 H ∧ Same F F1 ∧ VwOk K F1 σ (tva g) ∧
    ∀ F' H', Ext F1 H F' H' → ∃ F2, StT K V0 F0 H0 B F2 H' σ g ∧ Same F F2 ∧ (∀ d v, Dp K F' v d → flat d = true → Dp K F2 v d) ∧ ∀ a o, F' a = some o → ¬ OwnO o → F2 a = some o := by
  obtain ⟨F1, h1, h2, h3, h4⟩ := ok.vaS
  exact ⟨F1, h1, h2, h3, fun F' H' E => let ⟨F2, q1, q2, q3, q4, _⟩ := h4 F' H' E; ⟨F2, q1, q2, q3, q4⟩⟩
theorem StT.pick (ok : StT K V0 F0 H0 B F H σ g) (π : Nat → Nat) (len : σ'.length = g'.length) (inj : ∀ i j, (gt g' i).isSome = true → (gt g' j).isSome = true → π i = π j → i = j) (tr : ∀ i x, gt g' i = some x → gt g (π i) = some x ∧ σ'[i]? = σ[π i]?)
    (bor : ∀ (i : Nat) (c : Cl), g'[i]? = some c → c.bd = true → (∃ c', g[i]? = some c' ∧ c'.bd = true) ∧ σ'[i]? = σ[i]?) (al : ∀ (j i k : Nat), g'[j]? = some (Cl.al i k) → g[j]? = some (.al i k) ∧ σ'[j]? = σ[j]? ∧ σ'[i]? = σ[i]? ∧ nt g' i = nt g i) : StT K V0 F0 H0 B F H σ' g' := by
  obtain ⟨S, s1, s2, s3, s4⟩ := ok.own
  refine ⟨ok.f, ok.h, ok.s, ok.n, len, ⟨fun i a => (gt g' i).isSome = true ∧ S (π i) a, fun i x hx => ?_, fun i a q => s2 _ a q.2, fun i j a q r => inj i j q.1 r.1 (s3 _ _ a q.2 r.2), fun i e a q => by have q1 := q.1; rw [e] at q1; cases q1⟩, fun i x e hb => ?_, fun j i k e => ?_⟩
  · obtain ⟨t1, t2⟩ := tr i x hx
    obtain ⟨v, h1, h2⟩ := s1 _ _ t1
    refine ⟨v, t2.trans h1, ?_⟩
    have : S (π i) = fun a => (gt g' i).isSome = true ∧ S (π i) a := by
      funext a
      rw [hx]
      simp
    show TR K F H v x (fun a => (gt g' i).isSome = true ∧ S (π i) a)
    rw [← this]
    exact h2
  · obtain ⟨⟨y, b1, b3⟩, b2⟩ := bor i x e hb
    obtain ⟨v, h1, h2⟩ := ok.bd i y b1 b3
    exact ⟨v, h1, b2.trans h2⟩
  · obtain ⟨a1, a2, a3, a4⟩ := al j i k e
    obtain ⟨a, vs, v, h1, h2, h3, h4, h5, h6⟩ := ok.al j i k a1
    exact ⟨a, vs, v, a3.trans h1, h2, h3, h4, a2.trans h5, by rw [a4]; exact h6⟩
theorem gt_append_left {tmp : Ct} {i : Nat} (h : i < g.length) : gt (g ++ tmp) i = gt g i := by
  unfold gt
  rw [List.getElem?_append_left h]
theorem gt_lt {i : Nat} {x : T} (h : gt g i = some x) : i < g.length := by
  unfold gt at h
  cases e : g[i]? with
  | none => rw [e] at h; cases h
  | some c => exact (List.getElem?_eq_some_iff.mp e).1
theorem gt_push {c : Cl} : gt (g ++ [c]) g.length = c.tr := by
  unfold gt
  rw [List.getElem?_append_right (Nat.le_refl _)]
  simp
theorem nt_append_left {tmp : Ct} {i : Nat} (h : i < g.length) : nt (g ++ tmp) i = nt g i := by
  unfold nt
  rw [List.getElem?_append_left h]
theorem nt_lt {i : Nat} {x : T} (h : nt g i = some x) : i < g.length := gt_lt (gt_nt h)
def Tm (tmp : Ct) : Prop := ∀ c ∈ tmp, ∃ x, c = Cl.tm x
theorem nt_tmp {tmp : Ct} (ht : Tm tmp) {i : Nat} {x : T} (h : nt (g ++ tmp) i = some x) : i < g.length := by
  rcases Nat.lt_or_ge i g.length with l | l
  · exact l
  · unfold nt at h
    rw [List.getElem?_append_right l] at h
    cases e : tmp[i - g.length]? with
    | none => rw [e] at h; cases h
    | some c =>
      obtain ⟨y, rfl⟩ := ht c (List.mem_of_getElem? e)
      rw [e] at h
      cases h
/-- only the first slots -/
theorem StT.take {ext : L2.St} {tmp : Ct} (ok : StT K V0 F0 H0 B F H (σ ++ ext) (g ++ tmp)) (l : σ.length = g.length) (ht : Tm tmp) : StT K V0 F0 H0 B F H σ g := by
  refine ok.pick id l (fun i j _ _ e => e) (fun i x hx => ?_) (fun i x hx hb => ?_) (fun j i k e => ?_)
  · have := gt_lt hx
    exact ⟨by rw [id, gt_append_left this]; exact hx, by rw [id, List.getElem?_append_left (by omega)]⟩
  · have := (List.getElem?_eq_some_iff.mp hx).1
    exact ⟨⟨x, by rw [List.getElem?_append_left this]; exact hx, hb⟩, by rw [List.getElem?_append_left (by omega)]⟩
  · have h1 := (List.getElem?_eq_some_iff.mp e).1
    have e' : (g ++ tmp)[j]? = some (Cl.al i k) := by rw [List.getElem?_append_left h1]; exact e
    obtain ⟨_, _, _, _, _, _, _, _, ts, h6⟩ := ok.al j i k e'
    have h2 := nt_tmp ht h6
    exact ⟨e', by rw [List.getElem?_append_left (by omega)], by rw [List.getElem?_append_left (by omega)], by rw [nt_append_left h2]⟩
/-- data on top -/
theorem StT.pushD (ok : StT K V0 F0 H0 B F H σ g) {v : V} {d : D} (h : Dp K F v d) : StT K V0 F0 H0 B F H (σ ++ [some v]) (g ++ [.tm (.dat d)]) := by
  obtain ⟨S, s1, s2, s3, s4⟩ := ok.own
  have lt : ∀ i, gt g i = none → ∀ a, ¬ S i a := s4
  refine ⟨ok.f, ok.h, ok.s, ok.n, by simp [ok.len], ⟨S, fun i x hx => ?_, s2, s3, fun i e => ?_⟩, fun i x e hb => ?_, fun j i k e => ?_⟩
  · rcases Nat.lt_trichotomy i g.length with l | l | l
    · rw [gt_append_left l] at hx
      obtain ⟨v', h1, h2⟩ := s1 i x hx
      exact ⟨v', by rw [List.getElem?_append_left (by rw [ok.len]; exact l)]; exact h1, h2⟩
    · subst l
      rw [gt_push] at hx
      cases hx
      refine ⟨v, by rw [List.getElem?_append_right (by rw [ok.len]; exact Nat.le_refl _)]; simp [ok.len], ?_⟩
      have : S g.length = fun _ => False := by
        funext a
        exact eq_false (s4 _ (by unfold gt; rw [List.getElem?_eq_none (Nat.le_refl _)]; rfl) a)
      rw [this]
      exact .dat h
    · have := gt_lt hx
      simp at this
      omega
  · refine s4 i ?_
    rcases Nat.lt_or_ge i g.length with l | l
    · rw [gt_append_left l] at e
      exact e
    · unfold gt
      rw [List.getElem?_eq_none l]
      rfl
  · have l : i < g.length := by
      rcases Nat.lt_or_ge i g.length with l | l
      · exact l
      · rw [List.getElem?_append_right l] at e
        have : i - g.length = 0 := by
          have := (List.getElem?_eq_some_iff.mp e).1
          simp at this
          omega
        rw [this] at e
        cases e
        cases hb
    rw [List.getElem?_append_left l] at e
    obtain ⟨v', h1, h2⟩ := ok.bd i x e hb
    exact ⟨v', h1, by rw [List.getElem?_append_left (by rw [ok.len]; exact l)]; exact h2⟩
  · have l : j < g.length := by
      rcases Nat.lt_or_ge j g.length with l | l
      · exact l
      · rw [List.getElem?_append_right l] at e
        have : j - g.length = 0 := by
          have := (List.getElem?_eq_some_iff.mp e).1
          simp at this
          omega
        rw [this] at e
        cases e
    rw [List.getElem?_append_left l] at e
    obtain ⟨a, vs, v', h1, h2, h3, h4, h5, ts, h6⟩ := ok.al j i k e
    have li := nt_lt h6
    exact ⟨a, vs, v', by rw [List.getElem?_append_left (by rw [ok.len]; exact li)]; exact h1, h2, h3, h4, by rw [List.getElem?_append_left (by rw [ok.len]; exact l)]; exact h5, ts, by rw [nt_append_left li]; exact h6⟩
/-- a new list, whose items are the data vs -/
theorem StT.topD {ext : L2.St} {tmp : Ct} {v : V} {d : D} (ok : StT K V0 F0 H0 B F H (σ ++ [some v]) (g ++ [.tm (.dat d)])) (l : σ.length = g.length) : Dp K F v d := by
  obtain ⟨S, s1, _, _, _⟩ := ok.own
  obtain ⟨v', h1, h2⟩ := s1 g.length (.dat d) gt_push
  rw [List.getElem?_append_right (by omega)] at h1
  simp [l] at h1
  subst h1
  generalize S g.length = Si at h2
  cases h2 with
  | dat z => exact z
def kil (i : Nat) (g : Ct) : Ct := g.map fun c => match c with
  | .al j k => if j = i then .un else .al j k
  | c => c
theorem kil_get {i j : Nat} : (kil i g)[j]? = (g[j]?).map fun c => match c with
  | .al j k => if j = i then .un else .al j k
  | c => c := by
  unfold kil
  rw [List.getElem?_map]
theorem kil_gt {i j : Nat} : gt (kil i g) j = gt g j := by
  unfold gt
  rw [kil_get]
  cases g[j]? with
  | none => rfl
  | some c =>
    cases c with
    | al a b =>
      show (if a = i then Cl.un else Cl.al a b).tr = _
      split <;> rfl
    | _ => rfl
theorem kil_nt {i j : Nat} : nt (kil i g) j = nt g j := by
  unfold nt
  rw [kil_get]
  cases g[j]? with
  | none => rfl
  | some c =>
    cases c with
    | al a b =>
      show (if a = i then Cl.un else Cl.al a b).nm = _
      split <;> rfl
    | _ => rfl
theorem kil_bd {i j : Nat} {c : Cl} (h : (kil i g)[j]? = some c) (hb : c.bd = true) : g[j]? = some c := by
  rw [kil_get] at h
  cases e : g[j]? with
  | none => rw [e] at h; cases h
  | some c' =>
    rw [e] at h
    cases c' with
    | al a b =>
      have h' : (if a = i then Cl.un else Cl.al a b) = c := Option.some.inj h
      split at h' <;> (subst h'; cases hb)
    | _ => exact h
theorem kil_al {i j a k : Nat} (h : (kil i g)[j]? = some (Cl.al a k)) : g[j]? = some (Cl.al a k) ∧ a ≠ i := by
  rw [kil_get] at h
  cases e : g[j]? with
  | none => rw [e] at h; cases h
  | some c =>
    rw [e] at h
    cases c with
    | al b m =>
      have h' : (if b = i then Cl.un else Cl.al b m) = Cl.al a k := Option.some.inj h
      split at h'
      · cases h'
      · rename_i n
        cases h'
        exact ⟨rfl, n⟩
    | _ => cases h
theorem kil_len {i : Nat} : (kil i g).length = g.length := by unfold kil; rw [List.length_map]
/-- whether a slot may be filled anew -/
def free1 (g : Ct) (i : Nat) : Bool := match g[i]? with
  | some (.b _) => false
  | some .pin => false
  | _ => true
/-- the top goes to slot i -/
theorem StT.setTop {v : V} {x : T} {i : Nat} (ok : StT K V0 F0 H0 B F H (σ ++ [some v]) (g ++ [.tm x])) (l : σ.length = g.length) (hf : free1 g i = true) : StT K V0 F0 H0 B F H (σ.set i (some v)) ((kil i g).set i (.t x)) := by
  have nb : ∀ y, g[i]? ≠ some (Cl.b y) := fun y e => by
    unfold free1 at hf
    rw [e] at hf
    cases hf
  have g1 : ∀ j, gt ((kil i g).set i (.t x)) j = if i = j ∧ i < g.length then some x else gt g j := fun j => by
    by_cases e : i = j
    · subst e
      unfold gt
      by_cases li : i < g.length
      · rw [List.getElem?_set_self (by rw [kil_len]; exact li), if_pos ⟨rfl, li⟩]
        rfl
      · rw [if_neg (fun z => li z.2), List.getElem?_eq_none (by simp [kil_len]; omega), List.getElem?_eq_none (by omega)]
    · rw [if_neg (fun z => e z.1)]
      have : gt ((kil i g).set i (.t x)) j = gt (kil i g) j := by
        unfold gt
        rw [List.getElem?_set_ne e]
      rw [this, kil_gt]
  have n1 : ∀ j, i ≠ j → nt ((kil i g).set i (.t x)) j = nt g j := fun j e => by
    have : nt ((kil i g).set i (.t x)) j = nt (kil i g) j := by
      unfold nt
      rw [List.getElem?_set_ne e]
    rw [this, kil_nt]
  refine ok.pick (fun j => if j = i then g.length else j) (by simp [kil_len, l]) (fun a b ha hb e => ?_) (fun j y hy => ?_) (fun j y hy hb0 => ?_) (fun j a k e => ?_)
  · have la : a < g.length := by
      obtain ⟨y, hy⟩ := Option.isSome_iff_exists.mp ha
      have := gt_lt hy
      simpa [kil_len] using this
    have lb : b < g.length := by
      obtain ⟨y, hy⟩ := Option.isSome_iff_exists.mp hb
      have := gt_lt hy
      simpa [kil_len] using this
    split at e <;> split at e <;> omega
  · rw [g1] at hy
    by_cases e : i = j ∧ i < g.length
    · rw [if_pos e] at hy
      cases hy
      obtain ⟨rfl, li⟩ := e
      rw [if_pos rfl]
      exact ⟨gt_push, by rw [List.getElem?_set_self (by omega), List.getElem?_append_right (by omega)]; simp [l]⟩
    · rw [if_neg e] at hy
      have lj := gt_lt hy
      have ne : j ≠ i := fun z => e ⟨z.symm, by omega⟩
      rw [if_neg ne]
      exact ⟨by rw [gt_append_left lj]; exact hy, by rw [List.getElem?_set_ne (Ne.symm ne), List.getElem?_append_left (by omega)]⟩
  · by_cases e : i = j
    · subst e
      exfalso
      by_cases li : i < g.length
      · rw [List.getElem?_set_self (by rw [kil_len]; exact li)] at hy
        cases hy
        cases hb0
      · rw [List.getElem?_eq_none (by simp [kil_len]; omega)] at hy
        cases hy
    · rw [List.getElem?_set_ne e] at hy
      have hb := kil_bd hy hb0
      have lj := (List.getElem?_eq_some_iff.mp hb).1
      exact ⟨⟨y, by rw [List.getElem?_append_left lj]; exact hb, hb0⟩, by rw [List.getElem?_set_ne e, List.getElem?_append_left (by omega)]⟩
  · by_cases z : i = j
    · subst z
      exfalso
      by_cases li : i < g.length
      · rw [List.getElem?_set_self (by rw [kil_len]; exact li)] at e
        cases e
      · rw [List.getElem?_eq_none (by simp [kil_len]; omega)] at e
        cases e
    · rw [List.getElem?_set_ne z] at e
      obtain ⟨e1, e2⟩ := kil_al e
      have lj := (List.getElem?_eq_some_iff.mp e1).1
      have e' : (g ++ [Cl.tm x])[j]? = some (Cl.al a k) := by rw [List.getElem?_append_left lj]; exact e1
      obtain ⟨_, _, _, _, _, _, _, _, ts, h6⟩ := ok.al j a k e'
      have la := nt_tmp (tmp := [.tm x]) (fun c hc => ⟨x, List.mem_singleton.mp hc⟩) h6
      exact ⟨e', by rw [List.getElem?_set_ne z, List.getElem?_append_left (by omega)], by rw [List.getElem?_set_ne (Ne.symm e2), List.getElem?_append_left (by omega)], by rw [n1 a (Ne.symm e2), nt_append_left la]⟩
end
end MI
set_option Elab.async false
set_option linter.all false
set_option maxRecDepth 100000
set_option maxHeartbeats 4000000
namespace MI
open PySem PySem.Spec PyProof.Rows L2
def repl (y : T) : Cl → Cl
  | .t _ => .t y
  | .b _ => .b y
  | .tm _ => .tm y
  | c => c
def setT (g : Ct) (i : Nat) (y : T) : Ct := match g[i]? with
  | some c => g.set i (repl y c)
  | none => g
theorem sub_one_ {F H : Hp} {r w : V} {p : List Nat} (h : Sub F H r p w) (e : p = []) : w = r := by
  subst e
  cases h
  rfl
section
variable {K : PySem.W.Frag} {V0 V1 : Nat → Option V} {F0 H0 F H F' H' : Hp} {B : Addr → Prop} {σ σ' : L2.St} {g g' : Ct}
theorem setT_len {i : Nat} {y : T} : (setT g i y).length = g.length := by
  unfold setT
  split <;> simp
theorem setT_get {i j : Nat} {y : T} : (setT g i y)[j]? = if j = i then (g[i]?).map (repl y) else g[j]? := by
  unfold setT
  cases e : g[i]? with
  | none =>
    dsimp only
    by_cases q : j = i
    · rw [if_pos q, q, e]; rfl
    · rw [if_neg q]
  | some c =>
    have li := (List.getElem?_eq_some_iff.mp e).1
    dsimp only
    by_cases q : j = i
    · rw [if_pos q, q, List.getElem?_set_self li]; rfl
    · rw [if_neg q, List.getElem?_set_ne (Ne.symm q)]
theorem setT_gt {i j : Nat} {x y : T} (hx : gt g i = some x) : gt (setT g i y) j = if j = i then some y else gt g j := by
  unfold gt at hx ⊢
  rw [setT_get]
  by_cases q : j = i
  · rw [if_pos q, if_pos q]
    cases e : g[i]? with
    | none => rw [e] at hx; cases hx
    | some c => rw [e] at hx; cases c <;> first | rfl | cases hx
  · rw [if_neg q, if_neg q]
theorem setT_nt {i j : Nat} {x y : T} (hx : nt g i = some x) : nt (setT g i y) j = if j = i then some y else nt g j := by
  unfold nt at hx ⊢
  rw [setT_get]
  by_cases q : j = i
  · rw [if_pos q, if_pos q]
    cases e : g[i]? with
    | none => rw [e] at hx; cases hx
    | some c => rw [e] at hx; cases c <;> first | rfl | cases hx
  · rw [if_neg q, if_neg q]
theorem setT_nt_ne {i j : Nat} {y : T} (q : j ≠ i) : nt (setT g i y) j = nt g j := by
  unfold nt
  rw [setT_get, if_neg q]
theorem setT_al {i j a k : Nat} {y : T} (h : (setT g i y)[j]? = some (Cl.al a k)) : g[j]? = some (Cl.al a k) := by
  rw [setT_get] at h
  by_cases q : j = i
  · rw [if_pos q] at h
    rw [q]
    cases e : g[i]? with
    | none => rw [e] at h; cases h
    | some c => rw [e] at h; cases c <;> first | exact h | cases h
  · rw [if_neg q] at h
    exact h
theorem setT_bd {i j : Nat} {c : Cl} {y : T} (h : (setT g i y)[j]? = some c) (hb : c.bd = true) : ∃ z, g[j]? = some z ∧ z.bd = true := by
  rw [setT_get] at h
  by_cases q : j = i
  · rw [if_pos q] at h
    rw [q]
    cases e : g[i]? with
    | none => rw [e] at h; cases h
    | some c' =>
      rw [e] at h
      cases c' <;> first | (cases h; exact ⟨_, rfl, hb⟩) | (cases h; exact ⟨_, rfl, rfl⟩)
  · rw [if_neg q] at h
    exact ⟨c, h, hb⟩
/-- a list at a place within slot i's tree changes -/
theorem StT.write (ok : StT K V0 F0 H0 B F H σ g) {i : Nat} {x : T} {p : List Nat} {ts : List T} (hx : gt g i = some x) (hp : x.get p = some (.lst ts)) :
    ∃ (r : V) (a : Addr) (vs : List V) (Sc : Addr → Prop), σ[i]? = some (some r) ∧ Sub F H r p (.ref a) ∧ H a = some (.lst vs) ∧ TRs K F H vs ts Sc ∧
      ∀ (vs' : List V) (ts' : List T) (Sc' : Addr → Prop), TRs K F H vs' ts' Sc' → (∀ b, Sc' b → Sc b) → (p = [] → ∀ (j k : Nat), g[j]? = some (Cl.al i k) → vs'[k]? = vs[k]?) → StT K V0 F0 H0 B F (upd H a (.lst vs')) σ (setT g i (x.put p (.lst ts'))) := by
  obtain ⟨S, s1, s2, s3, s4⟩ := ok.own
  obtain ⟨r, hr, tr⟩ := s1 i x hx
  obtain ⟨w, S1, O, f1, f2, f3, f4, f6, f5⟩ := tr_focus p tr hp
  generalize hS1 : S1 = S1' at f2
  cases f2 with
  | @lst a vs _ Sc q1 q2 q3 q4 =>
    subst hS1
    refine ⟨r, a, vs, Sc, hr, f1, q1, q3, fun vs' ts' Sc' h' hsub hal => ?_⟩
    have aS : S i a := (f3 a).mpr (.inl (.inl rfl))
    have h2 : TRs K F (upd H a (.lst vs')) vs' ts' Sc' := trs_mono (Same.refl F) h' fun b hb => ⟨upd_ne (fun e => q4 (e ▸ hsub b hb)), (trs_own h' b hb).choose_spec.2.1⟩
    have Sc'a : ¬ Sc' a := fun z => q4 (hsub a z)
    obtain ⟨S', t1, t2⟩ := f5 (Same.refl F) (fun b hb => ⟨upd_ne (fun e => f4 b (.inl e) hb), (tr_own tr b ((f3 b).mpr (.inr hb))).choose_spec.2.1⟩) (TR.lst (a := a) upd_same q2 h2 Sc'a) (fun b hb hO => by
      rcases hb with hb | hb
      · exact f4 b (.inl hb) hO
      · exact f4 b (.inr (hsub b hb)) hO)
    have sub' : ∀ b, S' b → S i b := fun b hb => by
      rcases (t2 b).mp hb with (z | z) | z
      · exact (f3 b).mpr (.inl (.inl z))
      · exact (f3 b).mpr (.inl (.inr (hsub b z)))
      · exact (f3 b).mpr (.inr z)
    refine ⟨ok.f, fun b o nb e => ?_, fun b o e => ?_, ok.n, by rw [setT_len]; exact ok.len, ⟨fun j => if j = i then S' else S j, fun j y hy => ?_, fun j b hb => ?_, fun j k b hj hk => ?_, fun j hj b hb => ?_⟩, fun j y hy hyb => ?_, fun j m k e => ?_⟩
    · have : b ≠ a := fun z => by
        subst z
        rcases s2 i b aS with z | z
        · exact nb z
        · rw [z] at e; cases e
      rw [upd_ne this]
      exact ok.h b o nb e
    · have : b ≠ a := fun z => by
        subst z
        rw [q2] at e; cases e
      rw [upd_ne this]
      exact ok.s b o e
    · rw [setT_gt hx] at hy
      by_cases z : j = i
      · rw [if_pos z] at hy
        cases hy
        refine ⟨r, by rw [z]; exact hr, ?_⟩
        show TR K F _ r _ (if j = i then S' else S j)
        rw [if_pos z]
        exact t1
      · rw [if_neg z] at hy
        show ∃ v, _ ∧ TR K F _ v y (if j = i then S' else S j)
        rw [if_neg z]
        obtain ⟨v, h1, h2⟩ := s1 j y hy
        exact ⟨v, h1, tr_mono (Same.refl F) h2 fun b hb => ⟨upd_ne (fun e => z (s3 j i b hb (e ▸ aS))), (tr_own h2 b hb).choose_spec.2.1⟩⟩
    · dsimp only at hb
      split at hb
      · exact s2 i b (sub' b hb)
      · exact s2 j b hb
    · dsimp only at hj hk
      split at hj
      · rename_i e1
        split at hk
        · rename_i e2; rw [e1, e2]
        · rw [e1]; exact s3 i k b (sub' b hj) hk
      · split at hk
        · rename_i e2; rw [e2]; exact s3 j i b hj (sub' b hk)
        · exact s3 j k b hj hk
    · rw [setT_gt hx] at hj
      split at hj
      · cases hj
      · rename_i z
        rw [if_neg z] at hb
        exact s4 j hj b hb
    · obtain ⟨z, hz, hzb⟩ := setT_bd hy hyb
      exact ok.bd j z hz hzb
    · have e0 := setT_al e
      obtain ⟨a', vs0, v, h1, h2, h3, h4, h5, ts0, h6⟩ := ok.al j m k e0
      by_cases z : m = i
      · subst z
        have hx' := h6
        rw [gt_nt h6] at hx
        cases hx
        rw [hr] at h1
        cases h1
        cases p with
        | nil =>
          have := sub_one_ f1 rfl
          cases this
          rw [q1] at h2
          cases h2
          exact ⟨a, vs', v, hr, upd_same, q2, (hal rfl j k e0).trans h4, h5, ts', by rw [setT_nt hx', if_pos rfl, T.put_nil]⟩
        | cons c q =>
          have ne : a' ≠ a := fun e => f6 a' ts0 rfl rfl (List.cons_ne_nil _ _) (.inl e)
          refine ⟨a', vs0, v, hr, by rw [upd_ne ne]; exact h2, h3, h4, h5, ?_⟩
          rw [setT_nt hx', if_pos rfl]
          unfold T.put
          split
          · exact ⟨_, rfl⟩
          · exact ⟨_, rfl⟩
      · obtain ⟨v', w1, w2⟩ := s1 m _ (gt_nt h6)
        rw [h1] at w1
        cases w1
        generalize hSm : S m = Sm at w2
        cases w2 with
        | lst y1 y2 y3 y4 =>
          have ne : a' ≠ a := fun e => z (s3 m i a' (by rw [hSm]; exact .inl rfl) (e ▸ aS))
          exact ⟨a', vs0, v, h1, by rw [upd_ne ne]; exact h2, h3, h4, h5, ts0, by rw [setT_nt_ne z]; exact h6⟩
/-- the tops become data and go -/
theorem StT.tops' {vs : List V} {ts : List T} (ok : StT K V0 F0 H0 B F H (σ ++ vs.map some) (g ++ ts.map Cl.tm)) (l : σ.length = g.length) : ∃ F1, Same F F1 ∧ StT K V0 F0 H0 B F1 H σ g ∧ DpAll K F1 vs (fzL ts) ∧ ∀ (j : Nat) (us : List T) (v : V), ts[j]? = some (.lst us) → vs[j]? = some v → ∃ b ws, v = .ref b ∧ H b = some (.lst ws) ∧ DpAll K F1 ws (fzL us) := by
  classical
  obtain ⟨S, s1, s2, s3, s4⟩ := ok.own
  let P : Addr → Prop := fun a => ∃ i, g.length ≤ i ∧ S i a
  let F1 : Hp := fun a => if P a then H a else F a
  have ow : ∀ i a, S i a → ∃ o, H a = some o ∧ F a = none := fun i a q => by
    cases e : gt (g ++ ts.map Cl.tm) i with
    | none => exact (s4 i e a q).elim
    | some x =>
      obtain ⟨v, _, h2⟩ := s1 i x e
      obtain ⟨o, a1, a2, _⟩ := tr_own h2 a q
      exact ⟨o, a1, a2⟩
  have f1 : Same F F1 := fun a o e => by
    show (if P a then H a else F a) = _
    by_cases h : P a
    · obtain ⟨i, _, q⟩ := h
      obtain ⟨_, _, z⟩ := ow i a q
      rw [z] at e; cases e
    · rw [if_neg h]; exact e
  have f1s : Same F1 H := fun a o e => by
    have e' : (if P a then H a else F a) = some o := e
    by_cases h : P a
    · rw [if_pos h] at e'; exact e'
    · rw [if_neg h] at e'; exact ok.s _ _ e'
  have out : ∀ i a, i < g.length → S i a → F1 a = none := fun i a li q => by
    show (if P a then H a else F a) = _
    rw [if_neg]
    · exact (ow i a q).choose_spec.2
    · rintro ⟨j, lj, q'⟩
      have := s3 i j a q q'
      omega
  have lens : vs.length = ts.length := by
    have := ok.len
    simp at this
    omega
  have topAt : ∀ (j : Nat) (v : V) (x : T), vs[j]? = some v → ts[j]? = some x → TR K F H v x (S (g.length + j)) := fun j v x hv hx => by
    obtain ⟨v', h1, h2⟩ := s1 (g.length + j) x (by
      unfold gt
      rw [List.getElem?_append_right (by omega)]
      simp [hx, Cl.tr])
    rw [List.getElem?_append_right (by omega)] at h1
    rw [show g.length + j - σ.length = j by omega, List.getElem?_map, hv] at h1
    cases h1
    exact h2
  refine ⟨F1, f1, ?_, ?_, fun j us v hx hv => ?_⟩
  · have tk := ok.take l (fun c hc => by
      obtain ⟨x, _, e⟩ := List.mem_map.mp hc
      exact ⟨x, e.symm⟩)
    refine ⟨ok.f.trans f1, ok.h, f1s, fun a o e n => ?_, l, ⟨fun i a => i < g.length ∧ S i a, fun i x hx => ?_, fun i a q => s2 i a q.2, fun i j a q r => s3 i j a q.2 r.2, fun i e a q => ?_⟩, tk.bd, fun j i k e => ?_⟩
    · have e' : (if P a then H a else F a) = some o := e
      by_cases h : P a
      · obtain ⟨i, _, q⟩ := h
        exact (s2 i a q).elim .inr fun z => .inl (.inl z)
      · rw [if_neg h] at e'
        exact ok.n a o e' n
    · have li := gt_lt hx
      obtain ⟨v, h1, h2⟩ := s1 i x (by rw [gt_append_left li]; exact hx)
      rw [List.getElem?_append_left (by omega)] at h1
      refine ⟨v, h1, ?_⟩
      have : (fun a => i < g.length ∧ S i a) = S i := by
        funext a
        simp [li]
      show TR K F1 H v x (fun a => i < g.length ∧ S i a)
      rw [this]
      exact tr_mono f1 h2 fun a q => ⟨rfl, out i a li q⟩
    · exact s4 i (by rw [gt_append_left q.1]; exact e) a q.2
    · obtain ⟨a, us, v, h1, h2, h3, h4, h5, ts0, h6⟩ := tk.al j i k e
      have li := nt_lt h6
      obtain ⟨v', w1, w2⟩ := s1 i _ (by rw [gt_append_left li]; exact gt_nt h6)
      rw [List.getElem?_append_left (by omega), h1] at w1
      cases w1
      generalize hSi : S i = Si at w2
      cases w2 with
      | lst y1 y2 y3 y4 =>
        exact ⟨a, us, v, h1, h2, out i a li (by rw [hSi]; exact .inl rfl), h4, h5, ts0, h6⟩
  · have key : ∀ (k : Nat) (vs : List V) (ts : List T), vs.length = ts.length → (∀ (j : Nat) (v : V) (x : T), vs[j]? = some v → ts[j]? = some x → ∃ i, g.length ≤ i ∧ TR K F H v x (S i)) → DpAll K F1 vs (fzL ts) := by
      intro k vs
      induction vs with
      | nil => intro ts hl _; cases ts with
        | nil => exact .nil
        | cons a b => simp at hl
      | cons v vs ih =>
        intro ts hl h
        cases ts with
        | nil => simp at hl
        | cons x ts =>
          obtain ⟨i, li, h2⟩ := h 0 v x rfl rfl
          refine .cons (tr_fz f1 h2 fun a q => ?_) (ih ts (by simpa using hl) fun j v x hv hx => h (j + 1) v x (by simpa using hv) (by simpa using hx))
          show (if P a then H a else F a) = _
          rw [if_pos ⟨i, li, q⟩]
    exact key 0 vs ts lens fun j v x hv hx => ⟨g.length + j, by omega, topAt j v x hv hx⟩
  · have h2 := topAt j v _ hv hx
    generalize hSj : S (g.length + j) = Sj at h2
    cases h2 with
    | @lst b ws _ Sc q1 q2 q3 q4 =>
      refine ⟨b, ws, rfl, q1, trs_fz f1 q3 fun a q => ?_⟩
      show (if P a then H a else F a) = _
      rw [if_pos ⟨g.length + j, by omega, by rw [hSj]; exact .inr q⟩]
theorem StT.tops {vs : List V} {ts : List T} (ok : StT K V0 F0 H0 B F H (σ ++ vs.map some) (g ++ ts.map Cl.tm)) (l : σ.length = g.length) : ∃ F1, Same F F1 ∧ StT K V0 F0 H0 B F1 H σ g ∧ DpAll K F1 vs (fzL ts) := by
  obtain ⟨F1, h1, h2, h3, _⟩ := ok.tops' l
  exact ⟨F1, h1, h2, h3⟩
/-- slot i's own tree becomes data -/
theorem StT.fzAt {i : Nat} {x : T} (ok : StT K V0 F0 H0 B F H σ g) (hx : g[i]? = some (.t x)) : ∃ F1, Same F F1 ∧ StT K V0 F0 H0 B F1 H σ ((kil i g).set i (.t (.dat (fz x)))) := by
  classical
  obtain ⟨S, s1, s2, s3, s4⟩ := ok.own
  let F1 : Hp := fun a => if S i a then H a else F a
  have gi := gt_of (.inl hx)
  have li := gt_lt gi
  obtain ⟨w, hw, tw⟩ := s1 i x gi
  have f1 : Same F F1 := fun a o e => by
    show (if S i a then H a else F a) = _
    by_cases h : S i a
    · obtain ⟨_, _, z, _⟩ := tr_own tw a h
      rw [z] at e; cases e
    · rw [if_neg h]; exact e
  have f1s : Same F1 H := fun a o e => by
    have e' : (if S i a then H a else F a) = some o := e
    by_cases h : S i a
    · rw [if_pos h] at e'; exact e'
    · rw [if_neg h] at e'; exact ok.s _ _ e'
  have out : ∀ j a, j ≠ i → S j a → F a = none → F1 a = none := fun j a lj q z => by
    show (if S i a then H a else F a) = _
    rw [if_neg (fun r => lj (s3 j i a q r))]
    exact z
  have g1 : ∀ j, gt ((kil i g).set i (.t (.dat (fz x)))) j = if j = i then some (.dat (fz x)) else gt g j := fun j => by
    by_cases e : j = i
    · subst e
      unfold gt
      rw [if_pos rfl, List.getElem?_set_self (by rw [kil_len]; exact li)]
      rfl
    · rw [if_neg e]
      have : gt ((kil i g).set i (.t (.dat (fz x)))) j = gt (kil i g) j := by
        unfold gt
        rw [List.getElem?_set_ne (Ne.symm e)]
      rw [this, kil_gt]
  refine ⟨F1, f1, ok.f.trans f1, ok.h, f1s, fun a o e n => ?_, by simp [kil_len, ok.len], ⟨fun j a => j ≠ i ∧ S j a, fun j y hy => ?_, fun j a q => s2 j a q.2, fun j k a q r => s3 j k a q.2 r.2, fun j e a q => ?_⟩, fun j y hy hyb => ?_, fun j m k e => ?_⟩
  · have e' : (if S i a then H a else F a) = some o := e
    by_cases h : S i a
    · exact (s2 i a h).elim .inr fun z => .inl (.inl z)
    · rw [if_neg h] at e'
      exact ok.n a o e' n
  · rw [g1] at hy
    by_cases e : j = i
    · subst e
      rw [if_pos rfl] at hy
      cases hy
      refine ⟨w, hw, ?_⟩
      have : (fun a => j ≠ j ∧ S j a) = fun _ => False := by
        funext a
        simp
      show TR K F1 H w _ (fun a => j ≠ j ∧ S j a)
      rw [this]
      exact .dat (tr_fz f1 tw fun a q => if_pos q)
    · rw [if_neg e] at hy
      obtain ⟨v, h1, h2⟩ := s1 j y hy
      refine ⟨v, h1, ?_⟩
      have : (fun a => j ≠ i ∧ S j a) = S j := by
        funext a
        simp [e]
      show TR K F1 H v y (fun a => j ≠ i ∧ S j a)
      rw [this]
      exact tr_mono f1 h2 fun a q => ⟨rfl, out j a e q (tr_own h2 a q).choose_spec.2.1⟩
  · rw [g1, if_neg q.1] at e
    exact s4 j e a q.2
  · by_cases e : j = i
    · subst e
      rw [List.getElem?_set_self (by rw [kil_len]; exact li)] at hy
      cases hy
      cases hyb
    · rw [List.getElem?_set_ne (Ne.symm e)] at hy
      exact ok.bd j y (kil_bd hy hyb) hyb
  · by_cases z : j = i
    · subst z
      rw [List.getElem?_set_self (by rw [kil_len]; exact li)] at e
      cases e
    · rw [List.getElem?_set_ne (Ne.symm z)] at e
      obtain ⟨e1, e2⟩ := kil_al e
      obtain ⟨a, us, v, h1, h2, h3, h4, h5, ts0, h6⟩ := ok.al j m k e1
      obtain ⟨v', w1, w2⟩ := s1 m _ (gt_nt h6)
      rw [h1] at w1
      cases w1
      generalize hSm : S m = Sm at w2
      cases w2 with
      | lst y1 y2 y3 y4 =>
        refine ⟨a, us, v, h1, h2, out m a e2 (by rw [hSm]; exact .inl rfl) h3, h4, h5, ts0, ?_⟩
        have : nt ((kil i g).set i (.t (.dat (fz x)))) m = nt (kil i g) m := by
          unfold nt
          rw [List.getElem?_set_ne (Ne.symm e2)]
        rw [this, kil_nt]
        exact h6
end
end MI
set_option Elab.async false
set_option linter.all false
set_option maxRecDepth 100000
set_option maxHeartbeats 4000000
namespace MI
open PySem PySem.Spec PyProof.Rows L2
inductive RG (α : Type) where
  | ok (a : α) (g : Ct)
  | exc (c : Str) (p : Option D) (g : Ct)
  | bad
def RG.bind {α β : Type} (x : RG α) (f : α → Ct → RG β) : RG β := match x with
  | .ok a g => f a g
  | .exc c p g => .exc c p g
  | .bad => .bad
@[simp] theorem RG.bind_ok {α β : Type} (a : α) (g : Ct) (f : α → Ct → RG β) : (RG.ok a g).bind f = f a g := Eq.trans rfl rfl
@[simp] theorem RG.bind_exc {α β : Type} (c : Str) (p : Option D) (g : Ct) (f : α → Ct → RG β) : (RG.exc c p g : RG α).bind f = .exc c p g := Eq.trans rfl rfl
@[simp] theorem RG.bind_bad {α β : Type} (f : α → Ct → RG β) : (RG.bad : RG α).bind f = .bad := Eq.trans rfl rfl
/-- a result over data, the slots as they were -/
def RG.of {α : Type} (x : R α) (g : Ct) : RG α := match x with
  | .ok a => .ok a g
  | .exc c p => .exc c p g
  | .bad => .bad
abbrev XM := Ct → RG T
abbrev XA := Ct → RG (List T)
abbrev XT := Ct → RG Bool
/-- where an expression is reckoned: the slots, and what lies upon them -/
structure At (K : PySem.W.Frag) (V0 : Nat → Option V) (F0 H0 : Hp) (B : Addr → Prop) (ext : L2.St) (tmp : Ct) (F H : Hp) (σ : L2.St) (g : Ct) : Prop where
  st : StT K V0 F0 H0 B F H (σ ++ ext) (g ++ tmp)
  l : σ.length = g.length
  tm : Tm tmp
theorem VwOk.pre {K : PySem.W.Frag} {F : Hp} {σ τ : L2.St} {δ η : Vw} (h : VwOk K F τ η) (l : δ.length ≤ σ.length) (hd : ∀ (i : Nat) (d : D), δ[i]? = some (some d) → η[i]? = some (some d)) (hs : ∀ i, i < σ.length → σ[i]? = τ[i]?) : VwOk K F σ δ :=
  ⟨l, fun i d q => by
    obtain ⟨v, h1, h2⟩ := h.2 i d (hd i d q)
    have li := (List.getElem?_eq_some_iff.mp q).1
    exact ⟨v, by rw [hs i (by omega)]; exact h1, h2⟩⟩
theorem vd_pre {g tmp : Ct} {i : Nat} {d : D} (h : (tvd g)[i]? = some (some d)) : (tvd (g ++ tmp))[i]? = some (some d) := by
  unfold tvd at h ⊢
  rw [List.getElem?_map] at h ⊢
  cases e : g[i]? with
  | none => rw [e] at h; cases h
  | some c =>
    rw [e] at h
    have li := (List.getElem?_eq_some_iff.mp e).1
    rw [List.getElem?_append_left li, e]
    have h' : Cl.vd g c = some d := by simpa using h
    cases c with
    | al j k =>
      unfold Cl.vd at h'
      dsimp only at h'
      split at h'
      · rename_i ts ht
        show some (Cl.vd (g ++ tmp) (.al j k)) = _
        unfold Cl.vd
        dsimp only
        rw [nt_append_left (nt_lt ht), ht]
        exact congrArg some h'
      · cases h'
    | t x => cases x <;> first | exact congrArg some h' | cases h'
    | b x => cases x <;> first | exact congrArg some h' | cases h'
    | un => cases h'
    | pin => cases h'
    | tm x => cases h'
theorem va_pre {g tmp : Ct} {i : Nat} {d : D} (h : (tva g)[i]? = some (some d)) : (tva (g ++ tmp))[i]? = some (some d) := by
  unfold tva at h ⊢
  rw [List.getElem?_map] at h ⊢
  cases e : g[i]? with
  | none => rw [e] at h; cases h
  | some c =>
    rw [e] at h
    have li := (List.getElem?_eq_some_iff.mp e).1
    rw [List.getElem?_append_left li, e]
    have h' : Cl.va g c = some d := by simpa using h
    cases c with
    | al j k =>
      unfold Cl.va at h'
      dsimp only at h'
      split at h'
      · rename_i ts ht
        show some (Cl.va (g ++ tmp) (.al j k)) = _
        unfold Cl.va
        dsimp only
        rw [nt_append_left (nt_lt ht), ht]
        exact congrArg some h'
      · cases h'
    | t x => exact congrArg some h'
    | b x => exact congrArg some h'
    | un => cases h'
    | pin => cases h'
    | tm x => cases h'
section
variable {K : PySem.W.Frag} {V0 : Nat → Option V} {F0 H0 F H F' H' : Hp} {B : Addr → Prop} {σ ext : L2.St} {g tmp : Ct}
theorem At.mono (a : At K V0 F0 H0 B ext tmp F H σ g) (E : Ext F H F' H') : At K V0 F0 H0 B ext tmp F' H' σ g := ⟨a.st.mono E, a.l, a.tm⟩
theorem At.s (a : At K V0 F0 H0 B ext tmp F H σ g) : Same F H := a.st.s
theorem At.vd (a : At K V0 F0 H0 B ext tmp F H σ g) : VwOk K F σ (tvd g) :=
  a.st.vd.pre (by unfold tvd; rw [List.length_map, a.l]; exact Nat.le_refl _) (fun i d h => vd_pre h) fun i h => (List.getElem?_append_left h).symm
theorem At.va (a : At K V0 F0 H0 B ext tmp F H σ g) : ∃ F1, Same F1 H ∧ Same F F1 ∧ VwOk K F1 σ (tva g) ∧
    ∀ F' H', Ext F1 H F' H' → ∃ F2, At K V0 F0 H0 B ext tmp F2 H' σ g ∧ Same F F2 ∧ (∀ d v, Dp K F' v d → flat d = true → Dp K F2 v d) ∧ ∀ b o, F' b = some o → ¬ OwnO o → F2 b = some o := by
  obtain ⟨F1, h1, h2, h3, h4⟩ := a.st.va
  refine ⟨F1, h1, h2, h3.pre (by unfold tva; rw [List.length_map, a.l]; exact Nat.le_refl _) (fun i d h => va_pre h) fun i h => (List.getElem?_append_left h).symm, fun F' H' E => ?_⟩
  obtain ⟨F2, q1, q2, q3, q4⟩ := h4 F' H' E
  exact ⟨F2, ⟨q1, a.l, a.tm⟩, q2, q3, q4⟩
theorem At.push {v : V} {d : D} (a : At K V0 F0 H0 B ext tmp F H σ g) (h : Dp K F v d) : At K V0 F0 H0 B (ext ++ [some v]) (tmp ++ [.tm (.dat d)]) F H σ g := by
  refine ⟨?_, a.l, fun c hc => ?_⟩
  · rw [← List.append_assoc, ← List.append_assoc]
    exact a.st.pushD h
  · rcases List.mem_append.mp hc with hc | hc
    · exact a.tm c hc
    · exact ⟨_, List.mem_singleton.mp hc⟩
theorem tm_map {ts : List T} : Tm (ts.map Cl.tm) := fun c hc => by
  obtain ⟨x, _, e⟩ := List.mem_map.mp hc
  exact ⟨x, e.symm⟩
theorem At.tops {vs : List V} {ts : List T} (ht : Tm tmp) (a : At K V0 F0 H0 B (ext ++ vs.map some) (tmp ++ ts.map Cl.tm) F H σ g) (hl : ext.length = tmp.length) : ∃ F1, Same F F1 ∧ At K V0 F0 H0 B ext tmp F1 H σ g ∧ DpAll K F1 vs (fzL ts) := by
  have st := a.st
  rw [← List.append_assoc, ← List.append_assoc] at st
  obtain ⟨F1, h1, h2, h3⟩ := st.tops (by simp [a.l, hl])
  exact ⟨F1, h1, ⟨h2, a.l, ht⟩, h3⟩
theorem At.len (a : At K V0 F0 H0 B ext tmp F H σ g) : ext.length = tmp.length := by
  have := a.st.len
  simp [a.l] at this
  exact this
end
section
variable (X : Cx) (W : WX) (V0 : Nat → Option V) (F0 H0 : Hp) (B : Addr → Prop) (ext : L2.St) (tmp : Ct) (σ : L2.St)
def XPost (Q : VK) : RG T → Prop
  | .ok t g => ∀ v F H, At X.K V0 F0 H0 B (ext ++ [some v]) (tmp ++ [.tm t]) F H σ g → Q v H
  | .exc c p g => ∀ cls od F H, At X.K V0 F0 H0 B ext tmp F H σ g → XV X.K X.mg F c p cls od → W cls od σ H
  | .bad => False
def XPostA (Q : List V → Hp → Prop) : RG (List T) → Prop
  | .ok ts g => ∀ vs F H, At X.K V0 F0 H0 B (ext ++ vs.map some) (tmp ++ ts.map Cl.tm) F H σ g → Q vs H
  | .exc c p g => ∀ cls od F H, At X.K V0 F0 H0 B ext tmp F H σ g → XV X.K X.mg F c p cls od → W cls od σ H
  | .bad => False
def XPostB (Q : Bool → Hp → Prop) : RG Bool → Prop
  | .ok b g => ∀ F H, At X.K V0 F0 H0 B ext tmp F H σ g → Q b H
  | .exc c p g => ∀ cls od F H, At X.K V0 F0 H0 B ext tmp F H σ g → XV X.K X.mg F c p cls od → W cls od σ H
  | .bad => False
end
def tX (X : Cx) (W : WX) (m : XM) : TE := fun σ H Q => ∃ V0 F0 H0 B ext tmp F g, At X.K V0 F0 H0 B ext tmp F H σ g ∧ XPost X W V0 F0 H0 B ext tmp σ Q (m g)
def tXA (X : Cx) (W : WX) (m : XA) : TA := fun σ H Q => ∃ V0 F0 H0 B ext tmp F g, At X.K V0 F0 H0 B ext tmp F H σ g ∧ XPostA X W V0 F0 H0 B ext tmp σ Q (m g)
def tXT (X : Cx) (W : WX) (m : XT) : TT := fun σ H Q => ∃ V0 F0 H0 B ext tmp F g, At X.K V0 F0 H0 B ext tmp F H σ g ∧ XPostB X W V0 F0 H0 B ext tmp σ Q (m g)
abbrev MX (X : Cx) (W : WX) (e : Expr) (m : XM) : Prop := PE X e (tX X W m)
abbrev MXA (X : Cx) (W : WX) (es : List Expr) (m : XA) : Prop := PA X es (tXA X W m)
abbrev MXT (X : Cx) (W : WX) (e : Expr) (m : XT) : Prop := PT X e (tXT X W m)
def xP (m : M) : XM := fun g => (RG.of (m (tvd g)) g).bind fun d g => .ok (.dat d) g
def xV (m : M) : XM := fun g => match m (tva g) with
  | .ok d => if flat d = true then .ok (.dat d) g else .bad
  | .exc c p => if flatO p = true then .exc c p g else .bad
  | .bad => .bad
def xTP (m : Vw → R Bool) : XT := fun g => match m (tva g) with
  | .ok b => .ok b g
  | .exc c p => if flatO p = true then .exc c p g else .bad
  | .bad => .bad
section
variable {X : Cx} {W : WX} {e : Expr}
theorem mx_p {m : M} (he : ME X W e m) : MX X W e (xP m) := by
  refine PE.imp he fun σ H Q ⟨V0, F0, H0, B, ext, tmp, F, g, a, h⟩ => ⟨F, tvd g, a.s, a.vd, ?_⟩
  unfold xP at h
  cases em : m (tvd g) with
  | ok d => rw [em] at h; exact fun v F' H' E hd => h v F' H' ((a.mono E).push hd)
  | exc c p => rw [em] at h; exact fun cls od F' H' E x => h cls od F' H' (a.mono E) x
  | bad => rw [em] at h; exact h
theorem mx_v {m : M} (he : ME X W e m) : MX X W e (xV m) := by
  refine PE.imp he fun σ H Q ⟨V0, F0, H0, B, ext, tmp, F, g, a, h⟩ => ?_
  obtain ⟨F1, s1, s2, vw, th⟩ := a.va
  refine ⟨F1, tva g, s1, vw, ?_⟩
  unfold xV at h
  cases em : m (tva g) with
  | ok d =>
    rw [em] at h
    dsimp only at h
    split at h
    · rename_i fl
      intro v F' H' E hd
      obtain ⟨F2, a2, _, q, _⟩ := th F' H' E
      exact h v F2 H' (a2.push (q d v hd fl))
    · exact h.elim
  | exc c p =>
    rw [em] at h
    dsimp only at h
    split at h
    · rename_i fl
      intro cls od F' H' E x
      obtain ⟨F2, a2, _, _, q⟩ := th F' H' E
      exact h cls od F2 H' a2 (xv_flatO x fl q)
    · exact h.elim
  | bad => rw [em] at h; exact h
theorem mxt_p {m : Vw → R Bool} (he : MT X W e m) : MXT X W e (xTP m) := by
  refine PT.imp he fun σ H Q ⟨V0, F0, H0, B, ext, tmp, F, g, a, h⟩ => ?_
  obtain ⟨F1, s1, s2, vw, th⟩ := a.va
  refine ⟨F1, tva g, s1, vw, ?_⟩
  unfold xTP at h
  cases em : m (tva g) with
  | ok b =>
    rw [em] at h
    intro F' H' E
    obtain ⟨F2, a2, _⟩ := th F' H' E
    exact h F2 H' a2
  | exc c p =>
    rw [em] at h
    dsimp only at h
    split at h
    · rename_i fl
      intro cls od F' H' E x
      obtain ⟨F2, a2, _, _, q⟩ := th F' H' E
      exact h cls od F2 H' a2 (xv_flatO x fl q)
    · exact h.elim
  | bad => rw [em] at h; exact h
end
def xOf (o : Option D) (g : Ct) : RG T := match o with
  | some d => .ok (.dat d) g
  | none => .bad
def xBin (f : D → D → Option D) (a b : XM) : XM := fun g => (a g).bind fun t g1 => (b g1).bind fun u g2 => xOf (f (fz t) (fz u)) g2
def xUn (f : D → Option D) (a : XM) : XM := fun g => (a g).bind fun t g1 => xOf (f (fz t)) g1
section
variable {X : Cx} {W : WX} {V0 : Nat → Option V} {F0 H0 : Hp} {B : Addr → Prop} {ext : L2.St} {tmp : Ct} {σ : L2.St} {F H : Hp} {g : Ct}
/-- an expression, then what follows -/
theorem tX_bind {m : XM} {f : T → Ct → RG T} {Q P : VK} (a : At X.K V0 F0 H0 B ext tmp F H σ g) (h : XPost X W V0 F0 H0 B ext tmp σ Q ((m g).bind f))
    (k : ∀ t v g1 F1 H1, m g = .ok t g1 → At X.K V0 F0 H0 B (ext ++ [some v]) (tmp ++ [.tm t]) F1 H1 σ g1 → XPost X W V0 F0 H0 B ext tmp σ Q (f t g1) → P v H1) : tX X W m σ H P := by
  refine ⟨V0, F0, H0, B, ext, tmp, F, g, a, ?_⟩
  cases e : m g with
  | ok t g1 => rw [e] at h; exact fun v F1 H1 a1 => k t v g1 F1 H1 e a1 h
  | exc c p g1 => rw [e] at h; exact h
  | bad => rw [e] at h; exact h
theorem tX_bindB {m : XM} {f : T → Ct → RG Bool} {Q : Bool → Hp → Prop} {P : VK} (a : At X.K V0 F0 H0 B ext tmp F H σ g) (h : XPostB X W V0 F0 H0 B ext tmp σ Q ((m g).bind f))
    (k : ∀ t v g1 F1 H1, m g = .ok t g1 → At X.K V0 F0 H0 B (ext ++ [some v]) (tmp ++ [.tm t]) F1 H1 σ g1 → XPostB X W V0 F0 H0 B ext tmp σ Q (f t g1) → P v H1) : tX X W m σ H P := by
  refine ⟨V0, F0, H0, B, ext, tmp, F, g, a, ?_⟩
  cases e : m g with
  | ok t g1 => rw [e] at h; exact fun v F1 H1 a1 => k t v g1 F1 H1 e a1 h
  | exc c p g1 => rw [e] at h; exact h
  | bad => rw [e] at h; exact h
theorem tXA_bind {m : XA} {f : List T → Ct → RG T} {Q : VK} {P : List V → Hp → Prop} (a : At X.K V0 F0 H0 B ext tmp F H σ g) (h : XPost X W V0 F0 H0 B ext tmp σ Q ((m g).bind f))
    (k : ∀ ts vs g1 F1 H1, m g = .ok ts g1 → At X.K V0 F0 H0 B (ext ++ vs.map some) (tmp ++ ts.map Cl.tm) F1 H1 σ g1 → XPost X W V0 F0 H0 B ext tmp σ Q (f ts g1) → P vs H1) : tXA X W m σ H P := by
  refine ⟨V0, F0, H0, B, ext, tmp, F, g, a, ?_⟩
  cases e : m g with
  | ok t g1 => rw [e] at h; exact fun v F1 H1 a1 => k t v g1 F1 H1 e a1 h
  | exc c p g1 => rw [e] at h; exact h
  | bad => rw [e] at h; exact h
theorem tXT_bindB {m : XT} {f : Bool → Ct → RG Bool} {Q P : Bool → Hp → Prop} (a : At X.K V0 F0 H0 B ext tmp F H σ g) (h : XPostB X W V0 F0 H0 B ext tmp σ Q ((m g).bind f))
    (k : ∀ b g1 F1 H1, m g = .ok b g1 → At X.K V0 F0 H0 B ext tmp F1 H1 σ g1 → XPostB X W V0 F0 H0 B ext tmp σ Q (f b g1) → P b H1) : tXT X W m σ H P := by
  refine ⟨V0, F0, H0, B, ext, tmp, F, g, a, ?_⟩
  cases e : m g with
  | ok t g1 => rw [e] at h; exact fun F1 H1 a1 => k t g1 F1 H1 e a1 h
  | exc c p g1 => rw [e] at h; exact h
  | bad => rw [e] at h; exact h
theorem of_postX {Q : VK} {o : Option D} (h : XPost X W V0 F0 H0 B ext tmp σ Q (xOf o g)) : ∃ d, o = some d ∧ ∀ v F H, At X.K V0 F0 H0 B (ext ++ [some v]) (tmp ++ [.tm (.dat d)]) F H σ g → Q v H := by
  cases o with
  | none => exact h.elim
  | some d => exact ⟨d, rfl, h⟩
theorem At.top1 {v : V} {t : T} (ht : Tm tmp) (hl : ext.length = tmp.length) (a : At X.K V0 F0 H0 B (ext ++ [some v]) (tmp ++ [.tm t]) F H σ g) : ∃ F1, Same F F1 ∧ At X.K V0 F0 H0 B ext tmp F1 H σ g ∧ Dp X.K F1 v (fz t) := by
  obtain ⟨F1, h1, h2, h3⟩ := At.tops (vs := [v]) (ts := [t]) ht a hl
  cases h3 with
  | cons q _ => exact ⟨F1, h1, h2, q⟩
theorem At.top2 {v w : V} {t u : T} (ht : Tm tmp) (hl : ext.length = tmp.length) (a : At X.K V0 F0 H0 B (ext ++ [some v] ++ [some w]) (tmp ++ [.tm t] ++ [.tm u]) F H σ g) : ∃ F1, Same F F1 ∧ At X.K V0 F0 H0 B ext tmp F1 H σ g ∧ Dp X.K F1 v (fz t) ∧ Dp X.K F1 w (fz u) := by
  rw [List.append_assoc, List.append_assoc] at a
  obtain ⟨F1, h1, h2, h3⟩ := At.tops (vs := [v, w]) (ts := [t, u]) ht a hl
  cases h3 with
  | cons q r =>
    cases r with
    | cons r _ => exact ⟨F1, h1, h2, q, r⟩
end
section
variable {X : Cx} {W : WX} {pos : Pos} {a b c : Expr} {ma mb : XM}
theorem bin_tX {r : R2} {f : D → D → Option D} (hr : ∀ x y H Q, rD2 X.K f x y H Q → r x y H Q) {σ : L2.St} {H : Hp} {Q : VK} (h : tX X W (xBin f ma mb) σ H Q) : tOp r (tX X W ma) (tX X W mb) σ H Q := by
  obtain ⟨V0, F0, H0, B, ext, tmp, F, g, a, h⟩ := h
  refine tX_bind a h fun t v g1 F1 H1 _ a1 h1 => ?_
  refine ⟨V0, F0, H0, B, ext ++ [some v], tmp ++ [.tm t], F1, g1, a1, ?_⟩
  cases e : mb g1 with
  | ok u g2 =>
    rw [e] at h1
    intro w F2 H2 a2
    obtain ⟨d, e2, q⟩ := of_postX h1
    obtain ⟨F3, _, a3, p1, p2⟩ := At.top2 a.tm a.len a2
    exact hr _ _ _ _ ⟨F3, _, _, d, a3.s, p1, p2, e2, fun v' F' H' E hd => q v' F' H' ((a3.mono E).push hd)⟩
  | exc c p g2 =>
    rw [e] at h1
    intro cls od F2 H2 a2 x
    obtain ⟨F3, s3, a3, _⟩ := At.top1 a.tm a.len a2
    obtain ⟨C, x1, x2, x3⟩ := x
    refine h1 cls od F3 H2 a3 ⟨C, x1, x2, ?_⟩
    cases p with
    | none => exact x3
    | some d =>
      obtain ⟨dx, fl, v, q1, q2, q3, q4⟩ := x3
      exact ⟨dx, fl, v, q1, s3 _ _ q2, q3, dp_mono s3 d q4⟩
  | bad => rw [e] at h1; exact h1
theorem mx_op {op : Operator} {f : D → D → Option D} (ho : OpR X (binaryOp op) (rD2 X.K f)) (ha : MX X W a ma) (hb : MX X W b mb) : MX X W (.BinOp a op b pos) (xBin f ma mb) :=
  PE.imp (pe_op ho ha hb) fun _ _ _ h => bin_tX (fun _ _ _ _ z => z) h
theorem mx_cmp {op : CmpOp} {f : D → D → Option D} (ho : OpR X (compareOp op) (rD2 X.K f)) (ha : MX X W a ma) (hb : MX X W b mb) (hm : behindInMarks op b = false := by rfl) : MX X W (.Compare a [op] [b] pos) (xBin f ma mb) :=
  PE.imp (pe_cmpR ho ha hb hm) fun _ _ _ h => bin_tX (fun _ _ _ _ z => z) h
theorem mx_ix (ha : MX X W a ma) (hb : MX X W b mb) (hs : PlainIx b := by exact fun _ _ => rfl) : MX X W (.Subscript a b pos) (xBin fIx ma mb) :=
  PE.imp (pe_ix ix_seq ha hb hs) fun _ _ _ h => bin_tX i_ix h
def xTru (m : XM) : XT := fun g => (m g).bind fun t g1 => match truthD (fz t) with
  | some b => .ok b g1
  | none => .bad
def xNot (t : XT) : XT := fun g => (t g).bind fun b g1 => .ok (!b) g1
theorem mxt_tru (ha : MX X W a ma) (he : ∀ whole, isTrue a X.env whole = (do let v ← whole; standAt a.pos; holding [v] (truthy v)) := by intro _; rfl) : MXT X W a (xTru ma) := by
  refine PT.imp (pt_truth ha he) fun σ H Q ⟨V0, F0, H0, B, ext, tmp, F, g, a, h⟩ => ?_
  refine tX_bindB a h fun t v g1 F1 H1 _ a1 h1 => ?_
  obtain ⟨F3, _, a3, p1⟩ := At.top1 a.tm a.len a1
  cases q : truthD (fz t) with
  | none => rw [q] at h1; exact h1.elim
  | some b =>
    rw [q] at h1
    exact ⟨b, truth_ok a3.s p1 q, h1 F3 H1 a3⟩
theorem dp_bool_inv {K : PySem.W.Frag} {F : Hp} {v : V} {b : Bool} (h : Dp K F v (.bool b)) : v = .bl b := by cases h; rfl
theorem mxt_not {t : XT} (ha : MXT X W a t) : MXT X W (.UnaryOp .Not a pos) (xNot t) := by
  refine PT.imp (pt_not ha) fun σ H Q ⟨V0, F0, H0, B, ext, tmp, F, g, a, h⟩ => ?_
  exact tXT_bindB a h fun b g1 F1 H1 _ a1 h1 => h1 F1 H1 a1
def xAndT (t u : XT) : XT := fun g => (t g).bind fun b g1 => if b = true then u g1 else .ok false g1
def xOrT (t u : XT) : XT := fun g => (t g).bind fun b g1 => if b = true then .ok true g1 else u g1
variable {t u : XT}
def xIf (t : XT) (a b : XM) : XM := fun g => (t g).bind fun k g1 => if k = true then a g1 else b g1
def xNil : XA := fun g => .ok [] g
def xCons (a : XM) (r : XA) : XA := fun g => (a g).bind fun t g1 => (r g1).bind fun ts g2 => .ok (t :: ts) g2
theorem mxa_nil : MXA X W [] xNil := PA.imp pa_nil fun σ H Q ⟨V0, F0, H0, B, ext, tmp, F, g, a, h⟩ => h [] F H (by simpa using a)
theorem xv_mono {K : PySem.W.Frag} {mg : Str → Option Value} {F F' : Hp} {c : Str} {p : Option D} {cls : Value} {od : Option Addr} (s : Same F F') (x : XV K mg F c p cls od) : XV K mg F' c p cls od := by
  obtain ⟨C, x1, x2, x3⟩ := x
  refine ⟨C, x1, x2, ?_⟩
  cases p with
  | none => exact x3
  | some d =>
    obtain ⟨dx, fl, v, q1, q2, q3, q4⟩ := x3
    exact ⟨dx, fl, v, q1, s _ _ q2, q3, dp_mono s d q4⟩
theorem mxa_cons {es : List Expr} {mr : XA} (ha : MX X W a ma) (hr : MXA X W es mr) (hs : starEach (a :: es) X.env = (false, eval a X.env) :: starEach es X.env := by rfl) : MXA X W (a :: es) (xCons ma mr) := by
  refine PA.imp (pa_cons ha hr hs) fun σ H Q ⟨V0, F0, H0, B, ext, tmp, F, g, a, h⟩ => ?_
  refine ⟨V0, F0, H0, B, ext, tmp, F, g, a, ?_⟩
  unfold xCons at h
  cases e : ma g with
  | ok t g1 =>
    rw [e, RG.bind_ok] at h
    intro v F1 H1 a1
    refine ⟨V0, F0, H0, B, ext ++ [some v], tmp ++ [.tm t], F1, g1, a1, ?_⟩
    cases e2 : mr g1 with
    | ok ts g2 =>
      rw [e2] at h
      intro vs F2 H2 a2
      refine h (v :: vs) F2 H2 ?_
      rw [List.append_assoc, List.append_assoc] at a2
      exact a2
    | exc c p g2 =>
      rw [e2] at h
      intro cls od F2 H2 a2 x
      obtain ⟨F3, s3, a3, _⟩ := At.top1 a.tm a.len a2
      exact h cls od F3 H2 a3 (xv_mono s3 x)
    | bad => rw [e2] at h; exact h
  | exc c p g1 => rw [e] at h; exact h
  | bad => rw [e] at h; exact h
def xDs (f : List D → Option D) (a : XA) : XM := fun g => (a g).bind fun ts g1 => xOf (f (fzL ts)) g1
theorem ds_tX {f : List D → Option D} {m : XA} {σ : L2.St} {H : Hp} {Q : VK} {r : List V → Hp → VK → Prop} (hr : ∀ xs H Q, rDs X.K f xs H Q → r xs H Q) (h : tX X W (xDs f m) σ H Q) : tXA X W m σ H fun xs H1 => r xs H1 Q := by
  obtain ⟨V0, F0, H0, B, ext, tmp, F, g, a, h⟩ := h
  refine tXA_bind a h fun ts vs g1 F1 H1 _ a1 h1 => ?_
  obtain ⟨d, e2, q⟩ := of_postX h1
  obtain ⟨F3, _, a3, p1⟩ := At.tops a.tm a1 a.len
  exact hr _ _ _ ⟨F3, _, d, a3.s, p1, e2, fun v' F' H' E hd => q v' F' H' ((a3.mono E).push hd)⟩
theorem mx_tup {es : List Expr} {m : XA} {k} (h : MXA X W es m) : MX X W (.Tuple es k pos) (xDs dTup m) := by
  refine PE.imp (pe_tup h) fun σ H Q h => ds_tX (r := fun xs H Q => xs.length ≤ sizeLine ∧ ∀ p, H p = none → Q (.ref p) (upd H p (.tup xs))) (fun xs H Q ⟨F, ds, d, s, hx, e, q⟩ => ?_) h
  unfold dTup at e
  split at e
  · rename_i hl
    cases e
    refine ⟨by rw [dpa_len hx]; exact most_le hl, fun p hp => ?_⟩
    have E2 := Ext.new (o := .tup xs) s hp
    exact q _ _ _ E2 (.tup (SqT.of upd_same) (dpa_mono E2.f _ hx))
  · cases e
theorem mx_lst {es : List Expr} {m : XA} (h : MXA X W es m) : MX X W (.List es pos) (xDs dLst m) := by
  refine PE.imp (pe_lst h) fun σ H Q h => ds_tX (r := fun xs H Q => xs.length ≤ sizeLine ∧ ∀ p, H p = none → Q (.ref p) (upd H p (.lst xs))) (fun xs H Q ⟨F, ds, d, s, hx, e, q⟩ => ?_) h
  unfold dLst at e
  split at e
  · rename_i hl
    cases e
    refine ⟨by rw [dpa_len hx]; exact most_le hl, fun p hp => ?_⟩
    have E2 := Ext.new (o := .lst xs) s hp
    exact q _ _ _ E2 (.lst (SqL.of upd_same) (dpa_mono E2.f _ hx))
  · cases e
/-- a def over data -/
def xCall (n : Nat) (f : List D → R D) (dds : List D) (a : XA) : XM := fun g => (a g).bind fun ts g1 => if (fzL ts ++ dds).length = n then (RG.of (f (fzL ts ++ dds)) g1).bind fun d g => .ok (.dat d) g else .bad
theorem mx_def {j k n : Nat} {x : Str} {p pos : Pos} {e : Expr} {es : List Expr} {m : XA} {fn : List D → R D} {dds : List (List D)} {dd : List D}
    (G : DefOk X.prog X.w X.K X.mg X.base k x n fn dds) (hr : Room j X.A) (tk : Takes X W) (ha : MXA X W (e :: es) m) (hmem : dd ∈ dds := by first | exact List.mem_cons_self | simp) (hk : k ≤ j := by decide) (hg : Gl X x := by rfl)
    (hdb : (x == ("__debug__" : Str)) = false := by decide) (he : starEach (e :: es) X.env = (false, eval e X.env) :: starEach es X.env := by rfl) (hpl : (backTo pos (starEach es X.env)).any (·.1) = false := by rfl) :
    MX X W (.Call (.Name x p) (e :: es) [] pos) (xCall n fn dd m) := by
  obtain ⟨fd, ps, kp, F, b⟩ := G.ex
  obtain ⟨dvs, ds, h1, h2, h3⟩ := b dd hmem
  refine PE.imp (pe_callSD (E := WE W) F (hr.mono hk) hg G.gl kp h3 h1 (fun σ => passAt tk σ) ha hdb he hpl) fun σ H Q ⟨V0, F0, H0, B, ext, tmp, F, g, a, h⟩ => ?_
  refine tXA_bind a h fun ts vs g1 F1 H1 _ a1 h4 => ?_
  obtain ⟨F3, _, a3, p1⟩ := At.tops a.tm a1 a.len
  split at h4
  · rename_i hl
    refine ⟨F3, fzL ts ++ dd, a3.s, dpa_append p1 (h2 F3), hl, ?_⟩
    cases q : fn (fzL ts ++ dd) with
    | ok d => rw [q] at h4; exact fun v F' H' E hd => h4 v F' H' ((a3.mono E).push hd)
    | exc c p => rw [q] at h4; exact fun cls od F' H' E x => h4 cls od F' H' (a3.mono E) x
    | bad => rw [q] at h4; exact h4
  · exact h4.elim
/-- a method that changes nothing -/
def xMt (T : String) (f : D → List D → Option D) (o : XM) (a : XA) : XM := fun g => (o g).bind fun t g1 => if tyD (fz t) = T ∧ (T = "str" ∨ T = "list") then (a g1).bind fun ts g2 => xOf (f (fz t) (fzL ts)) g2 else .bad
end
end MI
set_option Elab.async false
set_option linter.all false
set_option maxRecDepth 100000
set_option maxHeartbeats 4000000
namespace MI
open PySem PySem.Spec PyProof.Rows L2
inductive OutT where
  | nx (g : Ct)
  | rt (t : T) (g : Ct)
  | bk (g : Ct)
  | ct (g : Ct)
  | ex (c : Str) (p : Option D) (g : Ct)
  | bad
abbrev ST := Ct → OutT
section
variable (K : PySem.W.Frag) (mg : Str → Option Value) (W : WX) (V0 : Nat → Option V) (F0 H0 : Hp) (B : Addr → Prop)
def SPT (D : Ends) : OutT → Prop
  | .nx g => ∀ F H σ, StT K V0 F0 H0 B F H σ g → D.nx σ H
  | .rt t g => ∀ v F H σ, StT K V0 F0 H0 B F H (σ ++ [some v]) (g ++ [.tm t]) → σ.length = g.length → D.rt v H
  | .bk g => ∀ F H σ, StT K V0 F0 H0 B F H σ g → D.bk σ H
  | .ct g => ∀ F H σ, StT K V0 F0 H0 B F H σ g → D.ct σ H
  | .ex c p g => ∀ cls od F H σ, StT K V0 F0 H0 B F H σ g → XV K mg F c p cls od → W cls od σ H
  | .bad => False
end
def tSt (K : PySem.W.Frag) (mg : Str → Option Value) (W : WX) (m : ST) : TS := fun D σ H => ∃ V0 F0 H0 B F g, StT K V0 F0 H0 B F H σ g ∧ SPT K mg W V0 F0 H0 B D (m g)
abbrev MTS (X : Cx) (W : WX) (st : Stmt) (m : ST) : Prop := PS X st (tSt X.K X.mg W m)
abbrev MTSs (X : Cx) (W : WX) (st : List Stmt) (m : ST) : Prop := PSs X st (tSt X.K X.mg W m)
def RG.to {α : Type} (x : RG α) (k : α → Ct → OutT) : OutT := match x with
  | .ok a g => k a g
  | .exc c p g => .ex c p g
  | .bad => .bad
@[simp] theorem RG.to_ok {α : Type} (a : α) (g : Ct) (k : α → Ct → OutT) : (RG.ok a g).to k = k a g := Eq.trans rfl rfl
@[simp] theorem RG.to_exc {α : Type} (c : Str) (p : Option D) (g : Ct) (k : α → Ct → OutT) : (RG.exc c p g : RG α).to k = .ex c p g := Eq.trans rfl rfl
@[simp] theorem RG.to_bad {α : Type} (k : α → Ct → OutT) : (RG.bad : RG α).to k = .bad := Eq.trans rfl rfl
section
variable {K : PySem.W.Frag} {mg : Str → Option Value} {W : WX} {V0 : Nat → Option V} {F0 H0 F H : Hp} {B B' : Addr → Prop} {D : Ends} {o : OutT}
theorem SPT.base (b : ∀ V1 F' H' σ' g', StT K V1 F H B' F' H' σ' g' → StT K V1 F0 H0 B F' H' σ' g') (h : SPT K mg W V0 F0 H0 B D o) : SPT K mg W V0 F H B' D o := by
  cases o with
  | nx g => exact fun F' H' σ ok => h F' H' σ (b _ _ _ _ _ ok)
  | rt t g => exact fun v F' H' σ ok l => h v F' H' σ (b _ _ _ _ _ ok) l
  | bk g => exact fun F' H' σ ok => h F' H' σ (b _ _ _ _ _ ok)
  | ct g => exact fun F' H' σ ok => h F' H' σ (b _ _ _ _ _ ok)
  | ex c p g => exact fun cls od F' H' σ ok x => h cls od F' H' σ (b _ _ _ _ _ ok) x
  | bad => exact h
theorem StT.at0 {σ : L2.St} {g : Ct} (ok : StT K V0 F0 H0 B F H σ g) : At K V0 F0 H0 B [] [] F H σ g := ⟨by simpa using ok, ok.len, fun c h => by cases h⟩
theorem At.st0 {σ : L2.St} {g : Ct} (a : At K V0 F0 H0 B [] [] F H σ g) : StT K V0 F0 H0 B F H σ g := by simpa using a.st
end
section
variable {X : Cx} {W : WX} {V0 : Nat → Option V} {F0 H0 F H : Hp} {B : Addr → Prop} {D : Ends} {σ : L2.St} {g : Ct}
theorem evX {m : XM} {k : T → Ct → OutT} {Q : VK} (ok : StT X.K V0 F0 H0 B F H σ g) (h : SPT X.K X.mg W V0 F0 H0 B D ((m g).to k))
    (q : ∀ t v g1 F1 H1, m g = .ok t g1 → StT X.K V0 F0 H0 B F1 H1 (σ ++ [some v]) (g1 ++ [.tm t]) → σ.length = g1.length → SPT X.K X.mg W V0 F0 H0 B D (k t g1) → Q v H1) : tX X W m σ H Q := by
  refine ⟨V0, F0, H0, B, [], [], F, g, ok.at0, ?_⟩
  cases e : m g with
  | ok t g1 => rw [e] at h; exact fun v F1 H1 a => q t v g1 F1 H1 e a.st a.l h
  | exc c p g1 => rw [e] at h; exact fun cls od F1 H1 a x => h cls od F1 H1 σ a.st0 x
  | bad => rw [e] at h; exact h
theorem evXT {m : XT} {k : Bool → Ct → OutT} {Q : Bool → Hp → Prop} (ok : StT X.K V0 F0 H0 B F H σ g) (h : SPT X.K X.mg W V0 F0 H0 B D ((m g).to k))
    (q : ∀ b g1 F1 H1, m g = .ok b g1 → StT X.K V0 F0 H0 B F1 H1 σ g1 → SPT X.K X.mg W V0 F0 H0 B D (k b g1) → Q b H1) : tXT X W m σ H Q := by
  refine ⟨V0, F0, H0, B, [], [], F, g, ok.at0, ?_⟩
  cases e : m g with
  | ok t g1 => rw [e] at h; exact fun F1 H1 a => q t g1 F1 H1 e a.st0 h
  | exc c p g1 => rw [e] at h; exact fun cls od F1 H1 a x => h cls od F1 H1 σ a.st0 x
  | bad => rw [e] at h; exact h
theorem StT.drop1 {K : PySem.W.Frag} {v : V} {t : T} (ok : StT K V0 F0 H0 B F H (σ ++ [some v]) (g ++ [.tm t])) (l : σ.length = g.length) : StT K V0 F0 H0 B F H σ g :=
  ok.take l fun c hc => ⟨t, List.mem_singleton.mp hc⟩
theorem StT.top1 {K : PySem.W.Frag} {v : V} {t : T} (ok : StT K V0 F0 H0 B F H (σ ++ [some v]) (g ++ [.tm t])) (l : σ.length = g.length) : ∃ F1, Same F F1 ∧ StT K V0 F0 H0 B F1 H σ g ∧ Dp K F1 v (fz t) := by
  obtain ⟨F1, h1, h2, h3⟩ := StT.tops (vs := [v]) (ts := [t]) ok l
  cases h3 with
  | cons q _ => exact ⟨F1, h1, h2, q⟩
theorem StT.setD {K : PySem.W.Frag} {v : V} {d : MI.D} {i : Nat} (ok : StT K V0 F0 H0 B F H σ g) (h : Dp K F v d) (hf : free1 g i = true) : StT K V0 F0 H0 B F H (σ.set i (some v)) ((kil i g).set i (.t (.dat d))) :=
  (ok.pushD h).setTop ok.len hf
end
def tNop : ST := .nx
def tSeq (a b : ST) : ST := fun g => match a g with
  | .nx g' => b g'
  | o => o
def tIf (t : XT) (a b : ST) : ST := fun g => (t g).to fun k g1 => if k = true then a g1 else b g1
def tRet (m : XM) : ST := fun g => (m g).to fun t g1 => .rt t g1
def tRetN : ST := fun g => .rt (.dat .none) g
def tBreak : ST := .bk
def tCont : ST := .ct
def tExpr (m : XM) : ST := fun g => (m g).to fun _ g1 => .nx g1
/-- slot i takes a tree -/
def putC (i : Nat) (t : T) (g : Ct) : OutT := if free1 g i = true then .nx ((kil i g).set i (.t t)) else .bad
def tSet (i : Nat) (m : XM) : ST := fun g => (m g).to fun t g1 => putC i t g1
/-- slot i takes data -/
def tSetD (i : Nat) (m : XM) : ST := fun g => (m g).to fun t g1 => putC i (.dat (fz t)) g1
def tRaise (c : Str) : ST := fun g => .ex c none g
/-- from here on slot i is data -/
def tFrz (i : Nat) (m : ST) : ST := fun g => match g[i]? with
  | some (.t x) => m ((kil i g).set i (.t (.dat (fz x))))
  | _ => m g
section
variable {X : Cx} {W : WX} {pos : Pos} {st : Stmt} {rest : List Stmt} {a b : ST}
theorem mtss_nil : MTSs X W [] tNop := PSs.imp pss_nil fun D σ H ⟨V0, F0, H0, B, F, g, ok, h⟩ => h F H σ ok
theorem mtss_cons (h1 : MTS X W st a) (h2 : MTSs X W rest b) : MTSs X W (st :: rest) (tSeq a b) := by
  refine PSs.imp (pss_cons h1 h2) fun D σ H ⟨V0, F0, H0, B, F, g, ok, h⟩ => ⟨V0, F0, H0, B, F, g, ok, ?_⟩
  unfold tSeq at h
  cases e : a g with
  | nx g' =>
    rw [e] at h
    exact fun F' H' σ' ok' => ⟨V0, F0, H0, B, F', g', ok', h⟩
  | rt d g' => rw [e] at h; exact h
  | bk g' => rw [e] at h; exact h
  | ct g' => rw [e] at h; exact h
  | ex c p g' => rw [e] at h; exact h
  | bad => rw [e] at h; exact h
theorem mtss_one (h1 : MTS X W st a) : MTSs X W [st] a := pss_one h1
theorem mts_if {c : Expr} {p q : List Stmt} {t : XT} (hc : MXT X W c t) (ha : MTSs X W p a) (hb : MTSs X W q b) : MTS X W (.If c p q pos) (tIf t a b) := by
  refine PS.imp (ps_if hc ha hb) fun D σ H ⟨V0, F0, H0, B, F, g, ok, h⟩ => evXT ok h fun k g1 F1 H1 e ok1 h1 => ?_
  cases k with
  | true => exact ⟨V0, F0, H0, B, F1, g1, ok1, h1⟩
  | false => exact ⟨V0, F0, H0, B, F1, g1, ok1, h1⟩
theorem mts_ret {e : Expr} {m : XM} (he : MX X W e m) : MTS X W (.Return (some e) pos) (tRet m) :=
  PS.imp (ps_ret he) fun D σ H ⟨V0, F0, H0, B, F, g, ok, h⟩ => evX ok h fun t v g1 F1 H1 e ok1 l h1 => h1 v F1 H1 σ ok1 l
theorem mts_set (i : Nat) {x : Str} {e : Expr} {m : XM} {pos' : Pos} (hN : X.N.Nodup) (he : MX X W e m) (hi : X.N[i]? = some x := by rfl) (hx : Loc X.env.scope x := by first | exact Or.inl rfl | exact Or.inr rfl) (hs : swapsWith e (some (.Name x pos')) pos.line X.env = pure false := by rfl) (hf : X.fn x = true ∨ X.env.scope.names.lookup x = some .local := by first | exact .inl rfl | exact .inr rfl) :
    MTS X W (.Assign [.Name x pos'] e pos) (tSet i m) := by
  refine PS.imp (ps_set hN hi hx he hs hf) fun D σ H ⟨V0, F0, H0, B, F, g, ok, h⟩ => ?_
  refine evX (Q := fun v H1 => D.nx (σ.set i (some v)) H1) ok h fun t v g1 F1 H1 e ok1 l h1 => ?_
  unfold putC at h1
  split at h1
  · rename_i f
    exact h1 F1 H1 _ (ok1.setTop l f)
  · exact h1.elim
theorem mts_setD (i : Nat) {x : Str} {e : Expr} {m : XM} {pos' : Pos} (hN : X.N.Nodup) (he : MX X W e m) (hi : X.N[i]? = some x := by rfl) (hx : Loc X.env.scope x := by first | exact Or.inl rfl | exact Or.inr rfl) (hs : swapsWith e (some (.Name x pos')) pos.line X.env = pure false := by rfl) (hf : X.fn x = true ∨ X.env.scope.names.lookup x = some .local := by first | exact .inl rfl | exact .inr rfl) :
    MTS X W (.Assign [.Name x pos'] e pos) (tSetD i m) := by
  refine PS.imp (ps_set hN hi hx he hs hf) fun D σ H ⟨V0, F0, H0, B, F, g, ok, h⟩ => ?_
  refine evX (Q := fun v H1 => D.nx (σ.set i (some v)) H1) ok h fun t v g1 F1 H1 e ok1 l h1 => ?_
  obtain ⟨F2, _, ok2, hd⟩ := ok1.top1 l
  unfold putC at h1
  split at h1
  · rename_i f
    exact h1 F2 H1 _ (ok2.setD hd f)
  · exact h1.elim
theorem mts_raise {c : Str} {e : Expr} {C : Addr} (hc : X.calm = true) (tk : Takes X W) (gC : X.mg c = some (.ref C)) (he : PMk X e (fun _ H Q => Q (.ref C) none H)) : MTS X W (.Raise (some e) none pos) (tRaise c) :=
  PS.imp (ps_raise hc tk he) fun D σ H ⟨V0, F0, H0, B, F, g, ok, h⟩ => h (.ref C) none F H σ ok ⟨C, gC, rfl, rfl⟩
theorem mts_sraise {c : Str} {m : Str} {j : Nat} {p p2 pos pos2 : Pos} (hc : X.mg c = some (.ref (He.ga X.K c))) (xf : (He.Fa.exc c).ok X.K = true) (tk : Takes X W) (hcalm : X.calm = true := by rfl) (hg : Gl X c := by rfl) (hdb : (c == ("__debug__" : Str)) = false := by decide) :
    MTS X W (.Raise (some (.Call (.Name c p) [.Constant (.str m) j p2] [] pos)) none pos2) (tRaise c) := by
  obtain ⟨x1, x2, x3, x4⟩ := He.exc_ok xf
  exact mts_raise hcalm tk hc (pmk_own PySem.F.excBase_ValueError x1 hc x2 (raises_own x3 x4) hg hdb)
theorem mtss_frz (i : Nat) {ss : List Stmt} (h : MTSs X W ss a) : MTSs X W ss (tFrz i a) := by
  refine PSs.imp h fun D σ H ⟨V0, F0, H0, B, F, g, ok, q⟩ => ?_
  unfold tFrz at q
  split at q
  · rename_i x e
    obtain ⟨F1, _, ok1⟩ := ok.fzAt e
    exact ⟨V0, F0, H0, B, F1, _, ok1, q⟩
  · exact ⟨V0, F0, H0, B, F, g, ok, q⟩
end
abbrev TgT := D → Ct → Option Ct
abbrev TgsT := List D → Ct → Option Ct
def uN (i : Nat) : TgT := fun d g => if free1 g i = true then some ((kil i g).set i (.t (.dat d))) else none
def usNil : TgsT := fun ds g => match ds with
  | [] => some g
  | _ => none
def usCons (t : TgT) (u : TgsT) : TgsT := fun ds g => match ds with
  | d :: r => (t d g).bind (u r)
  | [] => none
/-- of a tuple or a list -/
def uT (u : TgsT) : TgT := fun d g => match d with
  | .tuple ds => u ds g
  | .list ds => u ds g
  | _ => none
def UOk (K : PySem.W.Frag) (r : TG) (t : TgT) : Prop := ∀ (V0 : Nat → Option V) (F0 H0 : Hp) (B : Addr → Prop) (F H : Hp) (σ : L2.St) (g g' : Ct) (v : V) (d : D) (Q : L2.St → Hp → Prop),
  StT K V0 F0 H0 B F H σ g → Dp K F v d → t d g = some g' → (∀ σ', StT K V0 F0 H0 B F H σ' g' → Q σ' H) → r v σ H Q
def UsOk (K : PySem.W.Frag) (n : Nat) (r : TGs) (t : TgsT) : Prop := (∀ ds g g', t ds g = some g' → ds.length = n) ∧ ∀ (V0 : Nat → Option V) (F0 H0 : Hp) (B : Addr → Prop) (F H : Hp) (σ : L2.St) (g g' : Ct) (vs : List V) (ds : List D) (Q : L2.St → Hp → Prop),
  StT K V0 F0 H0 B F H σ g → DpAll K F vs ds → t ds g = some g' → (∀ σ', StT K V0 F0 H0 B F H σ' g' → Q σ' H) → r vs σ H Q
theorem uN_ok {K : PySem.W.Frag} {i : Nat} : UOk K (gName i) (uN i) := fun V0 F0 H0 B F H σ g g' v d Q ok hd e q => by
  unfold uN at e
  split at e
  · rename_i f
    cases e
    exact q _ (ok.setD hd f)
  · cases e
theorem usNil_ok {K : PySem.W.Frag} : UsOk K 0 gNil usNil := by
  refine ⟨fun ds g g' e => ?_, fun V0 F0 H0 B F H σ g g' vs ds Q ok hd e q => ?_⟩
  · cases ds with
    | nil => rfl
    | cons a b => cases e
  · cases hd with
    | nil =>
      cases e
      exact ⟨rfl, q _ ok⟩
    | cons a b => cases e
theorem usCons_ok {K : PySem.W.Frag} {n : Nat} {r : TG} {rs : TGs} {t : TgT} {ts : TgsT} (h1 : UOk K r t) (h2 : UsOk K n rs ts) : UsOk K (n + 1) (gCons r rs) (usCons t ts) := by
  refine ⟨fun ds g g' e => ?_, fun V0 F0 H0 B F H σ g g' vs ds Q ok hd e Q' => ?_⟩
  · cases ds with
    | nil => cases e
    | cons d ds =>
      have e' : (t d g).bind (ts ds) = some g' := e
      cases q : t d g with
      | none => rw [q] at e'; cases e'
      | some g1 =>
        rw [q] at e'
        exact congrArg Nat.succ (h2.1 ds g1 g' e')
  · cases hd with
    | nil => cases e
    | @cons v vs d ds a b =>
      have e' : (t d g).bind (ts ds) = some g' := e
      cases q : t d g with
      | none => rw [q] at e'; cases e'
      | some g1 =>
        rw [q] at e'
        exact ⟨v, vs, rfl, h1 V0 F0 H0 B F H σ g g1 v d _ ok a q fun σ' ok' => h2.2 V0 F0 H0 B F H σ' g1 g' vs ds Q ok' b e' Q'⟩
theorem uT_ok {K : PySem.W.Frag} {n : Nat} {r : TGs} {t : TgsT} (h : UsOk K n r t) : UOk K (gSeq K n r) (uT t) := fun V0 F0 H0 B F H σ g g' v d Q ok hd e q => by
  cases hd with
  | lst a b => exact .inr ⟨_, _, rfl, ok.s.seq a, (dpa_len b).trans (h.1 _ _ _ e), h.2 V0 F0 H0 B F H σ g g' _ _ Q ok b e q⟩
  | tup a b => exact .inl ⟨_, _, rfl, same_t ok.s a, (dpa_len b).trans (h.1 _ _ _ e), h.2 V0 F0 H0 B F H σ g g' _ _ Q ok b e q⟩
  | _ => cases e
def tAsg (t : TgT) (m : XM) : ST := fun g => (m g).to fun x g1 => match t (fz x) g1 with
  | some g' => .nx g'
  | none => .bad
theorem mts_asg {X : Cx} {W : WX} {pos : Pos} {tg e : Expr} {m : XM} {r : TG} {t : TgT} (he : MX X W e m) (hg : PG X tg r) (ht : UOk X.K r t) (hs : swapsWithSole [tg] e pos.line X.env = pure false := by rfl) (hw : swappedStores [tg] e X.env = pure none := by rfl) (h1 : (assignEach [tg] X.env).map (·.2) = [assign tg X.env] := by rfl) : MTS X W (.Assign [tg] e pos) (tAsg t m) := by
  refine PS.imp (ps_asg he hg hs hw h1) fun D σ H ⟨V0, F0, H0, B, F, g, ok, h⟩ => ?_
  refine evX (Q := fun v H1 => r v σ H1 D.nx) ok h fun x v g1 F1 H1 e ok1 l h1 => ?_
  obtain ⟨F2, _, ok2, hd⟩ := ok1.top1 l
  cases q : t (fz x) g1 with
  | none => rw [q] at h1; exact h1.elim
  | some g' =>
    rw [q] at h1
    exact ht V0 F0 H0 B F2 H1 σ g1 g' v _ D.nx ok2 hd q fun σ' ok3 => h1 F2 H1 σ' ok3
def tPar (i j : Nat) (m : XA) : ST := fun g => (m g).to fun ts g1 => match ts with
  | [x, y] => (match uN i (fz x) g1 with
    | some g2 => (match uN j (fz y) g2 with
      | some g3 => .nx g3
      | none => .bad)
    | none => .bad)
  | _ => .bad
end MI
set_option Elab.async false
set_option linter.all false
set_option maxRecDepth 100000
set_option maxHeartbeats 4000000
namespace MI
open PySem PySem.Spec PyProof.Rows L2
def loopT (t : TgT) (b : ST) : List D → ST
  | [], g => .nx g
  | d :: ds, g => match t d g with
    | none => .bad
    | some g1 => match b g1 with
      | .nx g2 => loopT t b ds g2
      | .ct g2 => loopT t b ds g2
      | .bk g2 => .nx g2
      | o => o
abbrev XI := Ct → RG (List D)
def XPostI (X : Cx) (W : WX) (V0 : Nat → Option V) (F0 H0 : Hp) (B : Addr → Prop) (ext : L2.St) (tmp : Ct) (σ : L2.St) (Q : L2.It → Hp → Prop) : RG (List D) → Prop
  | .ok ds g => ∀ F H J, At X.K V0 F0 H0 B ext tmp F H σ g → ItOk X.K F J ds → Q J H
  | .exc c p g => ∀ cls od F H, At X.K V0 F0 H0 B ext tmp F H σ g → XV X.K X.mg F c p cls od → W cls od σ H
  | .bad => False
def tXI (X : Cx) (W : WX) (m : XI) : TI := fun σ H Q => ∃ V0 F0 H0 B ext tmp F g, At X.K V0 F0 H0 B ext tmp F H σ g ∧ XPostI X W V0 F0 H0 B ext tmp σ Q (m g)
abbrev MXI (X : Cx) (W : WX) (tg e : Expr) (m : XI) : Prop := PI X tg e (tXI X W m)
def xiP (m : Vw → R (List D)) : XI := fun g => RG.of (m (tvd g)) g
def xiRng (f : List D → Option (List D)) (m : XA) : XI := fun g => (m g).bind fun ts g1 => match f (fzL ts) with
  | some ds => .ok ds g1
  | none => .bad
def xiItems (m : XM) : XI := fun g => (m g).bind fun t g1 => match fz t with
  | .list ds => .ok ds g1
  | .tuple ds => .ok ds g1
  | _ => .bad
section
variable {X : Cx} {W : WX} {tg : Expr}
theorem mxi_p {e : Expr} {m : Vw → R (List D)} (hi : MIt X W tg e m) : MXI X W tg e (xiP m) := by
  refine PI.imp hi fun σ H Q ⟨V0, F0, H0, B, ext, tmp, F, g, a, h⟩ => ⟨F, tvd g, a.s, a.vd, ?_⟩
  unfold xiP at h
  cases em : m (tvd g) with
  | ok d => rw [em] at h; exact fun F' H' J E io => h F' H' J (a.mono E) io
  | exc c p => rw [em] at h; exact fun cls od F' H' E x => h cls od F' H' (a.mono E) x
  | bad => rw [em] at h; exact h
theorem xi_rng {f : List D → Option (List D)} {m : XA} {V0 : Nat → Option V} {F0 H0 : Hp} {B : Addr → Prop} {ext : L2.St} {tmp : Ct} {F H : Hp} {σ : L2.St} {g : Ct} {Q : L2.It → Hp → Prop} {P : List V → Hp → Prop} (a : At X.K V0 F0 H0 B ext tmp F H σ g) (h : XPostI X W V0 F0 H0 B ext tmp σ Q (xiRng f m g))
    (k : ∀ ds vs F1 H1 ys, DpAll X.K F1 vs ds → f ds = some ys → (∀ J, ItOk X.K F1 J ys → Q J H1) → P vs H1) : tXA X W m σ H P := by
  refine ⟨V0, F0, H0, B, ext, tmp, F, g, a, ?_⟩
  unfold xiRng at h
  cases e : m g with
  | ok ts g1 =>
    rw [e, RG.bind_ok] at h
    intro vs F1 H1 a1
    obtain ⟨F2, _, a2, hd⟩ := At.tops a.tm a1 a.len
    cases q : f (fzL ts) with
    | none => rw [q] at h; exact h.elim
    | some ys => rw [q] at h; exact k _ vs F2 H1 ys hd q fun J io => h F2 H1 J a2 io
  | exc c p g1 => rw [e] at h; exact h
  | bad => rw [e] at h; exact h
theorem mxi_rng1 {a : Expr} {m : XA} {p pos : Pos} (hm : X.mg "range" = none) (ha : MXA X W [a] m) (hG : Gl X "range" := by rfl) (hst : starEach [a] X.env = [(false, eval a X.env)] := by rfl) : MXI X W tg (.Call (.Name "range" p) [a] [] pos) (xiRng rng1 m) := by
  refine PI.imp (pi_range1 hG hm ha hst) fun σ H Q ⟨V0, F0, H0, B, ext, tmp, F, g, a, h⟩ => xi_rng a h fun ds xs F' H' ys hx e q => ?_
  unfold rng1 at e
  split at e
  · split at e
    · rename_i l
      cases e
      obtain ⟨x, rfl, hv⟩ := dpa1 hx
      cases dp_int hv
      unfold lim62 at l
      rw [Bool.and_eq_true, decide_eq_true_eq, decide_eq_true_eq] at l
      exact ⟨_, rfl, l.1, l.2, q _ it_rng⟩
    · cases e
  · cases e
end
def tFor (it : XI) (t : TgT) (b : ST) : ST := fun g => (it g).to fun ds g1 => loopT t b ds g1
theorem loopT_turn {K : PySem.W.Frag} {mg : Str → Option Value} {W : WX} {V0 : Nat → Option V} {F0 H0 F H : Hp} {B : Addr → Prop} {σ : L2.St} {g : Ct} {D : Ends} {r : TG} {t : TgT} {b : ST} {d : MI.D} {ds : List MI.D} {x : V} {N : L2.St → Hp → Prop} (ht : UOk K r t)
    (ok : StT K V0 F0 H0 B F H σ g) (hd : Dp K F x d) (h : SPT K mg W V0 F0 H0 B D (loopT t b (d :: ds) g))
    (n : ∀ F' H' σ' g', StT K V0 F0 H0 B F' H' σ' g' → SPT K mg W V0 F0 H0 B D (loopT t b ds g') → N σ' H') :
    r x σ H fun σ2 H2 => tSt K mg W b { D with nx := N, ct := N, bk := D.nx } σ2 H2 := by
  unfold loopT at h
  cases q : t d g with
  | none => rw [q] at h; exact h.elim
  | some g1 =>
    rw [q] at h
    refine ht V0 F0 H0 B F H σ g g1 x d _ ok hd q fun σ' ok' => ⟨V0, F0, H0, B, F, g1, ok', ?_⟩
    dsimp only at h
    cases e : b g1 with
    | nx g2 => rw [e] at h; exact fun F' H' σ2 ok2 => n F' H' σ2 g2 ok2 h
    | ct g2 => rw [e] at h; exact fun F' H' σ2 ok2 => n F' H' σ2 g2 ok2 h
    | bk g2 => rw [e] at h; exact fun F' H' σ2 ok2 => h F' H' σ2 ok2
    | rt v g2 => rw [e] at h; exact h
    | ex c p g2 => rw [e] at h; exact h
    | bad => rw [e] at h; exact h
theorem mts_for {X : Cx} {W : WX} {pos : Pos} {tg iter : Expr} {body : List Stmt} {it : XI} {r : TG} {t : TgT} {b : ST} (hp : PassesOwn (model X.prog X.w) X.A X.env X.xe) (hi : MXI X W tg iter it) (hg : PG X tg r) (ht : UOk X.K r t) (hb : MTSs X W body b) (hc : X.calm = true := by rfl)
    (hs : ∀ x, foldedSetIterable iter X.env x = pure x := by intro _; rfl) : MTS X W (.For tg iter body [] pos) (tFor it t b) := by
  refine PS.imp (ps_for hp hc hi hg hb hs) fun D σ H ⟨V0, F0, H0, B, F, g, ok, h⟩ => ⟨V0, F0, H0, B, [], [], F, g, ok.at0, ?_⟩
  unfold tFor at h
  cases ei : it g with
  | exc c p g1 => rw [ei] at h; exact fun cls od F1 H1 a x => h cls od F1 H1 σ a.st0 x
  | bad => rw [ei] at h; exact h.elim
  | ok ds g1 =>
    rw [ei] at h
    have h : SPT X.K X.mg W V0 F0 H0 B D (loopT t b ds g1) := h
    intro F1 H1 J a1 io
    obtain ⟨B1, ok1, _, back⟩ := a1.st0.base
    have h := h.base (B' := B1) back
    refine ⟨fun i m σ H => m = ds.length - i ∧ i ≤ ds.length ∧ ∃ F2 g2, StT X.K V0 F1 H1 B1 F2 H σ g2 ∧ SPT X.K X.mg W V0 F1 H1 B1 D (loopT t b (ds.drop i) g2), ⟨ds.length, by simp, Nat.zero_le _, F1, g1, ok1, by simpa using h⟩, ?_⟩
    rintro i m σ H ⟨rfl, hi, F2, g2, ok2, h2⟩
    by_cases hlt : i < ds.length
    · have ed : ds[i]? = some ds[i] := List.getElem?_eq_getElem hlt
      obtain ⟨go, yl⟩ := io.go i H _ (ok2.f.trans ok2.s) ed
      refine .inr ⟨go, fun σ' H' => ∃ F2 g2, StT X.K V0 F1 H1 B1 F2 H' σ' g2 ∧ SPT X.K X.mg W V0 F1 H1 B1 D (loopT t b (ds.drop (i + 1)) g2), fun σ' H' q => ⟨ds.length - (i + 1), by omega, rfl, hlt, q⟩, fun x H' hy => ?_⟩
      obtain ⟨F3, E3, dx⟩ := yl x H' F2 ok2.f ok2.s hy
      rw [drop_get ed] at h2
      exact loopT_turn ht (ok2.mono E3) dx h2 fun F4 H4 σ4 g4 ok4 h4 => ⟨F4, g4, ok4, h4⟩
    · have e : i = ds.length := by omega
      subst e
      rw [List.drop_length] at h2
      exact .inl ⟨io.stop _ H (ok2.f.trans ok2.s) (Nat.le_refl _), h2 F2 H σ ok2⟩
def tTry (sub : Str → Option Bool) (b u : ST) : ST := fun g => match b g with
  | .ex c p g' => (match sub c with
    | some true => (match u g' with
      | .ex _ _ _ => .bad
      | o => o)
    | some false => .ex c p g'
    | none => .bad)
  | o => o
theorem mts_try {X : Cx} {W : WX} {x : Str} {body suite : List Stmt} {b0 : Stmt} {np pos pos' : Pos} {sub : Str → Option Bool} {b u : ST} (gC : X.mg x = some (.ref (He.ga X.K x))) (tk : Takes X W) (so : SubOk X.K X.mg sub (.ref (He.ga X.K x)))
    (hb : ∀ (W' : WX) (pn : List (Addr × Obj)) (xe : Value → Shared → Prop), Takes (X.tr pn xe) W' → PassesOwn (model X.prog X.w) X.A X.env xe → MTSs (X.tr pn xe) W' body b)
    (hsu : ∀ (a : Addr) (oe : Obj) (cls : Value) (d : Option Addr) (pn : List (Addr × Obj)), Zc cls d oe → (∃ vs, oe.data = .fields vs) → ∀ W' : WX, MTSs (X.suite a ((a, oe) :: pn)) W' (b0 :: suite) u)
    (hs : X.stack = X.env :: X.outer := by rfl) (hf : X.env.frame = some X.env.locals := by rfl) (hg : Gl X x := by rfl) (hdb : (x == ("__debug__" : Str)) = false := by decide) :
    MTS X W (.Try body [.ExceptHandler (some (.Name x np)) none (b0 :: suite) pos'] [] [] pos) (tTry sub b u) := by
  refine PS.imp (ps_try_only (tb := fun W' => tSt X.K X.mg W' b) (ts := fun _ _ _ => tSt X.K X.mg (fun _ _ _ _ => False) u) hs hf ⟨hg, hdb, .inl gC⟩ tk hb fun a oe cls d pn z f => hsu a oe cls d pn z f _) fun D σ H ⟨V0, F0, H0, B, F, g, ok, h⟩ => ⟨V0, F0, H0, B, F, g, ok, ?_⟩
  unfold tTry at h
  cases e : b g with
  | nx g' => rw [e] at h; exact h
  | rt d g' => rw [e] at h; exact h
  | bk g' => rw [e] at h; exact h
  | ct g' => rw [e] at h; exact h
  | bad => rw [e] at h; exact h
  | ex cx p g' =>
    rw [e] at h
    dsimp only at h
    intro cls od F' H' σ' ok' xv
    obtain ⟨C, gC', rfl, xr⟩ := id xv
    cases q : sub cx with
    | none => rw [q] at h; exact h.elim
    | some k =>
      rw [q] at h
      refine ⟨k, so _ _ _ q gC', fun ek a ha => ?_, fun ek => ?_⟩
      · subst ek
        refine ⟨V0, F0, H0, B, F', g', ok', ?_⟩
        cases e2 : u g' with
        | ex c2 p2 g2 => rw [e2] at h; exact h.elim
        | nx g2 => rw [e2] at h; exact h
        | rt d g2 => rw [e2] at h; exact h
        | bk g2 => rw [e2] at h; exact h
        | ct g2 => rw [e2] at h; exact h
        | bad => rw [e2] at h; exact h
      · subst ek
        exact h (.ref C) od F' H' σ' ok' xv
end MI
set_option Elab.async false
set_option linter.all false
set_option maxRecDepth 100000
set_option maxHeartbeats 4000000
namespace MI
open PySem PySem.Spec PyProof.Rows L2
section
variable {K : PySem.W.Frag} {V0 : Nat → Option V} {F0 H0 F H : Hp} {B : Addr → Prop} {σ ext : L2.St} {g tmp : Ct}
theorem trs_of {S : Nat → Addr → Prop} (dis : ∀ i j a, S i a → S j a → i = j) : ∀ (vs : List V) (ts : List T) (n : Nat), vs.length = ts.length → (∀ (j : Nat) (v : V) (x : T), vs[j]? = some v → ts[j]? = some x → TR K F H v x (S (n + j))) → ∃ S', TRs K F H vs ts S' ∧ ∀ a, S' a → ∃ j, n ≤ j ∧ S j a
  | [], [], n, _, _ => ⟨_, .nil, fun _ h => h.elim⟩
  | v :: vs, x :: ts, n, hl, h => by
    obtain ⟨S', h1, h2⟩ := trs_of dis vs ts (n + 1) (by simpa using hl) fun j w y hw hy => by
      have := h (j + 1) w y (by simpa using hw) (by simpa using hy)
      rw [show n + (j + 1) = n + 1 + j by omega] at this
      exact this
    refine ⟨_, .cons (h 0 v x rfl rfl) h1 (fun a p q => ?_), fun a q => ?_⟩
    · obtain ⟨j, l, r⟩ := h2 a q
      have := dis _ _ a p r
      omega
    · rcases q with q | q
      · exact ⟨n, Nat.le_refl _, q⟩
      · obtain ⟨j, l, r⟩ := h2 a q
        exact ⟨j, by omega, r⟩
  | [], _ :: _, _, hl, _ => by simp at hl
  | _ :: _, [], _, hl, _ => by simp at hl
/-- the tops become the items of a new list -/
theorem StT.mkL {vs : List V} {ts : List T} {p : Addr} (ok : StT K V0 F0 H0 B F H (σ ++ vs.map some) (g ++ ts.map Cl.tm)) (l : σ.length = g.length) (hp : H p = none) : StT K V0 F0 H0 B F (upd H p (.lst vs)) (σ ++ [some (.ref p)]) (g ++ [.tm (.lst ts)]) := by
  obtain ⟨S, s1, s2, s3, s4⟩ := ok.own
  have lens : vs.length = ts.length := by
    have := ok.len
    simp at this
    omega
  have hF := ok.s.free hp
  have h0 : B p ∨ H0 p = none := by
    by_cases b : B p
    · exact .inl b
    · cases w : H0 p with
      | none => exact .inr rfl
      | some u => rw [ok.h p u b w] at hp; cases hp
  have nS : ∀ i, ¬ S i p := fun i q => by
    cases e : gt (g ++ ts.map Cl.tm) i with
    | none => exact s4 i e p q
    | some x =>
      obtain ⟨v, _, h2⟩ := s1 i x e
      obtain ⟨xs, z, _⟩ := tr_own h2 p q
      rw [hp] at z; cases z
  obtain ⟨S', t1, t2⟩ := trs_of (K := K) (F := F) (H := H) s3 vs ts g.length lens fun j v x hv hx => by
    obtain ⟨v', h1, h2⟩ := s1 (g.length + j) x (by
      unfold gt
      rw [List.getElem?_append_right (by omega)]
      simp [hx, Cl.tr])
    rw [List.getElem?_append_right (by omega), show g.length + j - σ.length = j by omega, List.getElem?_map, hv] at h1
    cases h1
    exact h2
  have np : ¬ S' p := fun q => by
    obtain ⟨j, _, r⟩ := t2 p q
    exact nS j r
  have up : ∀ {v : V} {x : T} {i : Nat}, TR K F H v x (S i) → TR K F (upd H p (.lst vs)) v x (S i) := fun {v x i} h => tr_mono (Same.refl F) h fun a q => ⟨upd_ne (fun e => nS i (e ▸ q)), (tr_own h a q).choose_spec.2.1⟩
  have tk := ok.take l tm_map
  refine ⟨ok.f, fun a o nb e => ?_, fun a o e => ?_, ok.n, by simp [l], ⟨fun i a => if i < g.length then S i a else (i = g.length ∧ (a = p ∨ S' a)), fun i x hx => ?_, fun i a q => ?_, fun i j a q r => ?_, fun i e a q => ?_⟩, fun i x e hb => ?_, fun j i k e => ?_⟩
  · have : a ≠ p := fun z => by
      subst z
      rcases h0 with z | z
      · exact nb z
      · rw [z] at e; cases e
    rw [upd_ne this]
    exact ok.h a o nb e
  · have : a ≠ p := fun z => by
      subst z
      rw [hF] at e; cases e
    rw [upd_ne this]
    exact ok.s a o e
  · have li := gt_lt hx
    simp at li
    rcases Nat.lt_or_ge i g.length with c | c
    · rw [gt_append_left c] at hx
      obtain ⟨v, h1, h2⟩ := s1 i x (by rw [gt_append_left c]; exact hx)
      rw [List.getElem?_append_left (by omega)] at h1
      refine ⟨v, by rw [List.getElem?_append_left (by omega)]; exact h1, ?_⟩
      have : (fun a => if i < g.length then S i a else (i = g.length ∧ (a = p ∨ S' a))) = S i := by
        funext a
        rw [if_pos c]
      show TR K F _ v x (fun a => if i < g.length then S i a else (i = g.length ∧ (a = p ∨ S' a)))
      rw [this]
      exact up h2
    · have e : i = g.length := by omega
      subst e
      rw [gt_push] at hx
      cases hx
      refine ⟨.ref p, by rw [List.getElem?_append_right (by omega)]; simp [l], ?_⟩
      have : (fun a => if g.length < g.length then S g.length a else (g.length = g.length ∧ (a = p ∨ S' a))) = fun a => a = p ∨ S' a := by
        funext a
        rw [if_neg (Nat.lt_irrefl _)]
        simp
      show TR K F _ _ _ (fun a => if g.length < g.length then S g.length a else (g.length = g.length ∧ (a = p ∨ S' a)))
      rw [this]
      exact .lst upd_same hF (trs_mono (Same.refl F) t1 fun a q => ⟨upd_ne (fun e => np (e ▸ q)), (trs_own t1 a q).choose_spec.2.1⟩) np
  · dsimp only at q
    split at q
    · exact s2 i a q
    · rcases q.2 with q | q
      · rw [q]; exact h0
      · obtain ⟨j, _, r⟩ := t2 a q
        exact s2 j a r
  · dsimp only at q r
    split at q
    · split at r
      · exact s3 i j a q r
      · rcases r.2 with z | z
        · subst z; exact (nS i q).elim
        · obtain ⟨m, lm, w⟩ := t2 a z
          have := s3 i m a q w
          omega
    · split at r
      · rcases q.2 with z | z
        · subst z; exact (nS j r).elim
        · obtain ⟨m, lm, w⟩ := t2 a z
          have := s3 j m a r w
          omega
      · omega
  · dsimp only at q
    split at q
    · rename_i c
      rw [gt_append_left c] at e
      exact s4 i (by rw [gt_append_left c]; exact e) a q
    · rw [q.1, gt_push] at e
      cases e
  · have li := (List.getElem?_eq_some_iff.mp e).1
    simp at li
    rcases Nat.lt_or_ge i g.length with c | c
    · rw [List.getElem?_append_left c] at e
      obtain ⟨v, h1, h2⟩ := tk.bd i x e hb
      exact ⟨v, h1, by rw [List.getElem?_append_left (by omega)]; exact h2⟩
    · rw [List.getElem?_append_right c, show i - g.length = 0 by omega] at e
      cases e
      cases hb
  · have lj := (List.getElem?_eq_some_iff.mp e).1
    simp at lj
    rcases Nat.lt_or_ge j g.length with c | c
    · rw [List.getElem?_append_left c] at e
      obtain ⟨a, us, v, h1, h2, h3, h4, h5, ts0, h6⟩ := tk.al j i k e
      have li := nt_lt h6
      have ne : a ≠ p := fun z => by rw [z, hp] at h2; cases h2
      exact ⟨a, us, v, by rw [List.getElem?_append_left (by omega)]; exact h1, by rw [upd_ne ne]; exact h2, h3, h4, by rw [List.getElem?_append_left (by omega)]; exact h5, ts0, by rw [nt_append_left li]; exact h6⟩
    · rw [List.getElem?_append_right c, show j - g.length = 0 by omega] at e
      cases e
end
theorem At.mkL {K : PySem.W.Frag} {V0 : Nat → Option V} {F0 H0 F H : Hp} {B : Addr → Prop} {σ ext : L2.St} {g tmp : Ct} {vs : List V} {ts : List T} {p : Addr} (ht : Tm tmp) (a : At K V0 F0 H0 B (ext ++ vs.map some) (tmp ++ ts.map Cl.tm) F H σ g) (hl : ext.length = tmp.length) (hp : H p = none) : At K V0 F0 H0 B (ext ++ [some (.ref p)]) (tmp ++ [.tm (.lst ts)]) F (upd H p (.lst vs)) σ g := by
  have st := a.st
  rw [← List.append_assoc, ← List.append_assoc] at st
  refine ⟨?_, a.l, fun c hc => ?_⟩
  · rw [← List.append_assoc, ← List.append_assoc]
    exact st.mkL (by simp [a.l, hl]) hp
  · rcases List.mem_append.mp hc with hc | hc
    · exact ht c hc
    · exact ⟨_, List.mem_singleton.mp hc⟩
/-- [e, ..], a list of its own -/
def xLs (m : XA) : XM := fun g => (m g).bind fun ts g1 => if ts.length ≤ most then .ok (.lst ts) g1 else .bad
theorem mx_own {X : Cx} {W : WX} {es : List Expr} {m : XA} {pos : Pos} (h : MXA X W es m) : MX X W (.List es pos) (xLs m) := by
  refine PE.imp (pe_lst h) fun σ H Q ⟨V0, F0, H0, B, ext, tmp, F, g, a, h⟩ => ?_
  refine tXA_bind a h fun ts vs g1 F1 H1 _ a1 h1 => ?_
  split at h1
  · rename_i l
    have lens : vs.length = ts.length := by
      have h := a1.len
      have h2 := a.len
      simp at h
      omega
    exact ⟨by rw [lens]; exact most_le l, fun p hp => h1 (.ref p) F1 _ (At.mkL a.tm a1 a.len hp)⟩
  · exact h1.elim
/-- list(e), a list of its own -/
def xListOf (m : XM) : XM := fun g => (m g).bind fun t g1 => match fz t with
  | .list ds => .ok (.lst (ds.map T.dat)) g1
  | .tuple ds => .ok (.lst (ds.map T.dat)) g1
  | _ => .bad
theorem At.dats {K : PySem.W.Frag} {V0 : Nat → Option V} {F0 H0 F H : Hp} {B : Addr → Prop} {σ : L2.St} {g : Ct} : ∀ {ds : List D} {vs : List V} {ext : L2.St} {tmp : Ct}, At K V0 F0 H0 B ext tmp F H σ g → DpAll K F vs ds → At K V0 F0 H0 B (ext ++ vs.map some) (tmp ++ (ds.map T.dat).map Cl.tm) F H σ g
  | [], _, ext, tmp, a, h => by
    cases h
    simpa using a
  | d :: ds, _, ext, tmp, a, h => by
    cases h with
    | @cons v vs _ _ x y =>
      have := At.dats (a.push x) y
      simp only [List.append_assoc] at this
      simpa using this
/-- a name's tree, the name given up -/
def xMv (i : Nat) : XM := fun g => match g[i]? with
  | some (.t x) => .ok x ((kil i g).set i .un)
  | _ => .bad
theorem mx_mv (i : Nat) {X : Cx} {W : WX} {x : Str} {pos : Pos} (hN : X.N[i]? = some x := by rfl) (hv : Vis X.env.scope x := by first | exact Or.inl rfl | exact Or.inr (Or.inl rfl) | exact Or.inr (Or.inr rfl)) (hd : (x == ("__debug__" : Str)) = false := by decide) (hcd : (x == ("__classdict__" : Str)) = false := by decide) : MX X W (.Name x pos) (xMv i) := by
  refine PE.imp (pe_var hN hv hd hcd) fun σ H Q ⟨V0, F0, H0, B, ext, tmp, F, g, a, h⟩ => ?_
  unfold xMv at h
  split at h
  · rename_i t e
    have li := (List.getElem?_eq_some_iff.mp e).1
    have lst := a.st
    have ll := a.len
    have al := a.l
    obtain ⟨S, s1, _, _, _⟩ := a.st.own
    have e' : (g ++ tmp)[i]? = some (Cl.t t) := by rw [List.getElem?_append_left li]; exact e
    obtain ⟨v, hv, _⟩ := s1 i t (gt_of (.inl e'))
    rw [List.getElem?_append_left (by omega)] at hv
    refine ⟨v, hv, h v F H ⟨?_, by simp [kil_len, a.l], fun c hc => ?_⟩⟩
    · have g1 : ∀ j, gt ((kil i g).set i .un ++ (tmp ++ [.tm t])) j = if j = i then none else if j = g.length + tmp.length then some t else gt (g ++ tmp) j := fun j => by
        unfold gt
        rcases Nat.lt_or_ge j g.length with c | c
        · rw [List.getElem?_append_left (by simp [kil_len]; exact c), List.getElem?_append_left c]
          by_cases z : j = i
          · rw [if_pos z, z, List.getElem?_set_self (by rw [kil_len]; exact li)]; rfl
          · rw [if_neg z, if_neg (by omega), List.getElem?_set_ne (Ne.symm z)]
            exact kil_gt
        · rw [if_neg (by omega), List.getElem?_append_right (by simp [kil_len]; exact c)]
          simp only [List.length_set, kil_len]
          by_cases z : j = g.length + tmp.length
          · rw [if_pos z, List.getElem?_append_right (by omega), show j - g.length - tmp.length = 0 by omega]; rfl
          · rw [if_neg z, List.getElem?_append_right c]
            rcases Nat.lt_or_ge (j - g.length) tmp.length with c2 | c2
            · rw [List.getElem?_append_left c2]
            · rw [List.getElem?_eq_none (by simp; omega), List.getElem?_eq_none (by omega)]
      have s1 : ∀ j, j ≠ g.length + tmp.length → j < g.length + tmp.length + 1 → (σ ++ (ext ++ [some v]))[j]? = (σ ++ ext)[j]? := fun j hj hl => by
        rw [← List.append_assoc, List.getElem?_append_left (by simp; omega)]
      refine lst.pick (fun j => if j = g.length + tmp.length then i else j) (by simp [kil_len]; omega) (fun x y hx hy q => ?_) (fun j y hy => ?_) (fun j y hy hyb => ?_) (fun j m k q => ?_)
      · rw [g1] at hx hy
        have hx0 : x ≠ i := fun z => by rw [if_pos z] at hx; cases hx
        have hy0 : y ≠ i := fun z => by rw [if_pos z] at hy; cases hy
        split at q <;> split at q <;> omega
      · rw [g1] at hy
        split at hy
        · cases hy
        · rename_i z
          split at hy
          · rename_i z2
            cases hy
            rw [if_pos z2, z2]
            refine ⟨gt_of (.inl e'), ?_⟩
            rw [← List.append_assoc, List.getElem?_append_right (by simp; omega), show g.length + tmp.length - (σ ++ ext).length = 0 by simp; omega, List.getElem?_append_left (by omega), hv]
            rfl
          · rename_i z2
            rw [if_neg z2]
            have := gt_lt hy
            simp at this
            exact ⟨hy, s1 j z2 (by omega)⟩
      · have lj := (List.getElem?_eq_some_iff.mp hy).1
        simp [kil_len] at lj
        rcases Nat.lt_or_ge j g.length with c | c
        · rw [List.getElem?_append_left (by simp [kil_len]; exact c)] at hy
          have z : j ≠ i := fun z => by
            rw [z, List.getElem?_set_self (by rw [kil_len]; exact li)] at hy
            cases hy
            cases hyb
          rw [List.getElem?_set_ne (Ne.symm z)] at hy
          exact ⟨⟨y, by rw [List.getElem?_append_left c]; exact kil_bd hy hyb, hyb⟩, s1 j (by omega) (by omega)⟩
        · exfalso
          rw [List.getElem?_append_right (by simp [kil_len]; exact c)] at hy
          have mem := List.mem_of_getElem? hy
          rcases List.mem_append.mp mem with mem | mem
          · obtain ⟨w, hw⟩ := a.tm _ mem
            subst hw
            cases hyb
          · have := List.mem_singleton.mp mem
            subst this
            cases hyb
      · have lj := (List.getElem?_eq_some_iff.mp q).1
        simp [kil_len] at lj
        rcases Nat.lt_or_ge j g.length with c | c
        · rw [List.getElem?_append_left (by simp [kil_len]; exact c)] at q
          have z : j ≠ i := fun z => by
            rw [z, List.getElem?_set_self (by rw [kil_len]; exact li)] at q
            cases q
          rw [List.getElem?_set_ne (Ne.symm z)] at q
          obtain ⟨q1, q2⟩ := kil_al q
          have q3 : (g ++ tmp)[j]? = some (Cl.al m k) := by rw [List.getElem?_append_left c]; exact q1
          obtain ⟨_, _, _, _, _, _, _, _, ts0, h6⟩ := lst.al j m k q3
          have lm := nt_tmp a.tm h6
          refine ⟨q3, s1 j (by omega) (by omega), s1 m (by omega) (by omega), ?_⟩
          rw [nt_append_left lm]
          have : nt ((kil i g).set i .un ++ (tmp ++ [.tm t])) m = nt ((kil i g).set i .un) m := nt_append_left (by simp [kil_len]; exact lm)
          rw [this]
          unfold nt
          rw [List.getElem?_set_ne (Ne.symm q2)]
          exact kil_nt
        · exfalso
          rw [List.getElem?_append_right (by simp [kil_len]; exact c)] at q
          have mem := List.mem_of_getElem? q
          rcases List.mem_append.mp mem with mem | mem
          · obtain ⟨w, hw⟩ := a.tm _ mem
            cases hw
          · have := List.mem_singleton.mp mem
            cases this
    · rcases List.mem_append.mp hc with hc | hc
      · exact a.tm c hc
      · exact ⟨_, List.mem_singleton.mp hc⟩
  · exact h.elim
end MI
set_option Elab.async false
set_option linter.all false
set_option maxRecDepth 100000
set_option maxHeartbeats 4000000
namespace MI
open PySem PySem.Spec PyProof.Rows L2
def locS (g : Ct) (j : Nat) : Option (Nat × List Nat) := match g[j]? with
  | some (.t _) => some (j, [])
  | some (.b _) => some (j, [])
  | some (.al i k) => some (i, [k])
  | _ => none
def asL : T → Option (List T)
  | .lst ts => some ts
  | _ => none
/-- the items of the list at ks below the name j -/
def locT (g : Ct) (j : Nat) (ks : List Nat) : Option (List T) := match locS g j with
  | some (i, p) => (match nt g i with
    | some x => (x.get (p ++ ks)).bind asL
    | none => none)
  | none => none
def putL (g : Ct) (j : Nat) (ks : List Nat) (ts : List T) : Ct := match locS g j with
  | some (i, p) => (match nt g i with
    | some x => setT g i (x.put (p ++ ks) (.lst ts))
    | none => g)
  | none => g
theorem asL_some {t : T} {ts : List T} (h : asL t = some ts) : t = .lst ts := by
  cases t <;> first | (cases h; rfl) | cases h
theorem sub_app {F H : Hp} : ∀ (p q : List Nat) {v w : V}, Sub F H v (p ++ q) w → ∃ u, Sub F H v p u ∧ Sub F H u q w
  | [], q, v, w, h => ⟨v, .nil, h⟩
  | k :: p, q, _, w, .lst h1 h2 h3 => by
    obtain ⟨u, a, b⟩ := sub_app p q h3
    exact ⟨u, .lst h1 h2 a, b⟩
  | k :: p, q, _, w, .tup h1 h2 h3 => by
    obtain ⟨u, a, b⟩ := sub_app p q h3
    exact ⟨u, .tup h1 h2 a, b⟩
section
variable {K : PySem.W.Frag} {V0 : Nat → Option V} {F0 H0 F H : Hp} {B : Addr → Prop} {σ ext : L2.St} {g tmp : Ct}
theorem StT.named (ok : StT K V0 F0 H0 B F H σ g) {j : Nat} {ks : List Nat} {ts : List T} (h : locT g j ks = some ts) :
    ∃ (w : V) (a : Addr) (vs : List V) (Sc : Addr → Prop), σ[j]? = some (some w) ∧ Sub F H w ks (.ref a) ∧ H a = some (.lst vs) ∧ TRs K F H vs ts Sc ∧
      ∀ (vs' : List V) (ts' : List T) (Sc' : Addr → Prop), TRs K F H vs' ts' Sc' → (∀ b, Sc' b → Sc b) → (ks = [] → ∀ (m k : Nat), g[m]? = some (Cl.al j k) → vs'[k]? = vs[k]?) → StT K V0 F0 H0 B F (upd H a (.lst vs')) σ (putL g j ks ts') := by
  unfold locT at h
  cases e : locS g j with
  | none => rw [e] at h; cases h
  | some ip =>
    obtain ⟨i, p⟩ := ip
    rw [e] at h
    dsimp only at h
    cases ex : nt g i with
    | none => rw [ex] at h; cases h
    | some x =>
      rw [ex] at h
      dsimp only at h
      cases eg : x.get (p ++ ks) with
      | none => rw [eg] at h; cases h
      | some u =>
        rw [eg] at h
        have hu := asL_some h
        subst hu
        obtain ⟨r, a, vs, Sc, h1, h2, h3, h4, h5⟩ := ok.write (gt_nt ex) eg
        have pe : ∀ ts', putL g j ks ts' = setT g i (x.put (p ++ ks) (.lst ts')) := fun ts' => by
          unfold putL
          rw [e]
          dsimp only
          rw [ex]
        unfold locS at e
        cases ej : g[j]? with
        | none => rw [ej] at e; cases e
        | some c =>
          rw [ej] at e
          cases c with
          | t y =>
            cases e
            exact ⟨r, a, vs, Sc, h1, h2, h3, h4, fun vs' ts' Sc' q1 q2 q3 => by rw [pe]; exact h5 vs' ts' Sc' q1 q2 fun z => q3 z⟩
          | b y =>
            cases e
            exact ⟨r, a, vs, Sc, h1, h2, h3, h4, fun vs' ts' Sc' q1 q2 q3 => by rw [pe]; exact h5 vs' ts' Sc' q1 q2 fun z => q3 z⟩
          | al i' k =>
            cases e
            obtain ⟨a0, us, v, w1, w2, w3, w4, w5, _⟩ := ok.al j i k ej
            rw [w1] at h1
            cases h1
            obtain ⟨u, s1, s2⟩ := sub_app [k] ks h2
            have uv : u = v := by
              cases s1 with
              | lst z1 z2 z3 =>
                rw [w2] at z1
                cases z1
                rw [w4] at z2
                cases z2
                cases z3
                rfl
              | tup z1 z2 z3 =>
                rw [w3] at z1
                cases z1
            subst uv
            exact ⟨u, a, vs, Sc, w5, s2, h3, h4, fun vs' ts' Sc' q1 q2 q3 => by rw [pe]; exact h5 vs' ts' Sc' q1 q2 fun z => by simp at z⟩
          | un => cases e
          | pin => cases e
          | tm y => cases e
theorem locS_app {j : Nat} (l : j < g.length) : locS (g ++ tmp) j = locS g j := by
  unfold locS
  rw [List.getElem?_append_left l]
theorem locT_lt {j : Nat} {ks : List Nat} {ts : List T} (h : locT g j ks = some ts) : j < g.length := by
  unfold locT locS at h
  cases e : g[j]? with
  | none => rw [e] at h; cases h
  | some c => exact (List.getElem?_eq_some_iff.mp e).1
theorem nt_app {i : Nat} {x : T} (h : nt g i = some x) : nt (g ++ tmp) i = some x := by rw [nt_append_left (nt_lt h)]; exact h
theorem locT_app {j : Nat} {ks : List Nat} {ts : List T} (h : locT g j ks = some ts) : locT (g ++ tmp) j ks = some ts ∧ ∀ ts', putL (g ++ tmp) j ks ts' = putL g j ks ts' ++ tmp := by
  have l := locT_lt h
  unfold locT at h ⊢
  unfold putL
  rw [locS_app l]
  cases e : locS g j with
  | none => rw [e] at h; cases h
  | some ip =>
    obtain ⟨i, p⟩ := ip
    rw [e] at h
    dsimp only at h ⊢
    cases ex : nt g i with
    | none => rw [ex] at h; cases h
    | some x =>
      rw [ex] at h
      rw [nt_app ex]
      refine ⟨h, fun ts' => ?_⟩
      dsimp only
      have li := nt_lt ex
      unfold setT
      rw [List.getElem?_append_left li]
      cases eg : g[i]? with
      | none => rfl
      | some c =>
        dsimp only
        rw [List.set_append_left _ _ li]
theorem putL_len {j : Nat} {ks : List Nat} {ts : List T} : (putL g j ks ts).length = g.length := by
  unfold putL
  split
  · split
    · exact setT_len
    · rfl
  · rfl
theorem At.named (a : At K V0 F0 H0 B ext tmp F H σ g) {j : Nat} {ks : List Nat} {ts : List T} (h : locT g j ks = some ts) :
    ∃ (w : V) (b : Addr) (vs : List V) (Sc : Addr → Prop), σ[j]? = some (some w) ∧ Sub F H w ks (.ref b) ∧ H b = some (.lst vs) ∧ TRs K F H vs ts Sc ∧
      ∀ (vs' : List V) (ts' : List T) (Sc' : Addr → Prop), TRs K F H vs' ts' Sc' → (∀ c, Sc' c → Sc c) → (ks = [] → ∀ (m k : Nat), g[m]? = some (Cl.al j k) → vs'[k]? = vs[k]?) → At K V0 F0 H0 B ext tmp F (upd H b (.lst vs')) σ (putL g j ks ts') := by
  obtain ⟨h1, h2⟩ := locT_app (tmp := tmp) h
  obtain ⟨w, b, vs, Sc, q1, q2, q3, q4, q5⟩ := a.st.named h1
  have l := locT_lt h
  rw [List.getElem?_append_left (by rw [a.l]; exact l)] at q1
  refine ⟨w, b, vs, Sc, q1, q2, q3, q4, fun vs' ts' Sc' r1 r2 r3 => ⟨?_, by rw [putL_len]; exact a.l, a.tm⟩⟩
  rw [← h2]
  refine q5 vs' ts' Sc' r1 r2 fun z m k hm => ?_
  rcases Nat.lt_or_ge m g.length with c | c
  · rw [List.getElem?_append_left c] at hm
    exact r3 z m k hm
  · rw [List.getElem?_append_right c] at hm
    obtain ⟨x, e⟩ := a.tm _ (List.mem_of_getElem? hm)
    cases e
theorem trs_appD {vs : List V} {ts : List T} {S : Addr → Prop} {v : V} {d : D} (h : TRs K F H vs ts S) (hd : Dp K F v d) : ∃ S', TRs K F H (vs ++ [v]) (ts ++ [.dat d]) S' ∧ ∀ a, S' a → S a := by
  obtain ⟨S', q1, q2⟩ := trs_append h (.cons (.dat hd) .nil (fun _ z => z.elim)) (fun _ _ z => by rcases z with z | z <;> exact z)
  exact ⟨S', q1, fun a z => by rcases (q2 a).mp z with z | z | z; exact z; exact z.elim; exact z.elim⟩
theorem trs_extD {vs ws : List V} {ts : List T} {S : Addr → Prop} {ds : List D} (h : TRs K F H vs ts S) (hd : DpAll K F ws ds) : ∃ S', TRs K F H (vs ++ ws) (ts ++ ds.map T.dat) S' ∧ ∀ a, S' a → S a := by
  obtain ⟨S2, z1, z2⟩ := trs_dat (H := H) hd
  obtain ⟨S', q1, q2⟩ := trs_append h z1 (fun a _ z => z2 a z)
  exact ⟨S', q1, fun a z => by rcases (q2 a).mp z with z | z; exact z; exact (z2 a z).elim⟩
/-- the names of child k of slot j's list are given up -/
def kilk (j k : Nat) (g : Ct) : Ct := g.map fun c => match c with
  | .al a b => if a = j ∧ b = k then .un else .al a b
  | c => c
theorem kilk_get {j k i : Nat} : (kilk j k g)[i]? = (g[i]?).map fun c => match c with
  | .al a b => if a = j ∧ b = k then .un else .al a b
  | c => c := by
  unfold kilk
  rw [List.getElem?_map]
theorem kilk_gt {j k i : Nat} : gt (kilk j k g) i = gt g i := by
  unfold gt
  rw [kilk_get]
  cases g[i]? with
  | none => rfl
  | some c =>
    cases c with
    | al a b =>
      show (if a = j ∧ b = k then Cl.un else Cl.al a b).tr = _
      split <;> rfl
    | _ => rfl
theorem kilk_nt {j k i : Nat} : nt (kilk j k g) i = nt g i := by
  unfold nt
  rw [kilk_get]
  cases g[i]? with
  | none => rfl
  | some c =>
    cases c with
    | al a b =>
      show (if a = j ∧ b = k then Cl.un else Cl.al a b).nm = _
      split <;> rfl
    | _ => rfl
theorem kilk_al {j k i a b : Nat} (h : (kilk j k g)[i]? = some (Cl.al a b)) : g[i]? = some (Cl.al a b) ∧ ¬ (a = j ∧ b = k) := by
  rw [kilk_get] at h
  cases e : g[i]? with
  | none => rw [e] at h; cases h
  | some c =>
    rw [e] at h
    cases c with
    | al x y =>
      have h' : (if x = j ∧ y = k then Cl.un else Cl.al x y) = Cl.al a b := Option.some.inj h
      split at h'
      · cases h'
      · rename_i n
        cases h'
        exact ⟨rfl, n⟩
    | _ => cases h
theorem kilk_bd {j k i : Nat} {c : Cl} (h : (kilk j k g)[i]? = some c) (hb : c.bd = true) : g[i]? = some c := by
  rw [kilk_get] at h
  cases e : g[i]? with
  | none => rw [e] at h; cases h
  | some c' =>
    rw [e] at h
    cases c' with
    | al x y =>
      have h' : (if x = j ∧ y = k then Cl.un else Cl.al x y) = c := Option.some.inj h
      split at h' <;> (subst h'; cases hb)
    | _ => exact h
theorem At.kilk (a : At K V0 F0 H0 B ext tmp F H σ g) (j k : Nat) : At K V0 F0 H0 B ext tmp F H σ (kilk j k g) := by
  have e : MI.kilk j k tmp = tmp := by
    unfold MI.kilk
    have : ∀ c ∈ tmp, (match c with
      | .al a b => if a = j ∧ b = k then Cl.un else .al a b
      | c => c) = c := fun c hc => by
      obtain ⟨x, rfl⟩ := a.tm c hc
      rfl
    rw [List.map_congr_left this, List.map_id']
  have e2 : MI.kilk j k g ++ tmp = MI.kilk j k (g ++ tmp) := by
    conv => lhs; rw [← e]
    unfold MI.kilk
    rw [List.map_append]
  refine ⟨?_, by unfold MI.kilk; rw [List.length_map]; exact a.l, a.tm⟩
  rw [e2]
  exact a.st.pick id (by unfold MI.kilk; rw [List.length_map]; exact a.st.len) (fun _ _ _ _ z => z) (fun i x hx => ⟨by rw [kilk_gt] at hx; exact hx, rfl⟩) (fun i x hx hb => ⟨⟨x, kilk_bd hx hb, hb⟩, rfl⟩) (fun i m k h => ⟨(kilk_al h).1, rfl, rfl, kilk_nt⟩)
end
def tApp (j : Nat) (m : XM) : ST := fun g => match locT g j [] with
  | some _ => (m g).to fun t g1 => (match locT g1 j [] with
    | some ts => if ts.length < most then .nx (putL g1 j [] (ts ++ [.dat (fz t)])) else .bad
    | none => .bad)
  | none => .bad
def tIns (j : Nat) (m : XA) : ST := fun g => match locT g j [] with
  | some _ => (m g).to fun us g1 => (match us with
    | [i, t] => (match fz i with
      | .int i => (match locT (kil j g1) j [] with
        | some ts => if ts.length < most ∧ 0 ≤ i ∧ i < 2 ^ 63 then .nx (putL (kil j g1) j [] (ts.take i.toNat ++ [.dat (fz t)] ++ ts.drop i.toNat)) else .bad
        | none => .bad)
      | _ => .bad)
    | _ => .bad)
  | none => .bad
def tExt (j : Nat) (m : XM) : ST := fun g => match locT g j [] with
  | some _ => (m g).to fun t g1 => (match t with
    | .lst us => (match locT g1 j [] with
      | some ts => if ts.length + us.length ≤ most then .nx (putL g1 j [] (ts ++ (fzL us).map T.dat)) else .bad
      | none => .bad)
    | _ => .bad)
  | none => .bad
def tClr (j : Nat) : ST := fun g => match locT (kil j g) j [] with
  | some _ => .nx (putL (kil j g) j [] [])
  | none => .bad
def tRev (j : Nat) : ST := fun g => match locT (kil j g) j [] with
  | some ts => .nx (putL (kil j g) j [] ts.reverse)
  | none => .bad
def tPut (j : Nat) (mi m : XM) : ST := fun g => (m g).to fun t g1 => match locT g1 j [] with
  | some _ => (mi g1).to fun i g2 => (match fz i with
    | .int i => (match locT g2 j [] with
      | some ts => (match ixN ts.length i with
        | some k => .nx (putL (kilk j k g2) j [] (ts.set k (.dat (fz t))))
        | none => .bad)
      | none => .bad)
    | _ => .bad)
  | none => .bad
theorem locT_kilk {g : Ct} {i k j : Nat} {ts : List T} (h : locT g j [] = some ts) (n : ∀ a, g[j]? ≠ some (Cl.al i a)) : locT (kilk i k g) j [] = some ts := by
  unfold locT at h ⊢
  have e : locS (kilk i k g) j = locS g j := by
    unfold locS
    rw [kilk_get]
    cases q : g[j]? with
    | none => rfl
    | some c =>
      cases c with
      | al a b =>
        have : ¬ (a = i ∧ b = k) := fun z => n b (by rw [q, z.1])
        show (match some (if a = i ∧ b = k then Cl.un else Cl.al a b) with
          | some (.t _) => some (j, [])
          | some (.b _) => some (j, [])
          | some (.al i k) => some (i, [k])
          | _ => none) = _
        rw [if_neg this]
      | _ => rfl
  rw [e]
  cases q : locS g j with
  | none => rw [q] at h; cases h
  | some ip =>
    rw [q] at h
    obtain ⟨a, b⟩ := ip
    dsimp only at h ⊢
    rw [kilk_nt]
    exact h
end MI
set_option Elab.async false
set_option linter.all false
set_option maxRecDepth 100000
set_option maxHeartbeats 4000000
namespace MI
open PySem PySem.Spec PyProof.Rows L2
section
variable {X : Cx} {W : WX} {V0 : Nat → Option V} {F0 H0 F H : Hp} {B : Addr → Prop} {D : Ends} {σ : L2.St} {g : Ct}
theorem sub0 {F H : Hp} {w : V} {a : Addr} (h : Sub F H w [] (.ref a)) : w = .ref a := by cases h; rfl
/-- the keep of names of items by an append -/
theorem keepA {K : PySem.W.Frag} {ext : L2.St} {tmp : Ct} (a : At K V0 F0 H0 B ext tmp F H σ g) {j : Nat} {b : Addr} {vs ws : List V} (hσ : σ[j]? = some (some (.ref b))) (hb : H b = some (.lst vs)) : ∀ (m k : Nat), g[m]? = some (Cl.al j k) → (vs ++ ws)[k]? = vs[k]? := fun m k e => by
  have lm := (List.getElem?_eq_some_iff.mp e).1
  obtain ⟨b', us, v, h1, h2, h3, h4, h5, ts0, h6⟩ := a.st.al m j k (by rw [List.getElem?_append_left lm]; exact e)
  have lj := (List.getElem?_eq_some_iff.mp hσ).1
  rw [List.getElem?_append_left lj, hσ] at h1
  cases h1
  rw [hb] at h2
  cases h2
  rw [List.getElem?_append_left (List.getElem?_eq_some_iff.mp h4).1]
theorem mts_app (j : Nat) {x : Str} {e : Expr} {m : XM} {px apos cpos pos : Pos} (he : MX X W e m) (hx : PE X (.Name x px) (tVar j))
    (hbase : attributeBase (.Name x px) "append" X.env (eval (.Name x px) X.env) = eval (.Name x px) X.env := by rfl)
    (hfew : ((backTo cpos (starEach (e :: []) X.env)).all (fun x => !x.1) && (backToKw cpos (keywordEach [] X.env)).all (fun x => x.1.isSome)
      && decide ((e :: []).length + ([] : List Keyword).length + (if ([] : List Keyword).isEmpty then 0 else 1) < 30)) = true := by rfl)
    (hline : (apos.endLine == cpos.line) = true := by rfl) (hs : starEach (e :: []) X.env = (false, eval e X.env) :: starEach [] X.env := by rfl) (hplain : (backTo cpos (starEach [] X.env)).any (·.1) = false := by rfl)
    (hw : swapsWith (.Call (.Attribute (.Name x px) "append" apos) [e] [] cpos) none pos.line X.env = pure false := by rfl) :
    MTS X W (.Expr (.Call (.Attribute (.Name x px) "append" apos) [e] [] cpos) pos) (tApp j m) := by
  refine PS.imp (ps_expr (pe_bm PySem.F.plainAttrs_list PySem.F.slot_list_append PySem.F.type_list_append mt_append hx (pa_cons he pa_nil hs) hbase hfew hline hs hplain) hw) fun D σ H ⟨V0, F0, H0, B, F, g, ok, h⟩ => ?_
  unfold tApp at h
  cases q0 : locT g j [] with
  | none => rw [q0] at h; exact h.elim
  | some ts0 =>
    rw [q0] at h
    obtain ⟨w, a, vs0, Sc0, hσ, hsub, hH0, _, _⟩ := ok.at0.named q0
    have := sub0 hsub
    subst this
    refine ⟨_, hσ, .inl ⟨rfl, vs0, SqL.of hH0⟩, ?_⟩
    refine evX (Q := fun y H1 => rAppend (.ref a) [y] H1 fun _ H2 => D.nx σ H2) ok h fun t v g1 F1 H1 e1 ok1 l1 h1 => ?_
    obtain ⟨F2, _, ok2, hd⟩ := ok1.top1 l1
    cases q1 : locT g1 j [] with
    | none => rw [q1] at h1; exact h1.elim
    | some ts =>
      rw [q1] at h1
      dsimp only at h1
      split at h1
      · rename_i l
        obtain ⟨w', a', vs, Sc, hσ', hsub', hH, htr, wr⟩ := ok2.at0.named q1
        rw [hσ] at hσ'
        cases hσ'
        have := sub0 hsub'
        cases this
        obtain ⟨S', z1, z2⟩ := trs_appD htr hd
        exact ⟨a, vs, v, rfl, rfl, hH, by rw [trs_len htr]; exact Nat.lt_of_lt_of_le l (Nat.le_of_eq most_eq), h1 F2 _ σ (wr _ _ _ z1 z2 fun _ => keepA ok2.at0 hσ hH).st0⟩
      · exact h1.elim
theorem mts_ext (j : Nat) {x : Str} {e : Expr} {m : XM} {px apos cpos pos : Pos} (he : MX X W e m) (hx : PE X (.Name x px) (tVar j))
    (hbase : attributeBase (.Name x px) "extend" X.env (eval (.Name x px) X.env) = eval (.Name x px) X.env := by rfl)
    (hfew : ((backTo cpos (starEach (e :: []) X.env)).all (fun x => !x.1) && (backToKw cpos (keywordEach [] X.env)).all (fun x => x.1.isSome)
      && decide ((e :: []).length + ([] : List Keyword).length + (if ([] : List Keyword).isEmpty then 0 else 1) < 30)) = true := by rfl)
    (hline : (apos.endLine == cpos.line) = true := by rfl) (hs : starEach (e :: []) X.env = (false, eval e X.env) :: starEach [] X.env := by rfl) (hplain : (backTo cpos (starEach [] X.env)).any (·.1) = false := by rfl)
    (hw : swapsWith (.Call (.Attribute (.Name x px) "extend" apos) [e] [] cpos) none pos.line X.env = pure false := by rfl) :
    MTS X W (.Expr (.Call (.Attribute (.Name x px) "extend" apos) [e] [] cpos) pos) (tExt j m) := by
  refine PS.imp (ps_expr (pe_bm PySem.F.plainAttrs_list PySem.F.slot_list_extend PySem.F.type_list_extend mt_extend hx (pa_cons he pa_nil hs) hbase hfew hline hs hplain) hw) fun D σ H ⟨V0, F0, H0, B, F, g, ok, h⟩ => ?_
  unfold tExt at h
  cases q0 : locT g j [] with
  | none => rw [q0] at h; exact h.elim
  | some ts0 =>
    rw [q0] at h
    obtain ⟨w, a, vs0, Sc0, hσ, hsub, hH0, _, _⟩ := ok.at0.named q0
    have := sub0 hsub
    subst this
    refine ⟨_, hσ, .inl ⟨rfl, vs0, SqL.of hH0⟩, ?_⟩
    refine evX (Q := fun y H1 => rExtend (.ref a) [y] H1 fun _ H2 => D.nx σ H2) ok h fun t v g1 F1 H1 e1 ok1 l1 h1 => ?_
    cases t with
    | lst us =>
      dsimp only at h1
      obtain ⟨F2, _, ok2, _, hd⟩ := StT.tops' (vs := [v]) (ts := [.lst us]) ok1 l1
      obtain ⟨b, ws, rfl, hb, y⟩ := hd 0 us v rfl rfl
      cases q1 : locT g1 j [] with
      | none => rw [q1] at h1; exact h1.elim
      | some ts =>
        rw [q1] at h1
        dsimp only at h1
        split at h1
        · rename_i l
          obtain ⟨w', a', vs, Sc, hσ', hsub', hH, htr, wr⟩ := ok2.at0.named q1
          rw [hσ] at hσ'
          cases hσ'
          have := sub0 hsub'
          cases this
          obtain ⟨S', z1, z2⟩ := trs_extD htr y
          have fl : ∀ us : List T, (fzL us).length = us.length := fun us => by
            induction us with
            | nil => rfl
            | cons a b ih => exact congrArg Nat.succ ih
          exact ⟨a, b, vs, ws, rfl, rfl, hH, hb, by rw [trs_len htr, dpa_len y, fl]; exact most_le l, h1 F2 _ σ (wr _ _ _ z1 z2 fun _ => keepA ok2.at0 hσ hH).st0⟩
        · exact h1.elim
    | _ => exact h1.elim
/-- x.pop() -/
def xPop (j : Nat) : XM := fun g => match locT (kil j g) j [] with
  | some ts => (match ts[ts.length - 1]? with
    | some (.dat d) => .ok (.dat d) (putL (kil j g) j [] (ts.eraseIdx (ts.length - 1)))
    | _ => .bad)
  | none => .bad
theorem mts_put (j : Nat) {x : Str} {ei e : Expr} {mi m : XM} {px pt pos : Pos} (he : MX X W e m) (hi : MX X W ei mi) (hg : PG X (.Subscript (.Name x px) ei pt) (gSub (tVar j) (tX X W mi) rSetL))
    (hs : swapsWithSole [.Subscript (.Name x px) ei pt] e pos.line X.env = pure false := by rfl) (hw : swappedStores [.Subscript (.Name x px) ei pt] e X.env = pure none := by rfl) (h1 : (assignEach [.Subscript (.Name x px) ei pt] X.env).map (·.2) = [assign (.Subscript (.Name x px) ei pt) X.env] := by rfl) :
    MTS X W (.Assign [.Subscript (.Name x px) ei pt] e pos) (tPut j mi m) := by
  refine PS.imp (ps_asg he hg hs hw h1) fun D σ H ⟨V0, F0, H0, B, F, g, ok, h⟩ => ?_
  unfold tPut at h
  refine evX (Q := fun v H1 => gSub (tVar j) (tX X W mi) rSetL v σ H1 D.nx) ok h fun t v g1 F1 H1 e1 ok1 l1 h1 => ?_
  cases q0 : locT g1 j [] with
  | none => rw [q0] at h1; exact h1.elim
  | some ts0 =>
    rw [q0] at h1
    dsimp only at h1
    have a1 : At X.K V0 F0 H0 B [some v] [.tm t] F1 H1 σ g1 := ⟨ok1, l1, fun c hc => ⟨t, List.mem_singleton.mp hc⟩⟩
    obtain ⟨w, a, vs0, Sc0, hσ, hsub, hH0, _, _⟩ := a1.named q0
    have := sub0 hsub
    subst this
    refine ⟨_, hσ, V0, F0, H0, B, [some v], [.tm t], F1, g1, a1, ?_⟩
    cases e2 : mi g1 with
    | ok i g2 =>
      rw [e2] at h1
      intro vi F2 H2 a2
      obtain ⟨F3, _, a3, hdv, hdi⟩ := At.top2 (ext := []) (tmp := []) (fun c hc => by cases hc) rfl a2
      have h1 : SPT X.K X.mg W V0 F0 H0 B D (match fz i with
        | .int i => (match locT g2 j [] with
          | some ts => (match ixN ts.length i with
            | some k => .nx (putL (kilk j k g2) j [] (ts.set k (.dat (fz t))))
            | none => .bad)
          | none => .bad)
        | _ => .bad) := h1
      split at h1
      · rename_i ii ei
        rw [ei] at hdi
        cases dp_int hdi
        cases q1 : locT g2 j [] with
        | none => rw [q1] at h1; exact h1.elim
        | some ts =>
          rw [q1] at h1
          dsimp only at h1
          split at h1
          · rename_i k hk
            have ak := a3.kilk j k
            have q2 : locT (MI.kilk j k g2) j [] = some ts := locT_kilk q1 fun b hb => by
              obtain ⟨b', us, v', w1, w2, w3, w4, w5, ts', w6⟩ := a3.st0.al j j b hb
              unfold nt at w6
              rw [hb] at w6
              cases w6
            obtain ⟨w', a', vs, Sc, hσ', hsub', hH, htr, wr⟩ := ak.named q2
            rw [hσ] at hσ'
            cases hσ'
            have := sub0 hsub'
            cases this
            obtain ⟨S', z1, z2⟩ := trs_setD (k := k) htr hdv
            refine ⟨a, vs, ii, k, rfl, rfl, hH, by rw [trs_len htr]; exact hk, ?_⟩
            refine h1 F3 _ σ (wr _ _ _ z1 z2 fun _ m k' e => ?_).st0
            have := (kilk_al e).2
            rw [List.getElem?_set_ne (fun z => this ⟨rfl, z.symm⟩)]
          · exact h1.elim
      · exact h1.elim
    | exc c p g2 =>
      rw [e2] at h1
      intro cls od F2 H2 a2 xv
      obtain ⟨F3, s3, a3, _⟩ := At.top1 (ext := []) (tmp := []) (fun c hc => by cases hc) rfl a2
      exact h1 cls od F3 H2 σ a3.st0 (xv_mono s3 xv)
    | bad => rw [e2] at h1; exact h1.elim
/-- y = x[k], another name of that list -/
def tAl (y j k : Nat) : ST := fun g => match nt g j with
  | some (.lst ts) => (match ts[k]? with
    | some (.lst _) => if free1 g y = true ∧ y ≠ j ∧ y < g.length then .nx ((kil y g).set y (.al j k)) else .bad
    | _ => .bad)
  | _ => .bad
end
end MI
set_option Elab.async false
set_option linter.all false
set_option maxRecDepth 100000
set_option maxHeartbeats 4000000
namespace MI
open PySem PySem.Spec PyProof.Rows L2
inductive RF where
  | ok (t : T) (bs : Ct)
  | exc (c : Str) (p : Option D) (bs : Ct)
  | bad
/-- an argument: lent, or given -/
abbrev Us := List (Bool × T)
def cellOf : Bool × T → Cl
  | (true, x) => .b x
  | (false, x) => .t x
/-- what comes back of the lent ones -/
def bback : Us → Ct → Option Ct
  | [], _ => some []
  | (true, _) :: us, .b x :: g => (bback us g).map fun r => .t x :: r
  | (false, _) :: us, _ :: g => (bback us g).map fun r => .un :: r
  | _, _ => none
theorem bback_len : ∀ {us : Us} {g bs : Ct}, bback us g = some bs → bs.length = us.length
  | [], _, _, h => by cases h; rfl
  | (true, _) :: us, .b x :: g, bs, h => by
    have h' : (bback us g).map (fun r => Cl.t x :: r) = some bs := h
    cases e : bback us g with
    | none => rw [e] at h'; cases h'
    | some r => rw [e] at h'; cases h'; exact congrArg Nat.succ (bback_len e)
  | (false, _) :: us, c :: g, bs, h => by
    have h' : (bback us g).map (fun r => Cl.un :: r) = some bs := by cases c <;> exact h
    cases e : bback us g with
    | none => rw [e] at h'; cases h'
    | some r => rw [e] at h'; cases h'; exact congrArg Nat.succ (bback_len e)
  | (true, _) :: us, [], _, h => by cases h
  | (false, _) :: us, [], _, h => by cases h
  | (true, _) :: us, .un :: g, _, h => by cases h
  | (true, _) :: us, .t _ :: g, _, h => by cases h
  | (true, _) :: us, .tm _ :: g, _, h => by cases h
  | (true, _) :: us, .al _ _ :: g, _, h => by cases h
theorem bback_get : ∀ {us : Us} {g bs : Ct} {i : Nat} {x : T}, bback us g = some bs → gt bs i = some x → (∃ y, us[i]? = some (true, y)) ∧ g[i]? = some (.b x)
  | [], _, _, i, x, h, q => by cases h; unfold gt at q; simp at q
  | (true, y) :: us, .b z :: g, bs, i, x, h, q => by
    have h' : (bback us g).map (fun r => Cl.t z :: r) = some bs := h
    cases e : bback us g with
    | none => rw [e] at h'; cases h'
    | some r =>
      rw [e] at h'
      cases h'
      cases i with
      | zero =>
        have q' : some z = some x := q
        cases q'
        exact ⟨⟨y, rfl⟩, rfl⟩
      | succ i =>
        obtain ⟨a, b⟩ := bback_get (i := i) (x := x) e (by unfold gt at q ⊢; simpa using q)
        exact ⟨by simpa using a, by simpa using b⟩
  | (false, y) :: us, c :: g, bs, i, x, h, q => by
    have h' : (bback us g).map (fun r => Cl.un :: r) = some bs := by cases c <;> exact h
    cases e : bback us g with
    | none => rw [e] at h'; cases h'
    | some r =>
      rw [e] at h'
      cases h'
      cases i with
      | zero => cases q
      | succ i =>
        obtain ⟨a, b⟩ := bback_get (i := i) (x := x) e (by unfold gt at q ⊢; simpa using q)
        exact ⟨by simpa using a, by simpa using b⟩
  | (true, _) :: us, [], _, _, _, h, _ => by cases h
  | (false, _) :: us, [], _, _, _, h, _ => by cases h
  | (true, _) :: us, .un :: g, _, _, _, h, _ => by cases h
  | (true, _) :: us, .t _ :: g, _, _, _, h, _ => by cases h
  | (true, _) :: us, .tm _ :: g, _, _, _, h, _ => by cases h
  | (true, _) :: us, .al _ _ :: g, _, _, _, h, _ => by cases h
/-- cells that are filled or not, nothing else -/
def Pl (bs : Ct) : Prop := ∀ c ∈ bs, c = Cl.un ∨ ∃ x, c = Cl.t x
theorem bback_pl : ∀ {us : Us} {g bs : Ct}, bback us g = some bs → Pl bs
  | [], _, _, h => by cases h; intro c hc; cases hc
  | (true, _) :: us, .b x :: g, bs, h => by
    have h' : (bback us g).map (fun r => Cl.t x :: r) = some bs := h
    cases e : bback us g with
    | none => rw [e] at h'; cases h'
    | some r =>
      rw [e] at h'; cases h'
      intro c hc
      rcases List.mem_cons.mp hc with hc | hc
      · exact .inr ⟨x, hc⟩
      · exact bback_pl e c hc
  | (false, _) :: us, c :: g, bs, h => by
    have h' : (bback us g).map (fun r => Cl.un :: r) = some bs := by cases c <;> exact h
    cases e : bback us g with
    | none => rw [e] at h'; cases h'
    | some r =>
      rw [e] at h'; cases h'
      intro c hc
      rcases List.mem_cons.mp hc with hc | hc
      · exact .inl hc
      · exact bback_pl e c hc
  | (true, _) :: us, [], _, h => by cases h
  | (false, _) :: us, [], _, h => by cases h
  | (true, _) :: us, .un :: g, _, h => by cases h
  | (true, _) :: us, .t _ :: g, _, h => by cases h
  | (true, _) :: us, .tm _ :: g, _, h => by cases h
  | (true, _) :: us, .al _ _ :: g, _, h => by cases h
def runT (n N : Nat) (m : ST) (us : Us) : RF := if us.length = n then (match m (us.map cellOf ++ List.replicate (N - n) Cl.un) with
  | .nx g => (match bback us g with
    | some bs => .ok (.dat .none) bs
    | none => .bad)
  | .rt t g => (match bback us g with
    | some bs => .ok t bs
    | none => .bad)
  | .ex c p g => (match bback us g with
    | some bs => .exc c p bs
    | none => .bad)
  | _ => .bad) else .bad
def FPT (K : PySem.W.Frag) (mg : Str → Option Value) (V0 : Nat → Option V) (F0 H0 : Hp) (B : Addr → Prop) (vs : List V) (Q : VK) (E : XK) : RF → Prop
  | .ok t bs => ∀ v F H, StT K V0 F0 H0 B F H (vs.map some ++ [some v]) (bs ++ [.tm t]) → Q v H
  | .exc c p bs => ∀ cls od F H, StT K V0 F0 H0 B F H (vs.map some) bs → XV K mg F c p cls od → E cls od H
  | .bad => False
def spT (K : PySem.W.Frag) (mg : Str → Option Value) (n : Nat) (f : Us → RF) : Sp := fun vs H Q E => ∃ (V0 : Nat → Option V) (F0 H0 : Hp) (B : Addr → Prop) (F : Hp) (us : Us), StT K V0 F0 H0 B F H (vs.map some) (us.map cellOf) ∧ us.length = n ∧ FPT K mg V0 F0 H0 B vs Q E (f us)
section
variable {K : PySem.W.Frag} {V0 : Nat → Option V} {F0 H0 F H : Hp} {B : Addr → Prop}
theorem StT.start {vs : List V} {us : Us} {N : List Str} (ok : StT K V0 F0 H0 B F H (vs.map some) (us.map cellOf)) (l : us.length ≤ N.length) : StT K V0 F0 H0 B F H (L2.start N vs) (us.map cellOf ++ List.replicate (N.length - us.length) Cl.un) := by
  have lv : vs.length = us.length := by have := ok.len; simpa using this
  have g1 : ∀ i, gt (us.map cellOf ++ List.replicate (N.length - us.length) Cl.un) i = gt (us.map cellOf) i := fun i => by
    rcases Nat.lt_or_ge i (us.map cellOf).length with c | c
    · exact gt_append_left c
    · unfold gt
      rw [List.getElem?_append_right c, List.getElem?_replicate, List.getElem?_eq_none c]
      split <;> rfl
  have un : ∀ (i : Nat) (c : Cl), (us.map cellOf ++ List.replicate (N.length - us.length) Cl.un)[i]? = some c → c ≠ .un → (us.map cellOf)[i]? = some c ∧ i < us.length := fun i c h n => by
    rcases Nat.lt_or_ge i (us.map cellOf).length with k | k
    · rw [List.getElem?_append_left k] at h
      exact ⟨h, by simpa using k⟩
    · rw [List.getElem?_append_right k, List.getElem?_replicate] at h
      split at h
      · cases h; exact absurd rfl n
      · cases h
  have sg : ∀ i, i < us.length → (L2.start N vs)[i]? = (vs.map some)[i]? := fun i h => by
    unfold L2.start
    rw [List.getElem?_append_left (by simp; omega)]
  refine ok.pick id (by unfold L2.start; simp; omega) (fun _ _ _ _ e => e) (fun i x hx => ?_) (fun i x hx hb => ?_) (fun j i k e => ?_)
  · rw [g1] at hx
    have := gt_lt hx
    exact ⟨hx, sg i (by simpa using this)⟩
  · obtain ⟨a, b⟩ := un i _ hx (by intro z; subst z; cases hb)
    exact ⟨⟨x, a, hb⟩, sg i b⟩
  · obtain ⟨a, b⟩ := un j _ e (by intro z; cases z)
    rw [List.getElem?_map] at a
    cases q : us[j]? with
    | none => rw [q] at a; cases a
    | some u =>
      rw [q] at a
      obtain ⟨bb, x⟩ := u
      cases bb <;> cases a
theorem StT.finish {vs : List V} {us : Us} {σ : L2.St} {g bs : Ct} {v : V} {t : T} {F1 H1 : Hp} (ok0 : StT K V0 F0 H0 B F H (vs.map some) (us.map cellOf)) (ok : StT K V0 F0 H0 B F1 H1 (σ ++ [some v]) (g ++ [.tm t])) (l : σ.length = g.length) (hb : bback us g = some bs) : StT K V0 F0 H0 B F1 H1 (vs.map some ++ [some v]) (bs ++ [.tm t]) := by
  have lb := bback_len hb
  have lv : vs.length = us.length := by have := ok0.len; simpa using this
  have pl := bback_pl hb
  have val : ∀ i x, gt bs i = some x → (vs.map some)[i]? = σ[i]? ∧ gt g i = some x := fun i x hx => by
    obtain ⟨⟨y, h1⟩, h2⟩ := bback_get hb hx
    have li := (List.getElem?_eq_some_iff.mp h2).1
    obtain ⟨w, q1, q2⟩ := ok.bor i x (by rw [List.getElem?_append_left li]; exact h2)
    obtain ⟨w', r1, r2⟩ := ok0.bor i y (by rw [List.getElem?_map, h1]; rfl)
    rw [r1] at q1
    cases q1
    rw [List.getElem?_append_left (by omega)] at q2
    exact ⟨r2.trans q2.symm, gt_of (.inr h2)⟩
  refine ok.pick (fun i => if i = bs.length then g.length else i) (by simp; omega) (fun i j hi hj e => ?_) (fun i x hx => ?_) (fun i x hx hxb => ?_) (fun j i k e => ?_)
  · have li : i < bs.length + 1 := by
      obtain ⟨x, hx⟩ := Option.isSome_iff_exists.mp hi
      have := gt_lt hx
      simpa using this
    have lj : j < bs.length + 1 := by
      obtain ⟨x, hx⟩ := Option.isSome_iff_exists.mp hj
      have := gt_lt hx
      simpa using this
    have small : ∀ i, (gt (bs ++ [Cl.tm t]) i).isSome = true → i ≠ bs.length → i < g.length := fun i hi n => by
      obtain ⟨x, hx⟩ := Option.isSome_iff_exists.mp hi
      have := gt_lt hx
      simp at this
      rw [gt_append_left (by omega)] at hx
      exact gt_lt (val i x hx).2
    split at e
    · split at e
      · omega
      · rename_i n
        have := small j hj n
        omega
    · rename_i n
      split at e
      · have := small i hi n
        omega
      · exact e
  · have := gt_lt hx
    simp at this
    by_cases n : i = bs.length
    · rw [if_pos n]
      rw [n, gt_push] at hx
      cases hx
      refine ⟨gt_push, ?_⟩
      rw [n, List.getElem?_append_right (by simp; omega), List.getElem?_append_right (by omega)]
      simp [lb, lv, l]
    · rw [if_neg n]
      rw [gt_append_left (by omega)] at hx
      obtain ⟨a, b⟩ := val i x hx
      have lg := gt_lt b
      exact ⟨by rw [gt_append_left lg]; exact b, by rw [List.getElem?_append_left (by simp; omega), List.getElem?_append_left (by omega)]; exact a⟩
  · exfalso
    have mem := List.mem_of_getElem? hx
    rcases List.mem_append.mp mem with mem | mem
    · rcases pl _ mem with z | ⟨y, z⟩ <;> (subst z; cases hxb)
    · have := List.mem_singleton.mp mem
      subst this
      cases hxb
  · exfalso
    have mem := List.mem_of_getElem? e
    rcases List.mem_append.mp mem with mem | mem
    · rcases pl _ mem with z | ⟨y, z⟩ <;> cases z
    · have := List.mem_singleton.mp mem
      cases this
end
theorem fn_okT {P : Program} {w : World} {K : PySem.W.Frag} {mg : Str → Option Value} {base : Heap} {x qual : Str} {params : Arguments} {body : List Stmt} {scope : Scope} {dvs : List V} {kws : List (Str × V)} {f : Addr} {fd : FuncData} {N ps : List Str} {k : Nat} {m : ST}
    (F : FunD K x qual params body scope dvs kws f fd) (Sc : FnScope N ps scope)
    (hbody : ∀ (cdv : Value) (A : Around) (outer : List Env) (s : Shared) (H : Hp) (E : XK), Room k (A.deeper (envOfC qual scope s.heap.objs.size f cdv)) →
      MTSs (cxOf (L2.CX P w) P w K mg base N qual scope f cdv A outer s H E) (WD E) body m) :
    FnOk P w K mg base (L2.CX P w) (k + 1) f fd ps (spT K mg ps.length (runT ps.length N.length m)) := by
  have lp : ps.length ≤ N.length := by
    have := congrArg List.length Sc.pre
    rw [List.length_take] at this
    omega
  refine F.ok Sc (fun vs H Q E ⟨V0, F0, H0, B, F, us, ok, l, _⟩ => (by have := ok.len; simp at this; omega)) fun cdv A outer s H vs Q E hr ⟨V0, F0, H0, B, F, us, ok, l, hp⟩ => ⟨_, hbody cdv A outer s H E hr, V0, F0, H0, B, F, _, StT.start (N := N) ok (by omega), ?_⟩
  unfold runT at hp
  rw [if_pos l] at hp
  rw [l]
  cases e : m (us.map cellOf ++ List.replicate (N.length - ps.length) Cl.un) with
  | nx g =>
    rw [e] at hp
    dsimp only at hp
    cases hb : bback us g with
    | none => rw [hb] at hp; exact (show False from hp).elim
    | some bs =>
      rw [hb] at hp
      exact fun F' H' σ ok' => hp .non F' H' (ok.finish (ok'.pushD .non) ok'.len hb)
  | rt t g =>
    rw [e] at hp
    dsimp only at hp
    cases hb : bback us g with
    | none => rw [hb] at hp; exact (show False from hp).elim
    | some bs =>
      rw [hb] at hp
      exact fun v F' H' σ ok' l' => hp v F' H' (ok.finish ok' l' hb)
  | ex c p g =>
    rw [e] at hp
    dsimp only at hp
    cases hb : bback us g with
    | none => rw [hb] at hp; exact (show False from hp).elim
    | some bs =>
      rw [hb] at hp
      intro cls od F' H' σ ok' xv
      have o2 := ok.finish (ok'.pushD .non) ok'.len hb
      have lb := bback_len hb
      have lv : vs.length = us.length := by have := ok.len; simpa using this
      exact hp cls od F' H' (o2.drop1 (by simp; omega)) xv
  | bk g => rw [e] at hp; exact (show False from hp).elim
  | ct g => rw [e] at hp; exact (show False from hp).elim
  | bad => rw [e] at hp; exact (show False from hp).elim
end MI
set_option Elab.async false
set_option linter.all false
set_option maxRecDepth 100000
set_option maxHeartbeats 4000000
namespace MI
open PySem PySem.Spec PyProof.Rows L2
section
variable {K : PySem.W.Frag} {V0 : Nat → Option V} {F0 H0 F H : Hp} {B : Addr → Prop}
theorem nodup_at {ps : List Nat} (nd : ps.Nodup) {i j p : Nat} (h1 : ps[i]? = some p) (h2 : ps[j]? = some p) : i = j := by
  obtain ⟨l1, e1⟩ := List.getElem?_eq_some_iff.mp h1
  obtain ⟨l2, e2⟩ := List.getElem?_eq_some_iff.mp h2
  have pw := List.pairwise_iff_getElem.mp nd
  rcases Nat.lt_trichotomy i j with c | c | c
  · exact absurd (e1.trans e2.symm) (pw i j l1 l2 c)
  · exact c
  · exact absurd (e2.trans e1.symm) (pw j i l2 l1 c)
theorem StT.call {τ : L2.St} {γ : Ct} (ok : StT K V0 F0 H0 B F H τ γ) {vs : List V} {us : Us} {ps : List Nat} (lv : vs.length = us.length) (lp : ps.length = us.length) (nd : ps.Nodup)
    (hp : ∀ (k : Nat) (v : V) (b : Bool) (x : T) (p : Nat), vs[k]? = some v → us[k]? = some (b, x) → ps[k]? = some p → τ[p]? = some (some v) ∧ gt γ p = some x) :
    ∃ (V1 : Nat → Option V) (B' : Addr → Prop), StT K V1 F H B' F H (vs.map some) (us.map cellOf) ∧
      ∀ (F' H' : Hp) (v : V) (t : T) (bs : Ct) (τ' : L2.St) (γ' : Ct) (top : Nat), StT K V1 F H B' F' H' (vs.map some ++ [some v]) (bs ++ [.tm t]) → bs.length = us.length → τ'.length = γ'.length →
        (∀ p x, gt γ' p = some x → (p = top ∧ x = t ∧ τ'[p]? = some (some v)) ∨ (p ≠ top ∧ τ'[p]? = τ[p]? ∧ ((∃ k : Nat, ps[k]? = some p ∧ gt bs k = some x) ∨ (gt γ p = some x ∧ ∀ k : Nat, ps[k]? ≠ some p)))) →
        (∀ (p : Nat) (x : Cl), γ'[p]? = some x → x.bd = true → (∃ y, γ[p]? = some y ∧ y.bd = true) ∧ τ'[p]? = τ[p]?) →
        (∀ (j i k : Nat), γ'[j]? = some (Cl.al i k) → γ[j]? = some (Cl.al i k) ∧ nt γ' i = nt γ i ∧ τ'[i]? = τ[i]? ∧ τ'[j]? = τ[j]? ∧ ∀ m : Nat, ps[m]? ≠ some i) → StT K V0 F0 H0 B F' H' τ' γ' := by
  obtain ⟨S, s1, s2, s3, s4⟩ := ok.own
  have un : ∀ (k : Nat) (c : Cl), (us.map cellOf)[k]? = some c → ∃ b x, us[k]? = some (b, x) ∧ c = cellOf (b, x) := fun k c h => by
    rw [List.getElem?_map] at h
    cases e : us[k]? with
    | none => rw [e] at h; cases h
    | some u => rw [e] at h; cases h; exact ⟨u.1, u.2, rfl, rfl⟩
  have gtu : ∀ (k : Nat) (x : T), gt (us.map cellOf) k = some x → ∃ b v p, us[k]? = some (b, x) ∧ vs[k]? = some v ∧ ps[k]? = some p := fun k x h => by
    have hk := h
    unfold gt at h
    cases e : (us.map cellOf)[k]? with
    | none => rw [e] at h; cases h
    | some c =>
      rw [e] at h
      obtain ⟨b, y, h1, h2⟩ := un k c e
      subst h2
      have lk := (List.getElem?_eq_some_iff.mp h1).1
      cases b <;> cases h <;> exact ⟨_, vs[k], ps[k], h1, List.getElem?_eq_getElem (by omega), List.getElem?_eq_getElem (by omega)⟩
  refine ⟨fun k => vs[k]?, fun a => ∃ (k p : Nat), ps[k]? = some p ∧ S p a, ⟨Same.refl F, fun a o _ e => e, ok.s, fun a o e n => (by rw [n] at e; cases e), by simp [lv], ⟨fun k a => ∃ p : Nat, ps[k]? = some p ∧ S p a, fun k x hx => ?_, fun k a ⟨p, q, r⟩ => .inl ⟨k, p, q, r⟩, fun i j a ⟨p, q, r⟩ ⟨p', q', r'⟩ => ?_, fun k e a ⟨p, q, r⟩ => ?_⟩, fun k x e _ => ?_, fun j i k e => ?_⟩, fun F' H' v t bs τ' γ' top ok' lb ll r1 r2 r3 => ?_⟩
  · obtain ⟨b, w, p, h1, h2, h3⟩ := gtu k x hx
    obtain ⟨q1, q2⟩ := hp k w b x p h2 h1 h3
    obtain ⟨w', z1, z2⟩ := s1 p x q2
    rw [q1] at z1
    cases z1
    refine ⟨w, by rw [List.getElem?_map, h2]; rfl, ?_⟩
    have : (fun a => ∃ p : Nat, ps[k]? = some p ∧ S p a) = S p := by
      funext a
      rw [h3]
      simp
    show TR K F H w x (fun a => ∃ p : Nat, ps[k]? = some p ∧ S p a)
    rw [this]
    exact z2
  · have := s3 p p' a r r'
    subst this
    exact nodup_at nd q q'
  · have lk := (List.getElem?_eq_some_iff.mp q).1
    have : gt (us.map cellOf) k = some us[k].2 := by
      unfold gt
      rw [List.getElem?_map, List.getElem?_eq_getElem (by omega)]
      generalize us[k] = u
      obtain ⟨b, x⟩ := u
      cases b <;> rfl
    rw [this] at e
    cases e
  · obtain ⟨b, y, h1, h2⟩ := un k _ e
    have lk := (List.getElem?_eq_some_iff.mp h1).1
    exact ⟨vs[k], List.getElem?_eq_getElem (by omega), by rw [List.getElem?_map, List.getElem?_eq_getElem (by omega)]; rfl⟩
  · obtain ⟨b, y, h1, h2⟩ := un j _ e
    cases b <;> cases h2
  · obtain ⟨Sc, c1, c2, c3, c4⟩ := ok'.own
    have inB : ∀ a, (∃ (k p : Nat), ps[k]? = some p ∧ S p a) → B a ∨ H0 a = none := fun a ⟨k, p, _, q⟩ => s2 p a q
    have lift : ∀ a, H a = none → B a ∨ H0 a = none := fun a q => by
      by_cases b : B a
      · exact .inl b
      · cases w : H0 a with
        | none => exact .inr rfl
        | some u => rw [ok.h a u b w] at q; cases q
    have cB : ∀ k a, Sc k a → B a ∨ H0 a = none := fun k a q => by
      rcases c2 k a q with z | z
      · exact inB a z
      · exact lift a z
    -- what stands apart from the arguments
    have apart : ∀ p a, (∀ k : Nat, ps[k]? ≠ some p) → S p a → ¬ (∃ (k p : Nat), ps[k]? = some p ∧ S p a) := fun p a n q ⟨k, p', z, w⟩ => by
      have := s3 p p' a q w
      subst this
      exact n k z
    have SH : ∀ p a, S p a → ∃ o, H a = some o ∧ F a = none ∧ OwnO o := fun p a q => by
      cases e : gt γ p with
      | none => exact (s4 p e a q).elim
      | some x =>
        obtain ⟨w, _, z⟩ := s1 p x e
        exact tr_own z a q
    have keep : ∀ p a, (∀ k : Nat, ps[k]? ≠ some p) → S p a → H' a = H a ∧ F' a = none := fun p a n q => by
      obtain ⟨xs, z1, z2, z3⟩ := SH p a q
      have nb := apart p a n q
      refine ⟨(ok'.h a _ nb z1).trans z1.symm, ?_⟩
      cases w : F' a with
      | none => rfl
      | some u =>
        rcases ok'.n a u w z2 with y | y
        · rw [z1] at y; exact (z3.not_lo y).elim
        · exact (nb y).elim
    have cross : ∀ p k a, (∀ k : Nat, ps[k]? ≠ some p) → S p a → Sc k a → False := fun p k a n q z => by
      rcases c2 k a z with y | y
      · exact apart p a n q y
      · obtain ⟨xs, z1, _⟩ := SH p a q
        rw [z1] at y; cases y
    refine ⟨ok.f.trans ok'.f, fun a o nb e => ?_, ok'.s, fun a o e n => ?_, ll, ⟨fun p a => (gt γ' p).isSome = true ∧ ((p = top ∧ Sc bs.length a) ∨ (p ≠ top ∧ ((∃ k : Nat, ps[k]? = some p ∧ k < bs.length ∧ Sc k a) ∨ ((∀ k : Nat, ps[k]? ≠ some p) ∧ S p a)))), fun p x hx => ?_, fun p a ⟨_, q⟩ => ?_, fun p p' a ⟨_, q⟩ ⟨_, q'⟩ => ?_, fun p e a q => ?_⟩, fun p x e hb => ?_, fun j i k e => ?_⟩
    · refine ok'.h a o (fun q => ?_) (ok.h a o nb e)
      rcases inB a q with z | z
      · exact nb z
      · rw [z] at e; cases e
    · cases w : F a with
      | some u => exact ok.n a u w n
      | none =>
        rcases ok'.n a o e w with z | z
        · exact lo_base ok.h z
        · exact (inB a z).elim .inr fun z => .inl (.inl z)
    · have some_ : (gt γ' p).isSome = true := by rw [hx]; rfl
      rcases r1 p x hx with ⟨e1, e2, e3⟩ | ⟨e1, e2, e3⟩
      · subst e2
        obtain ⟨w, z1, z2⟩ := c1 bs.length x gt_push
        rw [List.getElem?_append_right (by simp; omega)] at z1
        simp [lb, lv] at z1
        subst z1
        refine ⟨v, e3, ?_⟩
        have : (fun a => (gt γ' p).isSome = true ∧ ((p = top ∧ Sc bs.length a) ∨ (p ≠ top ∧ ((∃ k : Nat, ps[k]? = some p ∧ k < bs.length ∧ Sc k a) ∨ ((∀ k : Nat, ps[k]? ≠ some p) ∧ S p a))))) = Sc bs.length := by
          funext a
          rw [some_]
          simp [e1]
        show TR K F' H' v x (fun a => _)
        rw [this]
        exact z2
      · rcases e3 with ⟨k, h1, h2⟩ | ⟨h1, h2⟩
        · have lk := gt_lt h2
          obtain ⟨w, z1, z2⟩ := c1 k x (by rw [gt_append_left lk]; exact h2)
          rw [List.getElem?_append_left (by simp; omega), List.getElem?_map, List.getElem?_eq_getElem (by omega)] at z1
          have z1 : vs[k]'(by omega) = w := by simpa using z1
          have q := (hp k (vs[k]'(by omega)) (us[k]'(by omega)).1 (us[k]'(by omega)).2 p (List.getElem?_eq_getElem (by omega)) (List.getElem?_eq_getElem (by omega)) h1).1
          rw [z1] at q
          refine ⟨w, e2.trans q, ?_⟩
          have : (fun a => (gt γ' p).isSome = true ∧ ((p = top ∧ Sc bs.length a) ∨ (p ≠ top ∧ ((∃ k : Nat, ps[k]? = some p ∧ k < bs.length ∧ Sc k a) ∨ ((∀ k : Nat, ps[k]? ≠ some p) ∧ S p a))))) = Sc k := by
            funext a
            apply propext
            constructor
            · rintro ⟨_, ⟨y, _⟩ | ⟨_, ⟨k', y1, _, y2⟩ | ⟨y, _⟩⟩⟩
              · exact absurd y e1
              · have := nodup_at nd y1 h1
                subst this
                exact y2
              · exact absurd h1 (y k)
            · exact fun y => ⟨some_, .inr ⟨e1, .inl ⟨k, h1, lk, y⟩⟩⟩
          show TR K F' H' w x (fun a => _)
          rw [this]
          exact z2
        · obtain ⟨w, z1, z2⟩ := s1 p x h1
          refine ⟨w, e2.trans z1, ?_⟩
          have : (fun a => (gt γ' p).isSome = true ∧ ((p = top ∧ Sc bs.length a) ∨ (p ≠ top ∧ ((∃ k : Nat, ps[k]? = some p ∧ k < bs.length ∧ Sc k a) ∨ ((∀ k : Nat, ps[k]? ≠ some p) ∧ S p a))))) = S p := by
            funext a
            apply propext
            constructor
            · rintro ⟨_, ⟨y, _⟩ | ⟨_, ⟨k', y1, _⟩ | ⟨_, y⟩⟩⟩
              · exact absurd y e1
              · exact absurd y1 (h2 k')
              · exact y
            · exact fun y => ⟨some_, .inr ⟨e1, .inr ⟨h2, y⟩⟩⟩
          show TR K F' H' w x (fun a => _)
          rw [this]
          exact tr_mono ok'.f z2 fun a q => keep p a h2 q
    · rcases q with ⟨_, q⟩ | ⟨_, ⟨k, _, _, q⟩ | ⟨_, q⟩⟩
      · exact cB _ a q
      · exact cB _ a q
      · exact s2 p a q
    · rcases q with ⟨y, q⟩ | ⟨y, ⟨k, z, lk, q⟩ | ⟨z, q⟩⟩ <;> rcases q' with ⟨y', q'⟩ | ⟨y', ⟨k', z', lk', q'⟩ | ⟨z', q'⟩⟩
      · rw [y, y']
      · have := c3 _ _ a q q'; omega
      · exact (cross p' _ a z' q' q).elim
      · have := c3 _ _ a q q'; omega
      · have := c3 _ _ a q q'
        subst this
        rw [z] at z'
        exact Option.some.inj z'
      · exact (cross p' _ a z' q' q).elim
      · exact (cross p _ a z q q').elim
      · exact (cross p _ a z q q').elim
      · exact s3 p p' a q q'
    · have q1 := q.1
      rw [e] at q1
      cases q1
    · obtain ⟨⟨y, q1, q3⟩, q2⟩ := r2 p x e hb
      obtain ⟨w, z1, z2⟩ := ok.bd p y q1 q3
      exact ⟨w, z1, q2.trans z2⟩
    · obtain ⟨q1, q2, q3, q4, q5⟩ := r3 j i k e
      obtain ⟨a, us0, w, h1, h2, h3, h4, h5, ts0, h6⟩ := ok.al j i k q1
      obtain ⟨w', z1, z2⟩ := s1 i _ (gt_nt h6)
      rw [h1] at z1
      cases z1
      generalize hSi : S i = Si at z2
      cases z2 with
      | lst y1 y2 y3 y4 =>
        obtain ⟨k1, k2⟩ := keep i a q5 (by rw [hSi]; exact .inl rfl)
        exact ⟨a, us0, w, q3.trans h1, k1.trans h2, k2, h4, q4.trans h5, ts0, q2.trans h6⟩
end
inductive Ar where
  | v (t : T)
  | b (i : Nat)
abbrev XR := Ct → RG (List Ar)
inductive ArR (σ : L2.St) : List Ar → List V → List V → List T → Prop
  | nil : ArR σ [] [] [] []
  | v {t : T} {v : V} {as : List Ar} {vs ws : List V} {ts : List T} : ArR σ as vs ws ts → ArR σ (.v t :: as) (v :: vs) (v :: ws) (t :: ts)
  | b {i : Nat} {v : V} {as : List Ar} {vs ws : List V} {ts : List T} : σ[i]? = some (some v) → ArR σ as vs ws ts → ArR σ (.b i :: as) (v :: vs) ws ts
def XPostR (X : Cx) (W : WX) (V0 : Nat → Option V) (F0 H0 : Hp) (B : Addr → Prop) (ext : L2.St) (tmp : Ct) (σ : L2.St) (Q : List V → Hp → Prop) : RG (List Ar) → Prop
  | .ok as g => ∀ vs ws ts F H, ArR σ as vs ws ts → At X.K V0 F0 H0 B (ext ++ ws.map some) (tmp ++ ts.map Cl.tm) F H σ g → Q vs H
  | .exc c p g => ∀ cls od F H, At X.K V0 F0 H0 B ext tmp F H σ g → XV X.K X.mg F c p cls od → W cls od σ H
  | .bad => False
def tXR (X : Cx) (W : WX) (m : XR) : TA := fun σ H Q => ∃ V0 F0 H0 B ext tmp F g, At X.K V0 F0 H0 B ext tmp F H σ g ∧ XPostR X W V0 F0 H0 B ext tmp σ Q (m g)
abbrev MXR (X : Cx) (W : WX) (es : List Expr) (m : XR) : Prop := PA X es (tXR X W m)
def rNil : XR := fun g => .ok [] g
def rVal (a : XM) (r : XR) : XR := fun g => (a g).bind fun t g1 => (r g1).bind fun as g2 => .ok (.v t :: as) g2
def rBor (i : Nat) (r : XR) : XR := fun g => match nt g i with
  | some _ => (r g).bind fun as g2 => .ok (.b i :: as) g2
  | none => .bad
section
variable {X : Cx} {W : WX} {a : Expr} {ma : XM}
theorem mxr_nil : MXR X W [] rNil := PA.imp pa_nil fun σ H Q ⟨V0, F0, H0, B, ext, tmp, F, g, a, h⟩ => h [] [] [] F H .nil (by simpa using a)
theorem mxr_val {es : List Expr} {mr : XR} (ha : MX X W a ma) (hr : MXR X W es mr) (hs : starEach (a :: es) X.env = (false, eval a X.env) :: starEach es X.env := by rfl) : MXR X W (a :: es) (rVal ma mr) := by
  refine PA.imp (pa_cons ha hr hs) fun σ H Q ⟨V0, F0, H0, B, ext, tmp, F, g, a, h⟩ => ?_
  refine ⟨V0, F0, H0, B, ext, tmp, F, g, a, ?_⟩
  unfold rVal at h
  cases e : ma g with
  | ok t g1 =>
    rw [e, RG.bind_ok] at h
    intro v F1 H1 a1
    refine ⟨V0, F0, H0, B, ext ++ [some v], tmp ++ [.tm t], F1, g1, a1, ?_⟩
    cases e2 : mr g1 with
    | ok as g2 =>
      rw [e2] at h
      intro vs ws ts F2 H2 ar a2
      refine h (v :: vs) (v :: ws) (t :: ts) F2 H2 (.v ar) ?_
      rw [List.append_assoc, List.append_assoc] at a2
      exact a2
    | exc c p g2 =>
      rw [e2] at h
      intro cls od F2 H2 a2 x
      obtain ⟨F3, s3, a3, _⟩ := At.top1 a.tm a.len a2
      exact h cls od F3 H2 a3 (xv_mono s3 x)
    | bad => rw [e2] at h; exact h
  | exc c p g1 => rw [e] at h; exact h
  | bad => rw [e] at h; exact h
theorem mxr_bor (i : Nat) {x : Str} {pos : Pos} {es : List Expr} {mr : XR} (hr : MXR X W es mr) (hx : PE X (.Name x pos) (tVar i)) (hs : starEach (.Name x pos :: es) X.env = (false, eval (.Name x pos) X.env) :: starEach es X.env := by rfl) : MXR X W (.Name x pos :: es) (rBor i mr) := by
  refine PA.imp (pa_cons hx hr hs) fun σ H Q ⟨V0, F0, H0, B, ext, tmp, F, g, a, h⟩ => ?_
  unfold rBor at h
  cases e : nt g i with
  | none => rw [e] at h; exact h.elim
  | some x =>
    rw [e] at h
    dsimp only at h
    have li := nt_lt e
    obtain ⟨S, s1, _, _, _⟩ := a.st.own
    obtain ⟨v, hv, _⟩ := s1 i x (gt_nt (nt_app e))
    rw [List.getElem?_append_left (by rw [a.l]; exact li)] at hv
    refine ⟨v, hv, V0, F0, H0, B, ext, tmp, F, g, a, ?_⟩
    cases e2 : mr g with
    | ok as g2 => rw [e2] at h; exact fun vs ws ts F2 H2 ar a2 => h (v :: vs) ws ts F2 H2 (.b hv ar) a2
    | exc c p g2 => rw [e2] at h; exact h
    | bad => rw [e2] at h; exact h
end
def usOf (g : Ct) : List Ar → Option Us
  | [] => some []
  | .v t :: as => (usOf g as).map fun r => (false, t) :: r
  | .b i :: as => match nt g i with
    | some x => (usOf g as).map fun r => (true, x) :: r
    | none => none
def brs : List Ar → List Nat
  | [] => []
  | .v _ :: as => brs as
  | .b i :: as => i :: brs as
/-- the slots behind the call -/
def backG : List Ar → Ct → Ct → Option Ct
  | .v _ :: as, _ :: bs, g => backG as bs g
  | .b i :: as, .t x :: bs, g => backG as bs (setT (kil i g) i x)
  | [], _, g => some g
  | _, _, _ => none
def xFn (f : Us → RF) (n : Nat) (dds : List D) (r : XR) : XM := fun g => (r g).bind fun as g1 => match usOf g1 as with
  | some us => if (us ++ dds.map fun d => (false, T.dat d)).length = n ∧ (brs as).Nodup then (match f (us ++ dds.map fun d => (false, T.dat d)) with
    | .ok t bs => (match backG as bs g1 with
      | some g2 => .ok t g2
      | none => .bad)
    | .exc c p bs => (match backG as bs g1 with
      | some g2 => .exc c p g2
      | none => .bad)
    | .bad => .bad) else .bad
  | none => .bad
def posOf : List Ar → Nat → List Nat
  | [], _ => []
  | .b i :: as, n => i :: posOf as n
  | .v _ :: as, n => n :: posOf as (n + 1)
theorem mem_pos : ∀ {as : List Ar} {n p : Nat}, p ∈ posOf as n → p ∈ brs as ∨ n ≤ p
  | .b i :: as, n, p, h => by
    rcases List.mem_cons.mp h with h | h
    · exact .inl (List.mem_cons.mpr (.inl h))
    · rcases mem_pos h with h | h
      · exact .inl (List.mem_cons.mpr (.inr h))
      · exact .inr h
  | .v _ :: as, n, p, h => by
    rcases List.mem_cons.mp h with h | h
    · exact .inr (by omega)
    · rcases mem_pos h with h | h
      · exact .inl h
      · exact .inr (by omega)
theorem pos_nodup : ∀ {as : List Ar} {n : Nat}, (brs as).Nodup → (∀ i ∈ brs as, i < n) → (posOf as n).Nodup
  | [], _, _, _ => List.nodup_nil
  | .b i :: as, n, h, l => by
    obtain ⟨h1, h2⟩ := List.nodup_cons.mp h
    refine List.nodup_cons.mpr ⟨fun q => ?_, pos_nodup h2 fun j hj => l j (List.mem_cons.mpr (.inr hj))⟩
    rcases mem_pos q with q | q
    · exact h1 q
    · have := l i (List.mem_cons.mpr (.inl rfl))
      omega
  | .v _ :: as, n, h, l => by
    refine List.nodup_cons.mpr ⟨fun q => ?_, pos_nodup h fun j hj => Nat.lt_succ_of_lt (l j hj)⟩
    rcases mem_pos q with q | q
    · have := l n q
      omega
    · omega
theorem ar_pos {σ : L2.St} {g : Ct} : ∀ {as : List Ar} {vs ws : List V} {ts : List T} {us : Us}, ArR σ as vs ws ts → usOf g as = some us → vs.length = us.length ∧ ∀ n : Nat, (posOf as n).length = us.length ∧
    ∀ (k : Nat) (v : V) (b : Bool) (x : T) (p : Nat), vs[k]? = some v → us[k]? = some (b, x) → (posOf as n)[k]? = some p → (p ∈ brs as ∧ σ[p]? = some (some v) ∧ nt g p = some x) ∨ (∃ j : Nat, p = n + j ∧ ws[j]? = some v ∧ ts[j]? = some x)
  | _, _, _, _, us, .nil, h => by
    cases h
    exact ⟨rfl, fun n => ⟨rfl, fun k v b x p hv => by simp at hv⟩⟩
  | _, _, _, _, us, .v (t := t) (v := v) (as := as) ar, h => by
    unfold usOf at h
    cases e : usOf g as with
    | none => rw [e] at h; cases h
    | some r =>
      rw [e] at h
      cases h
      obtain ⟨l1, h1⟩ := ar_pos ar e
      refine ⟨congrArg Nat.succ l1, fun n => ?_⟩
      obtain ⟨l2, h2⟩ := h1 (n + 1)
      refine ⟨congrArg Nat.succ l2, fun k w b x p hv hu hp => ?_⟩
      cases k with
      | zero =>
        simp [posOf] at hv hu hp
        exact .inr ⟨0, by omega, by simp [hv], by simp [hu.2]⟩
      | succ k =>
        rcases h2 k w b x p (by simpa using hv) (by simpa using hu) (by simpa [posOf] using hp) with q | ⟨j, q1, q2, q3⟩
        · exact .inl q
        · exact .inr ⟨j + 1, by omega, by simpa using q2, by simpa using q3⟩
  | _, _, _, _, us, .b (i := i) (v := v) (as := as) hi ar, h => by
    unfold usOf at h
    cases en : nt g i with
    | none => rw [en] at h; cases h
    | some y =>
      rw [en] at h
      dsimp only at h
      cases e : usOf g as with
      | none => rw [e] at h; cases h
      | some r =>
        rw [e] at h
        cases h
        obtain ⟨l1, h1⟩ := ar_pos ar e
        refine ⟨congrArg Nat.succ l1, fun n => ?_⟩
        obtain ⟨l2, h2⟩ := h1 n
        refine ⟨congrArg Nat.succ l2, fun k w b x p hv hu hp => ?_⟩
        cases k with
        | zero =>
          simp [posOf] at hv hu hp
          subst hp
          exact .inl ⟨List.mem_cons.mpr (.inl rfl), by rw [← hv]; exact hi, by rw [← hu.2]; exact en⟩
        | succ k =>
          rcases h2 k w b x p (by simpa using hv) (by simpa using hu) (by simpa [posOf] using hp) with ⟨q1, q2⟩ | q
          · exact .inl ⟨List.mem_cons.mpr (.inr q1), q2⟩
          · exact .inr q
theorem us_brs {g : Ct} : ∀ {as : List Ar} {us : Us}, usOf g as = some us → ∀ i ∈ brs as, ∃ x, nt g i = some x
  | .v _ :: as, us, h, i, hi => by
    unfold usOf at h
    cases e : usOf g as with
    | none => rw [e] at h; cases h
    | some r => exact us_brs e i hi
  | .b j :: as, us, h, i, hi => by
    unfold usOf at h
    cases en : nt g j with
    | none => rw [en] at h; cases h
    | some y =>
      rw [en] at h
      dsimp only at h
      cases e : usOf g as with
      | none => rw [e] at h; cases h
      | some r =>
        rcases List.mem_cons.mp hi with hi | hi
        · exact ⟨y, by rw [hi]; exact en⟩
        · exact us_brs e i hi
theorem backG_ok : ∀ (as : List Ar) (bs g g2 : Ct), backG as bs g = some g2 → (brs as).Nodup → g2.length = g.length ∧ (∀ i, i ∉ brs as → gt g2 i = gt g i ∧ nt g2 i = nt g i) ∧ (∀ (j i k : Nat), g2[j]? = some (Cl.al i k) → g[j]? = some (Cl.al i k) ∧ i ∉ brs as) ∧
    (∀ (p : Nat) (x : Cl), g2[p]? = some x → x.bd = true → ∃ y, g[p]? = some y ∧ y.bd = true) ∧ ∀ i ∈ brs as, ∀ n : Nat, ∃ (k : Nat) (x : T), (posOf as n)[k]? = some i ∧ gt bs k = some x ∧ ((gt g i).isSome = true → gt g2 i = some x)
  | [], bs, g, g2, h, _ => by
    have : g2 = g := by cases bs <;> (cases h; rfl)
    subst this
    exact ⟨rfl, fun _ _ => ⟨rfl, rfl⟩, fun j i k e => ⟨e, by intro z; cases z⟩, fun p x e hb => ⟨x, e, hb⟩, fun i hi => by cases hi⟩
  | .v t :: as, [], g, g2, h, _ => by cases h
  | .v t :: as, b :: bs, g, g2, h, nd => by
    have h' : backG as bs g = some g2 := by cases b <;> exact h
    obtain ⟨h1, h2, h3, h4, h5⟩ := backG_ok as bs g g2 h' nd
    refine ⟨h1, h2, h3, h4, fun i hi n => ?_⟩
    obtain ⟨k, x, q1, q2, q3⟩ := h5 i hi (n + 1)
    exact ⟨k + 1, x, by simpa [posOf] using q1, by unfold gt at q2 ⊢; simpa using q2, q3⟩
  | .b j :: as, [], g, g2, h, _ => by cases h
  | .b j :: as, .un :: bs, g, g2, h, _ => by cases h
  | .b j :: as, .b _ :: bs, g, g2, h, _ => by cases h
  | .b j :: as, .tm _ :: bs, g, g2, h, _ => by cases h
  | .b j :: as, .al _ _ :: bs, g, g2, h, _ => by cases h
  | .b j :: as, .t y :: bs, g, g2, h, nd => by
    have h' : backG as bs (setT (kil j g) j y) = some g2 := h
    obtain ⟨n1, n2⟩ := List.nodup_cons.mp nd
    obtain ⟨h1, h2, h3, h4, h5⟩ := backG_ok as bs _ g2 h' n2
    refine ⟨by rw [h1, setT_len, kil_len], fun i hi => ?_, fun m i k e => ?_, fun p x e hb => ?_, fun i hi n => ?_⟩
    · have a1 : i ≠ j := fun z => hi (List.mem_cons.mpr (.inl z))
      have a2 : i ∉ brs as := fun z => hi (List.mem_cons.mpr (.inr z))
      obtain ⟨q1, q2⟩ := h2 i a2
      have q3 : gt (setT (kil j g) j y) i = gt (kil j g) i := by
        unfold gt
        rw [setT_get, if_neg a1]
      exact ⟨by rw [q1, q3, kil_gt], by rw [q2, setT_nt_ne a1, kil_nt]⟩
    · obtain ⟨q1, q2⟩ := h3 m i k e
      obtain ⟨q3, q4⟩ := kil_al (setT_al q1)
      exact ⟨q3, fun z => by rcases List.mem_cons.mp z with z | z; exact q4 z; exact q2 z⟩
    · obtain ⟨z, hz, zb⟩ := h4 p x e hb
      obtain ⟨w, hw, wb⟩ := setT_bd hz zb
      exact ⟨w, kil_bd hw wb, wb⟩
    · by_cases c : i = j
      · subst c
        refine ⟨0, y, rfl, rfl, fun s => ?_⟩
        obtain ⟨z, hz⟩ := Option.isSome_iff_exists.mp s
        rw [(h2 i n1).1, setT_gt (x := z) (by rw [kil_gt]; exact hz), if_pos rfl]
      · have hi' : i ∈ brs as := by
          rcases List.mem_cons.mp hi with z | z
          · exact absurd z c
          · exact z
        obtain ⟨k, x, q1, q2, q3⟩ := h5 i hi' n
        refine ⟨k + 1, x, by simpa [posOf] using q1, by unfold gt at q2 ⊢; simpa using q2, fun s => q3 ?_⟩
        have : gt (setT (kil j g) j y) i = gt (kil j g) i := by
          unfold gt
          rw [setT_get, if_neg c]
        rw [this, kil_gt]
        exact s
section
variable {K : PySem.W.Frag} {V0 : Nat → Option V} {F0 H0 F H : Hp} {B : Addr → Prop} {σ ext : L2.St} {g tmp : Ct}
theorem At.callR {as : List Ar} {vs ws : List V} {ts : List T} {us : Us} (ht : Tm tmp) (hl : ext.length = tmp.length) (a : At K V0 F0 H0 B (ext ++ ws.map some) (tmp ++ ts.map Cl.tm) F H σ g) (ar : ArR σ as vs ws ts) (hu : usOf g as = some us) (nd : (brs as).Nodup) :
    ∃ (V1 : Nat → Option V) (B' : Addr → Prop), StT K V1 F H B' F H (vs.map some) (us.map cellOf) ∧
      ∀ (F' H' : Hp) (v : V) (t : T) (bs g2 : Ct), StT K V1 F H B' F' H' (vs.map some ++ [some v]) (bs ++ [.tm t]) → backG as bs g = some g2 → At K V0 F0 H0 B (ext ++ [some v]) (tmp ++ [.tm t]) F' H' σ g2 := by
  obtain ⟨lv, pos⟩ := ar_pos ar hu
  obtain ⟨lp, pf⟩ := pos (g.length + tmp.length)
  have lb : ∀ i ∈ brs as, i < g.length := fun i hi => by
    obtain ⟨x, hx⟩ := us_brs hu i hi
    exact nt_lt hx
  have al := a.l
  obtain ⟨V1, B', h1, h2⟩ := a.st.call (vs := vs) (us := us) (ps := posOf as (g.length + tmp.length)) lv lp (pos_nodup nd fun i hi => by have := lb i hi; omega) (fun k v b x p hv hu' hp => by
    rcases pf k v b x p hv hu' hp with ⟨q1, q2, q3⟩ | ⟨j, q1, q2, q3⟩
    · have := lb p q1
      exact ⟨by rw [List.getElem?_append_left (by omega)]; exact q2, gt_nt (nt_app q3)⟩
    · subst q1
      refine ⟨?_, ?_⟩
      · rw [List.getElem?_append_right (by omega), List.getElem?_append_right (by omega), show g.length + tmp.length + j - σ.length - ext.length = j by omega, List.getElem?_map, q2]
        rfl
      · unfold gt
        rw [List.getElem?_append_right (by omega), List.getElem?_append_right (by omega), show g.length + tmp.length + j - g.length - tmp.length = j by omega, List.getElem?_map, q3]
        rfl)
  refine ⟨V1, B', h1, fun F' H' v t bs g2 ok' hb => ?_⟩
  obtain ⟨b1, b2, b3, b4, b5⟩ := backG_ok as bs g g2 hb nd
  have lbs : bs.length = us.length := by
    have := ok'.len
    simp at this
    omega
  refine ⟨h2 F' H' v t bs _ _ (g.length + tmp.length) ok' lbs (by simp [b1]; omega) (fun p x hx => ?_) (fun p x hx hxb => ?_) (fun j i k e => ?_), by rw [b1]; exact al, fun c hc => ?_⟩
  · have lpx := gt_lt hx
    simp at lpx
    rcases Nat.lt_or_ge p g.length with c | c
    · refine .inr ⟨by omega, by rw [List.getElem?_append_left (by omega), List.getElem?_append_left (by omega)], ?_⟩
      rw [gt_append_left (by omega)] at hx
      by_cases m : p ∈ brs as
      · obtain ⟨k, y, q1, q2, q3⟩ := b5 p m (g.length + tmp.length)
        obtain ⟨z, hz⟩ := us_brs hu p m
        have := q3 (by rw [gt_nt hz]; rfl)
        rw [hx] at this
        cases this
        exact .inl ⟨k, q1, q2⟩
      · rw [(b2 p m).1] at hx
        refine .inr ⟨by rw [gt_append_left c]; exact hx, fun k e => ?_⟩
        rcases mem_pos (List.mem_of_getElem? e) with z | z
        · exact m z
        · omega
    · rcases Nat.lt_or_ge p (g.length + tmp.length) with c2 | c2
      · have e1 : (σ ++ (ext ++ [some v]))[p]? = ext[p - σ.length]? := by rw [List.getElem?_append_right (by omega), List.getElem?_append_left (by omega)]
        have e2 : (σ ++ (ext ++ ws.map some))[p]? = ext[p - σ.length]? := by rw [List.getElem?_append_right (by omega), List.getElem?_append_left (by omega)]
        refine .inr ⟨by omega, e1.trans e2.symm, .inr ⟨?_, fun k e => ?_⟩⟩
        · unfold gt at hx ⊢
          rw [List.getElem?_append_right (by omega), List.getElem?_append_left (by omega), b1] at hx
          rw [List.getElem?_append_right c, List.getElem?_append_left (by omega)]
          exact hx
        · rcases mem_pos (List.mem_of_getElem? e) with z | z
          · have := lb p z; omega
          · omega
      · have e : p = g.length + tmp.length := by omega
        subst e
        refine .inl ⟨rfl, ?_, ?_⟩
        · unfold gt at hx
          rw [List.getElem?_append_right (by omega), List.getElem?_append_right (by omega), b1] at hx
          simp [Cl.tr] at hx
          exact hx.symm
        · rw [List.getElem?_append_right (by omega), List.getElem?_append_right (by omega), show g.length + tmp.length - σ.length - ext.length = 0 by omega]
          rfl
  · have lpx := (List.getElem?_eq_some_iff.mp hx).1
    simp at lpx
    rcases Nat.lt_or_ge p g.length with c | c
    · rw [List.getElem?_append_left (by omega)] at hx
      obtain ⟨y, hy, yb⟩ := b4 p x hx hxb
      exact ⟨⟨y, by rw [List.getElem?_append_left c]; exact hy, yb⟩, by rw [List.getElem?_append_left (by omega), List.getElem?_append_left (by omega)]⟩
    · exfalso
      rw [List.getElem?_append_right (by omega)] at hx
      rcases List.mem_append.mp (List.mem_of_getElem? hx) with z | z
      · obtain ⟨w, hw⟩ := ht _ z
        subst hw
        cases hxb
      · have := List.mem_singleton.mp z
        subst this
        cases hxb
  · have lj := (List.getElem?_eq_some_iff.mp e).1
    simp at lj
    rcases Nat.lt_or_ge j g.length with c | c
    · rw [List.getElem?_append_left (by omega)] at e
      obtain ⟨q1, q2⟩ := b3 j i k e
      have q3 : (g ++ (tmp ++ ts.map Cl.tm))[j]? = some (Cl.al i k) := by rw [List.getElem?_append_left c]; exact q1
      obtain ⟨_, _, _, _, _, _, _, _, ts0, h6⟩ := a.st.al j i k q3
      have li := nt_tmp a.tm h6
      refine ⟨q3, ?_, by rw [List.getElem?_append_left (by omega), List.getElem?_append_left (by omega)], by rw [List.getElem?_append_left (by omega), List.getElem?_append_left (by omega)], fun m z => ?_⟩
      · rw [nt_append_left (by omega), nt_append_left li, (b2 i q2).2]
      · rcases mem_pos (List.mem_of_getElem? z) with w | w
        · exact q2 w
        · omega
    · exfalso
      rw [List.getElem?_append_right (by omega)] at e
      rcases List.mem_append.mp (List.mem_of_getElem? e) with z | z
      · obtain ⟨w, hw⟩ := ht _ z
        cases hw
      · have := List.mem_singleton.mp z
        cases this
  · rcases List.mem_append.mp hc with z | z
    · exact ht c z
    · exact ⟨t, List.mem_singleton.mp z⟩
end
theorem ArR.dats {σ : L2.St} {K : PySem.W.Frag} {F : Hp} {dvs : List V} {dds : List D} (hd : DpAll K F dvs dds) : ∀ {as : List Ar} {vs ws : List V} {ts : List T}, ArR σ as vs ws ts → ArR σ (as ++ dds.map fun d => Ar.v (.dat d)) (vs ++ dvs) (ws ++ dvs) (ts ++ dds.map T.dat)
  | _, _, _, _, .nil => by
    have key : ∀ {dvs : List V} {dds : List D}, DpAll K F dvs dds → ArR σ (dds.map fun d => Ar.v (.dat d)) dvs dvs (dds.map T.dat) := fun {dvs} => by
      induction dvs with
      | nil => intro dds h; cases h; exact .nil
      | cons v vs ih => intro dds h; cases h with
        | cons a b => exact .v (ih b)
    exact key hd
  | _, _, _, _, .v ar => .v (ArR.dats hd ar)
  | _, _, _, _, .b h ar => .b h (ArR.dats hd ar)
theorem usOf_dats {g : Ct} (dds : List D) : ∀ {as : List Ar} {us : Us}, usOf g as = some us → usOf g (as ++ dds.map fun d => Ar.v (.dat d)) = some (us ++ dds.map fun d => (false, T.dat d))
  | [], us, h => by
    cases h
    induction dds with
    | nil => rfl
    | cons d ds ih =>
      show (usOf g (ds.map fun d => Ar.v (.dat d))).map (fun r => (false, T.dat d) :: r) = _
      have ih' : usOf g (ds.map fun d => Ar.v (.dat d)) = some (ds.map fun d => (false, T.dat d)) := ih
      rw [ih']
      rfl
  | .v t :: as, us, h => by
    unfold usOf at h
    cases e : usOf g as with
    | none => rw [e] at h; cases h
    | some r =>
      rw [e] at h
      cases h
      show (usOf g (as ++ _)).map _ = _
      rw [usOf_dats dds e]
      rfl
  | .b i :: as, us, h => by
    unfold usOf at h
    cases en : nt g i with
    | none => rw [en] at h; cases h
    | some y =>
      rw [en] at h
      dsimp only at h
      cases e : usOf g as with
      | none => rw [e] at h; cases h
      | some r =>
        rw [e] at h
        cases h
        show (match nt g i with
          | some x => (usOf g (as ++ _)).map _
          | none => none) = _
        rw [en, usOf_dats dds e]
        rfl
theorem brs_dats (dds : List D) : ∀ as : List Ar, brs (as ++ dds.map fun d => Ar.v (.dat d)) = brs as
  | [] => by
    induction dds with
    | nil => rfl
    | cons d ds ih => exact ih
  | .v _ :: as => brs_dats dds as
  | .b i :: as => congrArg (i :: ·) (brs_dats dds as)
theorem backG_dats (dds : List D) : ∀ {as : List Ar} {bs g g2 : Ct}, backG as bs g = some g2 → bs.length = as.length + dds.length → backG (as ++ dds.map fun d => Ar.v (.dat d)) bs g = some g2
  | [], bs, g, g2, h, l => by
    have : g2 = g := by cases bs <;> (cases h; rfl)
    subst this
    clear h
    induction dds generalizing bs with
    | nil => cases bs <;> rfl
    | cons d ds ih =>
      cases bs with
      | nil => simp at l
      | cons b bs =>
        have := ih (bs := bs) (by simp at l ⊢; omega)
        cases b <;> exact this
  | .v t :: as, [], g, g2, h, l => by cases h
  | .v t :: as, b :: bs, g, g2, h, l => by
    have h' : backG as bs g = some g2 := by cases b <;> exact h
    have := backG_dats dds h' (by simp at l; omega)
    cases b <;> exact this
  | .b j :: as, [], g, g2, h, _ => by cases h
  | .b j :: as, .un :: bs, g, g2, h, _ => by cases h
  | .b j :: as, .b _ :: bs, g, g2, h, _ => by cases h
  | .b j :: as, .tm _ :: bs, g, g2, h, _ => by cases h
  | .b j :: as, .al _ _ :: bs, g, g2, h, _ => by cases h
  | .b j :: as, .t y :: bs, g, g2, h, l => backG_dats (as := as) dds (show backG as bs (setT (kil j g) j y) = some g2 from h) (by simp at l; omega)
/-- a def of the row, with what it tells of lists that it changes -/
structure DefOkT (P : Program) (w : World) (K : PySem.W.Frag) (mg : Str → Option Value) (base : Heap) (k : Nat) (x : Str) (n : Nat) (f : Us → RF) (dds : List (List D)) : Prop where
  gl : mg x = some (.ref (He.ga K x))
  ex : ∃ (fd : FuncData) (ps : List Str), PySem.W.keepIn K (.ref (He.ga K x)) = true ∧ FnOk P w K mg base (L2.CX P w) k (He.ga K x) fd ps (spT K mg n f) ∧ ∀ dd ∈ dds, ∃ (dvs : List V) (ds : List Value), Vals dvs ds ∧ (∀ F, DpAll K F dvs dd) ∧ Binds K fd ps ds
theorem def_okT {P : Program} {w : World} {K : PySem.W.Frag} {mg : Str → Option Value} {base : Heap} {d : He.DefD} {k n : Nat} {f : Us → RF} {dds : List (List D)} {fd : FuncData} {ps : List Str} (gl : mg d.name = some (.ref (He.ga K d.name)))
    (F : FunD K d.name d.qual d.params d.body d.scope (d.dvs K) (d.kws K) (He.ga K d.name) fd) (G : FnOk P w K mg base (L2.CX P w) k (He.ga K d.name) fd ps (spT K mg n f))
    (b : ∀ dd ∈ dds, ∃ (dvs : List V) (ds : List Value), Vals dvs ds ∧ (∀ F, DpAll K F dvs dd) ∧ Binds K fd ps ds) : DefOkT P w K mg base k d.name n f dds := ⟨gl, fd, ps, F.kp, G, b⟩
theorem ar_len {σ : L2.St} : ∀ {as : List Ar} {vs ws : List V} {ts : List T}, ArR σ as vs ws ts → vs.length = as.length
  | _, _, _, _, .nil => rfl
  | _, _, _, _, .v ar => congrArg Nat.succ (ar_len ar)
  | _, _, _, _, .b _ ar => congrArg Nat.succ (ar_len ar)
theorem mx_fn {X : Cx} {W : WX} {j k n : Nat} {x : Str} {p pos : Pos} {e : Expr} {es : List Expr} {m : XR} {fn : Us → RF} {dds : List (List D)} {dd : List D}
    (G : DefOkT X.prog X.w X.K X.mg X.base k x n fn dds) (hr : Room j X.A) (tk : Takes X W) (ha : MXR X W (e :: es) m) (hmem : dd ∈ dds := by first | exact List.mem_cons_self | simp) (hk : k ≤ j := by decide) (hg : Gl X x := by rfl)
    (hdb : (x == ("__debug__" : Str)) = false := by decide) (he : starEach (e :: es) X.env = (false, eval e X.env) :: starEach es X.env := by rfl) (hpl : (backTo pos (starEach es X.env)).any (·.1) = false := by rfl) :
    MX X W (.Call (.Name x p) (e :: es) [] pos) (xFn fn n dd m) := by
  obtain ⟨fd, ps, kp, F, b⟩ := G.ex
  obtain ⟨dvs, ds, h1, h2, h3⟩ := b dd hmem
  refine PE.imp (pe_callSD (E := WE W) F (hr.mono hk) hg G.gl kp h3 h1 (fun σ => passAt tk σ) ha hdb he hpl) fun σ H Q ⟨V0, F0, H0, B, ext, tmp, F, g, a, h⟩ => ⟨V0, F0, H0, B, ext, tmp, F, g, a, ?_⟩
  unfold xFn at h
  cases em : m g with
  | exc c p g1 => rw [em] at h; exact h
  | bad => rw [em] at h; exact h
  | ok as g1 =>
    rw [em, RG.bind_ok] at h
    intro vs ws ts F1 H1 ar a1
    cases eu : usOf g1 as with
    | none => rw [eu] at h; exact h.elim
    | some us =>
      rw [eu] at h
      dsimp only at h
      split at h
      · rename_i hc
        have a2 := a1.dats (h2 F1)
        have ar2 := ar.dats (h2 F1)
        have eu2 := usOf_dats dd eu
        have nd2 : (brs (as ++ dd.map fun d => Ar.v (.dat d))).Nodup := by rw [brs_dats]; exact hc.2
        have ew : ext ++ ws.map some ++ dvs.map some = ext ++ (ws ++ dvs).map some := by simp
        have et : tmp ++ ts.map Cl.tm ++ (dd.map T.dat).map Cl.tm = tmp ++ (ts ++ dd.map T.dat).map Cl.tm := by simp
        rw [ew, et] at a2
        obtain ⟨V1, B', c1, c2⟩ := At.callR a.tm a.len a2 ar2 eu2 nd2
        refine ⟨V1, F1, H1, B', F1, _, c1, hc.1, ?_⟩
        have lar := ar_len ar
        have ldd := dpa_len (h2 F1)
        cases ef : fn (us ++ dd.map fun d => (false, T.dat d)) with
        | ok t bs =>
          rw [ef] at h
          dsimp only at h
          cases eb : backG as bs g1 with
          | none => rw [eb] at h; exact h.elim
          | some g2 =>
            rw [eb] at h
            intro v F' H' ok'
            have lbs : bs.length = as.length + dd.length := by
              have := ok'.len
              simp at this
              omega
            exact h v F' H' (c2 F' H' v t bs g2 ok' (backG_dats dd eb lbs))
        | exc c p bs =>
          rw [ef] at h
          dsimp only at h
          cases eb : backG as bs g1 with
          | none => rw [eb] at h; exact h.elim
          | some g2 =>
            rw [eb] at h
            intro cls od F' H' ok' xv
            have lbs : bs.length = as.length + dd.length := by
              have := ok'.len
              simp at this
              omega
            have a3 := c2 F' H' .non (.dat .none) bs g2 (ok'.pushD .non) (backG_dats dd eb lbs)
            obtain ⟨F3, s3, a4, _⟩ := At.top1 a.tm a.len a3
            exact h cls od F3 H' a4 (xv_mono s3 xv)
        | bad => rw [ef] at h; exact h.elim
      · exact h.elim
end MI
set_option Elab.async false
set_option linter.all false
set_option maxRecDepth 100000
set_option maxHeartbeats 4000000
namespace MI
open PySem PySem.Spec PyProof.Rows L2
section
variable {K : PySem.W.Frag} {V0 : Nat → Option V} {F0 H0 F H F' H' : Hp} {B : Addr → Prop} {σ ext : L2.St} {g tmp : Ct}
theorem kil_app (ht : Tm tmp) {i : Nat} : kil i (g ++ tmp) = kil i g ++ tmp := by
  unfold kil
  rw [List.map_append]
  congr 1
  apply List.ext_getElem?
  intro j
  rw [List.getElem?_map]
  cases q : tmp[j]? with
  | none => rfl
  | some c =>
    obtain ⟨x, rfl⟩ := ht c (List.mem_of_getElem? q)
    rfl
theorem At.setD {i : Nat} {v : V} {d : D} (a : At K V0 F0 H0 B ext tmp F H σ g) (h : Dp K F v d) (hf : free1 g i = true) (hi : i < g.length) : At K V0 F0 H0 B ext tmp F H (σ.set i (some v)) ((MI.kil i g).set i (.t (.dat d))) := by
  have f : free1 (g ++ tmp) i = true := by
    unfold free1 at hf ⊢
    rw [List.getElem?_append_left hi]
    exact hf
  have := a.st.setD h f
  rw [kil_app a.tm, List.set_append_left _ _ (by rw [a.l]; exact hi), List.set_append_left _ _ (by rw [kil_len]; exact hi)] at this
  exact ⟨this, by simp [kil_len, a.l], a.tm⟩
theorem StT.unset (ok : StT K V0 F0 H0 B F H σ g) (i : Nat) (o : Option V) : StT K V0 F0 H0 B F H (σ.set i o) ((kil i g).set i .un) := by
  have un : ∀ j, j = i → ((kil i g).set i .un)[j]? = none ∨ ((kil i g).set i .un)[j]? = some .un := fun j e => by
    subst e
    rcases Nat.lt_or_ge j g.length with c | c
    · exact .inr (List.getElem?_set_self (by rw [kil_len]; exact c))
    · exact .inl (List.getElem?_eq_none (by simp [kil_len]; exact c))
  have ne : ∀ (j : Nat) (c : Cl), ((kil i g).set i .un)[j]? = some c → c ≠ .un → j ≠ i := fun j c h n z => by
    rcases un j z with q | q
    · rw [q] at h; cases h
    · rw [q] at h; cases h; exact n rfl
  refine ok.pick id (by simp [kil_len, ok.len]) (fun _ _ _ _ e => e) (fun j x hx => ?_) (fun j x hx hxb => ?_) (fun j m k e => ?_)
  · have nj : j ≠ i := fun z => by
      unfold gt at hx
      rcases un j z with q | q <;> rw [q] at hx <;> cases hx
    have : gt ((kil i g).set i .un) j = gt (kil i g) j := by
      unfold gt
      rw [List.getElem?_set_ne (Ne.symm nj)]
    rw [this, kil_gt] at hx
    exact ⟨hx, by rw [List.getElem?_set_ne (Ne.symm nj)]; rfl⟩
  · have nj := ne j _ hx (by intro z; subst z; cases hxb)
    rw [List.getElem?_set_ne (Ne.symm nj)] at hx
    exact ⟨⟨x, kil_bd hx hxb, hxb⟩, by rw [List.getElem?_set_ne (Ne.symm nj)]⟩
  · have nj := ne j _ e (by intro z; cases z)
    rw [List.getElem?_set_ne (Ne.symm nj)] at e
    obtain ⟨q1, q2⟩ := kil_al e
    refine ⟨q1, by rw [List.getElem?_set_ne (Ne.symm nj)], by rw [List.getElem?_set_ne (Ne.symm q2)], ?_⟩
    have : nt ((kil i g).set i .un) m = nt (kil i g) m := by
      unfold nt
      rw [List.getElem?_set_ne (Ne.symm q2)]
    rw [this, kil_nt]
def wipeG : List Nat → Ct → Ct
  | [], g => g
  | v :: vs, g => (kil v (wipeG vs g)).set v .un
theorem wipeG_len : ∀ vs : List Nat, (wipeG vs g).length = g.length
  | [] => rfl
  | v :: vs => by
    unfold wipeG
    rw [List.length_set, kil_len, wipeG_len vs]
theorem At.wipe (a : At K V0 F0 H0 B ext tmp F H σ g) : ∀ vs : List Nat, (∀ v ∈ vs, v < g.length) → At K V0 F0 H0 B ext tmp F H (L2.wipe σ vs) (wipeG vs g)
  | [], _ => a
  | v :: vs, h => by
    have ih := At.wipe a vs fun w hw => h w (List.mem_cons_of_mem _ hw)
    have lv := h v (List.mem_cons_self ..)
    have := ih.st.unset v none
    rw [kil_app ih.tm, List.set_append_left _ _ (by rw [ih.l, wipeG_len]; exact lv), List.set_append_left _ _ (by rw [kil_len, wipeG_len]; exact lv)] at this
    exact ⟨this, by unfold L2.wipe wipeG; simp [kil_len, ih.l], a.tm⟩
theorem wipeG_un : ∀ (vs : List Nat) (v : Nat), v ∈ vs → v < g.length → (wipeG vs g)[v]? = some .un
  | w :: vs, v, h, l => by
    unfold wipeG
    by_cases e : w = v
    · subst e
      exact List.getElem?_set_self (by rw [kil_len, wipeG_len]; exact l)
    · have h' : v ∈ vs := by
        rcases List.mem_cons.mp h with z | z
        · exact absurd z.symm e
        · exact z
      rw [List.getElem?_set_ne e, kil_get, wipeG_un vs v h' l]
      rfl
/-- slots that hold nothing ask nothing -/
theorem At.unwipe {vs : List Nat} (a : At K V0 F0 H0 B ext tmp F H (L2.wipe σ vs) g) (hu : ∀ v ∈ vs, v < g.length → g[v]? = some .un) : At K V0 F0 H0 B ext tmp F H σ g := by
  have wl : (L2.wipe σ vs).length = σ.length := wipe_length _ _
  have sg : ∀ i, i ∉ vs → (L2.wipe σ vs)[i]? = σ[i]? := fun i h => by rw [wipe_get, if_neg h]
  have lw := a.l
  have nv : ∀ (i : Nat) (c : Cl), g[i]? = some c → c ≠ .un → i ∉ vs := fun i c h n m => by
    have := hu i m (List.getElem?_eq_some_iff.mp h).1
    rw [this] at h
    cases h
    exact n rfl
  have ss : ∀ i, i ∉ vs → (σ ++ ext)[i]? = (L2.wipe σ vs ++ ext)[i]? := fun i h => by
    rcases Nat.lt_or_ge i σ.length with c | c
    · rw [List.getElem?_append_left c, List.getElem?_append_left (by omega), sg i h]
    · rw [List.getElem?_append_right c, List.getElem?_append_right (by omega), wl]
  have sr : ∀ i, g.length ≤ i → (σ ++ ext)[i]? = (L2.wipe σ vs ++ ext)[i]? := fun i h => by
    rw [List.getElem?_append_right (by omega), List.getElem?_append_right (by omega), wl]
  have both : ∀ (i : Nat) (c : Cl), (g ++ tmp)[i]? = some c → c ≠ .un → (σ ++ ext)[i]? = (L2.wipe σ vs ++ ext)[i]? := fun i c h n => by
    rcases Nat.lt_or_ge i g.length with k | k
    · rw [List.getElem?_append_left k] at h
      exact ss i (nv i c h n)
    · exact sr i k
  have bg : ∀ (i : Nat) (x : T), gt (g ++ tmp) i = some x → (σ ++ ext)[i]? = (L2.wipe σ vs ++ ext)[i]? := fun i x h => by
    unfold gt at h
    cases e : (g ++ tmp)[i]? with
    | none => rw [e] at h; cases h
    | some c => exact both i c e (fun z => by rw [e, z] at h; cases h)
  refine ⟨a.st.pick id (by have := a.st.len; simp at this ⊢; omega) (fun _ _ _ _ e => e) (fun i x hx => ⟨hx, bg i x hx⟩) (fun i x hx hb => ⟨⟨x, hx, hb⟩, both i _ hx (by intro z; subst z; cases hb)⟩) (fun j i k e => ⟨e, both j _ e (by intro z; cases z), ?_, rfl⟩), by omega, a.tm⟩
  obtain ⟨_, _, _, _, _, _, _, _, ts0, h6⟩ := a.st.al j i k e
  exact bg i _ (gt_nt h6)
theorem At.base (a : At K V0 F0 H0 B ext tmp F H σ g) : ∃ B' : Addr → Prop, At K V0 F H B' ext tmp F H σ g ∧ ∀ V1 ext' tmp' F' H' σ' g', At K V1 F H B' ext' tmp' F' H' σ' g' → At K V1 F0 H0 B ext' tmp' F' H' σ' g' := by
  obtain ⟨B', h1, _, h2⟩ := a.st.base
  exact ⟨B', ⟨h1, a.l, a.tm⟩, fun V1 ext' tmp' F' H' σ' g' a' => ⟨h2 _ _ _ _ _ a'.st, a'.l, a'.tm⟩⟩
/-- a new list that is not frozen becomes a top -/
theorem StT.adopt {p : Addr} {xs : List V} {ds : List D} (ok : StT K V0 F0 H0 B F H σ g) (E : Ext F H F' H') (h0 : H p = none) (hF : F' p = none) (hH : H' p = some (.lst xs)) (hd : DpAll K F' xs ds) : StT K V0 F0 H0 B F' H' (σ ++ [some (.ref p)]) (g ++ [.tm (.lst (ds.map T.dat))]) := by
  have ok' := ok.mono E
  obtain ⟨S, s1, s2, s3, s4⟩ := ok.own
  have nS : ∀ i, ¬ S i p := fun i q => by
    cases e : gt g i with
    | none => exact s4 i e p q
    | some x =>
      obtain ⟨v, _, h2⟩ := s1 i x e
      obtain ⟨ys, z, _⟩ := tr_own h2 p q
      rw [h0] at z; cases z
  have hp0 : B p ∨ H0 p = none := by
    by_cases b : B p
    · exact .inl b
    · cases w : H0 p with
      | none => exact .inr rfl
      | some u => rw [ok.h p u b w] at h0; cases h0
  obtain ⟨Sd, d1, d2⟩ := trs_dat (H := H') hd
  refine ⟨ok'.f, ok'.h, ok'.s, ok'.n, by simp [ok.len], ⟨fun i a => if i < g.length then S i a else (i = g.length ∧ (a = p ∨ Sd a)), fun i x hx => ?_, fun i a q => ?_, fun i j a q r => ?_, fun i e a q => ?_⟩, fun i x e hb => ?_, fun j i k e => ?_⟩
  · have li := gt_lt hx
    simp at li
    rcases Nat.lt_or_ge i g.length with c | c
    · rw [gt_append_left c] at hx
      obtain ⟨v, h1, h2⟩ := s1 i x hx
      refine ⟨v, by rw [List.getElem?_append_left (by rw [ok.len]; exact c)]; exact h1, ?_⟩
      have : (fun a => if i < g.length then S i a else (i = g.length ∧ (a = p ∨ Sd a))) = S i := by
        funext a
        rw [if_pos c]
      show TR K F' H' v x (fun a => if i < g.length then S i a else (i = g.length ∧ (a = p ∨ Sd a)))
      rw [this]
      refine tr_mono E.f h2 fun a q => ?_
      obtain ⟨ys, q1, q2, q3⟩ := tr_own h2 a q
      exact ⟨(E.h _ _ q1).trans q1.symm, E.new_none q2 q1 q3⟩
    · have e : i = g.length := by omega
      subst e
      rw [gt_push] at hx
      cases hx
      refine ⟨.ref p, by rw [List.getElem?_append_right (by rw [ok.len]; exact Nat.le_refl _)]; simp [ok.len], ?_⟩
      have : (fun a => if g.length < g.length then S g.length a else (g.length = g.length ∧ (a = p ∨ Sd a))) = fun a => a = p ∨ Sd a := by
        funext a
        rw [if_neg (Nat.lt_irrefl _)]
        simp
      show TR K F' H' _ _ (fun a => if g.length < g.length then S g.length a else (g.length = g.length ∧ (a = p ∨ Sd a)))
      rw [this]
      exact .lst hH hF d1 (d2 p)
  · dsimp only at q
    split at q
    · exact s2 i a q
    · rcases q.2 with q | q
      · rw [q]; exact hp0
      · exact (d2 a q).elim
  · dsimp only at q r
    split at q
    · split at r
      · exact s3 i j a q r
      · rcases r.2 with z | z
        · subst z; exact (nS i q).elim
        · exact (d2 a z).elim
    · split at r
      · rcases q.2 with z | z
        · subst z; exact (nS j r).elim
        · exact (d2 a z).elim
      · omega
  · dsimp only at q
    split at q
    · rename_i c
      rw [gt_append_left c] at e
      exact s4 i e a q
    · rw [q.1, gt_push] at e
      cases e
  · have li := (List.getElem?_eq_some_iff.mp e).1
    simp at li
    rcases Nat.lt_or_ge i g.length with c | c
    · rw [List.getElem?_append_left c] at e
      obtain ⟨v, h1, h2⟩ := ok.bd i x e hb
      exact ⟨v, h1, by rw [List.getElem?_append_left (by rw [ok.len]; exact c)]; exact h2⟩
    · rw [List.getElem?_append_right c, show i - g.length = 0 by omega] at e
      cases e
      cases hb
  · have lj := (List.getElem?_eq_some_iff.mp e).1
    simp at lj
    rcases Nat.lt_or_ge j g.length with c | c
    · rw [List.getElem?_append_left c] at e
      obtain ⟨a, us, v, h1, h2, h3, h4, h5, ts0, h6⟩ := ok'.al j i k e
      have li := nt_lt h6
      exact ⟨a, us, v, by rw [List.getElem?_append_left (by rw [ok.len]; exact li)]; exact h1, h2, h3, h4, by rw [List.getElem?_append_left (by rw [ok.len]; exact c)]; exact h5, ts0, by rw [nt_append_left li]; exact h6⟩
    · rw [List.getElem?_append_right c, show j - g.length = 0 by omega] at e
      cases e
theorem At.adopt {p : Addr} {xs : List V} {ds : List D} (a : At K V0 F0 H0 B ext tmp F H σ g) (E : Ext F H F' H') (h0 : H p = none) (hF : F' p = none) (hH : H' p = some (.lst xs)) (hd : DpAll K F' xs ds) : At K V0 F0 H0 B (ext ++ [some (.ref p)]) (tmp ++ [.tm (.lst (ds.map T.dat))]) F' H' σ g := by
  refine ⟨?_, a.l, fun c hc => ?_⟩
  · rw [← List.append_assoc, ← List.append_assoc]
    exact a.st.adopt E h0 hF hH hd
  · rcases List.mem_append.mp hc with hc | hc
    · exact a.tm c hc
    · exact ⟨_, List.mem_singleton.mp hc⟩
/-- data put behind the items of the top list -/
theorem At.topApp {p : Addr} {ts : List T} {v : V} {d : D} (ht : Tm tmp) (hl : ext.length = tmp.length) (a : At K V0 F0 H0 B (ext ++ [some (.ref p)]) (tmp ++ [.tm (.lst ts)]) F H σ g) (hd : Dp K F v d) :
    ∃ vs, H p = some (.lst vs) ∧ vs.length = ts.length ∧ At K V0 F0 H0 B (ext ++ [some (.ref p)]) (tmp ++ [.tm (.lst (ts ++ [.dat d]))]) F (upd H p (.lst (vs ++ [v]))) σ g := by
  have st := a.st
  have al := a.l
  rw [← List.append_assoc, ← List.append_assoc] at st
  have gp : gt (g ++ tmp ++ [.tm (.lst ts)]) (g ++ tmp).length = some (.lst ts) := gt_push
  obtain ⟨r, q, vs, Sc, h1, h2, h3, h4, h5⟩ := st.write gp (T.get_nil _)
  rw [List.getElem?_append_right (by simp; omega)] at h1
  simp [al, hl] at h1
  have hq := sub0 h2
  rw [hq] at h1
  cases h1
  obtain ⟨S', z1, z2⟩ := trs_appD h4 hd
  have := h5 _ _ _ z1 z2 (fun _ j k e => by
    exfalso
    obtain ⟨_, _, _, _, _, _, _, _, ts0, h6⟩ := st.al j _ k e
    have := nt_tmp (g := g ++ tmp) (tmp := [.tm (.lst ts)]) (fun c hc => ⟨_, List.mem_singleton.mp hc⟩) h6
    omega)
  rw [T.put_nil] at this
  refine ⟨vs, h3, trs_len h4, ?_, a.l, fun c hc => ?_⟩
  · rw [← List.append_assoc, ← List.append_assoc]
    have e : setT (g ++ tmp ++ [.tm (.lst ts)]) (g ++ tmp).length (.lst (ts ++ [.dat d])) = g ++ tmp ++ [.tm (.lst (ts ++ [.dat d]))] := by
      unfold setT
      rw [List.getElem?_append_right (Nat.le_refl _)]
      simp [repl]
    rw [e] at this
    exact this
  · rcases List.mem_append.mp hc with hc | hc
    · exact ht c hc
    · exact ⟨_, List.mem_singleton.mp hc⟩
end
def UVOk (K : PySem.W.Frag) (vs : List Nat) (r : TG) (t : TgT) : Prop := ∀ (V0 : Nat → Option V) (F0 H0 : Hp) (B : Addr → Prop) (ext : L2.St) (tmp : Ct) (F H : Hp) (σ : L2.St) (g g' : Ct) (v : V) (d : D) (Q : L2.St → Hp → Prop),
  At K V0 F0 H0 B ext tmp F H σ g → Dp K F v d → t d g = some g' → (∀ σ', At K V0 F0 H0 B ext tmp F H σ' g' → wipe σ' vs = wipe σ vs → g'.length = g.length → Q σ' H) → r v σ H Q
def UVsOk (K : PySem.W.Frag) (vs : List Nat) (n : Nat) (r : TGs) (t : TgsT) : Prop := (∀ ds g g', t ds g = some g' → ds.length = n) ∧ ∀ (V0 : Nat → Option V) (F0 H0 : Hp) (B : Addr → Prop) (ext : L2.St) (tmp : Ct) (F H : Hp) (σ : L2.St) (g g' : Ct) (xs : List V) (ds : List D) (Q : L2.St → Hp → Prop),
  At K V0 F0 H0 B ext tmp F H σ g → DpAll K F xs ds → t ds g = some g' → (∀ σ', At K V0 F0 H0 B ext tmp F H σ' g' → wipe σ' vs = wipe σ vs → g'.length = g.length → Q σ' H) → r xs σ H Q
def uV (i : Nat) : TgT := fun d g => if free1 g i = true ∧ i < g.length then some ((kil i g).set i (.t (.dat d))) else none
theorem uV_ok {K : PySem.W.Frag} {vs : List Nat} {i : Nat} (h : i ∈ vs) : UVOk K vs (gName i) (uV i) := fun V0 F0 H0 B ext tmp F H σ g g' v d Q a hd e q => by
  unfold uV at e
  split at e
  · rename_i f
    cases e
    exact q _ (a.setD hd f.1 f.2) (wipe_set h) (by simp [kil_len])
  · cases e
theorem uVnil_ok {K : PySem.W.Frag} {vs : List Nat} : UVsOk K vs 0 gNil usNil := by
  refine ⟨fun ds g g' e => ?_, fun V0 F0 H0 B ext tmp F H σ g g' xs ds Q a hd e q => ?_⟩
  · cases ds with
    | nil => rfl
    | cons a b => cases e
  · cases hd with
    | nil =>
      cases e
      exact ⟨rfl, q _ a rfl rfl⟩
    | cons a b => cases e
theorem uVcons_ok {K : PySem.W.Frag} {vs : List Nat} {n : Nat} {r : TG} {rs : TGs} {t : TgT} {ts : TgsT} (h1 : UVOk K vs r t) (h2 : UVsOk K vs n rs ts) : UVsOk K vs (n + 1) (gCons r rs) (usCons t ts) := by
  refine ⟨fun ds g g' e => ?_, fun V0 F0 H0 B ext tmp F H σ g g' xs ds Q a hd e Q' => ?_⟩
  · cases ds with
    | nil => cases e
    | cons d ds =>
      have e' : (t d g).bind (ts ds) = some g' := e
      cases q : t d g with
      | none => rw [q] at e'; cases e'
      | some g1 =>
        rw [q] at e'
        exact congrArg Nat.succ (h2.1 ds g1 g' e')
  · cases hd with
    | nil => cases e
    | @cons v xs d ds x y =>
      have e' : (t d g).bind (ts ds) = some g' := e
      cases q : t d g with
      | none => rw [q] at e'; cases e'
      | some g1 =>
        rw [q] at e'
        exact ⟨v, xs, rfl, h1 V0 F0 H0 B ext tmp F H σ g g1 v d _ a x q fun σ' a' w1 l1 => h2.2 V0 F0 H0 B ext tmp F H σ' g1 g' xs ds Q a' y e' fun σ2 a2 w2 l2 => Q' σ2 a2 (w2.trans w1) (l2.trans l1)⟩
theorem uVT_ok {K : PySem.W.Frag} {vs : List Nat} {n : Nat} {r : TGs} {t : TgsT} (h : UVsOk K vs n r t) : UVOk K vs (gSeq K n r) (uT t) := fun V0 F0 H0 B ext tmp F H σ g g' v d Q a hd e q => by
  cases hd with
  | lst x y => exact .inr ⟨_, _, rfl, a.s.seq x, (dpa_len y).trans (h.1 _ _ _ e), h.2 V0 F0 H0 B ext tmp F H σ g g' _ _ Q a y e q⟩
  | tup x y => exact .inl ⟨_, _, rfl, same_t a.s x, (dpa_len y).trans (h.1 _ _ _ e), h.2 V0 F0 H0 B ext tmp F H σ g g' _ _ Q a y e q⟩
  | _ => cases e
def loopCT (t : TgT) (tt : XT) (te : XM) (vs : List Nat) : List D → List T → Ct → RG (List T)
  | [], acc, g => .ok acc g
  | d :: ds, acc, g => match t d g with
    | none => .bad
    | some g1 => match tt g1 with
      | .ok true g2 => (match te g2 with
        | .ok y g3 => if acc.length < most ∧ g3.length = g.length then loopCT t tt te vs ds (acc ++ [.dat (fz y)]) (wipeG vs g3) else .bad
        | _ => .bad)
      | .ok false g2 => if g2.length = g.length then loopCT t tt te vs ds acc (wipeG vs g2) else .bad
      | _ => .bad
def xLc (it : XI) (vs : List Nat) (t : TgT) (tt : XT) (te : XM) : XM := fun g => (it g).bind fun ds g1 => if vs.all (fun v => decide (v < g1.length)) = true then (loopCT t tt te vs ds [] (wipeG vs g1)).bind fun acc g2 => .ok (.lst acc) g2 else .bad
def xYes : XT := fun g => .ok true g
abbrev MXTs (X : Cx) (ifs : List Expr) (m : XT) : Prop := PTs X ifs (tXT X W0 m)
theorem mxts_nil {X : Cx} : MXTs X [] xYes := ⟨fun pins s σ H Q I ⟨V0, F0, H0, B, ext, tmp, F, g, a, h⟩ => pts_nil.run pins s σ H Q I (h F H a)⟩
theorem loopCT_exc {t : TgT} {tt : XT} {te : XM} {vs : List Nat} : ∀ (ds : List D) (acc : List T) (g : Ct) (c : Str) (p : Option D) (g' : Ct), loopCT t tt te vs ds acc g ≠ .exc c p g'
  | [], acc, g, c, p, g', e => by cases e
  | d :: ds, acc, g, c, p, g', e => by
    unfold loopCT at e
    split at e
    · cases e
    · split at e
      · split at e
        · split at e
          · exact loopCT_exc ds _ _ c p g' e
          · cases e
        · cases e
      · split at e
        · exact loopCT_exc ds _ _ c p g' e
        · cases e
      · cases e
theorem xlc_read {X : Cx} {W : WX} {it : XI} {vs : List Nat} {gg : TG} {t : TgT} {tt : XT} {te : XM} (hv : UVOk X.K vs gg t) {σ : L2.St} {H : Hp} {Q : VK} (h : tX X W (xLc it vs t tt te) σ H Q) : tLc (tXI X W it) gg (tXT X W0 tt) (tX X W0 te) vs σ H Q := by
  obtain ⟨V0, F0, H0, B, ext, tmp, F, g, a, h⟩ := h
  refine ⟨V0, F0, H0, B, ext, tmp, F, g, a, ?_⟩
  unfold xLc at h
  cases ei : it g with
  | exc c p g1 => rw [ei] at h; exact h
  | bad => rw [ei] at h; exact h.elim
  | ok ds g1 =>
    rw [ei, RG.bind_ok] at h
    intro F1 H1 J a1 io
    split at h
    rotate_left
    · exact h.elim
    rename_i hvs
    have hvs : ∀ v ∈ vs, v < g1.length := fun v m => of_decide_eq_true (List.all_eq_true.mp hvs v m)
    cases el : loopCT t tt te vs ds [] (wipeG vs g1) with
    | exc c p g' => exact absurd el (loopCT_exc _ _ _ _ _ _)
    | bad => rw [el] at h; exact h.elim
    | ok res gf =>
      rw [el, RG.bind_ok] at h
      obtain ⟨B1, a1', back⟩ := a1.base
      intro Dl hD
      have a0 := At.mkL (vs := []) (ts := []) a.tm (by simpa using a1') a.len hD
      have a0 := a0.wipe vs hvs
      let Pv : Nat → Hp → Prop := fun i H => ∃ F2 acc g2, At X.K V0 F1 H1 B1 (ext ++ [some (.ref Dl)]) (tmp ++ [.tm (.lst acc)]) F2 H (L2.wipe σ vs) g2 ∧ g2.length = g1.length ∧ (∀ v ∈ vs, g2[v]? = some .un) ∧ i ≤ ds.length ∧ loopCT t tt te vs (ds.drop i) acc g2 = .ok res gf
      refine ⟨fun i m H => m = ds.length - i ∧ Pv i H, ⟨ds.length, by simp, F1, [], wipeG vs g1, a0, wipeG_len vs, fun v m => wipeG_un vs v m (hvs v m), Nat.zero_le _, by simpa using el⟩, ?_⟩
      rintro i m H2 ⟨rfl, F2, acc, g2, a2, l2, u2, hi, hl⟩
      by_cases hlt : i < ds.length
      · have ed : ds[i]? = some ds[i] := List.getElem?_eq_getElem hlt
        obtain ⟨go, yl⟩ := io.go i H2 _ (a2.st.f.trans a2.s) ed
        refine .inr ⟨go, Pv (i + 1), fun H' p' => ⟨ds.length - (i + 1), by omega, rfl, p'⟩, fun x H' hy => ?_⟩
        obtain ⟨F3, E3, dx⟩ := yl x H' F2 a2.st.f a2.s hy
        rw [drop_get ed] at hl
        unfold loopCT at hl
        cases et : t ds[i] g2 with
        | none => rw [et] at hl; cases hl
        | some g3 =>
          rw [et] at hl
          refine hv V0 F1 H1 B1 _ _ F3 H' (L2.wipe σ vs) g2 g3 x _ _ (a2.mono E3) dx et fun σ2 a3 hw l3 => ⟨hw.trans wipe_idem, ?_⟩
          rw [wipe_idem] at hw
          dsimp only at hl
          refine ⟨V0, F1, H1, B1, _, _, F3, g3, a3, ?_⟩
          cases ett : tt g3 with
          | ok b g4 =>
            rw [ett] at hl
            intro F4 H4 a4
            cases b with
            | false =>
              rw [if_neg Bool.false_ne_true]
              dsimp only at hl
              split at hl
              · rename_i lg
                have a5 := a4.wipe vs fun v m => by rw [lg, l2]; exact hvs v m
                rw [hw] at a5
                exact ⟨F4, acc, wipeG vs g4, a5, by rw [wipeG_len, lg, l2], fun v m => wipeG_un vs v m (by rw [lg, l2]; exact hvs v m), hlt, hl⟩
              · cases hl
            | true =>
              rw [if_pos rfl]
              dsimp only at hl
              refine ⟨V0, F1, H1, B1, _, _, F4, g4, a4, ?_⟩
              cases ete : te g4 with
              | ok y g5 =>
                rw [ete] at hl
                dsimp only at hl
                split at hl
                · rename_i lm
                  intro w F5 H5 a5
                  have ht' : Tm (tmp ++ [Cl.tm (.lst acc)]) := a4.tm
                  obtain ⟨F6, _, a6, hd⟩ := At.top1 ht' a4.len a5
                  obtain ⟨av, q1, q2, q3⟩ := At.topApp a.tm a.len a6 hd
                  refine ⟨av, q1, by rw [q2]; exact Nat.lt_of_lt_of_le lm.1 (Nat.le_of_eq most_eq), ?_⟩
                  have a7 := q3.wipe vs fun v m => by rw [lm.2, l2]; exact hvs v m
                  rw [hw] at a7
                  exact ⟨F6, acc ++ [.dat (fz y)], wipeG vs g5, a7, by rw [wipeG_len, lm.2, l2], fun v m => wipeG_un vs v m (by rw [lm.2, l2]; exact hvs v m), hlt, hl⟩
                · cases hl
              | exc c p g5 => rw [ete] at hl; cases hl
              | bad => rw [ete] at hl; cases hl
          | exc c p g4 => rw [ett] at hl; cases hl
          | bad => rw [ett] at hl; cases hl
      · have e : i = ds.length := by omega
        subst e
        rw [List.drop_length] at hl
        cases hl
        exact .inl ⟨io.stop _ H2 (a2.st.f.trans a2.s) (Nat.le_refl _), h (.ref Dl) F2 H2 (back _ _ _ _ _ _ _ (a2.unwipe fun v m _ => u2 v m))⟩
theorem mx_lc {X : Cx} {W : WX} {elt tg iter : Expr} {ifs : List Expr} {scope : Scope} {own : List (Str × Nat)} {pos : Pos} {it : XI} {g : TG} {t : TgT} {tt : XT} {te : XM} (hN : X.N.Nodup) (hi : MXI X W tg iter it) (ok : BlkOk X.N X.env.scope scope own) (hv : UVOk X.K (own.map (·.2)) g t)
    (hg : ∀ (s : Shared) (H : Hp) (C : Addr) (cl : List (Str × Addr)) (fp : List Addr), PG (X.blk s H scope (compEnvC scope cl C X.env) fp) tg g) (ht : ∀ (s : Shared) (H : Hp) (C : Addr) (cl : List (Str × Addr)) (fp : List Addr), MXTs (X.blk s H scope (compEnvC scope cl C X.env) fp) ifs tt)
    (he : ∀ (s : Shared) (H : Hp) (C : Addr) (cl : List (Str × Addr)) (fp : List Addr), MX (X.blk s H scope (compEnvC scope cl C X.env) fp) W0 elt te) (hc : X.calm = true := by rfl) (hs : ∀ x, foldedSetIterable iter X.env x = pure x := by intro _; rfl) :
    MX X W (.ListComp elt [⟨tg, iter, ifs, 0⟩] scope pos) (xLc it (own.map (·.2)) t tt te) :=
  PE.imp (pe_lc hc hN hi ok hg (fun s H C cl fp => ht s H C cl fp) (fun s H C cl fp => he s H C cl fp) hs) fun σ H Q h => xlc_read hv h
/-- y = [..], a statement of its own in the model -/
theorem mts_setLc (j : Nat) {X : Cx} {W : WX} {elt tg iter : Expr} {ifs : List Expr} {scope : Scope} {own : List (Str × Nat)} {pos : Pos} {it : XI} {g : TG} {t : TgT} {tt : XT} {te : XM} (hN : X.N.Nodup) (hi : MXI X W tg iter it) (ok : BlkOk X.N X.env.scope scope own) (hv : UVOk X.K (own.map (·.2)) g t)
    (hg : ∀ (s : Shared) (H : Hp) (C : Addr) (cl : List (Str × Addr)) (fp : List Addr), PG (X.blk s H scope (compEnvC scope cl C X.env) fp) tg g) (ht : ∀ (s : Shared) (H : Hp) (C : Addr) (cl : List (Str × Addr)) (fp : List Addr), MXTs (X.blk s H scope (compEnvC scope cl C X.env) fp) ifs tt)
    (he : ∀ (s : Shared) (H : Hp) (C : Addr) (cl : List (Str × Addr)) (fp : List Addr), MX (X.blk s H scope (compEnvC scope cl C X.env) fp) W0 elt te) {y : Str} {py spos : Pos} (hy : X.N[j]? = some y := by rfl) (hyl : X.env.scope.names.lookup y = some .local := by rfl) (hsw : swapsWith (.ListComp elt [⟨tg, iter, ifs, 0⟩] scope pos) (some (.Name y py)) spos.line X.env = pure true := by exact sw_true rfl rfl rfl (by decide +kernel)) (hc : X.calm = true := by rfl) (hs : ∀ x, foldedSetIterable iter X.env x = pure x := by intro _; rfl) :
    MTS X W (.Assign [.Name y py] (.ListComp elt [⟨tg, iter, ifs, 0⟩] scope pos) spos) (tSet j (xLc it (own.map (·.2)) t tt te)) := by
  refine PS.imp (ps_setLc (tt := tXT X W0 tt) (te := tX X W0 te) hc hN hy hyl hsw hi ok hg (fun s H C cl fp => ht s H C cl fp) (fun s H C cl fp => he s H C cl fp) hs) fun D σ H ⟨V0, F0, H0, B, F, g, ok, h⟩ => ?_
  refine xlc_read hv (evX (Q := fun v H1 => D.nx (σ.set j (some v)) H1) ok h fun t v g1 F1 H1 e ok1 l h1 => ?_)
  unfold putC at h1
  split at h1
  · rename_i f
    exact h1 F1 H1 _ (ok1.setTop l f)
  · exact h1.elim
def xN (m : Vw → R (List D)) : XM := fun g => (RG.of (m (tvd g)) g).bind fun ds g => .ok (.lst (ds.map T.dat)) g
theorem spT_law {K : PySem.W.Frag} {mg : Str → Option Value} {f : Us → RF} {H : Hp} {a : Addr} {ns : List Int} {bs : Ct} (hO : Only H) (hS : SqL K H a (ns.map V.int)) (h : f [(false, .dat (.list (ns.map .int)))] = .ok (.dat (.bool true)) bs) :
    spT K mg 1 f [.ref a] H (fun v _ => v = .bl true) fun _ _ _ => False := by
  have intsD : ∀ ns : List Int, DpAll K H (ns.map V.int) (ns.map PyData.int) := fun ns => by
    induction ns with
    | nil => exact .nil
    | cons n ns ih => exact .cons (.int n) ih
  have st0 : StT K (fun _ => none) H H (fun _ => False) H H [] [] := ⟨Same.refl H, fun _ _ _ e => e, Same.refl H, fun a o e n => (by rw [n] at e; cases e), rfl, ⟨fun _ _ => False, fun i x hx => (by unfold gt at hx; simp at hx), fun _ _ q => q.elim, fun _ _ _ q => q.elim, fun _ _ _ q => q⟩, fun i x e _ => (by simp at e), fun j i k e => (by simp at e)⟩
  have st1 : StT K (fun _ => none) H H (fun _ => False) H H [some (.ref a)] [.tm (.dat (.list (ns.map .int)))] := st0.pushD (.lst hS (intsD ns))
  have st2 : StT K (fun _ => none) H H (fun _ => False) H H [some (.ref a)] [.t (.dat (.list (ns.map .int)))] := st1.pick id rfl (fun _ _ _ _ e => e) (fun i x hx => by
    have := gt_lt hx
    simp at this
    subst this
    exact ⟨hx, rfl⟩) (fun i x e hb => by
    have := (List.getElem?_eq_some_iff.mp e).1
    simp at this
    subst this
    cases e
    cases hb) (fun j i k e => by
    have := (List.getElem?_eq_some_iff.mp e).1
    simp at this
    subst this
    cases e)
  refine ⟨_, H, H, _, H, [(false, .dat (.list (ns.map .int)))], st2, rfl, ?_⟩
  rw [h]
  intro v F' H' ok
  have ok' : StT K _ H H _ F' H' ([some (V.ref a)] ++ [some v]) (bs ++ [.tm (.dat (.bool true))]) := ok
  have lb : bs.length = 1 := by
    have := ok.len
    simp at this
    omega
  have := ok'.topD (ext := []) (tmp := []) (by simp [lb])
  exact dp_bool_inv this
theorem walk_miT {l : PySem.W.OpenLaw} {n k : Nat} {q : Program} {loose : List Str} {XP : (Str → Option Value) → Heap → Prop} {YP : World → Heap → Prop} {d : DefRec} {x : Str} {f : Us → RF}
    (hn : l.most = some n) (hn2 : n ≤ sizeLine) (hdf : d.params.defaults = []) (hr : Room k callerA)
    (G : ∀ (w : World) (mg : Str → Option Value) (fa : Addr) (h : Heap), YP w h → h.Ns mainGlobals mg → mg d.name = some (.ref fa) →
      ∃ (K : PySem.W.Frag) (fd : FuncData), K.In h ∧ (∀ (s : Shared) (u : Value), BindsTo s fd ⟨[u], []⟩ [(x, u)]) ∧
        ∀ base : Heap, K.In base → base.Ns mainGlobals mg → FnOk l.prog w K mg base (L2.CX l.prog w) k fa fd [x] (spT K mg 1 f))
    (hf : ∀ ns : List Int, ns.length ≤ n → (∀ z ∈ ns, Builtin.Int.intBits z ≤ 1048576) → ∃ bs, f [(false, .dat (.list (ns.map .int)))] = .ok (.dat (.bool true)) bs) :
    PySem.W.WalkO q loose XP YP l.row.toRowW d [] (fun f vs => PySem.call f vs) := by
  refine Att.attach_callB hn hdf fun w s0 s1 mg mb fa o pm cd doc a vs ns Gr Y ho hd hcd hmg hobj hints hlen hbits hg => ?_
  obtain ⟨K, fd, KX, hb, hF⟩ := G w mg fa _ Y Gr.T.g hmg
  obtain ⟨bs, hf'⟩ := hf ns hlen hbits
  refine law_call KX Gr.T.g Gr.T.b Gr.T.builtins Gr.T.nolimit hg hobj hints (Nat.le_trans hlen hn2) hr hF hb (fun H hO hS => spT_law hO hS hf') fun H e s' z => ?_
  obtain ⟨_, _, _, _, _, _, _, _, _, _, _, _, z⟩ := z
  exact z.elim
end MI
set_option Elab.async false
set_option linter.all false
set_option maxRecDepth 100000
set_option maxHeartbeats 4000000
namespace MI
open PySem PySem.Spec PyProof.Rows L2
section
end
section
end
def isV : D → Bool
  | .none => true
  | .bool _ => true
  | .int _ => true
  | .str _ => true
  | _ => false
section
end
end MI
set_option Elab.async false
set_option linter.all false
set_option maxRecDepth 100000
set_option maxHeartbeats 4000000
namespace MI
open PySem PySem.Spec PyProof.Rows L2
def xItem (j : Nat) (mi : XM) : XM := fun g => match locT g j [] with
  | some _ => (mi g).bind fun i g1 => (match fz i with
    | .int i => (match locT g1 j [] with
      | some ts => (match atI ts i with
        | some (.dat d) => .ok (.dat d) g1
        | _ => .bad)
      | none => .bad)
    | _ => .bad)
  | none => .bad
section
variable {X : Cx} {W : WX} {a b : Expr} {ma mb : XM} {pos : Pos} {rest : List Expr}
def xAndV (a b : XM) : XM := fun g => (a g).bind fun t g1 => match fz t with
  | .bool true => b g1
  | .bool false => .ok (.dat (.bool false)) g1
  | _ => .bad
def xOrV (a b : XM) : XM := fun g => (a g).bind fun t g1 => match fz t with
  | .bool true => .ok (.dat (.bool true)) g1
  | .bool false => b g1
  | _ => .bad
def xNotV (a : XM) : XM := fun g => (a g).bind fun t g1 => match fz t with
  | .bool c => .ok (.dat (.bool !c)) g1
  | _ => .bad
end
end MI
set_option Elab.async false
set_option linter.all false
set_option maxRecDepth 100000
set_option maxHeartbeats 4000000
namespace MI
open PySem PySem.Spec PyProof.Rows L2
def kl (i : Nat) : Cl → Cl
  | .al j k => if j = i then .un else .al j k
  | c => c
def nb : Cl → Bool
  | .b _ => false
  | .pin => false
  | _ => true
@[simp] theorem kl_t (i : Nat) (x : T) : kl i (.t x) = .t x := Eq.trans rfl rfl
@[simp] theorem kl_b (i : Nat) (x : T) : kl i (.b x) = .b x := Eq.trans rfl rfl
@[simp] theorem kl_pin (i : Nat) : kl i .pin = .pin := Eq.trans rfl rfl
@[simp] theorem nb_pin : nb .pin = false := Eq.trans rfl rfl
@[simp] theorem kl_un (i : Nat) : kl i .un = .un := Eq.trans rfl rfl
@[simp] theorem kl_al (i j k : Nat) : kl i (.al j k) = if j = i then .un else .al j k := Eq.trans rfl rfl
@[simp] theorem nb_t (x : T) : nb (.t x) = true := Eq.trans rfl rfl
@[simp] theorem nb_b (x : T) : nb (.b x) = false := Eq.trans rfl rfl
@[simp] theorem nb_un : nb .un = true := Eq.trans rfl rfl
@[simp] theorem nb_al (j k : Nat) : nb (.al j k) = true := Eq.trans rfl rfl
@[simp] theorem kil_nil (i : Nat) : kil i [] = [] := Eq.trans rfl rfl
@[simp] theorem kil_cons (i : Nat) (c : Cl) (g : Ct) : kil i (c :: g) = kl i c :: kil i g := by
  cases c <;> rfl
@[simp] theorem free1_nil (i : Nat) : free1 [] i = true := Eq.trans rfl rfl
@[simp] theorem free1_0 (c : Cl) (g : Ct) : free1 (c :: g) 0 = nb c := by cases c <;> rfl
@[simp] theorem free1_s (c : Cl) (g : Ct) (i : Nat) : free1 (c :: g) (i + 1) = free1 g i := Eq.trans rfl rfl
/-- a cell that may be set: nothing, or a thing of this def's -/
def Fr (c : Cl) : Prop := c = .un ∨ ∃ x, c = .t x
@[simp] theorem fr_un : Fr .un := .inl rfl
@[simp] theorem fr_t (x : T) : Fr (.t x) := .inr ⟨x, rfl⟩
@[simp] theorem kl_fr {c : Cl} (h : Fr c) (i : Nat) : kl i c = c := by
  rcases h with rfl | ⟨x, rfl⟩ <;> rfl
@[simp] theorem nb_fr {c : Cl} (h : Fr c) : nb c = true := by
  rcases h with rfl | ⟨x, rfl⟩ <;> rfl
@[simp] theorem tvd_ap (c0 : Cl) (g0 : Ct) : tvd (c0 :: g0) = (c0 :: g0).map (Cl.vd (c0 :: g0)) := Eq.trans rfl rfl
@[simp] theorem tva_ap (c0 : Cl) (g0 : Ct) : tva (c0 :: g0) = (c0 :: g0).map (Cl.va (c0 :: g0)) := Eq.trans rfl rfl
@[simp] theorem clvd_t (g : Ct) (d : D) : Cl.vd g (.t (.dat d)) = some d := Eq.trans rfl rfl
@[simp] theorem clvd_tl (g : Ct) (ts : List T) : Cl.vd g (.t (.lst ts)) = none := Eq.trans rfl rfl
@[simp] theorem clvd_b (g : Ct) (d : D) : Cl.vd g (.b (.dat d)) = some d := Eq.trans rfl rfl
@[simp] theorem clvd_bl (g : Ct) (ts : List T) : Cl.vd g (.b (.lst ts)) = none := Eq.trans rfl rfl
@[simp] theorem clvd_un (g : Ct) : Cl.vd g .un = none := Eq.trans rfl rfl
@[simp] theorem clva_t (g : Ct) (x : T) : Cl.va g (.t x) = some (fz x) := Eq.trans rfl rfl
@[simp] theorem clva_b (g : Ct) (x : T) : Cl.va g (.b x) = some (fz x) := Eq.trans rfl rfl
@[simp] theorem clva_un (g : Ct) : Cl.va g .un = none := Eq.trans rfl rfl
@[simp] theorem fz_dat (d : D) : fz (.dat d) = d := by unfold fz; rfl
@[simp] theorem fz_lst (ts : List T) : fz (.lst ts) = .list (fzL ts) := by rw [fz]
@[simp] theorem fzL_nil : fzL [] = [] := by rw [fzL]
@[simp] theorem fzL_cons (t : T) (ts : List T) : fzL (t :: ts) = fz t :: fzL ts := by rw [fzL]
theorem fzL_dats : ∀ ds : List D, fzL (ds.map T.dat) = ds
  | [] => fzL_nil
  | d :: ds => by rw [List.map_cons, fzL_cons, fz_dat, fzL_dats ds]
@[simp] theorem rg_of_ok {α : Type} (a : α) (g : Ct) : RG.of (.ok a) g = .ok a g := Eq.trans rfl rfl
@[simp] theorem rg_of_exc {α : Type} (c : Str) (p : Option D) (g : Ct) : RG.of (.exc c p : R α) g = .exc c p g := Eq.trans rfl rfl
@[simp] theorem rg_of_bad {α : Type} (g : Ct) : RG.of (.bad : R α) g = .bad := Eq.trans rfl rfl
@[simp] theorem xP_ap (m : M) (c0 : Cl) (g0 : Ct) : xP m (c0 :: g0) = (RG.of (m (tvd (c0 :: g0))) (c0 :: g0)).bind fun d h => .ok (.dat d) h := Eq.trans rfl rfl
@[simp] theorem xV_ap (m : M) (c0 : Cl) (g0 : Ct) : xV m (c0 :: g0) = match m (tva (c0 :: g0)) with
  | .ok d => if flat d = true then .ok (.dat d) (c0 :: g0) else .bad
  | .exc c p => if flatO p = true then .exc c p (c0 :: g0) else .bad
  | .bad => .bad := Eq.trans rfl rfl
@[simp] theorem xTP_ap (m : Vw → R Bool) (c0 : Cl) (g0 : Ct) : xTP m (c0 :: g0) = match m (tva (c0 :: g0)) with
  | .ok b => .ok b (c0 :: g0)
  | .exc c p => if flatO p = true then .exc c p (c0 :: g0) else .bad
  | .bad => .bad := Eq.trans rfl rfl
@[simp] theorem flat_i (i : Int) : flat (.int i) = true := Eq.trans rfl rfl
@[simp] theorem flat_b (i : Bool) : flat (.bool i) = true := Eq.trans rfl rfl
@[simp] theorem flat_s (i : Str) : flat (.str i) = true := Eq.trans rfl rfl
@[simp] theorem flat_n : flat .none = true := Eq.trans rfl rfl
@[simp] theorem flatO_n : flatO none = true := Eq.trans rfl rfl
@[simp] theorem xOf_some (d : D) (g : Ct) : xOf (some d) g = .ok (.dat d) g := Eq.trans rfl rfl
@[simp] theorem xOf_none (g : Ct) : xOf none g = .bad := Eq.trans rfl rfl
@[simp] theorem xBin_ap (f : D → D → Option D) (a b : XM) (c0 : Cl) (g0 : Ct) : xBin f a b (c0 :: g0) = (a (c0 :: g0)).bind fun t g1 => (b g1).bind fun u g2 => xOf (f (fz t) (fz u)) g2 := Eq.trans rfl rfl
@[simp] theorem xUn_ap (f : D → Option D) (a : XM) (c0 : Cl) (g0 : Ct) : xUn f a (c0 :: g0) = (a (c0 :: g0)).bind fun t g1 => xOf (f (fz t)) g1 := Eq.trans rfl rfl
@[simp] theorem xTru_ap (m : XM) (c0 : Cl) (g0 : Ct) : xTru m (c0 :: g0) = (m (c0 :: g0)).bind fun t g1 => match truthD (fz t) with
  | some b => .ok b g1
  | none => .bad := Eq.trans rfl rfl
@[simp] theorem xNot_ap (t : XT) (c0 : Cl) (g0 : Ct) : xNot t (c0 :: g0) = (t (c0 :: g0)).bind fun b g1 => .ok (!b) g1 := Eq.trans rfl rfl
@[simp] theorem xAndT_ap (t u : XT) (c0 : Cl) (g0 : Ct) : xAndT t u (c0 :: g0) = (t (c0 :: g0)).bind fun b g1 => if b = true then u g1 else .ok false g1 := Eq.trans rfl rfl
@[simp] theorem xOrT_ap (t u : XT) (c0 : Cl) (g0 : Ct) : xOrT t u (c0 :: g0) = (t (c0 :: g0)).bind fun b g1 => if b = true then .ok true g1 else u g1 := Eq.trans rfl rfl
@[simp] theorem xIf_ap (t : XT) (a b : XM) (c0 : Cl) (g0 : Ct) : xIf t a b (c0 :: g0) = (t (c0 :: g0)).bind fun k g1 => if k = true then a g1 else b g1 := Eq.trans rfl rfl
@[simp] theorem xNil_ap (c0 : Cl) (g0 : Ct) : xNil (c0 :: g0) = .ok [] (c0 :: g0) := Eq.trans rfl rfl
@[simp] theorem xCons_ap (a : XM) (r : XA) (c0 : Cl) (g0 : Ct) : xCons a r (c0 :: g0) = (a (c0 :: g0)).bind fun t g1 => (r g1).bind fun ts g2 => .ok (t :: ts) g2 := Eq.trans rfl rfl
@[simp] theorem xDs_ap (f : List D → Option D) (a : XA) (c0 : Cl) (g0 : Ct) : xDs f a (c0 :: g0) = (a (c0 :: g0)).bind fun ts g1 => xOf (f (fzL ts)) g1 := Eq.trans rfl rfl
@[simp] theorem xCall_ap (n : Nat) (f : List D → R D) (dds : List D) (a : XA) (c0 : Cl) (g0 : Ct) : xCall n f dds a (c0 :: g0) = (a (c0 :: g0)).bind fun ts g1 => if (fzL ts ++ dds).length = n then (RG.of (f (fzL ts ++ dds)) g1).bind fun d h => .ok (.dat d) h else .bad := Eq.trans rfl rfl
@[simp] theorem xMt_ap (T : String) (f : D → List D → Option D) (o : XM) (a : XA) (c0 : Cl) (g0 : Ct) : xMt T f o a (c0 :: g0) = (o (c0 :: g0)).bind fun t g1 => if tyD (fz t) = T ∧ (T = "str" ∨ T = "list") then (a g1).bind fun ts g2 => xOf (f (fz t) (fzL ts)) g2 else .bad := Eq.trans rfl rfl
@[simp] theorem xAndV_ap (a b : XM) (c0 : Cl) (g0 : Ct) : xAndV a b (c0 :: g0) = (a (c0 :: g0)).bind fun t g1 => match fz t with
  | .bool true => b g1
  | .bool false => .ok (.dat (.bool false)) g1
  | _ => .bad := Eq.trans rfl rfl
@[simp] theorem xOrV_ap (a b : XM) (c0 : Cl) (g0 : Ct) : xOrV a b (c0 :: g0) = (a (c0 :: g0)).bind fun t g1 => match fz t with
  | .bool true => .ok (.dat (.bool true)) g1
  | .bool false => b g1
  | _ => .bad := Eq.trans rfl rfl
@[simp] theorem xNotV_ap (a : XM) (c0 : Cl) (g0 : Ct) : xNotV a (c0 :: g0) = (a (c0 :: g0)).bind fun t g1 => match fz t with
  | .bool c => .ok (.dat (.bool !c)) g1
  | _ => .bad := Eq.trans rfl rfl
@[simp] theorem xLs_ap (m : XA) (c0 : Cl) (g0 : Ct) : xLs m (c0 :: g0) = (m (c0 :: g0)).bind fun ts g1 => if ts.length ≤ most then .ok (.lst ts) g1 else .bad := Eq.trans rfl rfl
@[simp] theorem xListOf_ap (m : XM) (c0 : Cl) (g0 : Ct) : xListOf m (c0 :: g0) = (m (c0 :: g0)).bind fun t g1 => match fz t with
  | .list ds => .ok (.lst (ds.map T.dat)) g1
  | .tuple ds => .ok (.lst (ds.map T.dat)) g1
  | _ => .bad := Eq.trans rfl rfl
@[simp] theorem xMv_ap (i : Nat) (c0 : Cl) (g0 : Ct) : xMv i (c0 :: g0) = match (c0 :: g0)[i]? with
  | some (.t x) => .ok x ((kil i (c0 :: g0)).set i .un)
  | _ => .bad := Eq.trans rfl rfl
@[simp] theorem xN_ap (m : Vw → R (List D)) (c0 : Cl) (g0 : Ct) : xN m (c0 :: g0) = (RG.of (m (tvd (c0 :: g0))) (c0 :: g0)).bind fun ds h => .ok (.lst (ds.map T.dat)) h := Eq.trans rfl rfl
@[simp] theorem xiP_ap (m : Vw → R (List D)) (c0 : Cl) (g0 : Ct) : xiP m (c0 :: g0) = RG.of (m (tvd (c0 :: g0))) (c0 :: g0) := Eq.trans rfl rfl
@[simp] theorem xiRng_ap (f : List D → Option (List D)) (m : XA) (c0 : Cl) (g0 : Ct) : xiRng f m (c0 :: g0) = (m (c0 :: g0)).bind fun ts g1 => match f (fzL ts) with
  | some ds => .ok ds g1
  | none => .bad := Eq.trans rfl rfl
@[simp] theorem xiItems_ap (m : XM) (c0 : Cl) (g0 : Ct) : xiItems m (c0 :: g0) = (m (c0 :: g0)).bind fun t g1 => match fz t with
  | .list ds => .ok ds g1
  | .tuple ds => .ok ds g1
  | _ => .bad := Eq.trans rfl rfl
@[simp] theorem rNil_ap (c0 : Cl) (g0 : Ct) : rNil (c0 :: g0) = .ok [] (c0 :: g0) := Eq.trans rfl rfl
@[simp] theorem rVal_ap (a : XM) (r : XR) (c0 : Cl) (g0 : Ct) : rVal a r (c0 :: g0) = (a (c0 :: g0)).bind fun t g1 => (r g1).bind fun as g2 => .ok (.v t :: as) g2 := Eq.trans rfl rfl
@[simp] theorem rBor_ap (i : Nat) (r : XR) (c0 : Cl) (g0 : Ct) : rBor i r (c0 :: g0) = match nt (c0 :: g0) i with
  | some _ => (r (c0 :: g0)).bind fun as g2 => .ok (.b i :: as) g2
  | none => .bad := Eq.trans rfl rfl
@[simp] theorem usOf_nil (g : Ct) : usOf g [] = some [] := Eq.trans rfl rfl
@[simp] theorem usOf_v (g : Ct) (t : T) (as : List Ar) : usOf g (.v t :: as) = (usOf g as).map fun r => (false, t) :: r := Eq.trans rfl rfl
@[simp] theorem usOf_b (g : Ct) (i : Nat) (as : List Ar) : usOf g (.b i :: as) = match nt g i with
    | some x => (usOf g as).map fun r => (true, x) :: r
    | none => none := Eq.trans rfl rfl
@[simp] theorem brs_nil : brs [] = [] := Eq.trans rfl rfl
@[simp] theorem brs_v (t : T) (as : List Ar) : brs (.v t :: as) = brs as := Eq.trans rfl rfl
@[simp] theorem brs_b (i : Nat) (as : List Ar) : brs (.b i :: as) = i :: brs as := Eq.trans rfl rfl
@[simp] theorem backG_v (t : T) (as : List Ar) (c : Cl) (bs g : Ct) : backG (.v t :: as) (c :: bs) g = backG as bs g := by conv => lhs; unfold backG
@[simp] theorem backG_b (i : Nat) (as : List Ar) (x : T) (bs g : Ct) : backG (.b i :: as) (.t x :: bs) g = backG as bs (setT (kil i g) i x) := by rw [backG]
@[simp] theorem backG_nil (bs g : Ct) : backG [] bs g = some g := by unfold backG; rfl
@[simp] theorem xFn_ap (f : Us → RF) (n : Nat) (dds : List D) (r : XR) (c0 : Cl) (g0 : Ct) : xFn f n dds r (c0 :: g0) = (r (c0 :: g0)).bind fun as g1 => match usOf g1 as with
  | some us => if (us ++ dds.map fun d => (false, T.dat d)).length = n ∧ (brs as).Nodup then (match f (us ++ dds.map fun d => (false, T.dat d)) with
    | .ok t bs => (match backG as bs g1 with
      | some g2 => .ok t g2
      | none => .bad)
    | .exc c p bs => (match backG as bs g1 with
      | some g2 => .exc c p g2
      | none => .bad)
    | .bad => .bad) else .bad
  | none => .bad := Eq.trans rfl rfl
@[simp] theorem nt_0t (x : T) (g : Ct) : nt (.t x :: g) 0 = some x := Eq.trans rfl rfl
@[simp] theorem nt_0b (x : T) (g : Ct) : nt (.b x :: g) 0 = some x := Eq.trans rfl rfl
@[simp] theorem nt_s (c : Cl) (g : Ct) (i : Nat) : nt (c :: g) (i + 1) = nt g i := by unfold nt; rw [List.getElem?_cons_succ]
@[simp] theorem setT_0t (x y : T) (g : Ct) : setT (.t x :: g) 0 y = .t y :: g := Eq.trans rfl rfl
@[simp] theorem setT_0b (x y : T) (g : Ct) : setT (.b x :: g) 0 y = .b y :: g := Eq.trans rfl rfl
@[simp] theorem setT_s (c : Cl) (g : Ct) (i : Nat) (y : T) : setT (c :: g) (i + 1) y = c :: setT g i y := by
  unfold setT
  rw [List.getElem?_cons_succ]
  cases g[i]? with
  | none => rfl
  | some c' => rfl
@[simp] theorem tNop_ap (c0 : Cl) (g0 : Ct) : tNop (c0 :: g0) = .nx (c0 :: g0) := Eq.trans rfl rfl
@[simp] theorem tSeq_ap (a b : ST) (c0 : Cl) (g0 : Ct) : tSeq a b (c0 :: g0) = match a (c0 :: g0) with
  | .nx g' => b g'
  | o => o := Eq.trans rfl rfl
@[simp] theorem tIf_ap (t : XT) (a b : ST) (c0 : Cl) (g0 : Ct) : tIf t a b (c0 :: g0) = (t (c0 :: g0)).to fun k g1 => if k = true then a g1 else b g1 := Eq.trans rfl rfl
@[simp] theorem tRet_ap (m : XM) (c0 : Cl) (g0 : Ct) : tRet m (c0 :: g0) = (m (c0 :: g0)).to fun t g1 => .rt t g1 := Eq.trans rfl rfl
@[simp] theorem tRetN_ap (c0 : Cl) (g0 : Ct) : tRetN (c0 :: g0) = .rt (.dat .none) (c0 :: g0) := Eq.trans rfl rfl
@[simp] theorem tBreak_ap (c0 : Cl) (g0 : Ct) : tBreak (c0 :: g0) = .bk (c0 :: g0) := Eq.trans rfl rfl
@[simp] theorem tCont_ap (c0 : Cl) (g0 : Ct) : tCont (c0 :: g0) = .ct (c0 :: g0) := Eq.trans rfl rfl
@[simp] theorem tExpr_ap (m : XM) (c0 : Cl) (g0 : Ct) : tExpr m (c0 :: g0) = (m (c0 :: g0)).to fun _ g1 => .nx g1 := Eq.trans rfl rfl
@[simp] theorem putC_ap (i : Nat) (t : T) (c0 : Cl) (g0 : Ct) : putC i t (c0 :: g0) = if free1 (c0 :: g0) i = true then .nx ((kil i (c0 :: g0)).set i (.t t)) else .bad := Eq.trans rfl rfl
@[simp] theorem tSet_ap (i : Nat) (m : XM) (c0 : Cl) (g0 : Ct) : tSet i m (c0 :: g0) = (m (c0 :: g0)).to fun t g1 => putC i t g1 := Eq.trans rfl rfl
@[simp] theorem tSetD_ap (i : Nat) (m : XM) (c0 : Cl) (g0 : Ct) : tSetD i m (c0 :: g0) = (m (c0 :: g0)).to fun t g1 => putC i (.dat (fz t)) g1 := Eq.trans rfl rfl
@[simp] theorem tRaise_ap (c : Str) (c0 : Cl) (g0 : Ct) : tRaise c (c0 :: g0) = .ex c none (c0 :: g0) := Eq.trans rfl rfl
@[simp] theorem tFrz_ap (i : Nat) (m : ST) (c0 : Cl) (g0 : Ct) : tFrz i m (c0 :: g0) = match (c0 :: g0)[i]? with
  | some (.t x) => m ((kil i (c0 :: g0)).set i (.t (.dat (fz x))))
  | _ => m (c0 :: g0) := Eq.trans rfl rfl
@[simp] theorem uN_ap (i : Nat) (d : D) (c0 : Cl) (g0 : Ct) : uN i d (c0 :: g0) = if free1 (c0 :: g0) i = true then some ((kil i (c0 :: g0)).set i (.t (.dat d))) else none := Eq.trans rfl rfl
@[simp] theorem usNil_ap (c0 : Cl) (g0 : Ct) : usNil [] (c0 :: g0) = some (c0 :: g0) := Eq.trans rfl rfl
@[simp] theorem usCons_ap (t : TgT) (u : TgsT) (d : D) (r : List D) (c0 : Cl) (g0 : Ct) : usCons t u (d :: r) (c0 :: g0) = (t d (c0 :: g0)).bind (u r) := Eq.trans rfl rfl
@[simp] theorem uT_t (u : TgsT) (ds : List D) (g : Ct) : uT u (.tuple ds) g = u ds g := Eq.trans rfl rfl
@[simp] theorem uT_l (u : TgsT) (ds : List D) (g : Ct) : uT u (.list ds) g = u ds g := Eq.trans rfl rfl
@[simp] theorem tAsg_ap (t : TgT) (m : XM) (c0 : Cl) (g0 : Ct) : tAsg t m (c0 :: g0) = (m (c0 :: g0)).to fun x g1 => match t (fz x) g1 with
  | some g' => .nx g'
  | none => .bad := Eq.trans rfl rfl
@[simp] theorem tPar_ap (i j : Nat) (m : XA) (c0 : Cl) (g0 : Ct) : tPar i j m (c0 :: g0) = (m (c0 :: g0)).to fun ts g1 => match ts with
  | [x, y] => (match uN i (fz x) g1 with
    | some g2 => (match uN j (fz y) g2 with
      | some g3 => .nx g3
      | none => .bad)
    | none => .bad)
  | _ => .bad := Eq.trans rfl rfl
@[simp] theorem locS_0t (x : T) (g : Ct) : locS (.t x :: g) 0 = some (0, []) := Eq.trans rfl rfl
theorem locT_b {g : Ct} {j : Nat} {ts : List T} (h : g[j]? = some (.b (.lst ts))) : locT g j [] = some ts := by
  unfold locT locS
  rw [h]
  dsimp only
  unfold nt
  rw [h]
  rfl
theorem putL_b {g : Ct} {j : Nat} {ts us : List T} (h : g[j]? = some (.b (.lst ts))) : putL g j [] us = g.set j (.b (.lst us)) := by
  unfold putL locS nt setT
  rw [h]
  dsimp only
  rw [h]
  rfl
theorem tPut_ap (j : Nat) (mi m : XM) (g : Ct) : tPut j mi m g = (m g).to fun t g1 => match locT g1 j [] with
  | some _ => (mi g1).to fun i g2 => (match fz i with
    | .int i => (match locT g2 j [] with
      | some ts => (match ixN ts.length i with
        | some k => .nx (putL (kilk j k g2) j [] (ts.set k (.dat (fz t))))
        | none => .bad)
      | none => .bad)
    | _ => .bad)
  | none => .bad := Eq.trans rfl rfl
theorem loopT_cons {t : TgT} {b : ST} {d : D} {ds : List D} {g g1 g2 : Ct} (ht : t d g = some g1) (hb : b g1 = .nx g2) : loopT t b (d :: ds) g = loopT t b ds g2 := by
  rw [loopT, ht]
  dsimp only
  rw [hb]
theorem runT_eq (n N : Nat) (m : ST) (us : Us) (h : us.length = n) : runT n N m us = match m (us.map cellOf ++ List.replicate (N - n) Cl.un) with
  | .nx g => (match bback us g with
    | some bs => .ok (.dat .none) bs
    | none => .bad)
  | .rt t g => (match bback us g with
    | some bs => .ok t bs
    | none => .bad)
  | .ex c p g => (match bback us g with
    | some bs => .exc c p bs
    | none => .bad)
  | _ => .bad := by
  unfold runT
  exact if_pos h
@[simp] theorem cellOf_t (x : T) : cellOf (false, x) = .t x := Eq.trans rfl rfl
@[simp] theorem cellOf_b (x : T) : cellOf (true, x) = .b x := Eq.trans rfl rfl
@[simp] theorem bback_nil (g : Ct) : bback [] g = some [] := by unfold bback; rfl
@[simp] theorem bback_f (x : T) (us : Us) (c : Cl) (g : Ct) : bback ((false, x) :: us) (c :: g) = (bback us g).map fun r => .un :: r := by cases c <;> rfl
@[simp] theorem bback_t (x y : T) (us : Us) (g : Ct) : bback ((true, x) :: us) (.b y :: g) = (bback us g).map fun r => .t y :: r := by rw [bback]
theorem runT_go (n N : Nat) (m : ST) (us : Us) (g : Ct) (h : us.length = n) (hg : us.map cellOf ++ List.replicate (N - n) Cl.un = g) : runT n N m us = match m g with
  | .nx g => (match bback us g with
    | some bs => .ok (.dat .none) bs
    | none => .bad)
  | .rt t g => (match bback us g with
    | some bs => .ok t bs
    | none => .bad)
  | .ex c p g => (match bback us g with
    | some bs => .exc c p bs
    | none => .bad)
  | _ => .bad := by
  rw [runT_eq n N m us h, hg]
def klk (j k : Nat) : Cl → Cl
  | .al a b => if a = j ∧ b = k then .un else .al a b
  | c => c
theorem kilk_cons (j k : Nat) (c : Cl) (g : Ct) : kilk j k (c :: g) = klk j k c :: kilk j k g := by
  cases c <;> rfl
@[simp] theorem klk_t (j k : Nat) (x : T) : klk j k (.t x) = .t x := Eq.trans rfl rfl
@[simp] theorem klk_b (j k : Nat) (x : T) : klk j k (.b x) = .b x := Eq.trans rfl rfl
@[simp] theorem klk_un (j k : Nat) : klk j k .un = .un := Eq.trans rfl rfl
@[simp] theorem klk_fr {c : Cl} (h : Fr c) (j k : Nat) : klk j k c = c := by
  rcases h with rfl | ⟨x, rfl⟩ <;> rfl
/-- a store into a lent list -/
theorem tPut_b {j k : Nat} {mi m : XM} {g g1 : Ct} {t : T} {i : Int} {ts : List T} (hm : m g = .ok t g1) (hl : g1[j]? = some (.b (.lst ts))) (hi : mi g1 = .ok (.dat (.int i)) g1) (hk : ixN ts.length i = some k) (hg : kilk j k g1 = g1) :
    tPut j mi m g = .nx (g1.set j (.b (.lst (ts.set k (.dat (fz t)))))) := by
  rw [tPut_ap, hm, RG.to_ok, locT_b hl]
  dsimp only
  rw [hi, RG.to_ok, fz_dat]
  dsimp only
  rw [locT_b hl]
  dsimp only
  rw [hk]
  dsimp only
  rw [hg, putL_b hl]
end MI
set_option Elab.async false
set_option linter.all false
set_option maxRecDepth 100000
set_option maxHeartbeats 4000000
namespace MI
open PySem PySem.Spec PyProof.Rows L2
def maxI : Int → List Int → Int
  | a, [] => a
  | a, b :: r => maxI (if a < b then b else a) r
def minI : Int → List Int → Int
  | a, [] => a
  | a, b :: r => minI (if b < a then b else a) r
theorem maxI_mem : ∀ (r : List Int) (a : Int), maxI a r = a ∨ maxI a r ∈ r
  | [], a => .inl rfl
  | b :: r, a => by
    unfold maxI
    rcases maxI_mem r (if a < b then b else a) with h | h
    · rw [h]
      split
      · exact .inr (List.mem_cons_self ..)
      · exact .inl rfl
    · exact .inr (List.mem_cons_of_mem _ h)
theorem maxI_ge : ∀ (r : List Int) (a : Int), a ≤ maxI a r ∧ ∀ y ∈ r, y ≤ maxI a r
  | [], a => ⟨Int.le_refl _, fun y h => by cases h⟩
  | b :: r, a => by
    unfold maxI
    obtain ⟨h1, h2⟩ := maxI_ge r (if a < b then b else a)
    by_cases c : a < b
    · rw [if_pos c] at h1 h2 ⊢
      exact ⟨by omega, fun y hy => by
        rcases List.mem_cons.mp hy with e | hy
        · omega
        · exact h2 y hy⟩
    · rw [if_neg c] at h1 h2 ⊢
      exact ⟨h1, fun y hy => by
        rcases List.mem_cons.mp hy with e | hy
        · omega
        · exact h2 y hy⟩
theorem maxI_only {a m : Int} {r : List Int} (h1 : m ∈ a :: r) (h2 : ∀ y, y ∈ a :: r → y ≤ m) : m = maxI a r := by
  obtain ⟨g1, g2⟩ := maxI_ge r a
  have l : m ≤ maxI a r := by
    rcases List.mem_cons.mp h1 with e | h
    · rw [e]; exact g1
    · exact g2 m h
  have g : maxI a r ≤ m := by
    rcases maxI_mem r a with e | h
    · rw [e]; exact h2 a (List.mem_cons_self ..)
    · exact h2 _ (List.mem_cons_of_mem _ h)
  omega
theorem minI_mem : ∀ (r : List Int) (a : Int), minI a r = a ∨ minI a r ∈ r
  | [], a => .inl rfl
  | b :: r, a => by
    unfold minI
    rcases minI_mem r (if b < a then b else a) with h | h
    · rw [h]
      split
      · exact .inr (List.mem_cons_self ..)
      · exact .inl rfl
    · exact .inr (List.mem_cons_of_mem _ h)
theorem minI_le : ∀ (r : List Int) (a : Int), minI a r ≤ a ∧ ∀ y ∈ r, minI a r ≤ y
  | [], a => ⟨Int.le_refl _, fun y h => by cases h⟩
  | b :: r, a => by
    unfold minI
    obtain ⟨h1, h2⟩ := minI_le r (if b < a then b else a)
    by_cases c : b < a
    · rw [if_pos c] at h1 h2 ⊢
      exact ⟨by omega, fun y hy => by
        rcases List.mem_cons.mp hy with e | hy
        · omega
        · exact h2 y hy⟩
    · rw [if_neg c] at h1 h2 ⊢
      exact ⟨h1, fun y hy => by
        rcases List.mem_cons.mp hy with e | hy
        · omega
        · exact h2 y hy⟩
theorem minI_only {a m : Int} {r : List Int} (h1 : m ∈ a :: r) (h2 : ∀ y, y ∈ a :: r → m ≤ y) : m = minI a r := by
  obtain ⟨g1, g2⟩ := minI_le r a
  have l : minI a r ≤ m := by
    rcases List.mem_cons.mp h1 with e | h
    · rw [e]; exact g1
    · exact g2 m h
  have g : m ≤ minI a r := by
    rcases minI_mem r a with e | h
    · rw [e]; exact h2 a (List.mem_cons_self ..)
    · exact h2 _ (List.mem_cons_of_mem _ h)
  omega
def fMaxL : List D → Option D
  | [.list ds] => match intsD ds with
    | some (n :: r) => some (.int (maxI n r))
    | _ => none
  | _ => none
def fMinL : List D → Option D
  | [.list ds] => match intsD ds with
    | some (n :: r) => some (.int (minI n r))
    | _ => none
  | _ => none
theorem c_maxL {X : Cx} (hc : X.calm = true) : CallR X (.builtin "max") (rDs X.K fMaxL) := callr_of fun xs H Q ⟨F, ds, d, s, h, e, q⟩ => by
  unfold fMaxL at e
  split at e
  · split at e
    · rename_i n r ei
      cases e
      obtain ⟨v, rfl, hv⟩ := dpa1 h
      cases hv with
      | lst a b =>
        have := dpa_ints b ei
        subst this
        refine ⟨_, cr_max hc, _, n :: r, rfl, s.seq a, by simp, fun m h1 h2 => ?_⟩
        rw [maxI_only h1 h2]
        exact q _ F H (Ext.refl s) (.int _)
    · cases e
  · cases e
theorem c_minL {X : Cx} (hc : X.calm = true) : CallR X (.builtin "min") (rDs X.K fMinL) := callr_of fun xs H Q ⟨F, ds, d, s, h, e, q⟩ => by
  unfold fMinL at e
  split at e
  · split at e
    · rename_i n r ei
      cases e
      obtain ⟨v, rfl, hv⟩ := dpa1 h
      cases hv with
      | lst a b =>
        have := dpa_ints b ei
        subst this
        refine ⟨_, cr_min hc, _, n :: r, rfl, s.seq a, by simp, fun m h1 h2 => ?_⟩
        rw [minI_only h1 h2]
        exact q _ F H (Ext.refl s) (.int _)
    · cases e
  · cases e
def fMaxDf : List D → List D → Option D
  | [.list ds], [.int z] => match intsD ds with
    | some [] => some (.int z)
    | some (n :: r) => some (.int (maxI n r))
    | none => none
  | _, _ => none
def rDsK (K : PySem.W.Frag) (f : List D → List D → Option D) : List V → List V → Hp → VK → Prop := fun xs zs H Q => ∃ F ds es d, Same F H ∧ DpAll K F xs ds ∧ DpAll K F zs es ∧ f ds es = some d ∧ ∀ v F' H', Ext F H F' H' → Dp K F' v d → Q v H'
theorem maxOf_I : ∀ (r : List Int) (a : Int), PySem.W.maxOf a r = maxI a r
  | [], a => rfl
  | b :: r, a => by
    show PySem.W.maxOf (if decide (a < b) = true then b else a) r = maxI (if a < b then b else a) r
    rw [maxOf_I r]
    congr 1
    by_cases c : a < b
    · rw [if_pos c, if_pos (decide_eq_true c)]
    · rw [if_neg c, if_neg (by rw [decide_eq_true_eq]; exact c)]
theorem holds_int {h : Heap} {v : Value} {m : Int} (x : PySem.W.Holds h v m) : ∃ t, v = .int m t := by
  obtain ⟨as, r⟩ := x
  cases r
  exact ⟨_, rfl⟩
theorem c_maxDf {X : Cx} (hu : X.A.units + 65 < cLine) (hc : X.calm = true) : CallRK X (.builtin "max") [Str.ofString "default"] (rDsK X.K fMaxDf) := by
  intro pins s σ H xs zs us ws Q I r rz ⟨F, ds, es, d, sF, h1, h2, e, q⟩
  unfold fMaxDf at e
  split at e
  · rename_i ds z
    cases ei : intsD ds with
    | none => rw [ei] at e; cases e
    | some ns =>
      rw [ei] at e
      obtain ⟨v, rfl, hv⟩ := dpa1 h1
      obtain ⟨w, rfl, hw⟩ := dpa1 h2
      cases dp_int hw
      cases hv with
      | lst a b =>
        have := dpa_ints b ei
        subst this
        obtain ⟨its, rv, hl, _⟩ := I.list (sF.seq a)
        obtain rfl := Vals.ref1 r
        obtain ⟨w1, rfl, e1⟩ := vals1 rz
        refine PySem.W.max_list_datum_default (xs := ns) (I.ok.hd hc) hl.isList (PySem.W.HoldAll.of_ints rv.ints) (by show X.A.units + 1 + 0 < cLine; omega) (fun en h' tk hk => ?_) fun y ys i v h' tk en hi ho hk => ?_
        · subst en
          cases e
          exact ⟨.int z, H, I.kept hk, e1, q _ F H (Ext.refl sF) (.int _)⟩
        · subst en
          cases e
          rw [maxOf_I] at ho
          obtain ⟨t, rfl⟩ := holds_int ho
          exact ⟨.int _, H, I.kept hk, ⟨_, rfl⟩, q _ F H (Ext.refl sF) (.int _)⟩
  · cases e
/-- a built-in function of one thing, with one keyword -/
def mDf (f : List D → List D → Option D) (a b : M) : M := fun δ => (a δ).bind fun x => (b δ).bind fun y => R.of (f [x] [y])
theorem me_df {X : Cx} {W : WX} {x k : Str} {f : List D → List D → Option D} {p pos kp : Pos} {e d : Expr} {ma mb : M} {i : String} (hc : CallRK X (.builtin i) [k] (rDsK X.K f)) (hm : X.mg x = none) (ha : ME X W e ma) (hb : ME X W d mb) (hg : Gl X x := by rfl) (hv : bootBuiltins x = some (.builtin i) := by decide +kernel) (hn : x ≠ "__name__" := by decide) (hdb : (x == ("__debug__" : Str)) = false := by decide)
    (h0 : starEach [e] X.env = (false, eval e X.env) :: starEach [] X.env := by rfl)
    (he : backTo pos (starEach [e] X.env) = (false, eval e X.env) :: backTo pos (starEach [] X.env) := by rfl) (hpl : (backTo pos (starEach [e] X.env)).any (·.1) = false := by rfl)
    (hall : (backToKw pos (keywordEach [⟨some k, d, kp⟩] X.env)).all (·.1.isSome) = true := by rfl) (hnone : (backToKw pos (keywordEach [⟨some k, d, kp⟩] X.env)).any (·.1.isNone) = false := by rfl) (hks : (backToKw pos (keywordEach [⟨some k, d, kp⟩] X.env)).filterMap (·.1) = [k] := by rfl) :
    ME X W (.Call (.Name x p) [e] [⟨some k, d, kp⟩] pos) (mDf f ma mb) := by
  refine PE.imp (pe_callBK hc hg hm hv (pa_cons ha pa_nil h0) (pk_cons hb pk_nil) hn hdb he hpl hall hnone hks) fun σ H Q ⟨F, δ, s, v, h⟩ => ?_
  refine tM_bind s v h fun x1 v1 F1 H1 _ E hx h1 => ?_
  refine tM_bind E.s (v.mono E.f) h1 fun x2 v2 F2 H2 _ E2 hx2 h2 => ?_
  obtain ⟨r, e, q⟩ := of_post h2
  exact ⟨F2, [x1], [x2], r, E2.s, .cons (dp_mono E2.f x1 hx) .nil, .cons hx2 .nil, e, q⟩
@[simp] theorem mDf_ap (f : List D → List D → Option D) (a b : M) (δ : Vw) : mDf f a b δ = (a δ).bind fun x => (b δ).bind fun y => R.of (f [x] [y]) := Eq.trans rfl rfl
def mChain (f f' : D → D → Option D) (a b c : M) : M := fun δ => (a δ).bind fun x => (b δ).bind fun y => match f x y with
  | some (.bool true) => (c δ).bind fun z => R.of (f' y z)
  | some (.bool false) => .ok (.bool false)
  | _ => .bad
@[simp] theorem mChain_ap (f f' : D → D → Option D) (a b c : M) (δ : Vw) : mChain f f' a b c δ = (a δ).bind fun x => (b δ).bind fun y => match f x y with
  | some (.bool true) => (c δ).bind fun z => R.of (f' y z)
  | some (.bool false) => .ok (.bool false)
  | _ => .bad := Eq.trans rfl rfl
end MI
set_option Elab.async false
set_option linter.all false
set_option maxRecDepth 100000
set_option maxHeartbeats 4000000
namespace MI
open PySem PySem.Spec PyProof.Rows L2
def fRev : D → Option D
  | .list ds => some (.list ds.reverse)
  | _ => none
def insI (x : Int) : List Int → List Int
  | [] => [x]
  | y :: r => if x ≤ y then x :: y :: r else y :: insI x r
def sortI : List Int → List Int
  | [] => []
  | x :: r => insI x (sortI r)
def isT2 (T U : String) (d : D) : Option Bool := match isT T d with
  | some true => some true
  | some false => isT U d
  | none => none
def mIsi2 (T U : String) (a : M) : M := fun δ => (a δ).bind fun d => R.of ((isT2 T U d).map .bool)
end MI
set_option Elab.async false
set_option linter.all false
set_option maxRecDepth 100000
set_option maxHeartbeats 4000000
namespace MI
open PySem PySem.Spec PyProof.Rows L2
def repD (n : Int) (ds : List D) : List D := (List.replicate n.toNat ds).flatten
def nRep (m : Vw → R (List D)) (b : M) : Vw → R (List D) := fun δ => (m δ).bind fun xs => if xs.length ≤ most then (b δ).bind fun y => (match y with
  | .int k => if -(2 ^ 63) ≤ k ∧ k < 2 ^ 63 ∧ xs.length * k.toNat ≤ most then .ok (repD k xs) else .bad
  | _ => .bad) else .bad
section
end
def zipD (ds es : List D) : List D := List.zipWith (fun a b => .tuple [a, b]) ds es
def fZip : List D → Option (List D)
  | [.list ds, .list es] => some (zipD ds es)
  | [.tuple ds, .tuple es] => some (zipD ds es)
  | _ => none
theorem zipD_get {ds es : List D} {i : Nat} {d : D} (h : (zipD ds es)[i]? = some d) : ∃ a b, ds[i]? = some a ∧ es[i]? = some b ∧ d = .tuple [a, b] := by
  unfold zipD at h
  rw [List.getElem?_zipWith] at h
  cases e1 : ds[i]? with
  | none => rw [e1] at h; simp at h
  | some a =>
    cases e2 : es[i]? with
    | none => rw [e1, e2] at h; simp at h
    | some b =>
      rw [e1, e2] at h
      cases h
      exact ⟨a, b, rfl, rfl, rfl⟩
theorem zipD_len {ds es : List D} : (zipD ds es).length = min ds.length es.length := by
  unfold zipD
  rw [List.length_zipWith]
section
variable {K : PySem.W.Frag} {F : Hp} {a b : Addr} {xs ys : List V} {ds es : List D}
theorem it_zip (hs : SqL K F a xs) (ht : SqL K F b ys) (ha : DpAll K F xs ds) (hb : DpAll K F ys es) : ItOk K F (Itz K a b) (zipD ds es) := by
  refine ⟨fun i H d s e => ?_, fun i H s l => ⟨xs, ys, s.seq hs, s.seq ht, by rw [zipD_len] at l; rw [dpa_len ha, dpa_len hb]; omega⟩⟩
  obtain ⟨d1, d2, e1, e2, rfl⟩ := zipD_get e
  obtain ⟨v1, h1, h2⟩ := dpa_get ha e1
  obtain ⟨v2, h3, h4⟩ := dpa_get hb e2
  refine ⟨⟨xs, ys, v1, v2, s.seq hs, s.seq ht, h1, h3⟩, ?_⟩
  rintro x H' F2 f2 s2 ⟨T, x1, x2, rfl, hT, rfl, y1, y2⟩
  have z1 := y1 xs (s.seq hs)
  have z2 := y2 ys (s.seq ht)
  rw [h1] at z1
  rw [h3] at z2
  cases z1
  cases z2
  have E := Ext.new (o := .tup [v1, v2]) s2 hT
  exact ⟨_, E, .tup (SqT.of upd_same) (.cons (dp_mono' (f2.trans E.f) h2) (.cons (dp_mono' (f2.trans E.f) h4) .nil))⟩
theorem it_zipT (hs : SqT K F a xs) (ht : SqT K F b ys) (ha : DpAll K F xs ds) (hb : DpAll K F ys es) : ItOk K F (RZ.ItzT K a b) (zipD ds es) := by
  refine ⟨fun i H d s e => ?_, fun i H s l => ⟨xs, ys, same_t s hs, same_t s ht, by rw [zipD_len] at l; rw [dpa_len ha, dpa_len hb]; omega⟩⟩
  obtain ⟨d1, d2, e1, e2, rfl⟩ := zipD_get e
  obtain ⟨v1, h1, h2⟩ := dpa_get ha e1
  obtain ⟨v2, h3, h4⟩ := dpa_get hb e2
  refine ⟨⟨xs, ys, v1, v2, same_t s hs, same_t s ht, h1, h3⟩, ?_⟩
  rintro x H' F2 f2 s2 ⟨T, x1, x2, rfl, hT, rfl, y1, y2⟩
  have z1 := y1 xs (same_t s hs)
  have z2 := y2 ys (same_t s ht)
  rw [h1] at z1
  rw [h3] at z2
  cases z1
  cases z2
  have E := Ext.new (o := .tup [v1, v2]) s2 hT
  exact ⟨_, E, .tup (SqT.of upd_same) (.cons (dp_mono' (f2.trans E.f) h2) (.cons (dp_mono' (f2.trans E.f) h4) .nil))⟩
end
section
variable {X : Cx} {W : WX} {p pos tpos : Pos} {elts : List Expr} {kk : Nat}
theorem mi_zip {e e2 : Expr} {m : Vw → R (List D)} (hm : X.mg "zip" = none) (ha : MA X W [e, e2] m) (hG : Gl X "zip" := by rfl) (hs : starEach [e, e2] X.env = (false, eval e X.env) :: starEach [e2] X.env := by rfl) (hpl : (backTo pos (starEach [e2] X.env)).any (·.1) = false := by rfl) :
    MIt X W (.Tuple elts kk tpos) (.Call (.Name "zip" p) [e, e2] [] pos) (mRng fZip m) := by
  refine PI.imp (RZ.pi_zipA hG hm ha hs hpl) fun σ H Q ⟨F, δ, s, v, h⟩ => tA_bindI s v h fun ds xs F' H' ys E hx e q => ?_
  unfold fZip at e
  split at e
  · cases e
    cases hx with
    | cons h1 h2 =>
      cases h2 with
      | cons h2 h3 =>
        cases h3
        cases h1 with
        | lst x1 x2 =>
          cases h2 with
          | lst y1 y2 => exact ⟨_, _, _, _, rfl, .inl ⟨E.s.seq x1, E.s.seq y1, q _ (it_zip x1 y1 x2 y2)⟩⟩
  · cases e
    cases hx with
    | cons h1 h2 =>
      cases h2 with
      | cons h2 h3 =>
        cases h3
        cases h1 with
        | tup x1 x2 =>
          cases h2 with
          | tup y1 y2 => exact ⟨_, _, _, _, rfl, .inr ⟨same_t E.s x1, same_t E.s y1, q _ (it_zipT x1 y1 x2 y2)⟩⟩
  · cases e
end
theorem bad_mss {X : Cx} {W : WX} {st : List Stmt} : MSs X W st (fun _ => .bad) := ⟨fun _ _ _ _ _ _ h => by
  obtain ⟨_, _, _, _, _, h⟩ := h
  exact h.elim⟩
end MI
set_option Elab.async false
set_option linter.all false
set_option maxRecDepth 100000
set_option maxHeartbeats 4000000
namespace MI
open PySem PySem.Spec PyProof.Rows L2
def locU (g : Ct) (j : Nat) (ks : List Nat) : Option T := match locS g j with
  | some (i, p) => (match nt g i with
    | some x => x.get (p ++ ks)
    | none => none)
  | none => none
section
variable {K : PySem.W.Frag} {V0 : Nat → Option V} {F0 H0 F H F' H' : Hp} {B : Addr → Prop} {σ ext : L2.St} {g tmp : Ct}
theorem sub_fun (s : Same F H) : ∀ {p : List Nat} {v a b : V}, Sub F H v p a → Sub F H v p b → a = b
  | _, _, _, _, .nil, .nil => rfl
  | _, _, _, _, .lst h1 h2 h3, .lst g1 g2 g3 => by
    rw [h1] at g1
    cases g1
    rw [h2] at g2
    cases g2
    exact sub_fun s h3 g3
  | _, _, _, _, .tup h1 h2 h3, .tup g1 g2 g3 => by
    rw [h1] at g1
    cases g1
    rw [h2] at g2
    cases g2
    exact sub_fun s h3 g3
  | _, _, _, _, .lst h1 h2 h3, .tup g1 g2 g3 => by
    have := s _ _ g1
    rw [h1] at this
    cases this
  | _, _, _, _, .tup h1 h2 h3, .lst g1 g2 g3 => by
    have := s _ _ h1
    rw [g1] at this
    cases this
theorem sub_ext (E : Ext F H F' H') : ∀ {p : List Nat} {v a : V}, Sub F H v p a → Sub F' H' v p a
  | _, _, _, .nil => .nil
  | _, _, _, .lst h1 h2 h3 => .lst (E.h _ _ h1) h2 (sub_ext E h3)
  | _, _, _, .tup h1 h2 h3 => .tup (E.f _ _ h1) h2 (sub_ext E h3)
theorem sub_lst {a : Addr} {vs : List V} {k : Nat} {u : V} (h1 : H a = some (.lst vs)) (h2 : vs[k]? = some u) : ∀ {p : List Nat} {v : V}, Sub F H v p (.ref a) → Sub F H v (p ++ [k]) u := by
  intro p v h
  generalize hr : V.ref a = r at h
  induction h with
  | nil => subst hr; exact .lst h1 h2 .nil
  | lst g1 g2 _ ih => exact .lst g1 g2 (ih hr)
  | tup g1 g2 _ ih => exact .tup g1 g2 (ih hr)
theorem sub_tup {a : Addr} {vs : List V} {k : Nat} {u : V} (h1 : F a = some (.tup vs)) (h2 : vs[k]? = some u) : ∀ {p : List Nat} {v : V}, Sub F H v p (.ref a) → Sub F H v (p ++ [k]) u := by
  intro p v h
  generalize hr : V.ref a = r at h
  induction h with
  | nil => subst hr; exact .tup h1 h2 .nil
  | lst g1 g2 _ ih => exact .lst g1 g2 (ih hr)
  | tup g1 g2 _ ih => exact .tup g1 g2 (ih hr)
theorem StT.subv (ok : StT K V0 F0 H0 B F H σ g) {j : Nat} {ks : List Nat} {u : T} (h : locU g j ks = some u) :
    ∃ (w v : V) (S1 : Addr → Prop), σ[j]? = some (some w) ∧ Sub F H w ks v ∧ TR K F H v u S1 := by
  unfold locU at h
  cases e : locS g j with
  | none => rw [e] at h; cases h
  | some ip =>
    obtain ⟨i, p⟩ := ip
    rw [e] at h
    dsimp only at h
    cases ex : nt g i with
    | none => rw [ex] at h; cases h
    | some x =>
      rw [ex] at h
      try dsimp only at h
      obtain ⟨S, s1, s2, s3, s4⟩ := ok.own
      obtain ⟨r, r1, r2⟩ := s1 i x (gt_nt ex)
      obtain ⟨v, S1, O, q1, q2, _⟩ := tr_focus (p ++ ks) r2 h
      unfold locS at e
      cases ej : g[j]? with
      | none => rw [ej] at e; cases e
      | some c =>
        rw [ej] at e
        cases c with
        | t y =>
          cases e
          exact ⟨r, v, S1, r1, q1, q2⟩
        | b y =>
          cases e
          exact ⟨r, v, S1, r1, q1, q2⟩
        | al i' k =>
          cases e
          obtain ⟨a0, us, v0, w1, w2, w3, w4, w5, _⟩ := ok.al j i k ej
          rw [w1] at r1
          cases r1
          obtain ⟨u0, s1', s2'⟩ := sub_app [k] ks q1
          have uv : u0 = v0 := by
            cases s1' with
            | lst z1 z2 z3 =>
              rw [w2] at z1
              cases z1
              rw [w4] at z2
              cases z2
              cases z3
              rfl
            | tup z1 z2 z3 =>
              rw [w3] at z1
              cases z1
          subst uv
          exact ⟨u0, v, S1, w5, s2', q2⟩
        | un => cases e
        | pin => cases e
        | tm y => cases e
end
abbrev Pth := Ct → Option (List Nat)
def pNm (j : Nat) : Pth := fun g => match locU g j [] with
  | some _ => some []
  | none => none
def kidsT : Option T → Option (List T)
  | some (.lst ts) => some ts
  | some (.tup ts) => some ts
  | _ => none
@[simp] theorem kidsT_l (ts : List T) : kidsT (some (.lst ts)) = some ts := Eq.trans rfl rfl
@[simp] theorem kidsT_t (ts : List T) : kidsT (some (.tup ts)) = some ts := Eq.trans rfl rfl
def pIx (j : Nat) (p : Pth) (mi : M) : Pth := fun g => match p g with
  | some ks => (match mi (tvd g) with
    | .ok (.int i) => (match kidsT (locU g j ks) with
      | some ts => (L2.ixN ts.length i).map fun k => ks ++ [k]
      | none => none)
    | _ => none)
  | none => none
def tRcv (X : Cx) (j : Nat) (p : Pth) : TE := fun σ H Q => ∃ V0 F0 H0 B F g ks, StT X.K V0 F0 H0 B F H σ g ∧ p g = some ks ∧ ∀ w v F' H', Ext F H F' H' → σ[j]? = some (some w) → Sub F' H' w ks v → Q v H'
theorem rcv_nm (j : Nat) {X : Cx} {x : Str} {pos : Pos} (hx : PE X (.Name x pos) (tVar j)) : PE X (.Name x pos) (tRcv X j (pNm j)) := PE.imp hx fun σ H Q ⟨V0, F0, H0, B, F, g, ks, ok, hp, h⟩ => by
  unfold pNm at hp
  cases e : locU g j [] with
  | none => rw [e] at hp; cases hp
  | some u =>
    rw [e] at hp
    cases hp
    obtain ⟨w, v, S1, h1, h2, h3⟩ := ok.subv e
    exact ⟨w, h1, h w w F H (Ext.refl ok.s) h1 .nil⟩
theorem atI_ixN {α : Type} {xs : List α} {i : Int} {k : Nat} {v : α} (h : L2.ixN xs.length i = some k) (e : xs[k]? = some v) : L2.atI xs i = some v := by
  unfold L2.atI
  rw [h]
  exact e
theorem rcv_ix (j : Nat) {X : Cx} {W : WX} {a b : Expr} {pos : Pos} {p : Pth} {mi : M} (ha : PE X a (tRcv X j p)) (hb : ME X W b mi) (hs : PlainIx b := by exact fun _ _ => rfl) : PE X (.Subscript a b pos) (tRcv X j (pIx j p mi)) := by
  refine PE.imp (pe_ix ix_seq ha hb hs) fun σ H Q ⟨V0, F0, H0, B, F, g, ks, ok, hp, h⟩ => ?_
  unfold pIx at hp
  cases e1 : p g with
  | none => rw [e1] at hp; cases hp
  | some k0 =>
    rw [e1] at hp
    dsimp only at hp
    split at hp
    · rename_i i em
      split at hp
      · rename_i ts eu
        cases ek : L2.ixN ts.length i with
        | none => rw [ek] at hp; cases hp
        | some k =>
          rw [ek] at hp
          cases hp
          refine ⟨V0, F0, H0, B, F, g, k0, ok, e1, fun w v F1 H1 E1 hσ hsub => ?_⟩
          have ok1 := ok.mono E1
          refine ⟨F1, tvd g, E1.s, ok1.at0.vd, ?_⟩
          rw [em]
          intro y F2 H2 E2 hy
          cases dp_int hy
          have ok2 := ok1.mono E2
          have fin : ∀ u, locU g j k0 = some u → (u = .lst ts ∨ u = .tup ts) → rIx X.K v (.int i) H2 Q := fun u hu hk => by
            obtain ⟨w', v', S1, q1, q2, q3⟩ := ok2.subv hu
            rw [hσ] at q1
            cases q1
            have := sub_fun ok2.s (sub_ext E2 hsub) q2
            subst this
            rcases hk with rfl | rfl
            · cases q3 with
              | lst z1 z2 z3 z4 =>
                have lv := trs_len z3
                have kl : k < ts.length := by
                  unfold L2.ixN at ek
                  split at ek <;> split at ek <;> first | (cases ek; omega) | cases ek
                have ev := List.getElem?_eq_getElem (l := _) (show k < _ by rw [lv]; exact kl)
                exact .inl ⟨_, _, _, _, rfl, rfl, SqL.of z1, atI_ixN (by rw [lv]; exact ek) ev, h w _ F2 H2 (E1.trans E2) hσ (sub_lst z1 ev q2)⟩
            · cases q3 with
              | tup z1 z3 =>
                have lv := trs_len z3
                have kl : k < ts.length := by
                  unfold L2.ixN at ek
                  split at ek <;> split at ek <;> first | (cases ek; omega) | cases ek
                have ev := List.getElem?_eq_getElem (l := _) (show k < _ by rw [lv]; exact kl)
                exact .inr (.inl ⟨_, _, _, _, rfl, rfl, SqT.of (ok2.s _ _ z1), atI_ixN (by rw [lv]; exact ek) ev, h w _ F2 H2 (E1.trans E2) hσ (sub_tup z1 ev q2)⟩)
          cases hu : locU g j k0 with
          | none => rw [hu] at eu; cases eu
          | some u =>
            rw [hu] at eu
            refine fin u hu ?_
            cases u with
            | dat d => cases eu
            | lst us => cases eu; exact .inl rfl
            | tup us => cases eu; exact .inr rfl
            | dic _ _ _ => cases eu
      · cases hp
    · cases hp
def MutL (K : PySem.W.Frag) (r : V → List V → Hp → VK → Prop) (f : List D → List T → Option (List T)) : Prop := ∀ {F H : Hp} {l : Addr} {vs xs : List V} {ds : List D} {ts ts' : List T} {S : Addr → Prop},
  H l = some (.lst vs) → TRs K F H vs ts S → DpAll K F xs ds → f ds ts = some ts' → ∃ (vs' : List V) (S' : Addr → Prop), TRs K F H vs' ts' S' ∧ (∀ a, S' a → S a) ∧ ∀ Q : VK, Q .non (upd H l (.lst vs')) → r (.ref l) xs H Q
def uApp (ds : List D) (ts : List T) : Option (List T) := match ds with
  | [d] => if ts.length < most then some (ts ++ [.dat d]) else none
  | _ => none
theorem u_app {K : PySem.W.Frag} : MutL K rAppend uApp := fun {F H l vs xs ds ts ts' S} hl ht hd e => by
  unfold uApp at e
  split at e
  · split at e
    · rename_i d lt
      cases e
      cases hd with
      | @cons v _ _ _ h1 h2 =>
        cases h2
        obtain ⟨S', z1, z2⟩ := trs_appD ht h1
        exact ⟨_, S', z1, z2, fun Q q => ⟨l, vs, _, rfl, rfl, hl, by rw [trs_len ht]; exact Nat.lt_of_lt_of_le lt (Nat.le_of_eq most_eq), q⟩⟩
    · cases e
  · cases e
def tMut (j : Nat) (p : Pth) (f : List D → List T → Option (List T)) (ma : Vw → R (List D)) : ST := fun g => match p g with
  | some (k :: ks) => (match locT g j (k :: ks) with
    | some us => (match ma (tvd g) with
      | .ok ds => (match f ds us with
        | some us' => .nx (putL g j (k :: ks) us')
        | none => .bad)
      | _ => .bad)
    | none => .bad)
  | _ => .bad
section
variable {X : Cx} {W : WX}
theorem mut_read {D : Ends} {σ : L2.St} {H : Hp} {j : Nat} {p : Pth} {f : List MI.D → List T → Option (List T)} {ma : Vw → R (List MI.D)} {r : V → List V → Hp → VK → Prop} (hr : MutL X.K r f) (h : tSt X.K X.mg W (tMut j p f ma) D σ H) : tRcv X j p σ H fun x H1 => tyV X.K "list" x H1 ∧ tA X W ma σ H1 fun xs H2 => r x xs H2 fun _ H3 => D.nx σ H3 := by
  obtain ⟨V0, F0, H0, B, F, g, ok, h⟩ := h
  unfold tMut at h
  split at h
  · rename_i k ks ep
    cases el : locT g j (k :: ks) with
    | none => rw [el] at h; exact h.elim
    | some us =>
      rw [el] at h
      try dsimp only at h
      refine ⟨V0, F0, H0, B, F, g, k :: ks, ok, ep, fun w v F1 H1 E1 hσ hsub => ?_⟩
      have ok1 := ok.mono E1
      obtain ⟨w1, a1, vs1, Sc1, n1, n2, n3, _, _⟩ := ok1.named el
      rw [hσ] at n1
      cases n1
      have := sub_fun ok1.s hsub n2
      subst this
      refine ⟨.inl ⟨rfl, vs1, SqL.of n3⟩, F1, tvd g, E1.s, ok1.at0.vd, ?_⟩
      cases em : ma (tvd g) with
      | exc c q => rw [em] at h; exact h.elim
      | bad => rw [em] at h; exact h.elim
      | ok ds =>
        rw [em] at h
        try dsimp only at h
        intro xs F2 H2 E2 hd
        have ok2 := ok1.mono E2
        obtain ⟨w2, a2, vs2, Sc2, m1, m2, m3, m4, m5⟩ := ok2.named el
        rw [hσ] at m1
        cases m1
        have := sub_fun ok2.s (sub_ext E2 hsub) m2
        cases this
        cases ef : f ds us with
        | none => rw [ef] at h; exact h.elim
        | some us' =>
          rw [ef] at h
          obtain ⟨vs', S', z1, z2, z3⟩ := hr m3 m4 hd ef
          exact z3 _ (h F2 _ σ (m5 vs' us' S' z1 z2 fun z => by cases z))
  · exact h.elim
theorem mts_mut (j : Nat) {o e : Expr} {es : List Expr} {p : Pth} {f : List D → List T → Option (List T)} {ma : Vw → R (List D)} {name : Str} {id : String} {r : V → List V → Hp → VK → Prop} {apos cpos pos : Pos} (slot : Slot "list" name id) (hty : typeOf (.builtin id) = pure (.type "method_descriptor")) (hm : MtR X id r) (hr : MutL X.K r f) (ho : PE X o (tRcv X j p)) (ha : MA X W (e :: es) ma)
    (hbase : attributeBase o name X.env (eval o X.env) = eval o X.env := by rfl)
    (hfew : ((backTo cpos (starEach (e :: es) X.env)).all (fun x => !x.1) && (backToKw cpos (keywordEach [] X.env)).all (fun x => x.1.isSome)
      && decide ((e :: es).length + ([] : List Keyword).length + (if ([] : List Keyword).isEmpty then 0 else 1) < 30)) = true := by rfl)
    (hline : (apos.endLine == cpos.line) = true := by rfl) (hs : starEach (e :: es) X.env = (false, eval e X.env) :: starEach es X.env := by rfl) (hplain : (backTo cpos (starEach es X.env)).any (·.1) = false := by rfl)
    (hw : swapsWith (.Call (.Attribute o name apos) (e :: es) [] cpos) none pos.line X.env = pure false := by rfl) :
    MTS X W (.Expr (.Call (.Attribute o name apos) (e :: es) [] cpos) pos) (tMut j p f ma) :=
  PS.imp (ps_expr (pe_bm PySem.F.plainAttrs_list slot hty hm ho ha hbase hfew hline hs hplain) hw) fun D σ H h => mut_read hr h
end
def datsT : List T → Option (List D)
  | [] => some []
  | .dat d :: ts => (datsT ts).map fun r => d :: r
  | _ => none
theorem datsT_eq : ∀ {ts : List T} {ds : List D}, datsT ts = some ds → ts = ds.map T.dat
  | [], _, h => by cases h; rfl
  | .dat d :: ts, ds, h => by
    unfold datsT at h
    cases e : datsT ts with
    | none => rw [e] at h; cases h
    | some r =>
      rw [e] at h
      cases h
      rw [datsT_eq e]
      rfl
  | .lst _ :: _, _, h => by cases h
  | .tup _ :: _, _, h => by cases h
@[simp] theorem datsT_map : ∀ ds : List D, datsT (ds.map T.dat) = some ds
  | [] => rfl
  | d :: ds => by
    show (datsT (ds.map T.dat)).map _ = _
    rw [datsT_map ds]
    rfl
def OutT.mapG (f : Ct → Ct) : OutT → OutT
  | .nx g => .nx (f g)
  | .rt t g => .rt t (f g)
  | .bk g => .bk (f g)
  | .ct g => .ct (f g)
  | .ex c p g => .ex c p (f g)
  | .bad => .bad
def unp (j : Nat) (g : Ct) : Ct := match g[j]? with
  | some (.b x) => g.set j (.t x)
  | some .pin => g.set j .un
  | _ => g
section
open Classical
noncomputable def loopTN (j : Nat) (ds0 : List D) (t : TgT) (b : ST) : List D → ST
  | [], g => if g[j]? = some (.b (.lst (ds0.map T.dat))) then .nx g else .bad
  | d :: ds, g => if g[j]? = some (.b (.lst (ds0.map T.dat))) then (match t d g with
    | none => .bad
    | some g1 => match b g1 with
      | .nx g2 => loopTN j ds0 t b ds g2
      | .ct g2 => loopTN j ds0 t b ds g2
      | .bk g2 => .nx g2
      | o => o) else .bad
end
noncomputable def tForN (j : Nat) (t : TgT) (b : ST) : ST := fun g => match g[j]? with
  | some (.t (.lst ts)) => (match datsT ts with
    | some ds => (loopTN j ds t b ds (g.set j (.b (.lst ts)))).mapG (unp j)
    | none => .bad)
  | some (.b (.lst ts)) => (match datsT ts with
    | some ds => loopTN j ds t b ds g
    | none => .bad)
  | some (.t (.dat (.list ds))) => loopT t b ds g
  | some (.t (.dat (.tuple ds))) => loopT t b ds g
  | some (.b (.dat (.list ds))) => loopT t b ds g
  | some (.b (.dat (.tuple ds))) => loopT t b ds g
  | _ => .bad
section
variable {K : PySem.W.Frag} {mg : Str → Option Value} {W : WX} {V0 : Nat → Option V} {F0 H0 F H : Hp} {B : Addr → Prop} {σ : L2.St} {g : Ct} {D : Ends} {j : Nat}
def pinV (V0 : Nat → Option V) (j : Nat) (v : V) : Nat → Option V := fun i => if i = j then some v else V0 i
theorem gt_pin {x : T} (h : g[j]? = some (.t x)) (i : Nat) : gt (g.set j (.b x)) i = gt g i := by
  unfold gt
  by_cases e : i = j
  · subst e
    rw [List.getElem?_set_self (List.getElem?_eq_some_iff.mp h).1, h]
    rfl
  · rw [List.getElem?_set_ne (Ne.symm e)]
theorem nt_pin {x : T} (h : g[j]? = some (.t x)) (i : Nat) : nt (g.set j (.b x)) i = nt g i := by
  unfold nt
  by_cases e : i = j
  · subst e
    rw [List.getElem?_set_self (List.getElem?_eq_some_iff.mp h).1, h]
    rfl
  · rw [List.getElem?_set_ne (Ne.symm e)]
theorem StT.pin (ok : StT K V0 F0 H0 B F H σ g) {x : T} (h : g[j]? = some (.t x)) : ∃ v, σ[j]? = some (some v) ∧ StT K (pinV V0 j v) F0 H0 B F H σ (g.set j (.b x)) := by
  obtain ⟨S, s1, s2, s3, s4⟩ := ok.own
  obtain ⟨v, hv, _⟩ := s1 j x (gt_of (.inl h))
  refine ⟨v, hv, ok.f, ok.h, ok.s, ok.n, by simp [ok.len], ⟨S, fun i y hy => s1 i y (by rw [← gt_pin h]; exact hy), s2, s3, fun i e => s4 i (by rw [← gt_pin h]; exact e)⟩, fun i y e hb => ?_, fun m i k e => ?_⟩
  · unfold pinV
    by_cases z : i = j
    · subst z
      exact ⟨v, by rw [if_pos rfl], hv⟩
    · rw [if_neg z]
      rw [List.getElem?_set_ne (Ne.symm z)] at e
      exact ok.bd i y e hb
  · have z : j ≠ m := fun z => by
      subst z
      rw [List.getElem?_set_self (List.getElem?_eq_some_iff.mp h).1] at e
      cases e
    rw [List.getElem?_set_ne z] at e
    have := ok.al m i k e
    rw [nt_pin h]
    exact this
theorem StT.unpin {v : V} (ok : StT K (pinV V0 j v) F0 H0 B F H σ g) : StT K V0 F0 H0 B F H σ (unp j g) := by
  unfold unp
  split
  · rename_i x h
    have lj := (List.getElem?_eq_some_iff.mp h).1
    have g1 : ∀ i, gt (g.set j (.t x)) i = gt g i := fun i => by
      unfold gt
      by_cases e : i = j
      · subst e
        rw [List.getElem?_set_self lj, h]
        rfl
      · rw [List.getElem?_set_ne (Ne.symm e)]
    have n1 : ∀ i, nt (g.set j (.t x)) i = nt g i := fun i => by
      unfold nt
      by_cases e : i = j
      · subst e
        rw [List.getElem?_set_self lj, h]
        rfl
      · rw [List.getElem?_set_ne (Ne.symm e)]
    obtain ⟨S, s1, s2, s3, s4⟩ := ok.own
    refine ⟨ok.f, ok.h, ok.s, ok.n, by simp [ok.len], ⟨S, fun i y hy => s1 i y (by rw [← g1]; exact hy), s2, s3, fun i e => s4 i (by rw [← g1]; exact e)⟩, fun i y e hb => ?_, fun m i k e => ?_⟩
    · have z : i ≠ j := fun z => by
        subst z
        rw [List.getElem?_set_self lj] at e
        cases e
        cases hb
      rw [List.getElem?_set_ne (Ne.symm z)] at e
      have := ok.bd i y e hb
      unfold pinV at this
      rw [if_neg z] at this
      exact this
    · have z : j ≠ m := fun z => by
        subst z
        rw [List.getElem?_set_self lj] at e
        cases e
      rw [List.getElem?_set_ne z] at e
      have := ok.al m i k e
      rw [n1]
      exact this
  · rename_i h
    have lj := (List.getElem?_eq_some_iff.mp h).1
    have g1 : ∀ i, gt (g.set j .un) i = gt g i := fun i => by
      unfold gt
      by_cases e : i = j
      · subst e
        rw [List.getElem?_set_self lj, h]
        rfl
      · rw [List.getElem?_set_ne (Ne.symm e)]
    have n1 : ∀ i, nt (g.set j .un) i = nt g i := fun i => by
      unfold nt
      by_cases e : i = j
      · subst e
        rw [List.getElem?_set_self lj, h]
        rfl
      · rw [List.getElem?_set_ne (Ne.symm e)]
    obtain ⟨S, s1, s2, s3, s4⟩ := ok.own
    refine ⟨ok.f, ok.h, ok.s, ok.n, by simp [ok.len], ⟨S, fun i y hy => s1 i y (by rw [← g1]; exact hy), s2, s3, fun i e => s4 i (by rw [← g1]; exact e)⟩, fun i y e hb => ?_, fun m i k e => ?_⟩
    · have z : i ≠ j := fun z => by
        subst z
        rw [List.getElem?_set_self lj] at e
        cases e
        cases hb
      rw [List.getElem?_set_ne (Ne.symm z)] at e
      have := ok.bd i y e hb
      unfold pinV at this
      rw [if_neg z] at this
      exact this
    · have z : j ≠ m := fun z => by
        subst z
        rw [List.getElem?_set_self lj] at e
        cases e
      rw [List.getElem?_set_ne z] at e
      have := ok.al m i k e
      rw [n1]
      exact this
  · rename_i nb np
    refine ⟨ok.f, ok.h, ok.s, ok.n, ok.len, ok.own, fun i y e hb => ?_, ok.al⟩
    have z : i ≠ j := fun z => by
      subst z
      cases y with
      | b x => exact nb x e
      | pin => exact np e
      | _ => cases hb
    have := ok.bd i y e hb
    unfold pinV at this
    rw [if_neg z] at this
    exact this
theorem unp_app {t : T} : unp j (g ++ [.tm t]) = unp j g ++ [.tm t] := by
  unfold unp
  rcases Nat.lt_or_ge j g.length with l | l
  · rw [List.getElem?_append_left l]
    cases g[j]? with
    | none => rfl
    | some c => cases c <;> first | rfl | (dsimp only; rw [List.set_append_left _ _ l])
  · rw [List.getElem?_append_right l, List.getElem?_eq_none l]
    rcases Nat.eq_zero_or_pos (j - g.length) with e | e
    · rw [e]
      rfl
    · rw [List.getElem?_eq_none (by simp; omega)]
theorem unp_len : (unp j g).length = g.length := by
  unfold unp
  split <;> simp
theorem SPT.pin {v : V} {o : OutT} (h : SPT K mg W V0 F0 H0 B D (o.mapG (unp j))) : SPT K mg W (pinV V0 j v) F0 H0 B D o := by
  cases o with
  | nx g => exact fun F' H' σ ok => h F' H' σ ok.unpin
  | rt t g => exact fun u F' H' σ ok l => h u F' H' σ (by rw [← unp_app]; exact ok.unpin) (by rw [unp_len]; exact l)
  | bk g => exact fun F' H' σ ok => h F' H' σ ok.unpin
  | ct g => exact fun F' H' σ ok => h F' H' σ ok.unpin
  | ex c p g => exact fun cls od F' H' σ ok x => h cls od F' H' σ ok.unpin x
  | bad => exact h
end
theorem PS.or {X : Cx} {st : Stmt} {t u : TS} (ht : PS X st t) (hu : PS X st u) : PS X st fun D σ H => t D σ H ∨ u D σ H := ⟨fun pins s σ H D I h => by
  rcases h with h | h
  · exact ht.run pins s σ H D I h
  · exact hu.run pins s σ H D I h⟩
theorem forN_read {X : Cx} {W : WX} {V0 : Nat → Option V} {F0 H0 F H : Hp} {B : Addr → Prop} {σ : L2.St} {g : Ct} {D : Ends} {j : Nat} {r : TG} {t : TgT} {b : ST} {ds : List MI.D} (ht : UOk X.K r t) (ok : StT X.K V0 F0 H0 B F H σ g) (hj : g[j]? = some (.b (.lst (ds.map T.dat)))) (h : SPT X.K X.mg W V0 F0 H0 B D (loopTN j ds t b ds g)) :
    L2.tFor (iLT X.K (tVar j)) r (tSt X.K X.mg W b) D σ H := by
  obtain ⟨v, hV, hσ⟩ := ok.bor j _ hj
  have key : ∀ {F2 H2 : Hp} {σ2 : L2.St} {g2 : Ct}, StT X.K V0 F0 H0 B F2 H2 σ2 g2 → g2[j]? = some (.b (.lst (ds.map T.dat))) → ∃ (a : Addr) (vs : List V), v = .ref a ∧ H2 a = some (.lst vs) ∧ vs.length = ds.length ∧ ∀ (i : Nat) (d : MI.D), ds[i]? = some d → ∃ u, vs[i]? = some u ∧ Dp X.K F2 u d := fun {F2 H2 σ2 g2} ok2 hj2 => by
    obtain ⟨v2, w1, w2⟩ := ok2.bor j _ hj2
    rw [hV] at w1
    cases w1
    obtain ⟨S, s1, _, _, _⟩ := ok2.own
    obtain ⟨v3, q1, q2⟩ := s1 j _ (gt_of (.inr hj2))
    rw [w2] at q1
    cases q1
    generalize S j = Sj at q2
    cases q2 with
    | lst z1 z2 z3 z4 => exact ⟨_, _, rfl, z1, by rw [trs_len z3, List.length_map], fun i d e => trs_dAt z3 (by rw [List.getElem?_map, e]; rfl)⟩
  obtain ⟨a, vs, rfl, h1, h2, h3⟩ := key ok hj
  refine .inl ⟨.ref a, hσ, a, rfl, ⟨vs, SqL.of h1⟩, fun i m σ H => m = ds.length - i ∧ i ≤ ds.length ∧ ∃ F2 g2, StT X.K V0 F0 H0 B F2 H σ g2 ∧ SPT X.K X.mg W V0 F0 H0 B D (loopTN j ds t b (ds.drop i) g2), ⟨ds.length, by simp, Nat.zero_le _, F, g, ok, by simpa using h⟩, ?_⟩
  rintro i m σ H ⟨rfl, hi, F2, g2, ok2, h2⟩
  have hc : g2[j]? = some (.b (.lst (ds.map T.dat))) := by
    by_cases c : g2[j]? = some (.b (.lst (ds.map T.dat)))
    · exact c
    · exfalso
      cases e : ds.drop i with
      | nil => rw [e, loopTN, if_neg c] at h2; exact h2
      | cons d r => rw [e, loopTN, if_neg c] at h2; exact h2
  obtain ⟨a', vs2, ea, k1, k2, k3⟩ := key ok2 hc
  cases ea
  by_cases hlt : i < ds.length
  · have ed : ds[i]? = some ds[i] := List.getElem?_eq_getElem hlt
    obtain ⟨u, u1, u2⟩ := k3 i _ ed
    refine .inr ⟨⟨vs2, u, SqL.of k1, u1⟩, fun σ' H' => ∃ F2 g2, StT X.K V0 F0 H0 B F2 H' σ' g2 ∧ SPT X.K X.mg W V0 F0 H0 B D (loopTN j ds t b (ds.drop (i + 1)) g2), fun σ' H' q => ⟨ds.length - (i + 1), by omega, rfl, hlt, q⟩, fun x H' hy => ?_⟩
    obtain ⟨rfl, hx⟩ := hy
    have := hx vs2 (SqL.of k1)
    rw [u1] at this
    cases this
    rw [drop_get ed, loopTN, if_pos hc] at h2
    cases q : t ds[i] g2 with
    | none => rw [q] at h2; exact h2.elim
    | some g3 =>
      rw [q] at h2
      refine ht V0 F0 H0 B F2 _ σ g2 g3 u _ _ ok2 u2 q fun σ' ok' => ⟨V0, F0, H0, B, F2, g3, ok', ?_⟩
      dsimp only at h2
      cases e : b g3 with
      | nx g4 => rw [e] at h2; exact fun F' H' σ2 ok2 => ⟨F', g4, ok2, h2⟩
      | ct g4 => rw [e] at h2; exact fun F' H' σ2 ok2 => ⟨F', g4, ok2, h2⟩
      | bk g4 => rw [e] at h2; exact fun F' H' σ2 ok2 => h2 F' H' σ2 ok2
      | rt v g4 => rw [e] at h2; exact h2
      | ex c p g4 => rw [e] at h2; exact h2
      | bad => rw [e] at h2; exact h2
  · have e : i = ds.length := by omega
    subst e
    rw [List.drop_length, loopTN, if_pos hc] at h2
    exact .inl ⟨⟨vs2, SqL.of k1, by omega⟩, h2 F2 H σ ok2⟩
theorem mts_forN (j : Nat) {X : Cx} {W : WX} {pos px : Pos} {tg : Expr} {x : Str} {body : List Stmt} {r : TG} {t : TgT} {b : ST} (hp : PassesOwn (model X.prog X.w) X.A X.env X.xe) (hx : PE X (.Name x px) (tVar j)) (hm : ME X W (.Name x px) (mVar j)) (hg : PG X tg r) (ht : UOk X.K r t) (hb : MTSs X W body b) (hc : X.calm = true := by rfl)
    (hs : ∀ y, foldedSetIterable (.Name x px) X.env y = pure y := by intro _; rfl) : MTS X W (.For tg (.Name x px) body [] pos) (tForN j t b) := by
  refine PS.imp (PS.or (ps_for hp hc (pi_lt hx) hg hb hs) (mts_for hp (mxi_p (mi_items hm)) hg ht hb hc hs)) fun D σ H ⟨V0, F0, H0, B, F, g, ok, h⟩ => ?_
  unfold tForN at h
  have dl : ∀ ds, (mItems (mVar j) (tvd g)) = .ok ds → SPT X.K X.mg W V0 F0 H0 B D (loopT t b ds g) → tSt X.K X.mg W (tFor (xiP (mItems (mVar j))) t b) D σ H := fun ds e h => by
    refine ⟨V0, F0, H0, B, F, g, ok, ?_⟩
    unfold tFor xiP
    rw [e]
    exact h
  have vd : ∀ c, g[j]? = some c → (tvd g)[j]? = some (Cl.vd g c) := fun c e => by
    unfold tvd
    rw [List.getElem?_map, e]
    rfl
  have iv : ∀ d, (tvd g)[j]? = some (some d) → mVar j (tvd g) = .ok d := fun d e => by
    unfold mVar
    rw [e]
  split at h
  · rename_i ts e
    cases ed : datsT ts with
    | none => rw [ed] at h; exact h.elim
    | some ds =>
      rw [ed] at h
      have := datsT_eq ed
      subst this
      obtain ⟨v, hv, ok'⟩ := ok.pin e
      exact .inl (forN_read ht ok' (List.getElem?_set_self (List.getElem?_eq_some_iff.mp e).1) (SPT.pin h))
  · rename_i ts e
    cases ed : datsT ts with
    | none => rw [ed] at h; exact h.elim
    | some ds =>
      rw [ed] at h
      have := datsT_eq ed
      subst this
      exact .inl (forN_read ht ok e h)
  · rename_i ds e
    exact .inr (dl ds (by unfold mItems; rw [iv _ (vd _ e)]; rfl) h)
  · rename_i ds e
    exact .inr (dl ds (by unfold mItems; rw [iv _ (vd _ e)]; rfl) h)
  · rename_i ds e
    exact .inr (dl ds (by unfold mItems; rw [iv _ (vd _ e)]; rfl) h)
  · rename_i ds e
    exact .inr (dl ds (by unfold mItems; rw [iv _ (vd _ e)]; rfl) h)
  · exact h.elim
def nCat (a b : M) : Vw → R (List D) := fun δ => (a δ).bind fun x => (b δ).bind fun y => match x, y with
  | .list xs, .list ys => if xs.length + ys.length ≤ most then .ok (xs ++ ys) else .bad
  | _, _ => .bad
def nSl (m : M) (lo hi : Vw → R (Option Int)) : Vw → R (List D) := fun δ => (m δ).bind fun d => (lo δ).bind fun l => (hi δ).bind fun h => match d with
  | .list ds => .ok (cutD ds l h)
  | _ => .bad
section
end
/-- what was made is data from now on -/
def xFz (m : XM) : XM := fun g => (m g).bind fun t g1 => .ok (.dat (fz t)) g1
end MI
set_option Elab.async false
set_option linter.all false
set_option maxRecDepth 100000
set_option maxHeartbeats 4000000
namespace MI
open PySem PySem.Spec PyProof.Rows L2
theorem At.vaS {K : PySem.W.Frag} {V0 : Nat → Option V} {F0 H0 F H : Hp} {B : Addr → Prop} {ext : L2.St} {tmp : Ct} {σ : L2.St} {g : Ct} (a : At K V0 F0 H0 B ext tmp F H σ g) : ∃ F1, Same F1 H ∧ Same F F1 ∧ VwOk K F1 σ (tva g) ∧
    ∀ F' H', Ext F1 H F' H' → ∃ F2, At K V0 F0 H0 B ext tmp F2 H' σ g ∧ Same F F2 ∧ (∀ d v, Dp K F' v d → flat d = true → Dp K F2 v d) ∧ Same F2 F' ∧ Ext F H F2 H' ∧ (∀ b o, F' b = some o → ¬ OwnO o → F2 b = some o) := by
  obtain ⟨F1, h1, h2, h3, h4⟩ := a.st.vaS
  refine ⟨F1, h1, h2, h3.pre (by unfold tva; rw [List.length_map, a.l]; exact Nat.le_refl _) (fun i d h => va_pre h) fun i h => (List.getElem?_append_left h).symm, fun F' H' E => ?_⟩
  obtain ⟨F2, q1, q2, q3, q4, q5, q6⟩ := h4 F' H' E
  exact ⟨F2, ⟨q1, a.l, a.tm⟩, q2, q3, q5, ⟨q2, E.h, q1.s, fun b o e n => E.n b o (q5 b o e) (q6 b o e n)⟩, q4⟩
def xNV (m : Vw → R (List D)) : XM := fun g => match m (tva g) with
  | .ok ds => if ds.all flat = true then .ok (.lst (ds.map T.dat)) g else .bad
  | .exc c p => if flatO p = true then .exc c p g else .bad
  | .bad => .bad
theorem dpa_flat {K : PySem.W.Frag} {F F2 : Hp} (h : ∀ d v, Dp K F v d → flat d = true → Dp K F2 v d) : ∀ {vs : List V} {ds : List D}, DpAll K F vs ds → ds.all flat = true → DpAll K F2 vs ds
  | _, _, .nil, _ => .nil
  | _, _, .cons a b, e => by
    rw [List.all_cons, Bool.and_eq_true] at e
    exact .cons (h _ _ a e.1) (dpa_flat h b e.2)
theorem mx_nV {X : Cx} {W : WX} {e : Expr} {m : Vw → R (List D)} (he : MN X W e m) : MX X W e (xNV m) := by
  refine PE.imp he fun σ H Q ⟨V0, F0, H0, B, ext, tmp, F, g, a, h⟩ => ?_
  obtain ⟨F1, s1, s2, vw, th⟩ := a.vaS
  refine ⟨F1, tva g, s1, vw, ?_⟩
  unfold xNV at h
  cases em : m (tva g) with
  | ok ds =>
    rw [em] at h
    dsimp only at h
    split at h
    · rename_i fl
      intro p xs F' H' E h0 hF hH hd
      obtain ⟨F2, a2, f2, fd, t2, E2, _⟩ := th F' H' E
      have hF2 : F2 p = none := by
        cases q : F2 p with
        | none => rfl
        | some o => rw [t2 p o q] at hF; cases hF
      exact h (.ref p) F2 H' (a.adopt E2 h0 hF2 hH (dpa_flat fd hd fl))
    · exact h.elim
  | exc c p =>
    rw [em] at h
    dsimp only at h
    split at h
    · rename_i fl
      intro cls od F' H' E x
      obtain ⟨F2, a2, f2, fd, t2, E2, q⟩ := th F' H' E
      exact h cls od F2 H' a2 (xv_flatO x fl q)
    · exact h.elim
  | bad => rw [em] at h; exact h
end MI
set_option Elab.async false
set_option linter.all false
set_option maxRecDepth 100000
set_option maxHeartbeats 4000000
namespace MI
open PySem PySem.Spec PyProof.Rows L2
section
variable {K : PySem.W.Frag} {V0 : Nat → Option V} {F0 H0 F H : Hp} {B : Addr → Prop} {σ ext : L2.St} {g tmp : Ct}
/-- the tops become the items of a tuple that there is -/
theorem StT.mkTu {vs : List V} {ts : List T} {p : Addr} (ok : StT K V0 F0 H0 B F H (σ ++ vs.map some) (g ++ ts.map Cl.tm)) (l : σ.length = g.length) (hp : F p = some (.tup vs)) : StT K V0 F0 H0 B F H (σ ++ [some (.ref p)]) (g ++ [.tm (.tup ts)]) := by
  obtain ⟨S, s1, s2, s3, s4⟩ := ok.own
  have lens : vs.length = ts.length := by
    have := ok.len
    simp at this
    omega
  obtain ⟨S', t1, t2⟩ := trs_of (K := K) (F := F) (H := H) s3 vs ts g.length lens fun j v x hv hx => by
    obtain ⟨v', h1, h2⟩ := s1 (g.length + j) x (by
      unfold gt
      rw [List.getElem?_append_right (by omega)]
      simp [hx, Cl.tr])
    rw [List.getElem?_append_right (by omega), show g.length + j - σ.length = j by omega, List.getElem?_map, hv] at h1
    cases h1
    exact h2
  have tk := ok.take l tm_map
  refine ⟨ok.f, ok.h, ok.s, ok.n, by simp [l], ⟨fun i a => if i < g.length then S i a else (i = g.length ∧ S' a), fun i x hx => ?_, fun i a q => ?_, fun i j a q r => ?_, fun i e a q => ?_⟩, fun i x e hb => ?_, fun j i k e => ?_⟩
  · have li := gt_lt hx
    simp at li
    rcases Nat.lt_or_ge i g.length with c | c
    · rw [gt_append_left c] at hx
      obtain ⟨v, h1, h2⟩ := s1 i x (by rw [gt_append_left c]; exact hx)
      rw [List.getElem?_append_left (by omega)] at h1
      refine ⟨v, by rw [List.getElem?_append_left (by omega)]; exact h1, ?_⟩
      have : (fun a => if i < g.length then S i a else (i = g.length ∧ S' a)) = S i := by
        funext a
        rw [if_pos c]
      show TR K F _ v x (fun a => if i < g.length then S i a else (i = g.length ∧ S' a))
      rw [this]
      exact h2
    · have e : i = g.length := by omega
      subst e
      rw [gt_push] at hx
      cases hx
      refine ⟨.ref p, by rw [List.getElem?_append_right (by omega)]; simp [l], ?_⟩
      have : (fun a => if g.length < g.length then S g.length a else (g.length = g.length ∧ S' a)) = S' := by
        funext a
        rw [if_neg (Nat.lt_irrefl _)]
        simp
      show TR K F _ _ _ (fun a => if g.length < g.length then S g.length a else (g.length = g.length ∧ S' a))
      rw [this]
      exact .tup hp t1
  · dsimp only at q
    split at q
    · exact s2 i a q
    · obtain ⟨j, _, r⟩ := t2 a q.2
      exact s2 j a r
  · dsimp only at q r
    split at q
    · split at r
      · exact s3 i j a q r
      · obtain ⟨m, lm, w⟩ := t2 a r.2
        have := s3 i m a q w
        omega
    · split at r
      · obtain ⟨m, lm, w⟩ := t2 a q.2
        have := s3 j m a r w
        omega
      · omega
  · dsimp only at q
    split at q
    · rename_i c
      rw [gt_append_left c] at e
      exact s4 i (by rw [gt_append_left c]; exact e) a q
    · rw [q.1, gt_push] at e
      cases e
  · have li := (List.getElem?_eq_some_iff.mp e).1
    simp at li
    rcases Nat.lt_or_ge i g.length with c | c
    · rw [List.getElem?_append_left c] at e
      obtain ⟨v, h1, h2⟩ := tk.bd i x e hb
      exact ⟨v, h1, by rw [List.getElem?_append_left (by omega)]; exact h2⟩
    · rw [List.getElem?_append_right c, show i - g.length = 0 by omega] at e
      cases e
      cases hb
  · have lj := (List.getElem?_eq_some_iff.mp e).1
    simp at lj
    rcases Nat.lt_or_ge j g.length with c | c
    · rw [List.getElem?_append_left c] at e
      obtain ⟨a, us, v, h1, h2, h3, h4, h5, ts0, h6⟩ := tk.al j i k e
      have li := nt_lt h6
      exact ⟨a, us, v, by rw [List.getElem?_append_left (by omega)]; exact h1, h2, h3, h4, by rw [List.getElem?_append_left (by omega)]; exact h5, ts0, by rw [nt_append_left li]; exact h6⟩
    · rw [List.getElem?_append_right c, show j - g.length = 0 by omega] at e
      cases e
end
theorem At.mkTu {K : PySem.W.Frag} {V0 : Nat → Option V} {F0 H0 F H : Hp} {B : Addr → Prop} {σ ext : L2.St} {g tmp : Ct} {vs : List V} {ts : List T} {p : Addr} (ht : Tm tmp) (a : At K V0 F0 H0 B (ext ++ vs.map some) (tmp ++ ts.map Cl.tm) F H σ g) (hl : ext.length = tmp.length) (hp : F p = some (.tup vs)) : At K V0 F0 H0 B (ext ++ [some (.ref p)]) (tmp ++ [.tm (.tup ts)]) F H σ g := by
  have st := a.st
  rw [← List.append_assoc, ← List.append_assoc] at st
  refine ⟨?_, a.l, fun c hc => ?_⟩
  · rw [← List.append_assoc, ← List.append_assoc]
    exact st.mkTu (by simp [a.l, hl]) hp
  · rcases List.mem_append.mp hc with hc | hc
    · exact ht c hc
    · exact ⟨_, List.mem_singleton.mp hc⟩
/-- (e, ..), with lists of one's own in it -/
def xTs (m : XA) : XM := fun g => (m g).bind fun ts g1 => if ts.length ≤ most then .ok (.tup ts) g1 else .bad
theorem mx_tupO {X : Cx} {W : WX} {es : List Expr} {m : XA} {pos : Pos} {k} (h : MXA X W es m) : MX X W (.Tuple es k pos) (xTs m) := by
  refine PE.imp (pe_tup h) fun σ H Q ⟨V0, F0, H0, B, ext, tmp, F, g, a, h⟩ => ?_
  refine tXA_bind a h fun ts vs g1 F1 H1 _ a1 h1 => ?_
  split at h1
  · rename_i l
    have lens : vs.length = ts.length := by
      have h := a1.len
      have h2 := a.len
      simp at h
      omega
    refine ⟨by rw [lens]; exact most_le l, fun p hp => ?_⟩
    have E := Ext.new (o := .tup vs) a1.s hp
    exact h1 (.ref p) _ _ (At.mkTu a.tm (a1.mono E) a.len upd_same)
  · exact h1.elim
end MI
set_option Elab.async false
set_option linter.all false
set_option maxRecDepth 100000
set_option maxHeartbeats 4000000
namespace MI
open PySem PySem.Spec PyProof.Rows L2
section
end
end MI
set_option Elab.async false
set_option linter.all false
set_option maxRecDepth 100000
set_option maxHeartbeats 4000000
namespace MI
open PySem PySem.Spec PyProof.Rows L2
end MI
set_option Elab.async false
set_option linter.all false
set_option maxRecDepth 100000
set_option maxHeartbeats 4000000
namespace PySem
namespace W
open Sem (wp)
open PySem.Calls PyProof.Rows
end W
end PySem
namespace MI
open PySem PySem.Spec PyProof.Rows L2
/-- the class's name, the field, of data that stand for an exception -/
def clsD : D → Option Str
  | .dict [(.none, .str c), (.none, _)] => some c
  | _ => none
def fldD (f : Str) : D → Option D
  | .dict [(.none, .str c), (.none, .tuple [d])] => if xfield c = some f then some d else none
  | _ => none
@[simp] theorem clsD_x (c : Str) (p : Option D) : clsD (excD c p) = some c := Eq.trans rfl rfl
@[simp] theorem fldD_x (f c : Str) (d : D) : fldD f (excD c (some d)) = if xfield c = some f then some d else none := Eq.trans rfl rfl
section
end
end MI
set_option Elab.async false
set_option linter.all false
set_option maxRecDepth 100000
set_option maxHeartbeats 4000000
namespace MI
open PySem PySem.Spec PyProof.Rows L2
end MI
set_option Elab.async false
set_option linter.all false
set_option maxRecDepth 100000
set_option maxHeartbeats 4000000
namespace MI
open PySem PySem.Spec PyProof.Rows L2
end MI
set_option Elab.async false
set_option linter.all false
set_option maxRecDepth 100000
set_option maxHeartbeats 4000000
namespace MI
open PySem PySem.Spec PyProof.Rows L2 PySem.SeqAt
section
end
section
end
section
end
end MI
set_option Elab.async false
set_option linter.all false
set_option maxRecDepth 100000
set_option maxHeartbeats 4000000
namespace MI
open PySem PySem.Spec PyProof.Rows L2
section
end
end MI
set_option Elab.async false
set_option linter.all false
set_option maxRecDepth 100000
set_option maxHeartbeats 4000000
namespace MI
open PySem PySem.Spec PyProof.Rows L2
end MI
set_option Elab.async false
set_option linter.all false
set_option maxRecDepth 100000
set_option maxHeartbeats 4000000
namespace MI
open PySem PySem.Spec PyProof.Rows L2
end MI
set_option Elab.async false
set_option linter.all false
set_option maxRecDepth 100000
set_option maxHeartbeats 4000000
namespace MI
open PySem PySem.Spec PyProof.Rows L2
abbrev RoomH := L2H.RoomH
/-- a def's promise, whatever is handled -/
structure FnN (P : Program) (w : World) (K : PySem.W.Frag) (mg : Str → Option Value) (base : Heap) (CX : CXT) (k : Nat) (f : Addr) (fd : FuncData) (ps : List Str) (sp : Sp) : Prop where
  len : ∀ vs H Q E, sp vs H Q E → vs.length = ps.length
  run : ∀ (A : Around) (outer : List Env) (s : Shared) (H : Hp) (args : Args) (us : List Value) (vs : List V) (Q : VK) (E : XK), RoomH k A → Env0 P w K mg base A outer s H → BindsTo s fd args (ps.zip us) → Vals vs us → sp vs H Q E →
    codeAny (model P w) A (.call (.ref f) args) (CR CX outer P w H s Q E) s
theorem FnN.ok {P : Program} {w : World} {K : PySem.W.Frag} {mg : Str → Option Value} {base : Heap} {CX : CXT} {k : Nat} {f : Addr} {fd : FuncData} {ps : List Str} {sp : Sp} (F : FnN P w K mg base CX k f fd ps sp) : FnOk P w K mg base CX k f fd ps sp :=
  ⟨F.len, fun A outer s H args us vs Q E hr => F.run A outer s H args us vs Q E (L2H.roomH_of hr)⟩
structure DefOkN (P : Program) (w : World) (K : PySem.W.Frag) (mg : Str → Option Value) (base : Heap) (k : Nat) (x : Str) (n : Nat) (f : List D → R D) (dds : List (List D)) : Prop where
  gl : mg x = some (.ref (He.ga K x))
  ex : ∃ (fd : FuncData) (ps : List Str), PySem.W.keepIn K (.ref (He.ga K x)) = true ∧ FnN P w K mg base (L2.CX P w) k (He.ga K x) fd ps (spD K mg n f) ∧ ∀ dd ∈ dds, ∃ (dvs : List V) (ds : List Value), Vals dvs ds ∧ (∀ F, DpAll K F dvs dd) ∧ Binds K fd ps ds
theorem DefOkN.ok {P : Program} {w : World} {K : PySem.W.Frag} {mg : Str → Option Value} {base : Heap} {k n : Nat} {x : Str} {f : List D → R D} {dds : List (List D)} (G : DefOkN P w K mg base k x n f dds) : DefOk P w K mg base k x n f dds := by
  obtain ⟨fd, ps, kp, F, b⟩ := G.ex
  exact ⟨G.gl, fd, ps, kp, F.ok, b⟩
end MI
set_option Elab.async false
set_option linter.all false
set_option maxRecDepth 100000
set_option maxHeartbeats 4000000
namespace MI
open PySem PySem.Spec PyProof.Rows L2
section
end
@[simp] theorem isV_none : isV PyData.none = true := Eq.trans rfl rfl
@[simp] theorem isV_int (i : Int) : isV (PyData.int i) = true := Eq.trans rfl rfl
@[simp] theorem isV_str (z : Str) : isV (PyData.str z) = true := Eq.trans rfl rfl
end MI
set_option Elab.async false
set_option linter.all false
set_option maxRecDepth 100000
set_option maxHeartbeats 4000000
namespace MI
open PySem PySem.Spec PyProof.Rows L2
def lookD (z : Str) : List (D × D) → Option D
  | [] => none
  | (.str y, d) :: r => if y = z then some d else lookD z r
  | _ :: r => none
def fDix : D → D → Option D
  | .dict ((.str k, d) :: r), .str z => lookD z ((.str k, d) :: r)
  | _, _ => none
section
variable {X : Cx} {W : WX} {pos : Pos} {a b : Expr} {ma mb : M}
def mPairs : List (M × M) → Vw → R (List (D × D))
  | [], _ => .ok []
  | (k, v) :: r, δ => (k δ).bind fun a => (v δ).bind fun b => (mPairs r δ).bind fun q => .ok ((a, b) :: q)
def keysD : List (D × D) → Option (List Str)
  | [] => some []
  | (.str k, _) :: r => (keysD r).map (k :: ·)
  | _ :: _ => none
def fDisp (ps : List (D × D)) : Option D := match keysD ps with
  | some (k :: ks) => if (k :: ks).Nodup ∧ ps.length ≤ 15 then some (.dict ps) else none
  | _ => none
def mDisp (ms : List (M × M)) : M := fun δ => (mPairs ms δ).bind fun ps => R.of (fDisp ps)
end
@[simp] theorem fDix_d (k z : Str) (d : D) (r : List (D × D)) : fDix (.dict ((.str k, d) :: r)) (.str z) = if k = z then some d else lookD z r := Eq.trans rfl rfl
@[simp] theorem lookD_c (k z : Str) (d : D) (r : List (D × D)) : lookD z ((.str k, d) :: r) = if k = z then some d else lookD z r := Eq.trans rfl rfl
@[simp] theorem lookD_n (z : Str) : lookD z [] = none := Eq.trans rfl rfl
@[simp] theorem mPairs_n (δ : Vw) : mPairs [] δ = .ok [] := Eq.trans rfl rfl
@[simp] theorem mPairs_c (k v : M) (r : List (M × M)) (δ : Vw) : mPairs ((k, v) :: r) δ = (k δ).bind fun a => (v δ).bind fun b => (mPairs r δ).bind fun q => .ok ((a, b) :: q) := Eq.trans rfl rfl
@[simp] theorem mDisp_ap (ms : List (M × M)) (δ : Vw) : mDisp ms δ = (mPairs ms δ).bind fun ps => R.of (fDisp ps) := Eq.trans rfl rfl
end MI
set_option Elab.async false
set_option linter.all false
set_option maxRecDepth 100000
set_option maxHeartbeats 4000000
namespace MI
open PySem PySem.Spec PyProof.Rows L2
section
end
end MI
set_option Elab.async false
set_option linter.all false
set_option maxRecDepth 100000
set_option maxHeartbeats 4000000
namespace MI
open PySem PySem.Spec PyProof.Rows L2
section
end
section
end
section
end
section
end
end MI
set_option Elab.async false
set_option linter.all false
set_option maxRecDepth 100000
set_option maxHeartbeats 4000000
namespace MI
open PySem PySem.Spec PyProof.Rows L2 PySem.SeqAt
noncomputable def fEqE (d e : D) : Option D := match d, e with
  | .tuple ds, .tuple [] => some (.bool ds.isEmpty)
  | d, e => fEq d e
section
end
@[simp] theorem fEqE_t (ds : List D) : fEqE (.tuple ds) (.tuple []) = some (.bool ds.isEmpty) := Eq.trans rfl rfl
section
end
end MI
set_option Elab.async false
set_option linter.all false
set_option maxRecDepth 100000
set_option maxHeartbeats 4000000
namespace MI
open PySem PySem.Spec PyProof.Rows L2
end MI
set_option Elab.async false
set_option linter.all false
set_option maxRecDepth 100000
set_option maxHeartbeats 4000000
namespace MI
open PySem PySem.Spec PyProof.Rows L2
section
variable {X : Cx} {W : WX}
def mKix (kvs : List (Str × Str)) (m : M) : M := fun δ => (m δ).bind fun d => match d with
  | .str z => (match kvs.lookup z with
    | some v => .ok (.str v)
    | none => .bad)
  | _ => .bad
end
@[simp] theorem mKix_ap (kvs : List (Str × Str)) (m : M) (δ : Vw) : mKix kvs m δ = (m δ).bind fun d => match d with
  | .str z => (match kvs.lookup z with
    | some v => .ok (.str v)
    | none => .bad)
  | _ => .bad := Eq.trans rfl rfl
end MI
set_option Elab.async false
set_option linter.all false
set_option maxRecDepth 100000
set_option maxHeartbeats 4000000
namespace MI
open PySem PySem.Spec PyProof.Rows L2
def ixS (z : Str) : List Str → Nat → Option Nat
  | [], _ => none
  | y :: ys, n => if y = z then some n else ixS z ys (n + 1)
def mIxT (ns : List Str) (m : Vw → R (List D)) : M := fun δ => (m δ).bind fun ds => match ds with
  | [.str z] => (match ixS z ns 0 with
    | some j => .ok (.int (j : Nat))
    | none => .bad)
  | _ => .bad
section
end
@[simp] theorem mIxT_ap (ns : List Str) (m : Vw → R (List D)) (δ : Vw) : mIxT ns m δ = (m δ).bind fun ds => match ds with
  | [.str z] => (match ixS z ns 0 with
    | some j => .ok (.int (j : Nat))
    | none => .bad)
  | _ => .bad := Eq.trans rfl rfl
end MI
set_option Elab.async false
set_option linter.all false
set_option maxRecDepth 100000
set_option maxHeartbeats 4000000
namespace MI
open PySem PySem.Spec PyProof.Rows L2 SeqAt AutoSeq1 MeetsSeq
section
end
end MI
noncomputable section
set_option Elab.async false
set_option linter.all false
set_option maxRecDepth 100000
set_option maxHeartbeats 4000000
namespace Pg
open PySem MI
def s_p_is_whole (fu : Nat) : S := sRet (mAndV (mIsi "int" (mVar 0)) (mNotV (mIsi "bool" (mVar 0))))
def f_p_is_whole (fu : Nat) : List MI.D → R MI.D := run 1 1 (s_p_is_whole fu)
def b_p_divisor_1 (fu : Nat) : S := sPar 0 1 (mCons (mVar 1) (mCons (mBin fMod (mVar 0) (mVar 1)) (mNil)))
def s_p_divisor (fu : Nat) : S := sSeq (loopW (mTru (mBin fNe (mVar 1) (mC (.int 0)))) (b_p_divisor_1 fu) fu) (sRet (mDs fAbs (mCons (mVar 0) (mNil))))
def f_p_divisor (fu : Nat) : List MI.D → R MI.D := run 2 2 (s_p_divisor fu)
def s_p_lowest (fu : Nat) : S := sSeq (sSet 2 (mCall 2 (Pg.f_p_divisor fu) [] (mCons (mVar 0) (mCons (mVar 1) (mNil))))) (sSeq (sIf (mTru (mBin fLt (mVar 1) (mC (.int 0)))) (sSet 2 (mBin fSub (mC (.int 0)) (mVar 2))) (sNop)) (sRet (mDs dTup (mCons (mBin fFdv (mVar 0) (mVar 2)) (mCons (mBin fFdv (mVar 1) (mVar 2)) (mNil))))))
def f_p_lowest (fu : Nat) : List MI.D → R MI.D := run 2 3 (s_p_lowest fu)
def s_law_cell_at (fu : Nat) : S := sSeq (sIf (mTru (mBin fLt (mVar 1) (mDs fLen (mCons (mVar 0) (mNil))))) (sRet (mBin fIx (mVar 0) (mVar 1))) (sNop)) (sRet (mC (.int 0)))
def f_law_cell_at (fu : Nat) : List MI.D → R MI.D := run 2 2 (s_law_cell_at fu)
def s_p_plus (fu : Nat) : S := sRet (mCall 2 (Pg.f_p_lowest fu) [] (mCons (mBin fAddL (mBin fMul (mBin fIx (mVar 0) (mC (.int 0))) (mBin fIx (mVar 1) (mC (.int 1)))) (mBin fMul (mBin fIx (mVar 1) (mC (.int 0))) (mBin fIx (mVar 0) (mC (.int 1))))) (mCons (mBin fMul (mBin fIx (mVar 0) (mC (.int 1))) (mBin fIx (mVar 1) (mC (.int 1)))) (mNil))))
def f_p_plus (fu : Nat) : List MI.D → R MI.D := run 2 2 (s_p_plus fu)
def s_p_minus (fu : Nat) : S := sRet (mCall 2 (Pg.f_p_lowest fu) [] (mCons (mBin fSub (mBin fMul (mBin fIx (mVar 0) (mC (.int 0))) (mBin fIx (mVar 1) (mC (.int 1)))) (mBin fMul (mBin fIx (mVar 1) (mC (.int 0))) (mBin fIx (mVar 0) (mC (.int 1))))) (mCons (mBin fMul (mBin fIx (mVar 0) (mC (.int 1))) (mBin fIx (mVar 1) (mC (.int 1)))) (mNil))))
def f_p_minus (fu : Nat) : List MI.D → R MI.D := run 2 2 (s_p_minus fu)
def s_p_times (fu : Nat) : S := sRet (mCall 2 (Pg.f_p_lowest fu) [] (mCons (mBin fMul (mBin fIx (mVar 0) (mC (.int 0))) (mBin fIx (mVar 1) (mC (.int 0)))) (mCons (mBin fMul (mBin fIx (mVar 0) (mC (.int 1))) (mBin fIx (mVar 1) (mC (.int 1)))) (mNil))))
def f_p_times (fu : Nat) : List MI.D → R MI.D := run 2 2 (s_p_times fu)
def s_p_over (fu : Nat) : S := sSeq (sIf (mTru (mBin fEq (mBin fIx (mVar 1) (mC (.int 0))) (mC (.int 0)))) (sRaise "NoNumber") (sNop)) (sRet (mCall 2 (Pg.f_p_lowest fu) [] (mCons (mBin fMul (mBin fIx (mVar 0) (mC (.int 0))) (mBin fIx (mVar 1) (mC (.int 1)))) (mCons (mBin fMul (mBin fIx (mVar 0) (mC (.int 1))) (mBin fIx (mVar 1) (mC (.int 0)))) (mNil)))))
def f_p_over (fu : Nat) : List MI.D → R MI.D := run 2 2 (s_p_over fu)
def s_p_under (fu : Nat) : S := sRet (mBin fLt (mBin fMul (mBin fIx (mVar 0) (mC (.int 0))) (mBin fIx (mVar 1) (mC (.int 1)))) (mBin fMul (mBin fIx (mVar 1) (mC (.int 0))) (mBin fIx (mVar 0) (mC (.int 1)))))
def f_p_under (fu : Nat) : List MI.D → R MI.D := run 2 2 (s_p_under fu)
def s_p_floor_of (fu : Nat) : S := sRet (mBin fFdv (mBin fIx (mVar 0) (mC (.int 0))) (mBin fIx (mVar 0) (mC (.int 1))))
def f_p_floor_of (fu : Nat) : List MI.D → R MI.D := run 1 1 (s_p_floor_of fu)
def s_p_rounded (fu : Nat) : S := sRet (mBin fFdv (mBin fAddL (mBin fMul (mC (.int 2)) (mBin fIx (mVar 0) (mC (.int 0)))) (mBin fIx (mVar 0) (mC (.int 1)))) (mBin fMul (mC (.int 2)) (mBin fIx (mVar 0) (mC (.int 1)))))
def f_p_rounded (fu : Nat) : List MI.D → R MI.D := run 1 1 (s_p_rounded fu)
def s_p_along_straight (fu : Nat) : S := sSeq (sIf (mOrT (mTru (mCall 2 (Pg.f_p_under fu) [] (mCons (mVar 2) (mCons (mVar 0) (mNil))))) (mTru (mCall 2 (Pg.f_p_under fu) [] (mCons (mVar 1) (mCons (mVar 2) (mNil)))))) (sRet (mC .none)) (sNop)) (sRet (mCall 2 (Pg.f_p_over fu) [] (mCons (mCall 2 (Pg.f_p_times fu) [] (mCons (mCall 2 (Pg.f_p_minus fu) [] (mCons (mVar 2) (mCons (mVar 0) (mNil)))) (mCons (mDs dTup (mCons (mVar 3) (mCons (mC (.int 1)) (mNil)))) (mNil)))) (mCons (mCall 2 (Pg.f_p_minus fu) [] (mCons (mVar 1) (mCons (mVar 0) (mNil)))) (mNil)))))
def f_p_along_straight (fu : Nat) : List MI.D → R MI.D := run 4 4 (s_p_along_straight fu)
def b_p_power_of_1 (fu : Nat) : S := sSet 2 (mBin fMul (mVar 2) (mVar 0))
def s_p_power_of (fu : Nat) : S := sSeq (sSet 2 (mC (.int 1))) (sSeq (sFor (mRng rng1 (mCons (mVar 1) (mNil))) (gN 3) (b_p_power_of_1 fu)) (sRet (mVar 2)))
def f_p_power_of (fu : Nat) : List MI.D → R MI.D := run 2 4 (s_p_power_of fu)
def b_p_along_turns_1 (fu : Nat) : S := sSeq (sSet 8 (mBin fMul (mVar 8) (mVar 3))) (sSet 9 (mBin fAddL (mVar 9) (mC (.int 1))))
def s_p_along_turns (fu : Nat) : S := sSeq (sAsg (gT (gsCons (gN 2) (gsCons (gN 3) (gsCons (gN 4) (gsCons (gN 5) (gsCons (gN 6) (gsNil))))))) (mVar 0)) (sSeq (sIf (mTru (mBin fLe (mBin fIx (mVar 1) (mC (.int 0))) (mC (.int 0)))) (sRet (mC (.str "nought"))) (sNop)) (sSeq (sSet 7 (mBin fMul (mBin fIx (mVar 1) (mC (.int 0))) (mCall 2 (Pg.f_p_power_of fu) [] (mCons (mVar 3) (mCons (mBin fSub (mC (.int 0)) (mVar 4)) (mNil)))))) (sSeq (sSet 8 (mBin fMul (mBin fIx (mVar 1) (mC (.int 1))) (mCall 2 (Pg.f_p_power_of fu) [] (mCons (mVar 3) (mCons (mVar 4) (mNil)))))) (sSeq (sIf (mTru (mBin fLt (mVar 7) (mVar 8))) (sRet (mC (.str "outside"))) (sNop)) (sSeq (sSet 9 (mC (.int 0))) (sSeq (loopW (mAndT (mTru (mBin fLt (mVar 9) (mVar 5))) (mTru (mBin fLe (mBin fMul (mVar 8) (mVar 3)) (mVar 7)))) (b_p_along_turns_1 fu) fu) (sSeq (sIf (mTru (mBin fEq (mVar 9) (mVar 5))) (sSeq (sIf (mTru (mBin fGt (mVar 7) (mVar 8))) (sRet (mC (.str "outside"))) (sNop)) (sRet (mDs dTup (mCons (mVar 6) (mCons (mC (.int 1)) (mNil)))))) (sNop)) (sSeq (sSet 10 (mCall 2 (Pg.f_p_lowest fu) [] (mCons (mBin fSub (mVar 7) (mVar 8)) (mCons (mBin fMul (mVar 8) (mBin fSub (mVar 3) (mC (.int 1)))) (mNil))))) (sRet (mCall 2 (Pg.f_p_times fu) [] (mCons (mCall 2 (Pg.f_p_plus fu) [] (mCons (mDs dTup (mCons (mVar 9) (mCons (mC (.int 1)) (mNil)))) (mCons (mVar 10) (mNil)))) (mCons (mCall 2 (Pg.f_p_lowest fu) [] (mCons (mVar 6) (mCons (mVar 5) (mNil)))) (mNil)))))))))))))
def f_p_along_turns (fu : Nat) : List MI.D → R MI.D := run 2 11 (s_p_along_turns fu)
def b_p_along_pieces_1 (fu : Nat) : S := sSeq (sSet 6 (mCall 4 (Pg.f_p_along_straight fu) [] (mCons (mVar 2) (mCons (mVar 3) (mCons (mVar 1) (mCons (mBin fSub (mVar 5) (mVar 4)) (mNil))))))) (sIf (mTru (mBin fIsN (mVar 6) (mC .none))) (sRet (mCall 2 (Pg.f_p_plus fu) [] (mCons (mDs dTup (mCons (mVar 4) (mCons (mC (.int 1)) (mNil)))) (mCons (mVar 6) (mNil))))) (sNop))
def s_p_along_pieces (fu : Nat) : S := sSeq (sIf (mOrT (mTru (mCall 2 (Pg.f_p_under fu) [] (mCons (mVar 1) (mCons (mBin fIx (mBin fIx (mVar 0) (mC (.int 0))) (mC (.int 0))) (mNil))))) (mTru (mCall 2 (Pg.f_p_under fu) [] (mCons (mBin fIx (mBin fIx (mVar 0) (mUn fNeg (mC (.int 1)))) (mC (.int 1))) (mCons (mVar 1) (mNil)))))) (sRet (mC (.str "outside"))) (sNop)) (sSeq (sFor (mItems (mVar 0)) (gT (gsCons (gN 2) (gsCons (gN 3) (gsCons (gN 4) (gsCons (gN 5) (gsNil)))))) (b_p_along_pieces_1 fu)) (sRet (mC (.str "gap"))))
def f_p_along_pieces (fu : Nat) : List MI.D → R MI.D := run 2 7 (s_p_along_pieces fu)
def s_p_stretch_on (fu : Nat) : S := sSeq (sSet 2 (mBin fIx (mVar 0) (mC (.int 1)))) (sSeq (sSet 3 (mMt "list" fIndex (mVar 2) (mCons (mVar 1) (mNil)))) (sRet (mDs dTup (mCons (mCall 2 (Pg.f_p_lowest fu) [] (mCons (mBin fMul (mVar 3) (mBin fIx (mVar 0) (mC (.int 2)))) (mCons (mDs fLen (mCons (mVar 2) (mNil))) (mNil)))) (mCons (mCall 2 (Pg.f_p_lowest fu) [] (mCons (mBin fMul (mBin fAddL (mVar 3) (mC (.int 1))) (mBin fIx (mVar 0) (mC (.int 2)))) (mCons (mDs fLen (mCons (mVar 2) (mNil))) (mNil)))) (mNil))))))
def f_p_stretch_on (fu : Nat) : List MI.D → R MI.D := run 2 4 (s_p_stretch_on fu)
def s_p_amid (fu : Nat) : S := sRet (mCall 2 (Pg.f_p_times fu) [] (mCons (mCall 2 (Pg.f_p_plus fu) [] (mCons (mBin fIx (mVar 0) (mC (.int 0))) (mCons (mBin fIx (mVar 0) (mC (.int 1))) (mNil)))) (mCons (mDs dTup (mCons (mC (.int 1)) (mCons (mC (.int 2)) (mNil)))) (mNil))))
def f_p_amid (fu : Nat) : List MI.D → R MI.D := run 1 1 (s_p_amid fu)
def s_p_along_order (fu : Nat) : S := sSeq (sIf (mTru (mBin (fIn true) (mVar 1) (mBin fIx (mVar 0) (mC (.int 1))))) (sRet (mC (.str "unknown"))) (sNop)) (sRet (mCall 1 (Pg.f_p_amid fu) [] (mCons (mCall 2 (Pg.f_p_stretch_on fu) [] (mCons (mVar 0) (mCons (mVar 1) (mNil)))) (mNil))))
def f_p_along_order (fu : Nat) : List MI.D → R MI.D := run 2 2 (s_p_along_order fu)
def s_p_place_on (fu : Nat) : S := sSeq (sIf (mTru (mBin fIs (mVar 1) (mC .none))) (sRet (mC (.str "nothing"))) (sNop)) (sSeq (sIf (mTru (mBin fEq (mBin fIx (mVar 0) (mC (.int 0))) (mC (.str "turns")))) (sRet (mCall 2 (Pg.f_p_along_turns fu) [] (mCons (mVar 0) (mCons (mVar 1) (mNil))))) (sNop)) (sSeq (sIf (mTru (mBin fEq (mBin fIx (mVar 0) (mC (.int 0))) (mC (.str "broken")))) (sRet (mCall 2 (Pg.f_p_along_pieces fu) [] (mCons (mBin fIx (mVar 0) (mC (.int 1))) (mCons (mVar 1) (mNil))))) (sNop)) (sSeq (sIf (mTru (mBin fEq (mBin fIx (mVar 0) (mC (.int 0))) (mC (.str "order")))) (sRet (mCall 2 (Pg.f_p_along_order fu) [] (mCons (mVar 0) (mCons (mVar 1) (mNil))))) (sNop)) (sSeq (sIf (mTru (mBin fEq (mBin fIx (mVar 0) (mC (.int 0))) (mC (.str "days")))) (sSet 2 (mCall 4 (Pg.f_p_along_straight fu) [] (mCons (mDs dTup (mCons (mBin fIx (mVar 0) (mC (.int 1))) (mCons (mC (.int 1)) (mNil)))) (mCons (mDs dTup (mCons (mBin fIx (mVar 0) (mC (.int 2))) (mCons (mC (.int 1)) (mNil)))) (mCons (mDs dTup (mCons (mVar 1) (mCons (mC (.int 1)) (mNil)))) (mCons (mBin fIx (mVar 0) (mC (.int 3))) (mNil))))))) (sSet 2 (mCall 4 (Pg.f_p_along_straight fu) [] (mCons (mBin fIx (mVar 0) (mC (.int 1))) (mCons (mBin fIx (mVar 0) (mC (.int 2))) (mCons (mVar 1) (mCons (mBin fIx (mVar 0) (mC (.int 3))) (mNil)))))))) (sSeq (sIf (mTru (mBin fIs (mVar 2) (mC .none))) (sRet (mC (.str "outside"))) (sNop)) (sRet (mVar 2)))))))
def f_p_place_on (fu : Nat) : List MI.D → R MI.D := run 2 3 (s_p_place_on fu)
def s_law_lowest (fu : Nat) : S := sSeq (sSet 2 (mCall 2 (Pg.f_p_divisor fu) [] (mCons (mVar 0) (mCons (mVar 1) (mNil))))) (sRet (mDs dTup (mCons (mBin fFdv (mVar 0) (mVar 2)) (mCons (mBin fFdv (mVar 1) (mVar 2)) (mNil)))))
def f_law_lowest (fu : Nat) : List MI.D → R MI.D := run 2 3 (s_law_lowest fu)
def b_law_ends_1 (fu : Nat) : S := sSeq (sSet 5 (mCall 2 (Pg.f_law_cell_at fu) [] (mCons (mVar 0) (mCons (mBin fAddL (mC (.int 2)) (mVar 4)) (mNil))))) (sSeq (sSet 6 (mBin fAddL (mC (.int 1)) (mBin fMod (mVar 5) (mC (.int 60))))) (sSeq (sIf (mTru (mBin fGe (mVar 5) (mBin fPow (mC (.int 10)) (mC (.int 18))))) (sSet 6 (mBin fAddL (mC (.int 1)) (mBin fMod (mVar 5) (mBin fPow (mC (.int 10)) (mC (.int 29)))))) (sNop)) (sAppF 3 (mBin fAddL (mBin fIx (mVar 3) (mUn fNeg (mC (.int 1)))) (mVar 6)))))
def s_law_ends (fu : Nat) : S := sSeq (sSet 2 (mBin fMod (mBin fFdv (mCall 2 (Pg.f_law_cell_at fu) [] (mCons (mVar 0) (mCons (mC (.int 1)) (mNil)))) (mC (.int 2))) (mBin fPow (mC (.int 10)) (mC (.int 24))))) (sSeq (sIf (mTru (mBin fEq (mBin fMod (mCall 2 (Pg.f_law_cell_at fu) [] (mCons (mVar 0) (mCons (mC (.int 1)) (mNil)))) (mC (.int 2))) (mC (.int 1)))) (sSet 2 (mBin fSub (mC (.int 0)) (mVar 2))) (sNop)) (sSeq (sOwn 3 (nLst (mCons (mVar 2) (mNil)))) (sSeq (sFor (mRng rng1 (mCons (mVar 1) (mNil))) (gN 4) (b_law_ends_1 fu)) (sFz (sRet (mVar 3))))))
def f_law_ends (fu : Nat) : List MI.D → R MI.D := run 2 7 (s_law_ends fu)
def b_law_pieces_1 (fu : Nat) : S := sSeq (sSet 6 (mBin fAddL (mBin fAddL (mVar 4) (mC (.int 1))) (mBin fMod (mBin fMod (mBin fMul (mBin fAddL (mVar 2) (mVar 5)) (mBin fAddL (mVar 2) (mBin fMul (mC (.int 7919)) (mVar 5)))) (mC (.int 2147483629))) (mC (.int 500))))) (sSeq (sApp 3 (mDs dTup (mCons (mCall 2 (Pg.f_law_lowest fu) [] (mCons (mBin fIx (mVar 0) (mVar 5)) (mCons (mVar 1) (mNil)))) (mCons (mCall 2 (Pg.f_law_lowest fu) [] (mCons (mBin fIx (mVar 0) (mBin fAddL (mVar 5) (mC (.int 1)))) (mCons (mVar 1) (mNil)))) (mCons (mVar 4) (mCons (mVar 6) (mNil))))))) (sSet 4 (mBin fAddL (mBin fAddL (mVar 6) (mC (.int 1))) (mBin fMod (mBin fMod (mBin fMul (mBin fAddL (mVar 2) (mVar 5)) (mBin fAddL (mVar 2) (mBin fMul (mC (.int 104729)) (mVar 5)))) (mC (.int 2147483587))) (mC (.int 500))))))
def s_sr_source (fu : Nat) : ST := tSeq (tSet 2 (xP (mCall 2 (Pg.f_law_cell_at fu) [] (mCons (mVar 0) (mCons (mVar 1) (mNil)))))) (tSeq (tSet 3 (xP (mBin fMod (mBin fMul (mBin fAddL (mBin fAddL (mBin fMod (mVar 2) (mC (.int 2147483647))) (mBin fMul (mC (.int 104729)) (mVar 1))) (mC (.int 7))) (mC (.int 48271))) (mC (.int 2147483629))))) (tRet (xLs (xCons (xP (mBin fMul (mVar 2) (mDs fIntT (mCons (mBin fGe (mVar 2) (mBin fPow (mC (.int 10)) (mC (.int 18)))) (mNil))))) (xCons (xP (mBin fMod (mBin fMul (mVar 3) (mVar 3)) (mC (.int 2147483587)))) (xNil))))))
def f_sr_source (fu : Nat) : Us → RF := runT 2 4 (s_sr_source fu)
def s_sr_draw (fu : Nat) : ST := tSeq (tIf (xTP (mTru (mBin fGt (mBin fIx (mVar 0) (mC (.int 0))) (mC (.int 0))))) (tSeq (tSet 2 (xV (mBin fMod (mBin fIx (mVar 0) (mC (.int 0))) (mVar 1)))) (tSeq (tPut 0 (xP (mC (.int 0))) (xV (mBin fFdv (mBin fIx (mVar 0) (mC (.int 0))) (mVar 1)))) (tRet (xP (mVar 2))))) (tNop)) (tSeq (tPut 0 (xP (mC (.int 1))) (xV (mBin fMod (mBin fAddL (mBin fMul (mBin fIx (mVar 0) (mC (.int 1))) (mC (.int 48271))) (mC (.int 11))) (mC (.int 2147483647))))) (tRet (xV (mBin fMod (mBin fFdv (mBin fMod (mBin fMul (mBin fIx (mVar 0) (mC (.int 1))) (mBin fIx (mVar 0) (mC (.int 1)))) (mC (.int 2147483629))) (mC (.int 64))) (mVar 1)))))
def f_sr_draw (fu : Nat) : Us → RF := runT 2 3 (s_sr_draw fu)
def b_sr_great_1 (fu : Nat) : ST := tSetD 2 (xBin fAddL (xP (mBin fMul (mVar 2) (mC (.int 1000003)))) (xFn (Pg.f_sr_draw fu) 2 [] (rBor 0 (rVal (xP (mC (.int 1000003))) (rNil)))))
def s_sr_great (fu : Nat) : ST := tSeq (tSet 2 (xP (mC (.int 0)))) (tSeq (tFor (xiP (mRng rng1 (mCons (mC (.int 4)) (mNil)))) (uN 3) (b_sr_great_1 fu)) (tRet (xP (mBin fMod (mVar 2) (mVar 1)))))
def f_sr_great (fu : Nat) : Us → RF := runT 2 4 (s_sr_great fu)
def b_sr_low_1 (fu : Nat) : S := sPar 2 3 (mCons (mVar 3) (mCons (mBin fMod (mVar 2) (mVar 3)) (mNil)))
def s_sr_low (fu : Nat) : S := sSeq (sSet 2 (mDs fAbs (mCons (mVar 0) (mNil)))) (sSeq (sSet 3 (mVar 1)) (sSeq (loopW (mTru (mBin fGt (mVar 3) (mC (.int 0)))) (b_sr_low_1 fu) fu) (sRet (mDs dTup (mCons (mBin fFdv (mVar 0) (mVar 2)) (mCons (mBin fFdv (mVar 1) (mVar 2)) (mNil)))))))
def f_sr_low (fu : Nat) : List MI.D → R MI.D := run 2 4 (s_sr_low fu)
def s_bx_draw (fu : Nat) : ST := tSeq (tAl 2 0 0) (tSeq (tIf (xTP (mTru (mBin fEq (mDs fLen (mCons (mVar 2) (mNil))) (mC (.int 0))))) (tApp 2 (xP (mC (.int 0)))) (tNop)) (tSeq (tSet 3 (xV (mBin fMod (mBin fIx (mVar 0) (mC (.int 1))) (mDs fLen (mCons (mVar 2) (mNil)))))) (tSeq (tSetD 4 (xItem 2 (xP (mVar 3)))) (tSeq (tPut 0 (xP (mC (.int 2))) (xV (mBin fAddL (mBin fIx (mVar 0) (mC (.int 2))) (mC (.int 1))))) (tSeq (tIf (xTP (mTru (mBin fGe (mVar 4) (mBin fPow (mC (.int 10)) (mC (.int 18)))))) (tSeq (tPut 2 (xP (mVar 3)) (xP (mBin fFdv (mVar 4) (mVar 1)))) (tRet (xP (mBin fMod (mVar 4) (mVar 1))))) (tNop)) (tSeq (tPut 0 (xP (mC (.int 1))) (xP (mBin fAddL (mVar 3) (mC (.int 1))))) (tSeq (tSet 5 (xV (mBin fMod (mBin fAddL (mVar 4) (mBin fMul (mBin fMul (mC (.int 48271)) (mBin fIx (mVar 0) (mC (.int 2)))) (mBin fIx (mVar 0) (mC (.int 2))))) (mC (.int 2147483647))))) (tSeq (tSet 5 (xP (mBin fMod (mBin fMul (mVar 5) (mVar 5)) (mC (.int 2147483647))))) (tSeq (tSet 5 (xV (mBin fMod (mBin fMul (mBin fAddL (mVar 5) (mBin fMul (mC (.int 69621)) (mBin fIx (mVar 0) (mC (.int 2))))) (mVar 5)) (mC (.int 2147483629))))) (tRet (xP (mBin fMod (mBin fFdv (mVar 5) (mC (.int 64))) (mVar 1)))))))))))))
def f_bx_draw (fu : Nat) : Us → RF := runT 2 6 (s_bx_draw fu)
def b_bx_low_1 (fu : Nat) : S := sPar 2 3 (mCons (mVar 3) (mCons (mBin fMod (mVar 2) (mVar 3)) (mNil)))
def s_bx_low (fu : Nat) : S := sSeq (sSet 2 (mDs fAbs (mCons (mVar 0) (mNil)))) (sSeq (sSet 3 (mVar 1)) (sSeq (loopW (mTru (mBin fNe (mVar 3) (mC (.int 0)))) (b_bx_low_1 fu) fu) (sRet (mDs dTup (mCons (mBin fFdv (mVar 0) (mVar 2)) (mCons (mBin fFdv (mVar 1) (mVar 2)) (mNil)))))))
def f_bx_low (fu : Nat) : List MI.D → R MI.D := run 2 4 (s_bx_low fu)
def s_p_widest_of (fu : Nat) : S := sRet (mBin fMul (mC (.int 6)) (mDf fMaxDf (mL (nLc (mItems (mVar 0)) [1] (vN 1) (mYes) (mDs fLen (mCons (mVar 1) (mNil))))) (mC (.int 0))))
def f_p_widest_of (fu : Nat) : List MI.D → R MI.D := run 1 2 (s_p_widest_of fu)
def s_p_with_ticks (fu : Nat) : ST := tRet (xTs (xCons (xP (mVar 0)) (xCons (xLc (xiP (mRng fZip (mCons (mVar 1) (mCons (mVar 2) (mNil))))) [3, 4] (uT (usCons (uV 3) (usCons (uV 4) (usNil)))) (xYes) (xP (mDs dTup (mCons (mCall 1 (Pg.f_p_rounded fu) [] (mCons (mCall 2 (Pg.f_p_place_on fu) [] (mCons (mVar 0) (mCons (mVar 3) (mNil)))) (mNil))) (mCons (mVar 4) (mNil)))))) (xNil))))
def f_p_with_ticks (fu : Nat) : Us → RF := runT 3 5 (s_p_with_ticks fu)
def b_ax_is_axis_1 (fu : Nat) : S := sIf (mOrT (mNot (mTru (mIsi "tuple" (mVar 2)))) (mOrT (mTru (mIsi "bool" (mBin fIx (mVar 2) (mC (.int 0))))) (mNot (mTru (mIsi "int" (mBin fIx (mVar 2) (mC (.int 0)))))))) (sRet (mC (.bool false))) (sNop)
def s_ax_is_axis (fu : Nat) : S := sSeq (sIf (mTru (mBin fIs (mVar 1) (mC .none))) (sRet (mBin fEq (mVar 0) (mC (.str "none")))) (sNop)) (sSeq (sIf (mOrT (mNot (mTru (mIsi "tuple" (mVar 0)))) (mOrT (mTru (mBin fNe (mDs fLen (mCons (mVar 0) (mNil))) (mC (.int 2)))) (mOrT (mTru (mBin fNe (mVar 0) (mVar 1))) (mNot (mTru (mIsi "list" (mBin fIx (mVar 0) (mC (.int 1))))))))) (sRet (mC (.bool false))) (sNop)) (sSeq (sFor (mItems (mBin fIx (mVar 0) (mC (.int 1)))) (gN 2) (b_ax_is_axis_1 fu)) (sRet (mC (.bool true)))))
def f_ax_is_axis (fu : Nat) : List MI.D → R MI.D := run 2 3 (s_ax_is_axis fu)
def s_p_show_number (fu : Nat) : S := sSeq (sIf (mTru (mBin fEq (mBin fIx (mVar 0) (mC (.int 1))) (mC (.int 1)))) (sRet (mDs fStr (mCons (mBin fIx (mVar 0) (mC (.int 0))) (mNil)))) (sNop)) (sRet (mBin fAddL (mBin fAddL (mDs fStr (mCons (mBin fIx (mVar 0) (mC (.int 0))) (mNil))) (mC (.str "/"))) (mDs fStr (mCons (mBin fIx (mVar 0) (mC (.int 1))) (mNil)))))
def f_p_show_number (fu : Nat) : List MI.D → R MI.D := run 1 1 (s_p_show_number fu)
end Pg
set_option Elab.async false
set_option linter.all false
set_option maxRecDepth 100000
set_option maxHeartbeats 4000000
namespace MI
open PySem PySem.Spec PyProof.Rows L2
section
end
end MI
set_option Elab.async false
set_option linter.all false
set_option maxRecDepth 100000
set_option maxHeartbeats 4000000
namespace MI
open PySem PySem.Spec PyProof.Rows L2
/-- the zip at z, i items given out, the last one kept -/
def ZSt (q z TI TO i1 i2 a b : Addr) (i : Nat) (h : Heap) : Prop := IsPair h TI (.ref i1) (.ref i2) ∧ h.IsListIter i1 a i ∧ h.IsListIter i2 b i ∧
  ((IsZip h z TI TO .none ∧ ∃ x y, IsPair h TO x y) ∨ ∃ T f oT, PySem.IsZipHeld h z TI TO T f ∧ h.get? T = some oT ∧ T ≠ z ∧ T ≠ i1 ∧ T ≠ i2 ∧ T ≠ q)
structure ZQ (q z TI TO i1 i2 : Addr) : Prop where
  z : z ≠ q
  ti : TI ≠ q
  to : TO ≠ q
  a : i1 ≠ q
  b : i2 ≠ q
theorem ZSt.keep {q z TI TO i1 i2 a b : Addr} {i : Nat} {h h' : Heap} (n : ZQ q z TI TO i1 i2) (st : ZSt q z TI TO i1 i2 a b i h) (k : ∀ c o, c ≠ q → h.get? c = some o → h'.get? c = some o) : ZSt q z TI TO i1 i2 a b i h' := by
  obtain ⟨h1, h2, h3, h4⟩ := st
  refine ⟨k _ _ n.ti h1, h2.at fun o e => k _ o n.a e, h3.at fun o e => k _ o n.b e, ?_⟩
  rcases h4 with ⟨hz, x, y, ho⟩ | ⟨T, f, oT, hz, hT, r1, r2, r3, r4⟩
  · exact .inl ⟨k _ _ n.z hz, x, y, k _ _ n.to ho⟩
  · exact .inr ⟨T, f, oT, k _ _ n.z hz, k _ _ r4 hT, r1, r2, r3, r4⟩
theorem zip_nolen : typeLookup (.type "zip") "__len__" = pure none := by rw [typeLookup_type, builtinLookup_eq_fast]; kernel_rfl
theorem zip_nohint : typeLookup (.type "zip") "__length_hint__" = pure none := by rw [typeLookup_type, builtinLookup_eq_fast]; kernel_rfl
section
variable {X : Cx} {pins : List (Addr × Obj)} {σ : L2.St} {q z TI TO i1 i2 a b : Addr} {xs ys : List V} {n : Nat} {P : Nat → List V → Hp → Prop} {Rs : Result → Shared → Prop} {A1 : Around}
theorem zip_loop (hA : A1.in1.handled = none) (D : ZipApart z TI TO i1 i2 a b) (N : ZQ q z TI TO i1 i2) (hn : n = min xs.length ys.length) (hs : n < sizeLine)
    (hP : ∀ i acc H, P i acc H → SqL X.K H a xs ∧ SqL X.K H b ys ∧ H q = some (.lst acc) ∧ acc.length = i)
    (hstep : ∀ i acc H x y T, i < n → P i acc H → xs[i]? = some x → ys[i]? = some y → H T = none → P (i + 1) (acc ++ [.ref T]) (upd (upd H T (.tup [x, y])) q (.lst (acc ++ [.ref T]))))
    (hdone : ∀ acc H s, Inv X pins σ H s → P n acc H → Rs (.ok (.ret .none)) s) :
    ∀ (k i : Nat) (acc : List V) (H : Hp) (s : Shared), n - i = k → i ≤ n → Inv X pins σ H s → P i acc H → ZSt q z TI TO i1 i2 a b i s.heap → (∀ c ∈ [z, TI, TO, i1, i2], FpOk X pins H c ∧ c < s.heap.objs.size) →
      codeAny (model X.prog X.w) A1 (.builtin "list.extend.loop" ⟨[.ref q, .ref z, .none], []⟩) Rs s := by
  intro k
  induction k with
  | zero =>
    intro i acc H s hk hi I p st hf
    have hin : i = n := by omega
    subst hin
    obtain ⟨qx, qy, hq, hl⟩ := hP _ _ _ p
    obtain ⟨its, rv, p1, _⟩ := I.list qx
    obtain ⟨its2, rv2, p2, _⟩ := I.list qy
    have l1 := rv.length
    have l2 := rv2.length
    have he : its.toArray[i]? = none ∨ its2.toArray[i]? = none := by
      rcases Nat.le_total xs.length ys.length with h | h
      · exact .inl (by simp; omega)
      · exact .inr (by simp; omega)
    refine codeAny_builtin PySem.F.entry_extend_loop ?_
    rw [Around.under_plainId PySem.F.plain_extend_loop _]
    show wpAny _ A1.in1 (pyNext (.ref z) >>= _) _ _ s
    obtain ⟨hTI, h1, h2, h4⟩ := st
    have fin : ∀ h' : Heap, (∀ c o, c ≠ z → c ≠ TO → c ≠ i1 → c ≠ i2 → s.heap.get? c = some o → h'.get? c = some o) → Rs (.ok (.ret .none)) { s with heap := h' } := fun h' hk => by
      refine hdone acc H _ (I.turnedL (t' := s.toks) (ch := [z, TI, TO, i1, i2]) (fun c o hb q' => hk c o (fun x => hb (by simp [x])) (fun x => hb (by simp [x])) (fun x => hb (by simp [x])) (fun x => hb (by simp [x])) q') fun c hc => (hf c hc).1) p
    rcases h4 with ⟨hz, x, y, hTO⟩ | ⟨T, f, oT, hz, hT, r1, r2, r3, r4⟩
    · refine wpAny_bind (wpAny_pyNext_zip_end hA D hz hTI hTO h1 h2 p1.isList p2.isList he fun h' hk => ?_)
      exact wpAny_pure (fin h' hk)
    · refine wpAny_bind (wpAny_pyNext_zip_end_held hA D hz hT hTI h1 h2 p1.isList p2.isList he fun h' hk => ?_)
      exact wpAny_pure (fin h' fun c o c1 c2 c3 c4 e => hk c o c1 c3 c4 e)
  | succ k ih =>
    intro i acc H s hk hi I p st hf
    have hlt : i < n := by omega
    obtain ⟨qx, qy, hq, hl⟩ := hP _ _ _ p
    obtain ⟨its, rv, p1, _⟩ := I.list qx
    obtain ⟨its2, rv2, p2, _⟩ := I.list qy
    have hx : xs[i]? = some xs[i] := List.getElem?_eq_getElem (by omega)
    have hy : ys[i]? = some ys[i] := List.getElem?_eq_getElem (by omega)
    obtain ⟨u, hu, ru⟩ := rv.get hx
    obtain ⟨u2, hu2, ru2⟩ := rv2.get hy
    generalize xs[i] = x at *
    generalize ys[i] = y at *
    refine codeAny_builtin PySem.F.entry_extend_loop ?_
    rw [Around.under_plainId PySem.F.plain_extend_loop _]
    show wpAny _ A1.in1 (pyNext (.ref z) >>= _) _ _ s
    obtain ⟨hTI, h1, h2, h4⟩ := st
    obtain ⟨qo, qe⟩ : ∃ o, s.heap.get? q = some o := by
      obtain ⟨_, its, k, _, _, e⟩ := I.lstM hq
      exact ⟨_, e⟩
    have qlt : s.heap.objs.size ≠ q := Nat.ne_of_gt (Heap.lt_size qe)
    have lt : ∀ {c o}, s.heap.get? c = some o → s.heap.objs.size ≠ c := fun e => Nat.ne_of_gt (Heap.lt_size e)
    have n1 : s.heap.objs.size ≠ i1 := let ⟨_, e, _⟩ := h1; lt e
    have n2 : s.heap.objs.size ≠ i2 := let ⟨_, e, _⟩ := h2; lt e
    have hTn : H s.heap.objs.size = none := I.hok.fresh (Nat.le_refl _)
    have go : ∀ h' : Heap, ZSt q z TI TO i1 i2 a b (i + 1) h' → IsPair h' s.heap.objs.size u u2 → h'.objs.size = s.heap.objs.size + 1 → (∀ c o, c ≠ z → c ≠ TO → c ≠ i1 → c ≠ i2 → s.heap.get? c = some o → h'.get? c = some o) →
        wpAny (model X.prog X.w) A1.in1 (updateSeq q (·.push (.ref s.heap.objs.size)) >>= fun _ => pure (Fin.again (.builtin "list.extend.loop" ⟨[.ref q, .ref z, .none], []⟩))) (fun fin s' => match fin with | .done f => Rs (.ok f) s' | .again c' => c'.quiet = true ∧ codeAny (model X.prog X.w) A1 c' Rs s') (fun e s' => Rs (.error e) s') { s with heap := h' } := fun h' st' hT hsz hk => by
      have new : ObjOk X.prog X.w (upd H s.heap.objs.size (.tup [x, y])) h' s.heap.objs.size (.tup [x, y]) :=
        ⟨by show 2 ≤ sizeLine; decide, [u, u2], .cons ru (.cons ru2 .nil), ⟨_, hT, rfl, _, rfl⟩⟩
      have I1 : Inv X pins σ (upd H s.heap.objs.size (.tup [x, y])) { s with heap := h' } :=
        I.turnedNew (t' := s.toks) (ch := [z, TI, TO, i1, i2]) (fun c o hb q' => hk c o (fun x => hb (by simp [x])) (fun x => hb (by simp [x])) (fun x => hb (by simp [x])) (fun x => hb (by simp [x])) q') (fun c hc => (hf c hc).1) (Nat.le_refl _) new
      have hq1 : upd H s.heap.objs.size (.tup [x, y]) q = some (.lst acc) := by rw [upd_ne (Ne.symm qlt)]; exact hq
      obtain ⟨_, its3, k3, r3, _, e3⟩ := I1.lstM hq1
      have l3 := r3.length
      refine wpAny_bind (wpAny_updateSeq e3 rfl (wpAny_pure ⟨plainId_quiet PySem.F.plain_extend_loop _, ?_⟩) (by rw [List.size_toArray]; omega) (by show (its3.toArray.push _).size ≤ sizeLine + 1; rw [Array.size_push, List.size_toArray]; omega))
      refine ih (i + 1) (acc ++ [.ref s.heap.objs.size]) _ _ (by omega) hlt (I1.lset (its' := its3 ++ [.ref s.heap.objs.size]) (t' := s.toks) hq1 e3 (by simp) (r3.append (show Vals [V.ref s.heap.objs.size] [Value.ref s.heap.objs.size] from .cons rfl .nil)) (by rw [List.length_append, List.length_singleton]; omega)) (hstep i acc H x y _ hlt p hx hy hTn) (st'.keep N fun c o hc e => (Heap.get?_update_other _ _ (Ne.symm hc)).trans e) fun c hc => ?_
      obtain ⟨f, fl⟩ := hf c hc
      have f1 : H c = none := f.1
      have cq : c ≠ q := fun e => by
        rw [e] at f1
        rw [f1] at hq
        cases hq
      refine ⟨⟨by rw [upd_ne cq, upd_ne (Nat.ne_of_lt fl)]; exact f1, f.2⟩, ?_⟩
      show c < (h'.update q _).objs.size
      rw [Heap.size_update, hsz]
      exact Nat.lt_succ_of_lt fl
    rcases h4 with ⟨hz, x0, y0, hTO⟩ | ⟨T, f, oT, hz, hT, r1, r2, r3, r4⟩
    · refine wpAny_bind (wpAny_pyNext_zip_item D hz hTI hTO h1 h2 p1.isList p2.isList (x := u) (y := u2) (by simpa using hu) (by simpa using hu2) fun h' a1 a2 a3 a4 a5 a6 hk => ?_)
      exact go h' ⟨hk _ _ D.TIz D.TITO D.TIi1 D.TIi2 hTI, a3, a4, .inr ⟨s.heap.objs.size, false, _, a1, a5, lt hz, n1, n2, qlt⟩⟩ a5 a6 hk
    · refine wpAny_bind (wpAny_pyNext_zip_item_held D hz hT hTI h1 h2 p1.isList p2.isList (x := u) (y := u2) (by simpa using hu) (by simpa using hu2) fun h' a1 a3 a4 a5 a6 hk => ?_)
      exact go h' ⟨hk _ _ D.TIz D.TIi1 D.TIi2 hTI, a3, a4, .inr ⟨T, true, oT, a1, hk _ _ r1 r2 r3 hT, r1, r2, r3, r4⟩⟩ a5 a6 fun c o c1 c2 c3 c4 e => hk c o c1 c3 c4 e
theorem zip_extend (hA : A1.in1.handled = none) (D : ZipApart z TI TO i1 i2 a b) (N : ZQ q z TI TO i1 i2) (hn : n = min xs.length ys.length) (hs : n < sizeLine)
    (hP : ∀ i acc H, P i acc H → SqL X.K H a xs ∧ SqL X.K H b ys ∧ H q = some (.lst acc) ∧ acc.length = i)
    (hstep : ∀ i acc H x y T, i < n → P i acc H → xs[i]? = some x → ys[i]? = some y → H T = none → P (i + 1) (acc ++ [.ref T]) (upd (upd H T (.tup [x, y])) q (.lst (acc ++ [.ref T]))))
    (hdone : ∀ acc H s, Inv X pins σ H s → P n acc H → Rs (.ok (.ret .none)) s) {H : Hp} {s : Shared} (I : Inv X pins σ H s) (p : P 0 [] H) {x0 y0 : Value} (hz : IsZip s.heap z TI TO .none) (hTI : IsPair s.heap TI (.ref i1) (.ref i2)) (hTO : IsPair s.heap TO x0 y0) (h1 : s.heap.IsListIter i1 a 0) (h2 : s.heap.IsListIter i2 b 0)
    (hf : ∀ c ∈ [z, TI, TO, i1, i2], FpOk X pins H c ∧ c < s.heap.objs.size) :
    wpAny (model X.prog X.w) A1.in1 (Builtin.List.listExtendWith (.ref q) (.ref z) .none)
      (fun fin s' => match fin with | .done f => Rs (.ok f) s' | .again c' => c'.quiet = true ∧ codeAny (model X.prog X.w) A1 c' Rs s') (fun e s' => Rs (.error e) s') s := by
  obtain ⟨qx, qy, hq, hl⟩ := hP _ _ _ p
  have hT : s.TypeIs (.ref z) "zip" := ⟨_, hz, rfl⟩
  unfold Builtin.List.listExtendWith
  refine wpAny_bind (wpAny_typeOf hT ?_)
  have h1' : Builtin.List.listSameRef (.ref q) (.ref z) = false := by simp [Builtin.List.listSameRef, Ne.symm N.z]
  have h2' : (Value.type "zip" == Value.type "list") = false := by decide
  have h3' : (Value.type "zip" == Value.type "tuple") = false := by decide
  simp only [h1', h2', h3', Bool.or_false, Bool.false_eq_true, if_false]
  refine wpAny_bind (wpAny_pyIter_zip hz ?_)
  refine wpAny_bind (wpAny_holding ?_)
  unfold Builtin.List.listLengthHint
  refine wpAny_bind (wpAny_specialOf hT zip_nolen ?_)
  show wpAny _ _ (specialOf (Value.ref z) (Str.ofString "__length_hint__") >>= _) _ _ _
  refine wpAny_bind (wpAny_specialOf hT zip_nohint ?_)
  refine wpAny_pure ?_
  show wpAny _ _ (rule "list.extend.makes-room" >>= fun _ => Builtin.List.listTouch (.ref q) >>= fun _ =>
    pure (Fin.again (.builtin "list.extend.loop" ⟨[.ref q, .ref z, .none], []⟩))) _ _ _
  refine wpAny_bind (wpAny_rule ?_)
  obtain ⟨_, its, k, r3, hl3, e3⟩ := I.lstM hq
  cases r3
  refine wpAny_bind ?_
  show wpAny _ _ (updateSeq q (·.push .none) >>= fun _ => updateSeq q (·.pop)) _ _ _
  refine wpAny_bind (wpAny_updateSeq e3 rfl ?_)
  have I2 := I.lset (f := (·.push Value.none)) (its' := [Value.none]) (ys := [.non]) (t' := s.toks) hq e3 (by simp) (.cons rfl .nil) (by rw [List.length_singleton, sizeLine_eq]; decide)
  obtain ⟨_, its4, k4, r4, hl4, e4⟩ := I2.lstM upd_same
  obtain ⟨u4, rfl, ru4⟩ := r4.one
  refine wpAny_updateSeq e4 rfl ?_ (by show 1 ≤ sizeLine; rw [sizeLine_eq]; decide) (by show 0 ≤ sizeLine + 1; exact Nat.zero_le _)
  have I3 := I2.lset (f := (·.pop)) (its := [u4]) (its' := []) (ys := []) (t' := s.toks) upd_same e4 (by rfl) .nil (Nat.zero_le _)
  rw [upd_upd] at I3
  have hH : upd H q (.lst []) = H := by
    funext b
    by_cases hb : b = q
    · rw [hb, upd_same, hq]
    · rw [upd_ne hb]
  rw [hH] at I3
  refine wpAny_pure ⟨plainId_quiet PySem.F.plain_extend_loop _, zip_loop hA D N hn hs hP hstep hdone (n - 0) 0 [] H _ rfl (Nat.zero_le _) I3 p ?_ fun c hc => ⟨(hf c hc).1, ?_⟩⟩
  · have st : ZSt q z TI TO i1 i2 a b 0 s.heap := ⟨hTI, h1, h2, .inl ⟨hz, x0, y0, hTO⟩⟩
    exact st.keep N fun c o hc e => (Heap.get?_update_other _ _ (Ne.symm hc)).trans ((Heap.get?_update_other _ _ (Ne.symm hc)).trans e)
  · show c < ((s.heap.update q _).update q _).objs.size
    rw [Heap.size_update, Heap.size_update]
    exact (hf c hc).2
end
/-- list(zip(e, e2)): P i acc H holds when the list at q holds acc, i pairs -/
def tLZ (K : PySem.W.Frag) (ta : TA) : TE := fun σ H Q => ta σ H fun vs H1 => ∃ a b xs ys, vs = [.ref a, .ref b] ∧ SqL K H1 a xs ∧ SqL K H1 b ys ∧ min xs.length ys.length < sizeLine ∧ ∀ q, H1 q = none → ∃ P : Nat → List V → Hp → Prop,
  P 0 [] (upd H1 q (.lst [])) ∧ (∀ i acc H, P i acc H → SqL K H a xs ∧ SqL K H b ys ∧ H q = some (.lst acc) ∧ acc.length = i) ∧
  (∀ i acc H x y T, i < min xs.length ys.length → P i acc H → xs[i]? = some x → ys[i]? = some y → H T = none → P (i + 1) (acc ++ [.ref T]) (upd (upd H T (.tup [x, y])) q (.lst (acc ++ [.ref T])))) ∧
  ∀ acc H, P (min xs.length ys.length) acc H → Q (.ref q) H
theorem pe_listzip {X : Cx} {e e2 : Expr} {ta : TA} {p1 p2 p3 p4 : Pos} (hc : X.calm = true) (hmL : X.mg "list" = none) (hmZ : X.mg "zip" = none) (ha : PA X [e, e2] ta) (hgL : Gl X "list" := by rfl) (hgZ : Gl X "zip" := by rfl)
    (hs : starEach [e, e2] X.env = (false, eval e X.env) :: starEach [e2] X.env := by rfl) (hpl : (backTo p3 (starEach [e2] X.env)).any (·.1) = false := by rfl)
    (hs2 : starEach [.Call (.Name "zip" p2) [e, e2] [] p3] X.env = (false, eval (.Call (.Name "zip" p2) [e, e2] [] p3) X.env) :: starEach [] X.env := by rfl) (hpl2 : (backTo p4 (starEach [] X.env)).any (·.1) = false := by rfl) :
    PE X (.Call (.Name "list" p1) [.Call (.Name "zip" p2) [e, e2] [] p3] [] p4) (tLZ X.K ta) := by
  refine ⟨fun pins s σ H Q I h => ?_⟩
  refine Call_ (ld_blt I hgL hmL PyProof.Rows.boot_list (PyProof.Rows.callWith_type1 ?_ hs2 hpl2))
  rw [hs2]
  refine Calls.spliced_cons ?_
  refine Call_ (ld_blt I hgZ hmZ PyProof.Rows.boot_zip (PyProof.Rows.callWith_type1 (thn (ha.run p3 pins s σ H _ I h) fun us s1 ⟨vs, H1, I1, r1, q1⟩ => ?_) hs hpl))
  obtain ⟨a, b, xs, ys, ex, hqx, hqy, hsz, hq⟩ := q1
  subst ex
  cases r1 with
  | cons r rr =>
    cases rr with
    | cons r' rr =>
      cases rr
      cases r
      cases r'
      obtain ⟨its, rv, p1, _⟩ := I1.list hqx
      obtain ⟨its2, rv2, p2, _⟩ := I1.list hqy
      have D := PySem.W.ktu_apart s1.heap.objs.size a b p1.lt p2.lt
      refine call_zip_2 p1.isList p2.isList fun h' hz hTI hTO h1 h2 hsz' hk => ?_
      have I2 : Inv X pins σ H1 { s1 with heap := h' } := I1.kept (t' := s1.toks) hk
      refine Calls.spliced_nil ?_
      have fr : H1 h'.objs.size = none := I2.hok.fresh (Nat.le_refl _)
      have fp : ∀ c ∈ [s1.heap.objs.size + 4, s1.heap.objs.size + 2, s1.heap.objs.size + 3, s1.heap.objs.size, s1.heap.objs.size + 1], H1 c = none ∧ s1.heap.objs.size ≤ c ∧ c < h'.objs.size := fun c hcm => by
        have e' : c = s1.heap.objs.size + 4 ∨ c = s1.heap.objs.size + 2 ∨ c = s1.heap.objs.size + 3 ∨ c = s1.heap.objs.size ∨ c = s1.heap.objs.size + 1 := by simpa using hcm
        have hle : s1.heap.objs.size ≤ c := by omega
        exact ⟨I1.hok.fresh (hle), hle, by omega⟩
      refine callType_codes (Q₁ := fun obj s₁ => obj = .ref h'.objs.size ∧ s₁ = { s1 with heap := h'.push { cls := .type "list", data := .seq #[] } }) PySem.F.called_list (PySem.F.typeCall_list_1 _) PySem.F.entry_list_init
        (code_list_new _ ⟨rfl, rfl⟩) fun obj s₁ h₁ => ?_
      obtain ⟨rfl, rfl⟩ := h₁
      have hSg : (h'.push { cls := .type "list", data := .seq #[] }).get? h'.objs.size = some { cls := .type "list", data := .seq #[] } := Heap.get?_push_size _ rfl
      refine ⟨⟨_, hSg, rfl⟩, PySem.F.args_list_init_2 _ _, ?_⟩
      obtain ⟨P, hP0, hP, hst, hdn⟩ := hq _ fr
      have I3 : Inv X pins σ (upd H1 h'.objs.size (.lst [])) { s1 with heap := h'.push { cls := .type "list", data := .seq #[] } } := I2.lnew (its := []) (t' := s1.toks) .nil (Nat.zero_le _)
      show wpAny _ _ (do let old ← Builtin.List.listItems (.ref h'.objs.size); Builtin.List.listUpdate (.ref h'.objs.size) (fun _ => #[]); letGo old.toList.reverse; Builtin.List.listExtendWith (.ref h'.objs.size) (.ref (s1.heap.objs.size + 4)) .none) _ _ _
      refine wpAny_bind ?_
      unfold Builtin.List.listItems
      refine wpAny_bind (wpAny_seqItems hSg rfl (wpAny_pure ?_))
      show wpAny _ _ (updateSeq h'.objs.size (fun _ => #[]) >>= fun _ => letGo (#[] : Array Value).toList.reverse >>= fun _ => Builtin.List.listExtendWith (.ref h'.objs.size) (.ref (s1.heap.objs.size + 4)) .none) _ _ _
      refine wpAny_bind (wpAny_updateSeq hSg rfl ?_)
      have I4 := I3.lset (f := fun _ => #[]) (its := []) (its' := []) (ys := []) (t' := s1.toks) upd_same hSg rfl .nil (Nat.zero_le _)
      rw [upd_upd] at I4
      refine wpAny_bind (wpAny_letGo ?_)
      have up : ∀ c o, h'.get? c = some o → ((h'.push { cls := .type "list", data := .seq #[] }).update h'.objs.size (Obj.mapSeq fun _ => #[])).get? c = some o := fun c o e => (Heap.get?_update_other _ _ (Nat.ne_of_gt (Heap.lt_size e))).trans (Heap.get?_push_of_some _ e)
      refine zip_extend (A1 := X.A.in1) (P := P) (xs := xs) (ys := ys) (Rs := wants (fun r s₂ => r = .none ∧ EP X pins σ Q (.ref h'.objs.size) s₂) X.xe) (q := h'.objs.size) (z := s1.heap.objs.size + 4) (TI := s1.heap.objs.size + 2) (TO := s1.heap.objs.size + 3) (i1 := s1.heap.objs.size) (i2 := s1.heap.objs.size + 1) (a := a) (b := b) (I2.ok.hd hc) D ⟨Nat.ne_of_lt (fp _ (by simp)).2.2, Nat.ne_of_lt (fp _ (by simp)).2.2, Nat.ne_of_lt (fp _ (by simp)).2.2, Nat.ne_of_lt (fp _ (by simp)).2.2, Nat.ne_of_lt (fp _ (by simp)).2.2⟩ rfl hsz hP hst
        (fun acc H' s' I' hR => ⟨rfl, .ref h'.objs.size, H', I', rfl, hdn _ _ hR⟩) I4 hP0 (up _ _ hz) (up _ _ hTI) (up _ _ hTO) (h1.at fun o e => up _ o e) (h2.at fun o e => up _ o e) fun c hcm => ?_
      obtain ⟨f1, f2, f3⟩ := fp c hcm
      have f := I1.fpOk (b := c) (H' := H1) (f2) f1
      refine ⟨⟨by rw [upd_ne (Nat.ne_of_lt f3)]; exact f1, f.2⟩, ?_⟩
      show c < (Heap.update _ _ _).objs.size
      rw [Heap.size_update, Heap.size_push]
      exact Nat.lt_succ_of_lt f3
def nLz (m : Vw → R (List D)) : Vw → R (List D) := fun δ => (m δ).bind fun ds => match ds with
  | [.list ds, .list es] => if ds.length < most then .ok (zipD ds es) else .bad
  | _ => .bad
theorem mn_lz {X : Cx} {W : WX} {e e2 : Expr} {m : Vw → R (List D)} {p1 p2 p3 p4 : Pos} (hc : X.calm = true) (hmL : X.mg "list" = none) (hmZ : X.mg "zip" = none) (ha : MA X W [e, e2] m) (hgL : Gl X "list" := by rfl) (hgZ : Gl X "zip" := by rfl)
    (hs : starEach [e, e2] X.env = (false, eval e X.env) :: starEach [e2] X.env := by rfl) (hpl : (backTo p3 (starEach [e2] X.env)).any (·.1) = false := by rfl)
    (hs2 : starEach [.Call (.Name "zip" p2) [e, e2] [] p3] X.env = (false, eval (.Call (.Name "zip" p2) [e, e2] [] p3) X.env) :: starEach [] X.env := by rfl) (hpl2 : (backTo p4 (starEach [] X.env)).any (·.1) = false := by rfl) :
    MN X W (.Call (.Name "list" p1) [.Call (.Name "zip" p2) [e, e2] [] p3] [] p4) (nLz m) := by
  refine PE.imp (pe_listzip hc hmL hmZ ha hgL hgZ hs hpl hs2 hpl2) fun σ H Q ⟨F, δ, s, v, h⟩ => ⟨F, δ, s, v, ?_⟩
  unfold nLz at h
  cases em : m δ with
  | exc c p => rw [em] at h; exact h
  | bad => rw [em] at h; exact h
  | ok dd =>
    rw [em, R.bind_ok] at h
    intro x F1 H1 E1 hx
    split at h
    · rename_i ds es
      split at h
      · rename_i lm
        cases hx with
        | cons hx1 hx2 =>
          cases hx2 with
          | cons hx2 hx3 =>
            cases hx3
            cases hx1 with
            | lst x1 x2 =>
              cases hx2 with
              | lst y1 y2 =>
                rename_i a xs b ys
                have lx := dpa_len x2
                have ly := dpa_len y2
                refine ⟨a, b, xs, ys, rfl, E1.s.seq x1, E1.s.seq y1, Nat.lt_of_le_of_lt (Nat.min_le_left ..) (by rw [lx]; exact Nat.lt_of_lt_of_le lm (Nat.le_of_eq most_eq)), fun q hq => ?_⟩
                refine ⟨fun i acc H' => ∃ F2, Same F1 F2 ∧ Same F2 H' ∧ Same H1 H' ∧ (∀ a o, F2 a = some o → F1 a = none → Lo (H1 a)) ∧ F2 q = none ∧ H' q = some (.lst acc) ∧ DpAll X.K F2 acc ((zipD ds es).take i) ∧ acc.length = i,
                  ⟨F1, Same.refl _, E1.s.trans (same_upd hq), same_upd hq, (fun a o e n => by rw [n] at e; cases e), E1.s.free hq, upd_same, .nil, rfl⟩, ?_, ?_, ?_⟩
                · rintro i acc H' ⟨F2, f, s2, h2, hn, hF2, hHD, hacc, hl⟩
                  exact ⟨h2.seq (E1.s.seq x1), h2.seq (E1.s.seq y1), hHD, hl⟩
                · rintro i acc H' x y T hi ⟨F2, f, s2, h2, hn, hF2, hHD, hacc, hl⟩ hx hy hT
                  have z1 : ∃ d, ds[i]? = some d ∧ Dp X.K F1 x d := by
                    have : i < ds.length := by omega
                    obtain ⟨v1, w1, w2⟩ := dpa_get x2 (List.getElem?_eq_getElem this)
                    rw [hx] at w1
                    cases w1
                    exact ⟨_, List.getElem?_eq_getElem this, w2⟩
                  have z2 : ∃ d, es[i]? = some d ∧ Dp X.K F1 y d := by
                    have : i < es.length := by omega
                    obtain ⟨v1, w1, w2⟩ := dpa_get y2 (List.getElem?_eq_getElem this)
                    rw [hy] at w1
                    cases w1
                    exact ⟨_, List.getElem?_eq_getElem this, w2⟩
                  obtain ⟨d1, e1, w1⟩ := z1
                  obtain ⟨d2, e2, w2⟩ := z2
                  have E := Ext.new (o := .tup [x, y]) s2 hT
                  have Tq : q ≠ T := fun z => by rw [z, hT] at hHD; cases hHD
                  have et : (zipD ds es).take (i + 1) = (zipD ds es).take i ++ [.tuple [d1, d2]] := by
                    rw [List.take_add_one]
                    have : (zipD ds es)[i]? = some (.tuple [d1, d2]) := by
                      unfold zipD
                      rw [List.getElem?_zipWith, e1, e2]
                    rw [this]
                    rfl
                  refine ⟨upd F2 T (.tup [x, y]), f.trans E.f, fun c o e => ?_, fun c o e => ?_, fun c o e n => ?_, ?_, upd_same, ?_, by rw [List.length_append, List.length_singleton, hl]⟩
                  · have : c ≠ q := fun z => by
                      rw [z, upd_ne Tq, hF2] at e
                      cases e
                    rw [upd_ne this]
                    exact E.s c o e
                  · have : c ≠ q := fun z => by
                      rw [z, hq] at e
                      cases e
                    rw [upd_ne this]
                    exact E.h c o (h2 c o e)
                  · cases w : F2 c with
                    | some u => exact hn c u w n
                    | none => exact h2.lo (E.n c o e w)
                  · rw [upd_ne Tq]
                    exact hF2
                  · rw [et]
                    exact dpa_append (dpa_mono E.f _ hacc) (.cons (.tup (SqT.of upd_same) (.cons (dp_mono' (f.trans E.f) w1) (.cons (dp_mono' (f.trans E.f) w2) .nil))) .nil)
                · rintro acc H' ⟨F2, f, s2, h2, hn, hF2, hHD, hacc, hl⟩
                  rw [lx, ly, ← zipD_len, List.take_length] at hacc
                  exact h q acc F2 H' (E1.trans ⟨f, h2, s2, hn⟩) (E1.h.free hq) hF2 hHD hacc
      · exact h.elim
    · exact h.elim
end MI
set_option Elab.async false
set_option linter.all false
set_option maxRecDepth 100000
set_option maxHeartbeats 4000000
namespace MI
open PySem PySem.Spec PyProof.Rows L2
/-- pairs of the tuple at a and the list at b -/
def ItzM (K : PySem.W.Frag) (a b : Addr) : It where
  go i H := ∃ (xs ys : List V) (x y : V), SqT K H a xs ∧ SqL K H b ys ∧ xs[i]? = some x ∧ ys[i]? = some y
  yld i H v H' := ∃ T x y, v = .ref T ∧ H T = none ∧ H' = upd H T (.tup [x, y]) ∧ (∀ xs, SqT K H a xs → xs[i]? = some x) ∧ ∀ ys, SqL K H b ys → ys[i]? = some y
  stop i H := ∃ xs ys : List V, SqT K H a xs ∧ SqL K H b ys ∧ (xs.length ≤ i ∨ ys.length ≤ i)
structure ZM (z TI TO i1 i2 a b : Addr) : Prop where
  s : ZipSep2 z TI TO i1 i2 [i1, a] [i2, b]
  n1 : a ≠ i1
  n2 : b ≠ i2
def zmSt (z TI TO i1 i2 a b : Addr) (i : Nat) (h : Heap) : Prop := IsZip h z TI TO .none ∧ IsTupOf2 h TI (.ref i1) (.ref i2) ∧ (∃ x y, IsTupOf2 h TO x y) ∧ h.IsTupleIter i1 a i ∧ h.IsListIter i2 b i
theorem endT {prog : Program} {w : World} {A : Around} (hh : A.handled = none) (it t : Addr) (items : Array Value) {i : Nat} (l : items.size ≤ i) : Draws prog w A it [it, t] i (fun _ _ => True) (fun j h => (h.IsTupleIter it t j ∧ h.IsTuple t items) ∧ j = i) where
  live := fun _ _ st => let ⟨o, ho, _⟩ := st.1.1; ⟨o, ho⟩
  frame := fun _ _ _ st hk => ⟨⟨st.1.1.at fun o e => hk it (by simp) o e, st.1.2.at fun o e => hk t (by simp) o e⟩, st.2⟩
  item := fun j s Q E hi st hQ => absurd st.2 (Nat.ne_of_lt hi)
  done := fun s Q E st hE => wpAny_nextOf_tuple_end hh st.1.1 st.1.2 (Array.getElem?_eq_none l) hE
theorem endL {prog : Program} {w : World} {A : Around} (hh : A.handled = none) (it t : Addr) (items : Array Value) {i : Nat} (l : items.size ≤ i) : Draws prog w A it [it, t] i (fun _ _ => True) (fun j h => (h.IsListIter it t j ∧ h.IsList t items) ∧ j = i) where
  live := fun _ _ st => let ⟨o, ho, _⟩ := st.1.1; ⟨o, ho⟩
  frame := fun _ _ _ st hk => ⟨⟨st.1.1.at fun o e => hk it (by simp) o e, st.1.2.at fun o e => hk t (by simp) o e⟩, st.2⟩
  item := fun j s Q E hi st hQ => absurd st.2 (Nat.ne_of_lt hi)
  done := fun s Q E st hE => wpAny_nextOf_list_end hh st.1.1 st.1.2 (Array.getElem?_eq_none l) hE
theorem turn_zipM {P : Program} {w : World} {K : PySem.W.Frag} {elts : List Expr} {kk : Nat} {tpos : Pos} {a b z TI TO i1 i2 : Addr} (D : ZM z TI TO i1 i2 a b) : Turn P w K (.Tuple elts kk tpos) (ItzM K a b) [z, TI, TO, i1, i2] z (zmSt z TI TO i1 i2 a b) where
  mem := List.mem_cons_self ..
  obj := by
    rintro i h ⟨hz, hTI, ⟨x, y, hTO⟩, ⟨o1, e1, _, d1⟩, ⟨o2, e2, _, d2⟩⟩ c hc
    simp only [List.mem_cons, List.not_mem_nil, or_false] at hc
    rcases hc with rfl | rfl | rfl | rfl | rfl
    · exact ⟨_, hz, fun v q => nomatch q⟩
    · exact ⟨_, hTI, fun v q => nomatch q⟩
    · exact ⟨_, hTO, fun v q => nomatch q⟩
    · exact ⟨o1, e1, fun v q => by rw [d1] at q; cases q⟩
    · exact ⟨o2, e2, fun v q => by rw [d2] at q; cases q⟩
  keep := by
    rintro i h h' ⟨hz, hTI, ⟨x, y, hTO⟩, h1, h2⟩ k
    exact ⟨k z (by simp) _ hz, k TI (by simp) _ hTI, ⟨x, y, k TO (by simp) _ hTO⟩, h1.at fun o q => k i1 (by simp) o q, h2.at fun o q => k i2 (by simp) o q⟩
  item := by
    intro X hP hw hK hc i pins s σ H E I hf st hg
    subst hP hw hK
    obtain ⟨hz, hTI, ⟨x0, y0, hTO⟩, h1, h2⟩ := st
    obtain ⟨xs, ys, x, y, hqx, hqy, hx, hy⟩ := hg
    obtain ⟨its, rv, p, _⟩ := I.tuple hqx
    obtain ⟨its2, rv2, p2, _⟩ := I.list hqy
    obtain ⟨u, hu, ru⟩ := rv.get hx
    obtain ⟨u2, hu2, ru2⟩ := rv2.get hy
    have hA : X.A.in1.handled = none := I.ok.hd hc
    have lt1 : i < its.toArray.size := by
      have := (List.getElem?_eq_some_iff.mp hu).1
      simpa using this
    have lt2 : i < its2.toArray.size := by
      have := (List.getElem?_eq_some_iff.mp hu2).1
      simpa using this
    refine wpAny_pyNext_zipD2_item D.s (Draws.tuple hA i1 a D.n1 its.toArray) (Draws.list hA i2 b D.n2 its2.toArray) hz hTI hTO ⟨h1, p⟩ ⟨h2, p2.isList⟩ lt1 lt2 fun x1 x2 h' tk y1 y2 z' TO' st1' st2' hT hsz hk => ?_
    have e1 : u = x1 := by
      have : its.toArray[i]? = some u := by simpa using hu
      rw [this] at y1
      exact Option.some.inj y1
    have e2 : u2 = x2 := by
      have : its2.toArray[i]? = some u2 := by simpa using hu2
      rw [this] at y2
      exact Option.some.inj y2
    subst e1 e2
    obtain ⟨h1', _⟩ := st1'
    obtain ⟨h2', _⟩ := st2'
    refine ⟨_, rfl, wpAny_letOwnedTupleGo_zip (s := { s with heap := h', toks := tk }) z' fun h'' z'' sb => ?_⟩
    have zs : z < s.heap.objs.size := Heap.lt_size hz
    have hT2 := (sb.2 _ (Nat.ne_of_gt zs)).trans hT
    have new : ObjOk X.prog X.w (upd H s.heap.objs.size (.tup [x, y])) h'' s.heap.objs.size (.tup [x, y]) := ⟨(by decide : 2 ≤ sizeLine), [u, u2], .cons ru (.cons ru2 .nil), ⟨_, hT2, rfl, _, rfl⟩⟩
    have fr : ∀ c o, c ∉ [z, TI, TO, i1, i2] → s.heap.get? c = some o → h''.get? c = some o := fun c o hb q => by
      simp only [List.mem_cons, List.not_mem_nil, or_false, not_or] at hb
      exact (sb.2 c hb.1).trans (hk c o hb.1 hb.2.2.1 hb.2.2.2.1 hb.2.2.2.2 q)
    have I1 := I.turnedNew (t' := tk) (ch := [z, TI, TO, i1, i2]) fr hf (Nat.le_refl _) new
    refine ⟨.ref s.heap.objs.size, _, I1, rfl, ⟨_, x, y, rfl, I.hok.fresh (Nat.le_refl _), rfl, fun l hl => by rw [I.tuple_inj hl hqx]; exact hx, fun l hl => by rw [I.list_inj hl hqy]; exact hy⟩, ⟨z'', ?_, ⟨u, u2, ?_⟩, ?_, ?_⟩, fun c hcm => ?_⟩
    · exact (sb.2 _ D.s.TIz).trans (hk _ _ D.s.TIz D.s.TITO D.s.TIi1 D.s.TIi2 hTI)
    · exact (sb.2 _ D.s.TOz).trans TO'
    · exact h1'.at fun o q => (sb.2 _ D.s.zi1.symm).trans q
    · exact h2'.at fun o q => (sb.2 _ D.s.zi2.symm).trans q
    · have hlt : c < s.heap.objs.size := by
        simp only [List.mem_cons, List.not_mem_nil, or_false] at hcm
        obtain ⟨_, e1, _⟩ := h1
        obtain ⟨_, e2, _⟩ := h2
        rcases hcm with rfl | rfl | rfl | rfl | rfl
        · exact zs
        · exact Heap.lt_size hTI
        · exact Heap.lt_size hTO
        · exact Heap.lt_size e1
        · exact Heap.lt_size e2
      rw [upd_ne (Nat.ne_of_lt hlt)]
      exact (hf c hcm).1
  done := by
    intro X hP hw hK hc i pins s σ H E I hf st hg
    subst hP hw hK
    obtain ⟨hz, hTI, ⟨x0, y0, hTO⟩, h1, h2⟩ := st
    obtain ⟨xs, ys, hqx, hqy, hend⟩ := hg
    obtain ⟨its, rv, p, _⟩ := I.tuple hqx
    obtain ⟨its2, rv2, p2, _⟩ := I.list hqy
    have hA : X.A.in1.handled = none := I.ok.hd hc
    have l1 := rv.length
    have l2 := rv2.length
    have fin : ∀ (h' : Heap) (tk : Nat), (∀ c o, c ≠ z → c ≠ TO → c ≠ i1 → c ≠ i2 → s.heap.get? c = some o → h'.get? c = some o) → none = (none : Option Value) ∧ Inv X pins σ H { s with heap := h', toks := tk } := fun h' tk hk => ⟨rfl, I.turnedL (t' := tk) (ch := [z, TI, TO, i1, i2]) (fun c o hb q => by
      simp only [List.mem_cons, List.not_mem_nil, or_false, not_or] at hb
      exact hk c o hb.1 hb.2.2.1 hb.2.2.2.1 hb.2.2.2.2 q) hf⟩
    by_cases c1 : its.toArray.size ≤ i
    · by_cases c2 : its2.toArray.size ≤ i
      · exact wpAny_pyNext_zipD2_end D.s (endT hA i1 a its.toArray c1) (endL hA i2 b its2.toArray c2) hz hTI hTO ⟨⟨h1, p⟩, rfl⟩ ⟨⟨h2, p2.isList⟩, rfl⟩ (Nat.le_refl _) (Nat.le_refl _) (.inl rfl) fin
      · exact wpAny_pyNext_zipD2_end D.s (endT hA i1 a its.toArray c1) (Draws.list hA i2 b D.n2 its2.toArray) hz hTI hTO ⟨⟨h1, p⟩, rfl⟩ ⟨h2, p2.isList⟩ (Nat.le_refl _) (by omega) (.inl rfl) fin
    · have c2 : its2.toArray.size ≤ i := by
        rw [List.size_toArray] at *
        omega
      exact wpAny_pyNext_zipD2_end D.s (Draws.tuple hA i1 a D.n1 its.toArray) (endL hA i2 b its2.toArray c2) hz hTI hTO ⟨h1, p⟩ ⟨⟨h2, p2.isList⟩, rfl⟩ (by omega) (Nat.le_refl _) (.inr rfl) fin
  self := fun A i s Q E st h => wpAny_pyIter_zip st.1 h
theorem zm_nat {S a b : Nat} (la : a < S) (lb : b < S) : ZM (S + 4) (S + 2) (S + 3) S (S + 1) a b := by
  have m2 : ∀ {x y z : Nat}, x ≠ y → x ≠ z → x ∉ [y, z] := fun h k => by simp [h, k]
  exact ⟨⟨(by omega : (S + 2 : Nat) ≠ S + 4), (by omega : (S + 3 : Nat) ≠ S + 4), (by omega : (S + 2 : Nat) ≠ S + 3), (by omega : (S + 2 : Nat) ≠ S), List.mem_cons_self .., m2 (by omega : (S + 4 : Nat) ≠ S) (by omega : (S + 4 : Nat) ≠ a), m2 (by omega : (S + 3 : Nat) ≠ S) (by omega : (S + 3 : Nat) ≠ a), (by omega : (S + 2 : Nat) ≠ S + 1), List.mem_cons_self .., m2 (by omega : (S + 4 : Nat) ≠ S + 1) (by omega : (S + 4 : Nat) ≠ b), m2 (by omega : (S + 3 : Nat) ≠ S + 1) (by omega : (S + 3 : Nat) ≠ b), m2 (by omega : (S : Nat) ≠ S + 1) (by omega : (S : Nat) ≠ b), m2 (by omega : (S + 1 : Nat) ≠ S) (by omega : (S + 1 : Nat) ≠ a)⟩, (by omega : (a : Nat) ≠ S), (by omega : (b : Nat) ≠ S + 1)⟩
theorem le5 {S c : Nat} (h : c = S + 4 ∨ c = S + 2 ∨ c = S + 3 ∨ c = S ∨ c = S + 1) : S ≤ c := by omega
def iZipM (K : PySem.W.Frag) (ta : TA) : TI := fun σ H R => ta σ H fun vs H1 => ∃ a b xs ys, vs = [.ref a, .ref b] ∧ SqT K H1 a xs ∧ SqL K H1 b ys ∧ R (ItzM K a b) H1
theorem pi_zipM {X : Cx} {e e2 : Expr} {ta : TA} {p pos tpos : Pos} {elts : List Expr} {kk : Nat} (hg : Gl X "zip") (hm : X.mg "zip" = none) (ha : PA X [e, e2] ta)
    (hs : starEach [e, e2] X.env = (false, eval e X.env) :: starEach [e2] X.env := by rfl) (hpl : (backTo pos (starEach [e2] X.env)).any (·.1) = false := by rfl) : PI X (.Tuple elts kk tpos) (.Call (.Name "zip" p) [e, e2] [] pos) (iZipM X.K ta) := by
  refine ⟨fun pins s σ H R I h => Call_ (ld_blt I hg hm PyProof.Rows.boot_zip (PyProof.Rows.callWith_type1 (thn (ha.run pos pins s σ H _ I h) fun us s1 ⟨vs, H1, I1, r1, q1⟩ => ?_) hs hpl))⟩
  obtain ⟨a, b, xs, ys, ex, hqx, hqy, q⟩ := q1
  subst ex
  cases r1 with
  | cons r rr =>
    cases rr with
    | cons r' rr =>
      cases rr
      cases r
      cases r'
      obtain ⟨its, rv, p1, _⟩ := I1.tuple hqx
      obtain ⟨its2, rv2, p2, _⟩ := I1.list hqy
      obtain ⟨o1, e1, _⟩ := id p1
      have la : a < s1.heap.objs.size := Heap.lt_size e1
      have lb : b < s1.heap.objs.size := p2.lt
      refine zip_begins2 (begins_tuple a its.toArray) (begins_list b its2.toArray) p1 p2.isList fun h' hz hTI hTO h1 h2 hsz hk => wpAny_pyIter_zip hz ?_
      have I2 := I1.kept (t' := s1.toks) hk
      have D : ZM (s1.heap.objs.size + 4) (s1.heap.objs.size + 2) (s1.heap.objs.size + 3) s1.heap.objs.size (s1.heap.objs.size + 1) a b := zm_nat la lb
      refine ⟨s1.heap.objs.size + 4, [s1.heap.objs.size + 4, s1.heap.objs.size + 2, s1.heap.objs.size + 3, s1.heap.objs.size, s1.heap.objs.size + 1], _, _, H1, rfl, I2, turn_zipM D, ⟨hz, hTI, ⟨_, _, hTO⟩, ⟨_, h1, rfl, rfl⟩, ⟨_, h2, rfl, rfl⟩⟩, fun c hcm => ?_, q⟩
      have hle : s1.heap.objs.size ≤ c := by
        simp only [List.mem_cons, List.not_mem_nil, or_false] at hcm
        exact le5 hcm
      exact I1.fpOk hle (I1.hok.fresh hle)
def fZipM : List D → Option (List D)
  | [.tuple ds, .list es] => some (zipD ds es)
  | _ => none
theorem it_zipM {K : PySem.W.Frag} {F : Hp} {a b : Addr} {xs ys : List V} {ds es : List D} (hs : SqT K F a xs) (ht : SqL K F b ys) (ha : DpAll K F xs ds) (hb : DpAll K F ys es) : ItOk K F (ItzM K a b) (zipD ds es) := by
  refine ⟨fun i H d s e => ?_, fun i H s l => ⟨xs, ys, same_t s hs, s.seq ht, by rw [zipD_len] at l; rw [dpa_len ha, dpa_len hb]; omega⟩⟩
  obtain ⟨d1, d2, e1, e2, rfl⟩ := zipD_get e
  obtain ⟨v1, h1, h2⟩ := dpa_get ha e1
  obtain ⟨v2, h3, h4⟩ := dpa_get hb e2
  refine ⟨⟨xs, ys, v1, v2, same_t s hs, s.seq ht, h1, h3⟩, ?_⟩
  rintro x H' F2 f2 s2 ⟨T, x1, x2, rfl, hT, rfl, y1, y2⟩
  cases h1.symm.trans (y1 xs (same_t s hs))
  cases h3.symm.trans (y2 ys (s.seq ht))
  have E := Ext.new (o := .tup [v1, v2]) s2 hT
  exact ⟨_, E, .tup (SqT.of upd_same) (.cons (dp_mono' (f2.trans E.f) h2) (.cons (dp_mono' (f2.trans E.f) h4) .nil))⟩
theorem mi_zipM {X : Cx} {W : WX} {p pos tpos : Pos} {elts : List Expr} {kk : Nat} {e e2 : Expr} {m : Vw → R (List D)} (hm : X.mg "zip" = none) (ha : MA X W [e, e2] m) (hG : Gl X "zip" := by rfl) (hs : starEach [e, e2] X.env = (false, eval e X.env) :: starEach [e2] X.env := by rfl) (hpl : (backTo pos (starEach [e2] X.env)).any (·.1) = false := by rfl) :
    MIt X W (.Tuple elts kk tpos) (.Call (.Name "zip" p) [e, e2] [] pos) (mRng fZipM m) := by
  refine PI.imp (pi_zipM hG hm ha hs hpl) fun σ H Q ⟨F, δ, s, v, h⟩ => tA_bindI s v h fun ds xs F' H' ys E hx e q => ?_
  unfold fZipM at e
  split at e
  · cases e
    cases hx with
    | cons h1 h2 =>
      cases h2 with
      | cons h2 h3 =>
        cases h3
        cases h1 with
        | tup x1 x2 =>
          cases h2 with
          | lst y1 y2 => exact ⟨_, _, _, _, rfl, same_t E.s x1, E.s.seq y1, q _ (it_zipM x1 y1 x2 y2)⟩
  · cases e
end MI
noncomputable section
set_option Elab.async false
set_option linter.all false
set_option maxRecDepth 100000
set_option maxHeartbeats 4000000
namespace K28
open PySem MI
def s_p_numbers_axis (fu : Nat) : ST := tRet (xFn (Pg.f_p_with_ticks fu) 3 [] (rVal (xP (mVar 0)) (rVal (xP (mVar 1)) (rVal (xP (mL (nLc (mItems (mVar 1)) [2] (vN 2) (mYes) (mCall 1 (Pg.f_p_show_number fu) [] (mCons (mVar 2) (mNil)))))) (rNil)))))
def f_p_numbers_axis (fu : Nat) : Us → RF := runT 2 3 (s_p_numbers_axis fu)
def s_p_ends_of (fu : Nat) : S := (fun _ => .bad)
def f_p_ends_of (fu : Nat) : List MI.D → R MI.D := run 2 5 (s_p_ends_of fu)
def s_p_straight_axis (fu : Nat) : S := (fun _ => .bad)
def f_p_straight_axis (fu : Nat) : List MI.D → R MI.D := run 3 8 (s_p_straight_axis fu)
def s_p_turns_axis (fu : Nat) : S := (fun _ => .bad)
def f_p_turns_axis (fu : Nat) : List MI.D → R MI.D := run 4 13 (s_p_turns_axis fu)
def b_p_piece_lengths_1 (fu : Nat) : S := sSet 3 (mCall 2 (Pg.f_p_plus fu) [] (mCons (mVar 3) (mCons (mVar 4) (mNil))))
def s_p_piece_lengths (fu : Nat) : S := sSeq (sSet 2 (mL (nLc (mItems (mVar 0)) [6, 7] (vT (vsCons (vN 6) (vsCons (vN 7) (vsNil)))) (mYes) (mCall 2 (Pg.f_p_minus fu) [] (mCons (mVar 7) (mCons (mVar 6) (mNil))))))) (sSeq (sSet 3 (mDs dTup (mCons (mC (.int 0)) (mCons (mC (.int 1)) (mNil))))) (sSeq (sFor (mItems (mVar 2)) (gN 4) (b_p_piece_lengths_1 fu)) (sSeq (sSet 5 (mL (nLc (mItems (mSl (mVar 2) (mNoPart) (mPart (mUn fNeg (mC (.int 1)))))) [4] (vN 4) (mYes) (mCall 1 (Pg.f_p_floor_of fu) [] (mCons (mCall 2 (Pg.f_p_over fu) [] (mCons (mCall 2 (Pg.f_p_times fu) [] (mCons (mVar 4) (mCons (mDs dTup (mCons (mVar 1) (mCons (mC (.int 1)) (mNil)))) (mNil)))) (mCons (mVar 3) (mNil)))) (mNil)))))) (sRet (mBin fAddL (mVar 5) (mDs dLst (mCons (mBin fSub (mVar 1) (mDs fSum (mCons (mVar 5) (mNil)))) (mNil))))))))
def f_p_piece_lengths (fu : Nat) : List MI.D → R MI.D := run 2 8 (s_p_piece_lengths fu)
def b_p_broken_axis_1 (fu : Nat) : ST := tExt 4 (xLs (xCons (xP (mCall 1 (Pg.f_p_show_number fu) [] (mCons (mBin fIx (mVar 5) (mC (.int 0))) (mNil)))) (xCons (xP (mCall 1 (Pg.f_p_show_number fu) [] (mCons (mBin fIx (mVar 5) (mC (.int 1))) (mNil)))) (xNil))))
def b_p_broken_axis_2 (fu : Nat) : ST := tSeq (tApp 8 (xP (mDs dTup (mCons (mBin fIx (mVar 5) (mC (.int 0))) (mCons (mBin fIx (mVar 5) (mC (.int 1))) (mCons (mVar 9) (mCons (mBin fAddL (mVar 9) (mVar 10)) (mNil)))))))) (tSet 9 (xP (mBin fAddL (mBin fAddL (mVar 9) (mVar 10)) (mC (.int 6)))))
def b_p_broken_axis_3 (fu : Nat) : ST := tExt 11 (xLs (xCons (xP (mVar 14)) (xCons (xP (mVar 15)) (xNil))))
def s_p_broken_axis (fu : Nat) : ST := tSeq (tSet 3 (xP (mBin fSub (mVar 1) (mBin fMul (mC (.int 6)) (mBin fSub (mDs fLen (mCons (mVar 0) (mNil))) (mC (.int 1))))))) (tSeq (tSet 4 (xLs (xNil))) (tSeq (tFor (xiP (mItems (mVar 0))) (uN 5) (b_p_broken_axis_1 fu)) (tFrz 4 (tSeq (tSet 6 (xP (mC (.int 12)))) (tSeq (tIf (xTP (mTru (mBin fEq (mVar 2) (mC (.str "level"))))) (tSet 6 (xP (mBin fAddL (mC (.int 12)) (mCall 1 (Pg.f_p_widest_of fu) [] (mCons (mVar 4) (mNil)))))) (tNop)) (tSeq (tSet 7 (xP (mCall 2 (f_p_piece_lengths fu) [] (mCons (mVar 0) (mCons (mVar 3) (mNil)))))) (tSeq (tIf (xTP (mOrT (mTru (mBin fLt (mDs fMinL (mCons (mVar 7) (mNil))) (mVar 6))) (mAndT (mTru (mBin fEq (mVar 2) (mC (.str "level")))) (mTru (mBin fGt (mCall 1 (Pg.f_p_widest_of fu) [] (mCons (mVar 4) (mNil))) (mC (.int 60))))))) (tRaise "NoSpace") (tNop)) (tSeq (tSet 8 (xLs (xNil))) (tSeq (tSet 9 (xP (mC (.int 0)))) (tSeq (tFor (xiP (mRng fZipM (mCons (mVar 0) (mCons (mVar 7) (mNil))))) (uT (usCons (uN 5) (usCons (uN 10) (usNil)))) (b_p_broken_axis_2 fu)) (tSeq (tSet 11 (xLs (xNil))) (tSeq (tForN 8 (uT (usCons (uN 12) (usCons (uN 13) (usCons (uN 14) (usCons (uN 15) (usNil)))))) (b_p_broken_axis_3 fu)) (tFrz 11 (tRet (xTs (xCons (xTs (xCons (xP (mC (.str "broken"))) (xCons (xMv 8) (xCons (xP (mVar 1)) (xNil))))) (xCons (xNV (nLz (mCons (mVar 11) (mCons (mVar 4) (mNil))))) (xNil))))))))))))))))))
def f_p_broken_axis (fu : Nat) : Us → RF := runT 3 16 (s_p_broken_axis fu)
def s_p_days_axis (fu : Nat) : S := (fun _ => .bad)
def f_p_days_axis (fu : Nat) : List MI.D → R MI.D := run 3 11 (s_p_days_axis fu)
def s_p_words_of (fu : Nat) : S := (fun _ => .bad)
def f_p_words_of (fu : Nat) : List MI.D → R MI.D := run 1 3 (s_p_words_of fu)
def s_p_order_axis (fu : Nat) : S := (fun _ => .bad)
def f_p_order_axis (fu : Nat) : List MI.D → R MI.D := run 3 3 (s_p_order_axis fu)
def s_p_axis_for (fu : Nat) : ST := tSeq (tIf (xTP (mTru (mBin fEq (mBin fIx (mVar 0) (mC (.int 0))) (mC (.str "turns"))))) (tRet (xP (mCall 4 (f_p_turns_axis fu) [] (mCons (mBin fIx (mVar 0) (mC (.int 1))) (mCons (mVar 1) (mCons (mVar 2) (mCons (mVar 3) (mNil)))))))) (tNop)) (tSeq (tIf (xTP (mTru (mBin fEq (mBin fIx (mVar 0) (mC (.int 0))) (mC (.str "broken"))))) (tRet (xFn (f_p_broken_axis fu) 3 [] (rVal (xP (mBin fIx (mVar 0) (mC (.int 1)))) (rVal (xP (mVar 2)) (rVal (xP (mVar 3)) (rNil)))))) (tNop)) (tSeq (tIf (xTP (mTru (mBin fEq (mBin fIx (mVar 0) (mC (.int 0))) (mC (.str "days"))))) (tRet (xP (mCall 3 (f_p_days_axis fu) [] (mCons (mVar 1) (mCons (mVar 2) (mCons (mVar 3) (mNil))))))) (tNop)) (tSeq (tIf (xTP (mAndT (mTru (mBin fEq (mBin fIx (mVar 0) (mC (.int 0))) (mC (.str "order")))) (mTru (mBin fEq (mDs fLen (mCons (mVar 0) (mNil))) (mC (.int 2)))))) (tRet (xP (mCall 3 (f_p_order_axis fu) [] (mCons (mDs fListOf (mCons (mBin fIx (mVar 0) (mC (.int 1))) (mNil))) (mCons (mVar 2) (mCons (mVar 3) (mNil))))))) (tNop)) (tSeq (tIf (xTP (mTru (mBin fEq (mBin fIx (mVar 0) (mC (.int 0))) (mC (.str "order"))))) (tRet (xP (mCall 3 (f_p_order_axis fu) [] (mCons (mCall 1 (f_p_words_of fu) [] (mCons (mVar 1) (mNil))) (mCons (mVar 2) (mCons (mVar 3) (mNil))))))) (tNop)) (tSeq (tIf (xTP (mTru (mBin fEq (mDs fLen (mCons (mVar 0) (mNil))) (mC (.int 3))))) (tRet (xFn (f_p_numbers_axis fu) 2 [] (rVal (xP (mDs dTup (mCons (mC (.str "straight")) (mCons (mBin fIx (mVar 0) (mC (.int 1))) (mCons (mBin fIx (mVar 0) (mC (.int 2))) (mCons (mVar 2) (mNil))))))) (rVal (xP (mDs dLst (mCons (mBin fIx (mVar 0) (mC (.int 1))) (mCons (mBin fIx (mVar 0) (mC (.int 2))) (mNil))))) (rNil))))) (tNop)) (tRet (xP (mCall 3 (f_p_straight_axis fu) [] (mCons (mCall 2 (f_p_ends_of fu) [] (mCons (mVar 1) (mCons (mVar 4) (mNil)))) (mCons (mVar 2) (mCons (mVar 3) (mNil))))))))))))
def f_p_axis_for (fu : Nat) : Us → RF := runT 5 5 (s_p_axis_for fu)
def s_law_asked (fu : Nat) : ST := tSeq (tSet 5 (xP (mC (.str "none")))) (tSeq (tTry (subT [("NoSpace", true), ("NoNumber", false), ("NoDay", false)]) (tIf (xTP (mTru (mVar 4))) (tSet 5 (xFn (f_p_axis_for fu) 5 [] (rVal (xP (mVar 0)) (rVal (xP (mVar 1)) (rVal (xP (mVar 2)) (rVal (xP (mVar 3)) (rVal (xP (mC (.bool true))) (rNil)))))))) (tSet 5 (xFn (f_p_axis_for fu) 5 [.bool false] (rVal (xP (mVar 0)) (rVal (xP (mVar 1)) (rVal (xP (mVar 2)) (rVal (xP (mVar 3)) (rNil)))))))) (tSet 5 (xP (mC (.str "none"))))) (tRet (xMv 5)))
def f_law_asked (fu : Nat) : Us → RF := runT 5 6 (s_law_asked fu)
def s_law_right (fu : Nat) : ST := tSeq (tSet 6 (xP (mDs fListOf (mCons (mVar 1) (mNil))))) (tSeq (tSet 7 (xFn (f_law_asked fu) 5 [] (rVal (xP (mVar 0)) (rVal (xP (mVar 6)) (rVal (xP (mVar 2)) (rVal (xP (mVar 3)) (rVal (xP (mVar 4)) (rNil)))))))) (tSeq (tIf (xTP (mOrT (mNot (mTru (mCall 2 (Pg.f_ax_is_axis fu) [] (mCons (mVar 7) (mCons (mVar 5) (mNil)))))) (mTru (mBin fNe (mVar 6) (mVar 1))))) (tRet (xP (mC (.bool false)))) (tNop)) (tSeq (tIf (xTP (mTru (mBin fIsN (mVar 5) (mC .none)))) (tSeq (tMut 7 (pIx 7 (pNm 7) (mC (.int 1))) uApp (mCons (mDs dTup (mCons (mVar 2) (mCons (mC (.str "more")) (mNil)))) (mNil))) (tIf (xTP (mTru (mIsi "list" (mBin fIx (mBin fIx (mVar 7) (mC (.int 0))) (mC (.int 1)))))) (tMut 7 (pIx 7 (pIx 7 (pNm 7) (mC (.int 0))) (mC (.int 1))) uApp (mCons (mC (.str "more")) (mNil))) (tNop))) (tNop)) (tRet (xCall 2 (Pg.f_ax_is_axis fu) [] (xCons (xFn (f_law_asked fu) 5 [] (rVal (xP (mVar 0)) (rVal (xP (mVar 6)) (rVal (xP (mVar 2)) (rVal (xP (mVar 3)) (rVal (xP (mVar 4)) (rNil))))))) (xCons (xP (mVar 5)) (xNil))))))))
def f_law_right (fu : Nat) : Us → RF := runT 6 8 (s_law_right fu)
def b_law_rising_1 (fu : Nat) : ST := tSeq (tApp 4 (xP (mVar 3))) (tSetD 3 (xBin fAddL (xP (mBin fAddL (mVar 3) (mC (.int 1)))) (xFn (Pg.f_sr_great fu) 2 [] (rBor 0 (rVal (xP (mVar 2)) (rNil))))))
def s_law_rising (fu : Nat) : ST := tSeq (tSetD 2 (xBin fIx (xP (mDs dLst (mCons (mC (.int 20)) (mCons (mBin fPow (mC (.int 10)) (mC (.int 16))) (mNil))))) (xFn (Pg.f_sr_draw fu) 2 [] (rBor 0 (rVal (xP (mC (.int 2))) (rNil)))))) (tSeq (tSetD 3 (xBin fSub (xFn (Pg.f_sr_great fu) 2 [] (rBor 0 (rVal (xP (mBin fMul (mC (.int 90)) (mVar 2))) (rNil)))) (xP (mBin fMul (mC (.int 45)) (mVar 2))))) (tSeq (tSet 4 (xLs (xNil))) (tSeq (tFor (xiP (mRng rng1 (mCons (mVar 1) (mNil)))) (uN 5) (b_law_rising_1 fu)) (tRet (xMv 4)))))
def f_law_rising (fu : Nat) : Us → RF := runT 2 6 (s_law_rising fu)
def b_law_pieces_1 (fu : Nat) : S := sSeq (sSet 7 (mCall 2 (Pg.f_sr_low fu) [] (mCons (mBin fIx (mVar 0) (mBin fMul (mC (.int 2)) (mVar 6))) (mCons (mVar 1) (mNil))))) (sSeq (sSet 8 (mCall 2 (Pg.f_sr_low fu) [] (mCons (mBin fIx (mVar 0) (mBin fAddL (mBin fMul (mC (.int 2)) (mVar 6)) (mC (.int 1)))) (mCons (mVar 1) (mNil))))) (sSeq (sSet 9 (mBin fAddL (mVar 5) (mBin fIx (mVar 2) (mVar 6)))) (sSeq (sApp 3 (mDs dTup (mCons (mVar 7) (mCons (mVar 8) (mCons (mVar 5) (mCons (mVar 9) (mNil))))))) (sSeq (sSet 4 (mBin fAddL (mVar 4) (mDs dLst (mCons (mDs dTup (mCons (mVar 5) (mCons (mCall 1 (Pg.f_p_show_number fu) [] (mCons (mVar 7) (mNil))) (mNil)))) (mCons (mDs dTup (mCons (mVar 9) (mCons (mCall 1 (Pg.f_p_show_number fu) [] (mCons (mVar 8) (mNil))) (mNil)))) (mNil)))))) (sSet 5 (mBin fAddL (mVar 9) (mC (.int 6))))))))
def s_law_pieces (fu : Nat) : S := sSeq (sOwn 3 (nLst (mNil))) (sSeq (sSet 4 (mDs dLst (mNil))) (sSeq (sSet 5 (mC (.int 0))) (sSeq (sFor (mRng rng1 (mCons (mDs fLen (mCons (mVar 2) (mNil))) (mNil))) (gN 6) (b_law_pieces_1 fu)) (sFz (sRet (mDs dTup (mCons (mVar 3) (mCons (mVar 4) (mNil)))))))))
def f_law_pieces (fu : Nat) : List MI.D → R MI.D := run 3 10 (s_law_pieces fu)
def s_law_broken (fu : Nat) : S := sSeq (sSet 4 (mL (nLc (mRng rng3 (mCons (mC (.int 0)) (mCons (mDs fLen (mCons (mVar 0) (mNil))) (mCons (mC (.int 2)) (mNil))))) [11] (vN 11) (mYes) (mBin fSub (mBin fIx (mVar 0) (mBin fAddL (mVar 11) (mC (.int 1)))) (mBin fIx (mVar 0) (mVar 11)))))) (sSeq (sSet 5 (mBin fSub (mVar 2) (mBin fMul (mC (.int 6)) (mBin fSub (mDs fLen (mCons (mVar 4) (mNil))) (mC (.int 1)))))) (sSeq (sOwn 6 (nLc (mItems (mSl (mVar 4) (mNoPart) (mPart (mUn fNeg (mC (.int 1)))))) [12] (vN 12) (mYes) (mBin fFdv (mBin fMul (mVar 5) (mVar 12)) (mDs fSum (mCons (mVar 4) (mNil)))))) (sSeq (sAppF 6 (mBin fSub (mVar 5) (mDs fSum (mCons (mVar 6) (mNil))))) (sFz (sSeq (sAsg (gT (gsCons (gN 7) (gsCons (gN 8) (gsNil)))) (mCall 3 (f_law_pieces fu) [] (mCons (mVar 0) (mCons (mVar 1) (mCons (mVar 6) (mNil)))))) (sSeq (sSet 9 (mDs fMaxL (mCons (mL (nLc (mItems (mVar 8)) [13, 14] (vT (vsCons (vN 13) (vsCons (vN 14) (vsNil)))) (mYes) (mDs fLen (mCons (mVar 14) (mNil))))) (mNil)))) (sSeq (sSet 10 (mBin fIx (mDs dLst (mCons (mC (.int 12)) (mCons (mBin fAddL (mC (.int 12)) (mBin fMul (mC (.int 6)) (mVar 9))) (mNil)))) (mDs fIntT (mCons (mBin fEq (mVar 3) (mC (.str "level"))) (mNil))))) (sSeq (sIf (mOrT (mTru (mBin fLt (mDs fMinL (mCons (mVar 6) (mNil))) (mVar 10))) (mAndT (mTru (mBin fEq (mVar 3) (mC (.str "level")))) (mTru (mBin fGt (mVar 9) (mC (.int 10)))))) (sRet (mC .none)) (sNop)) (sRet (mDs dTup (mCons (mDs dTup (mCons (mC (.str "broken")) (mCons (mVar 7) (mCons (mVar 2) (mNil))))) (mCons (mVar 8) (mNil)))))))))))))
def f_law_broken (fu : Nat) : List MI.D → R MI.D := run 4 15 (s_law_broken fu)
def b_p_law_1 (fu : Nat) : ST := tSeq (tSet 15 (xP (mDs dTup (mCons (mDs dTup (mCons (mC (.str "straight")) (mCons (mBin fIx (mVar 9) (mC (.int 0))) (mCons (mBin fIx (mVar 9) (mC (.int 1))) (mCons (mVar 3) (mNil)))))) (mCons (mVar 10) (mNil)))))) (tSeq (tIf (xNot (xTru (xFn (f_law_right fu) 6 [] (rVal (xP (mDs dTup (mCons (mC (.str "straight")) (mCons (mBin fIx (mVar 9) (mC (.int 0))) (mCons (mBin fIx (mVar 9) (mC (.int 1))) (mNil)))))) (rVal (xP (mVar 4)) (rVal (xP (mVar 3)) (rVal (xP (mVar 14)) (rVal (xP (mVar 5)) (rVal (xP (mVar 15)) (rNil)))))))))) (tRet (xP (mC (.bool false)))) (tNop)) (tIf (xNot (xTru (xFn (f_law_right fu) 6 [] (rVal (xP (mVar 13)) (rVal (xP (mVar 4)) (rVal (xP (mVar 3)) (rVal (xP (mVar 14)) (rVal (xP (mVar 5)) (rVal (xP (mCall 4 (f_law_broken fu) [] (mCons (mVar 11) (mCons (mVar 6) (mCons (mVar 3) (mCons (mVar 14) (mNil))))))) (rNil)))))))))) (tRet (xP (mC (.bool false)))) (tNop)))
def b_p_law_2 (fu : Nat) : ST := tSeq (tSet 2 (xFn (Pg.f_sr_source fu) 2 [] (rVal (xP (mVar 0)) (rVal (xP (mVar 1)) (rNil))))) (tSeq (tSetD 3 (xBin fAddL (xP (mC (.int 24))) (xFn (Pg.f_sr_great fu) 2 [] (rBor 2 (rVal (xBin fIx (xP (mDs dLst (mCons (mC (.int 100)) (mCons (mC (.int 1977)) (mNil))))) (xFn (Pg.f_sr_draw fu) 2 [] (rBor 2 (rVal (xP (mC (.int 2))) (rNil))))) (rNil)))))) (tSeq (tSet 4 (xLc (xiRng rng1 (xCons (xFn (Pg.f_sr_draw fu) 2 [] (rBor 2 (rVal (xP (mC (.int 4))) (rNil)))) (xNil))) [16] (uV 16) (xYes) (xDs dTup (xCons (xFn (Pg.f_sr_draw fu) 2 [] (rBor 2 (rVal (xP (mC (.int 100))) (rNil)))) (xCons (xP (mC (.int 1))) (xNil)))))) (tFrz 4 (tSeq (tSetD 5 (xBin fEq (xFn (Pg.f_sr_draw fu) 2 [] (rBor 2 (rVal (xP (mC (.int 2))) (rNil)))) (xP (mC (.int 1))))) (tSeq (tSetD 6 (xBin fIx (xDs dLst (xCons (xP (mC (.int 1))) (xCons (xBin fAddL (xP (mC (.int 1))) (xFn (Pg.f_sr_draw fu) 2 [] (rBor 2 (rVal (xP (mC (.int 60))) (rNil))))) (xNil)))) (xFn (Pg.f_sr_draw fu) 2 [] (rBor 2 (rVal (xP (mC (.int 2))) (rNil)))))) (tSeq (tAsg (uT (usCons (uN 7) (usCons (uN 8) (usNil)))) (xFn (f_law_rising fu) 2 [] (rBor 2 (rVal (xP (mC (.int 2))) (rNil))))) (tSeq (tSet 9 (xP (mDs dLst (mCons (mCall 2 (Pg.f_sr_low fu) [] (mCons (mVar 7) (mCons (mVar 6) (mNil)))) (mCons (mCall 2 (Pg.f_sr_low fu) [] (mCons (mVar 8) (mCons (mVar 6) (mNil)))) (mNil)))))) (tSeq (tSet 10 (xP (mDs dLst (mCons (mDs dTup (mCons (mC (.int 0)) (mCons (mCall 1 (Pg.f_p_show_number fu) [] (mCons (mBin fIx (mVar 9) (mC (.int 0))) (mNil))) (mNil)))) (mCons (mDs dTup (mCons (mVar 3) (mCons (mCall 1 (Pg.f_p_show_number fu) [] (mCons (mBin fIx (mVar 9) (mC (.int 1))) (mNil))) (mNil)))) (mNil)))))) (tSeq (tSetD 11 (xFn (f_law_rising fu) 2 [] (rBor 2 (rVal (xBin fMul (xP (mC (.int 2))) (xBin fAddL (xP (mC (.int 2))) (xFn (Pg.f_sr_draw fu) 2 [] (rBor 2 (rVal (xP (mC (.int 3))) (rNil)))))) (rNil))))) (tSeq (tSet 12 (xP (mL (nLc (mItems (mVar 11)) [17] (vN 17) (mYes) (mCall 2 (Pg.f_sr_low fu) [] (mCons (mVar 17) (mCons (mVar 6) (mNil)))))))) (tSeq (tSet 13 (xP (mDs dTup (mCons (mC (.str "broken")) (mCons (mDs fTupOf (mCons (mL (nLc (mRng rng3 (mCons (mC (.int 0)) (mCons (mDs fLen (mCons (mVar 12) (mNil))) (mCons (mC (.int 2)) (mNil))))) [16] (vN 16) (mYes) (mDs dTup (mCons (mBin fIx (mVar 12) (mVar 16)) (mCons (mBin fIx (mVar 12) (mBin fAddL (mVar 16) (mC (.int 1)))) (mNil)))))) (mNil))) (mNil)))))) (tFor (xiP (mItems (mDs dLst (mCons (mC (.str "upright")) (mCons (mC (.str "level")) (mNil)))))) (uN 14) (b_p_law_1 fu)))))))))))))
def s_p_law (fu : Nat) : ST := tSeq (tFor (xiP (mRng rng1 (mCons (mDs fMax (mCons (mC (.int 1)) (mCons (mDs fMin (mCons (mDs fLen (mCons (mVar 0) (mNil))) (mCons (mC (.int 8)) (mNil)))) (mNil)))) (mNil)))) (uN 1) (b_p_law_2 fu)) (tRet (xP (mC (.bool true))))
def f_p_law (fu : Nat) : Us → RF := runT 1 18 (s_p_law fu)
end K28
noncomputable section
set_option Elab.async false
set_option linter.all false
set_option maxRecDepth 100000
set_option maxHeartbeats 4000000
namespace K28
open PySem PySem.Spec PyProof.Rows L2 MI
def top (i : Nat) : Stmt := PySem.Challenge.pw_markscale_k28_told_ends_and_pieces.main.body.getD i (.Pass ⟨0, 0, 0, 0⟩)
abbrev t_law_cell_at : Stmt := top 73
def d_law_cell_at : He.DefD := ⟨("_law_cell_at", none), "_law_cell_at", "_law_cell_at", defArgs t_law_cell_at, defBody t_law_cell_at, defScope t_law_cell_at, [], []⟩
abbrev t_law_source : Stmt := top 74
def d_law_source : He.DefD := ⟨("_law_source", none), "_law_source", "_law_source", defArgs t_law_source, defBody t_law_source, defScope t_law_source, [], []⟩
abbrev t_law_draw : Stmt := top 75
def d_law_draw : He.DefD := ⟨("_law_draw", none), "_law_draw", "_law_draw", defArgs t_law_draw, defBody t_law_draw, defScope t_law_draw, [], []⟩
abbrev t_law_great : Stmt := top 76
def d_law_great : He.DefD := ⟨("_law_great", none), "_law_great", "_law_great", defArgs t_law_great, defBody t_law_great, defScope t_law_great, [], []⟩
abbrev t_law_low : Stmt := top 77
def d_law_low : He.DefD := ⟨("_law_low", none), "_law_low", "_law_low", defArgs t_law_low, defBody t_law_low, defScope t_law_low, [], []⟩
abbrev t_law_text : Stmt := top 78
def d_law_text : He.DefD := ⟨("_law_text", none), "_law_text", "_law_text", defArgs t_law_text, defBody t_law_text, defScope t_law_text, [], []⟩
abbrev t_p_show_number : Stmt := top 26
def d_p_show_number : He.DefD := ⟨("show_number", none), "show_number", "show_number", defArgs t_p_show_number, defBody t_p_show_number, defScope t_p_show_number, [], []⟩
abbrev t_p_rounded : Stmt := top 15
def d_p_rounded : He.DefD := ⟨("rounded", none), "rounded", "rounded", defArgs t_p_rounded, defBody t_p_rounded, defScope t_p_rounded, [], []⟩
abbrev t_p_divisor : Stmt := top 7
def d_p_divisor : He.DefD := ⟨("divisor", none), "divisor", "divisor", defArgs t_p_divisor, defBody t_p_divisor, defScope t_p_divisor, [], []⟩
abbrev t_p_lowest : Stmt := top 8
def d_p_lowest : He.DefD := ⟨("lowest", none), "lowest", "lowest", defArgs t_p_lowest, defBody t_p_lowest, defScope t_p_lowest, [], []⟩
abbrev t_p_minus : Stmt := top 10
def d_p_minus : He.DefD := ⟨("minus", none), "minus", "minus", defArgs t_p_minus, defBody t_p_minus, defScope t_p_minus, [], []⟩
abbrev t_p_times : Stmt := top 11
def d_p_times : He.DefD := ⟨("times", none), "times", "times", defArgs t_p_times, defBody t_p_times, defScope t_p_times, [], []⟩
abbrev t_p_over : Stmt := top 12
def d_p_over : He.DefD := ⟨("over", none), "over", "over", defArgs t_p_over, defBody t_p_over, defScope t_p_over, [], []⟩
abbrev t_p_under : Stmt := top 13
def d_p_under : He.DefD := ⟨("under", none), "under", "under", defArgs t_p_under, defBody t_p_under, defScope t_p_under, [], []⟩
abbrev t_p_along_straight : Stmt := top 28
def d_p_along_straight : He.DefD := ⟨("along_straight", none), "along_straight", "along_straight", defArgs t_p_along_straight, defBody t_p_along_straight, defScope t_p_along_straight, [], []⟩
abbrev t_p_plus : Stmt := top 9
def d_p_plus : He.DefD := ⟨("plus", none), "plus", "plus", defArgs t_p_plus, defBody t_p_plus, defScope t_p_plus, [], []⟩
abbrev t_p_power_of : Stmt := top 29
def d_p_power_of : He.DefD := ⟨("power_of", none), "power_of", "power_of", defArgs t_p_power_of, defBody t_p_power_of, defScope t_p_power_of, [], []⟩
abbrev t_p_along_turns : Stmt := top 30
def d_p_along_turns : He.DefD := ⟨("along_turns", none), "along_turns", "along_turns", defArgs t_p_along_turns, defBody t_p_along_turns, defScope t_p_along_turns, [], []⟩
abbrev t_p_along_pieces : Stmt := top 31
def d_p_along_pieces : He.DefD := ⟨("along_pieces", none), "along_pieces", "along_pieces", defArgs t_p_along_pieces, defBody t_p_along_pieces, defScope t_p_along_pieces, [], []⟩
abbrev t_p_stretch_on : Stmt := top 32
def d_p_stretch_on : He.DefD := ⟨("stretch_on", none), "stretch_on", "stretch_on", defArgs t_p_stretch_on, defBody t_p_stretch_on, defScope t_p_stretch_on, [], []⟩
abbrev t_p_amid : Stmt := top 33
def d_p_amid : He.DefD := ⟨("amid", none), "amid", "amid", defArgs t_p_amid, defBody t_p_amid, defScope t_p_amid, [], []⟩
abbrev t_p_along_order : Stmt := top 34
def d_p_along_order : He.DefD := ⟨("along_order", none), "along_order", "along_order", defArgs t_p_along_order, defBody t_p_along_order, defScope t_p_along_order, [], []⟩
abbrev t_p_place_on : Stmt := top 35
def d_p_place_on : He.DefD := ⟨("place_on", none), "place_on", "place_on", defArgs t_p_place_on, defBody t_p_place_on, defScope t_p_place_on, [], []⟩
abbrev t_p_with_ticks : Stmt := top 48
def d_p_with_ticks : He.DefD := ⟨("with_ticks", none), "with_ticks", "with_ticks", defArgs t_p_with_ticks, defBody t_p_with_ticks, defScope t_p_with_ticks, [], []⟩
abbrev t_p_numbers_axis : Stmt := top 49
def d_p_numbers_axis : He.DefD := ⟨("numbers_axis", none), "numbers_axis", "numbers_axis", defArgs t_p_numbers_axis, defBody t_p_numbers_axis, defScope t_p_numbers_axis, [], []⟩
abbrev t_p_ends_of : Stmt := top 53
def d_p_ends_of : He.DefD := ⟨("ends_of", none), "ends_of", "ends_of", defArgs t_p_ends_of, defBody t_p_ends_of, defScope t_p_ends_of, [], []⟩
abbrev t_p_straight_axis : Stmt := top 58
def d_p_straight_axis : He.DefD := ⟨("straight_axis", none), "straight_axis", "straight_axis", defArgs t_p_straight_axis, defBody t_p_straight_axis, defScope t_p_straight_axis, [], []⟩
abbrev t_p_turns_axis : Stmt := top 62
def d_p_turns_axis : He.DefD := ⟨("turns_axis", none), "turns_axis", "turns_axis", defArgs t_p_turns_axis, defBody t_p_turns_axis, defScope t_p_turns_axis, [], []⟩
abbrev t_p_widest_of : Stmt := top 46
def d_p_widest_of : He.DefD := ⟨("widest_of", none), "widest_of", "widest_of", defArgs t_p_widest_of, defBody t_p_widest_of, defScope t_p_widest_of, [], []⟩
abbrev t_p_floor_of : Stmt := top 14
def d_p_floor_of : He.DefD := ⟨("floor_of", none), "floor_of", "floor_of", defArgs t_p_floor_of, defBody t_p_floor_of, defScope t_p_floor_of, [], []⟩
abbrev t_p_piece_lengths : Stmt := top 63
def d_p_piece_lengths : He.DefD := ⟨("piece_lengths", none), "piece_lengths", "piece_lengths", defArgs t_p_piece_lengths, defBody t_p_piece_lengths, defScope t_p_piece_lengths, [], []⟩
abbrev t_p_broken_axis : Stmt := top 64
def d_p_broken_axis : He.DefD := ⟨("broken_axis", none), "broken_axis", "broken_axis", defArgs t_p_broken_axis, defBody t_p_broken_axis, defScope t_p_broken_axis, [], []⟩
abbrev t_p_days_axis : Stmt := top 68
def d_p_days_axis : He.DefD := ⟨("days_axis", none), "days_axis", "days_axis", defArgs t_p_days_axis, defBody t_p_days_axis, defScope t_p_days_axis, [], []⟩
abbrev t_p_words_of : Stmt := top 69
def d_p_words_of : He.DefD := ⟨("words_of", none), "words_of", "words_of", defArgs t_p_words_of, defBody t_p_words_of, defScope t_p_words_of, [], []⟩
abbrev t_p_order_axis : Stmt := top 70
def d_p_order_axis : He.DefD := ⟨("order_axis", none), "order_axis", "order_axis", defArgs t_p_order_axis, defBody t_p_order_axis, defScope t_p_order_axis, [], []⟩
abbrev t_p_axis_for : Stmt := top 71
def d_p_axis_for : He.DefD := ⟨("axis_for", none), "axis_for", "axis_for", defArgs t_p_axis_for, defBody t_p_axis_for, defScope t_p_axis_for, [.bl false], []⟩
abbrev t_law_asked : Stmt := top 79
def d_law_asked : He.DefD := ⟨("_law_asked", none), "_law_asked", "_law_asked", defArgs t_law_asked, defBody t_law_asked, defScope t_law_asked, [], []⟩
abbrev t_law_is_axis : Stmt := top 80
def d_law_is_axis : He.DefD := ⟨("_law_is_axis", none), "_law_is_axis", "_law_is_axis", defArgs t_law_is_axis, defBody t_law_is_axis, defScope t_law_is_axis, [], []⟩
abbrev t_law_right : Stmt := top 81
def d_law_right : He.DefD := ⟨("_law_right", none), "_law_right", "_law_right", defArgs t_law_right, defBody t_law_right, defScope t_law_right, [], []⟩
abbrev t_law_rising : Stmt := top 82
def d_law_rising : He.DefD := ⟨("_law_rising", none), "_law_rising", "_law_rising", defArgs t_law_rising, defBody t_law_rising, defScope t_law_rising, [], []⟩
abbrev t_law_pieces : Stmt := top 83
def d_law_pieces : He.DefD := ⟨("_law_pieces", none), "_law_pieces", "_law_pieces", defArgs t_law_pieces, defBody t_law_pieces, defScope t_law_pieces, [], []⟩
abbrev t_law_broken : Stmt := top 84
def d_law_broken : He.DefD := ⟨("_law_broken", none), "_law_broken", "_law_broken", defArgs t_law_broken, defBody t_law_broken, defScope t_law_broken, [], []⟩
abbrev t_p_law : Stmt := top 85
def d_p_law : He.DefD := ⟨("law", none), "law", "law", defArgs t_p_law, defBody t_p_law, defScope t_p_law, [], []⟩
def fa : List He.Fa := [.free "len", .free "int", .free "range", .free "abs", .free "str", .glo "NoNumber", .exc "NoNumber", .free "zip", .int "SIGN" 6, .free "max", .free "sum", .int "BREAK" 6, .int "LEAST" 12, .free "min", .int "WIDEST" 60, .glo "NoSpace", .exc "NoSpace", .free "list", .glo "NoDay", .exm "NoDay" "NoSpace" false, .exm "NoNumber" "NoSpace" false, .exm "NoSpace" "NoSpace" true, .free "isinstance", .free "tuple", .free "bool", .glo "_law_cell_at", .glo "_law_source", .glo "_law_draw", .glo "_law_great", .glo "_law_low", .glo "_law_text", .glo "show_number", .glo "rounded", .glo "divisor", .glo "lowest", .glo "minus", .glo "times", .glo "over", .glo "under", .glo "along_straight", .glo "plus", .glo "power_of", .glo "along_turns", .glo "along_pieces", .glo "stretch_on", .glo "amid", .glo "along_order", .glo "place_on", .glo "with_ticks", .glo "numbers_axis", .glo "ends_of", .glo "straight_axis", .glo "turns_axis", .glo "widest_of", .glo "floor_of", .glo "piece_lengths", .glo "broken_axis", .glo "days_axis", .glo "words_of", .glo "order_axis", .glo "axis_for", .glo "_law_asked", .glo "_law_is_axis", .glo "_law_right", .glo "_law_rising", .glo "_law_pieces", .glo "_law_broken", .glo "law"]
def fxl : List Fx := []
def fn : List He.DefD := [d_law_cell_at, d_law_source, d_law_draw, d_law_great, d_law_low, d_law_text, d_p_show_number, d_p_rounded, d_p_divisor, d_p_lowest, d_p_minus, d_p_times, d_p_over, d_p_under, d_p_along_straight, d_p_plus, d_p_power_of, d_p_along_turns, d_p_along_pieces, d_p_stretch_on, d_p_amid, d_p_along_order, d_p_place_on, d_p_with_ticks, d_p_numbers_axis, d_p_ends_of, d_p_straight_axis, d_p_turns_axis, d_p_widest_of, d_p_floor_of, d_p_piece_lengths, d_p_broken_axis, d_p_days_axis, d_p_words_of, d_p_order_axis, d_p_axis_for, d_law_asked, d_law_is_axis, d_law_right, d_law_rising, d_law_pieces, d_law_broken, d_p_law]
section
variable {P : Program} {w : World} {K : PySem.W.Frag} {mg : Str → Option Value} {base : Heap}
theorem sc_law_cell_at : FnScope ["_law_script", "_law_k"] ["_law_script", "_law_k"] (defScope t_law_cell_at) := ⟨rfl, rfl, rfl, by decide +kernel, rfl, by decide +kernel, by decide +kernel⟩
theorem ok_law_cell_at (fu : Nat) (T : Tx fa fn fxl K mg) : DefOk P w K mg base 1 "_law_cell_at" 2 (Pg.f_law_cell_at fu) [[]] := by
  obtain ⟨fd, F⟩ := T.says.def_ 0 (d := d_law_cell_at) rfl
  refine def_ok (d := d_law_cell_at) (ps := ["_law_script", "_law_k"]) (T.glo 25) F (MI.fn_ok (N := ["_law_script", "_law_k"]) F sc_law_cell_at fun cdv A outer s H E hr => ?_) (allC ⟨[], [], .nil, fun _ => .nil, F.bindsN fun _ _ _ _ _ _ us hl => match us, hl with | [_, _], _ => rfl⟩ all0)
  have tk : Takes (cxOf (L2.CX P w) P w K mg base ["_law_script", "_law_k"] "_law_cell_at" (defScope t_law_cell_at) (He.ga K "_law_cell_at") cdv A outer s H E) (WD E) := takes_of rfl rfl rfl rfl
  have hp : PassesOwn (model P w) (cxOf (L2.CX P w) P w K mg base ["_law_script", "_law_k"] "_law_cell_at" (defScope t_law_cell_at) (He.ga K "_law_cell_at") cdv A outer s H E).A (cxOf (L2.CX P w) P w K mg base ["_law_script", "_law_k"] "_law_cell_at" (defScope t_law_cell_at) (He.ga K "_law_cell_at") cdv A outer s H E).env (cxOf (L2.CX P w) P w K mg base ["_law_script", "_law_k"] "_law_cell_at" (defScope t_law_cell_at) (He.ga K "_law_cell_at") cdv A outer s H E).xe := passes_of rfl
  have nd : (["_law_script", "_law_k"] : List Str).Nodup := sc_law_cell_at.nd
  show MSs (cxOf (L2.CX P w) P w K mg base ["_law_script", "_law_k"] "_law_cell_at" (defScope t_law_cell_at) (He.ga K "_law_cell_at") cdv A outer s H E) (WD E) (defBody t_law_cell_at) (Pg.s_law_cell_at fu)
  exact (mss_cons (ms_if (tcmp o_lt bl_lt (mv 1) (mcB c_len (T.free 0) (mac (mv 0) ma_nil))) (mss_one (ms_ret (mix (mv 0) (mv 1)))) mss_nil) (mss_one (ms_ret me_int)))
theorem sc_law_source : FnScope ["_law_script", "_law_k", "_law_cell", "_law_seed"] ["_law_script", "_law_k"] (defScope t_law_source) := ⟨rfl, rfl, rfl, by decide +kernel, rfl, by decide +kernel, by decide +kernel⟩
theorem ok_law_source (fu : Nat) (T : Tx fa fn fxl K mg) : DefOkT P w K mg base 2 "_law_source" 2 (Pg.f_sr_source fu) [[]] := by
  obtain ⟨fd, F⟩ := T.says.def_ 1 (d := d_law_source) rfl
  refine def_okT (d := d_law_source) (ps := ["_law_script", "_law_k"]) (T.glo 26) F (MI.fn_okT (N := ["_law_script", "_law_k", "_law_cell", "_law_seed"]) F sc_law_source fun cdv A outer s H E hr => ?_) (allC ⟨[], [], .nil, fun _ => .nil, F.bindsN fun _ _ _ _ _ _ us hl => match us, hl with | [_, _], _ => rfl⟩ all0)
  have tk : Takes (cxOf (L2.CX P w) P w K mg base ["_law_script", "_law_k", "_law_cell", "_law_seed"] "_law_source" (defScope t_law_source) (He.ga K "_law_source") cdv A outer s H E) (WD E) := takes_of rfl rfl rfl rfl
  have hp : PassesOwn (model P w) (cxOf (L2.CX P w) P w K mg base ["_law_script", "_law_k", "_law_cell", "_law_seed"] "_law_source" (defScope t_law_source) (He.ga K "_law_source") cdv A outer s H E).A (cxOf (L2.CX P w) P w K mg base ["_law_script", "_law_k", "_law_cell", "_law_seed"] "_law_source" (defScope t_law_source) (He.ga K "_law_source") cdv A outer s H E).env (cxOf (L2.CX P w) P w K mg base ["_law_script", "_law_k", "_law_cell", "_law_seed"] "_law_source" (defScope t_law_source) (He.ga K "_law_source") cdv A outer s H E).xe := passes_of rfl
  have nd : (["_law_script", "_law_k", "_law_cell", "_law_seed"] : List Str).Nodup := sc_law_source.nd
  show MTSs (cxOf (L2.CX P w) P w K mg base ["_law_script", "_law_k", "_law_cell", "_law_seed"] "_law_source" (defScope t_law_source) (He.ga K "_law_source") cdv A outer s H E) (WD E) (defBody t_law_source) (Pg.s_sr_source fu)
  exact (mtss_cons (mts_set 2 nd (mx_p (me_def (dd := []) (ok_law_cell_at fu T) hr tk (mac (mv 0) (mac (mv 1) ma_nil))))) (mtss_cons (mts_set 3 nd (mx_p (mbin o_mod (mbin o_mul (mbin o_addL (mbin o_addL (mbin o_mod (mv 2) me_int) (mbin o_mul me_int (mv 1))) me_int) me_int) me_int))) (mtss_one (mts_ret (mx_own (mxa_cons (mx_p (mbin o_mul (mv 2) (mcT c_intT (T.free 1) (mac (mcmp o_ge (mv 2) (mbin o_pow me_int me_int)) ma_nil)))) (mxa_cons (mx_p (mbin o_mod (mbin o_mul (mv 3) (mv 3)) me_int)) mxa_nil)))))))
theorem sc_law_draw : FnScope ["_law_source_here", "_law_many", "_law_digit"] ["_law_source_here", "_law_many"] (defScope t_law_draw) := ⟨rfl, rfl, rfl, by decide +kernel, rfl, by decide +kernel, by decide +kernel⟩
theorem ok_law_draw (fu : Nat) (T : Tx fa fn fxl K mg) : DefOkT P w K mg base 1 "_law_draw" 2 (Pg.f_sr_draw fu) [[]] := by
  obtain ⟨fd, F⟩ := T.says.def_ 2 (d := d_law_draw) rfl
  refine def_okT (d := d_law_draw) (ps := ["_law_source_here", "_law_many"]) (T.glo 27) F (MI.fn_okT (N := ["_law_source_here", "_law_many", "_law_digit"]) F sc_law_draw fun cdv A outer s H E hr => ?_) (allC ⟨[], [], .nil, fun _ => .nil, F.bindsN fun _ _ _ _ _ _ us hl => match us, hl with | [_, _], _ => rfl⟩ all0)
  have tk : Takes (cxOf (L2.CX P w) P w K mg base ["_law_source_here", "_law_many", "_law_digit"] "_law_draw" (defScope t_law_draw) (He.ga K "_law_draw") cdv A outer s H E) (WD E) := takes_of rfl rfl rfl rfl
  have hp : PassesOwn (model P w) (cxOf (L2.CX P w) P w K mg base ["_law_source_here", "_law_many", "_law_digit"] "_law_draw" (defScope t_law_draw) (He.ga K "_law_draw") cdv A outer s H E).A (cxOf (L2.CX P w) P w K mg base ["_law_source_here", "_law_many", "_law_digit"] "_law_draw" (defScope t_law_draw) (He.ga K "_law_draw") cdv A outer s H E).env (cxOf (L2.CX P w) P w K mg base ["_law_source_here", "_law_many", "_law_digit"] "_law_draw" (defScope t_law_draw) (He.ga K "_law_draw") cdv A outer s H E).xe := passes_of rfl
  have nd : (["_law_source_here", "_law_many", "_law_digit"] : List Str).Nodup := sc_law_draw.nd
  show MTSs (cxOf (L2.CX P w) P w K mg base ["_law_source_here", "_law_many", "_law_digit"] "_law_draw" (defScope t_law_draw) (He.ga K "_law_draw") cdv A outer s H E) (WD E) (defBody t_law_draw) (Pg.s_sr_draw fu)
  exact (mtss_cons (mts_if (mxt_p (tcmp o_gt bl_gt (mix (mv 0) me_int) me_int)) (mtss_cons (mts_set 2 nd (mx_v (mbin o_mod (mix (mv 0) me_int) (mv 1)))) (mtss_cons (mts_put 0 (mx_v (mbin o_fdv (mix (mv 0) me_int) (mv 1))) (mx_p me_int) (pg_sub (pv 0) (mx_p me_int) set_list)) (mtss_one (mts_ret (mx_p (mv 2)))))) mtss_nil) (mtss_cons (mts_put 0 (mx_v (mbin o_mod (mbin o_addL (mbin o_mul (mix (mv 0) me_int) me_int) me_int) me_int)) (mx_p me_int) (pg_sub (pv 0) (mx_p me_int) set_list)) (mtss_one (mts_ret (mx_v (mbin o_mod (mbin o_fdv (mbin o_mod (mbin o_mul (mix (mv 0) me_int) (mix (mv 0) me_int)) me_int) me_int) (mv 1)))))))
theorem sc_law_great : FnScope ["_law_source_here", "_law_many", "_law_found", "_law_turn"] ["_law_source_here", "_law_many"] (defScope t_law_great) := ⟨rfl, rfl, rfl, by decide +kernel, rfl, by decide +kernel, by decide +kernel⟩
theorem ok_law_great (fu : Nat) (T : Tx fa fn fxl K mg) : DefOkT P w K mg base 2 "_law_great" 2 (Pg.f_sr_great fu) [[]] := by
  obtain ⟨fd, F⟩ := T.says.def_ 3 (d := d_law_great) rfl
  refine def_okT (d := d_law_great) (ps := ["_law_source_here", "_law_many"]) (T.glo 28) F (MI.fn_okT (N := ["_law_source_here", "_law_many", "_law_found", "_law_turn"]) F sc_law_great fun cdv A outer s H E hr => ?_) (allC ⟨[], [], .nil, fun _ => .nil, F.bindsN fun _ _ _ _ _ _ us hl => match us, hl with | [_, _], _ => rfl⟩ all0)
  have tk : Takes (cxOf (L2.CX P w) P w K mg base ["_law_source_here", "_law_many", "_law_found", "_law_turn"] "_law_great" (defScope t_law_great) (He.ga K "_law_great") cdv A outer s H E) (WD E) := takes_of rfl rfl rfl rfl
  have hp : PassesOwn (model P w) (cxOf (L2.CX P w) P w K mg base ["_law_source_here", "_law_many", "_law_found", "_law_turn"] "_law_great" (defScope t_law_great) (He.ga K "_law_great") cdv A outer s H E).A (cxOf (L2.CX P w) P w K mg base ["_law_source_here", "_law_many", "_law_found", "_law_turn"] "_law_great" (defScope t_law_great) (He.ga K "_law_great") cdv A outer s H E).env (cxOf (L2.CX P w) P w K mg base ["_law_source_here", "_law_many", "_law_found", "_law_turn"] "_law_great" (defScope t_law_great) (He.ga K "_law_great") cdv A outer s H E).xe := passes_of rfl
  have nd : (["_law_source_here", "_law_many", "_law_found", "_law_turn"] : List Str).Nodup := sc_law_great.nd
  show MTSs (cxOf (L2.CX P w) P w K mg base ["_law_source_here", "_law_many", "_law_found", "_law_turn"] "_law_great" (defScope t_law_great) (He.ga K "_law_great") cdv A outer s H E) (WD E) (defBody t_law_great) (Pg.s_sr_great fu)
  exact (mtss_cons (mts_set 2 nd (mx_p me_int)) (mtss_cons (mts_for hp (mxi_p (mi_rng1 (T.free 2) (mac me_int ma_nil))) (gname 3 nd) uN_ok (mtss_one (mts_setD 2 nd (mx_op o_addL (mx_p (mbin o_mul (mv 2) me_int)) (mx_fn (dd := []) (ok_law_draw fu T) hr tk (mxr_bor 0 (mxr_val (mx_p me_int) mxr_nil) (pv 0))))))) (mtss_one (mts_ret (mx_p (mbin o_mod (mv 2) (mv 1)))))))
theorem sc_law_low : FnScope ["_law_top", "_law_bottom", "_law_one", "_law_other"] ["_law_top", "_law_bottom"] (defScope t_law_low) := ⟨rfl, rfl, rfl, by decide +kernel, rfl, by decide +kernel, by decide +kernel⟩
theorem ok_law_low (fu : Nat) (T : Tx fa fn fxl K mg) : DefOk P w K mg base 1 "_law_low" 2 (Pg.f_sr_low fu) [[]] := by
  obtain ⟨fd, F⟩ := T.says.def_ 4 (d := d_law_low) rfl
  refine def_ok (d := d_law_low) (ps := ["_law_top", "_law_bottom"]) (T.glo 29) F (MI.fn_ok (N := ["_law_top", "_law_bottom", "_law_one", "_law_other"]) F sc_law_low fun cdv A outer s H E hr => ?_) (allC ⟨[], [], .nil, fun _ => .nil, F.bindsN fun _ _ _ _ _ _ us hl => match us, hl with | [_, _], _ => rfl⟩ all0)
  have tk : Takes (cxOf (L2.CX P w) P w K mg base ["_law_top", "_law_bottom", "_law_one", "_law_other"] "_law_low" (defScope t_law_low) (He.ga K "_law_low") cdv A outer s H E) (WD E) := takes_of rfl rfl rfl rfl
  have hp : PassesOwn (model P w) (cxOf (L2.CX P w) P w K mg base ["_law_top", "_law_bottom", "_law_one", "_law_other"] "_law_low" (defScope t_law_low) (He.ga K "_law_low") cdv A outer s H E).A (cxOf (L2.CX P w) P w K mg base ["_law_top", "_law_bottom", "_law_one", "_law_other"] "_law_low" (defScope t_law_low) (He.ga K "_law_low") cdv A outer s H E).env (cxOf (L2.CX P w) P w K mg base ["_law_top", "_law_bottom", "_law_one", "_law_other"] "_law_low" (defScope t_law_low) (He.ga K "_law_low") cdv A outer s H E).xe := passes_of rfl
  have nd : (["_law_top", "_law_bottom", "_law_one", "_law_other"] : List Str).Nodup := sc_law_low.nd
  show MSs (cxOf (L2.CX P w) P w K mg base ["_law_top", "_law_bottom", "_law_one", "_law_other"] "_law_low" (defScope t_law_low) (He.ga K "_law_low") cdv A outer s H E) (WD E) (defBody t_law_low) (Pg.s_sr_low fu)
  exact (mss_cons (sset 2 nd (mcB c_abs (T.free 3) (mac (mv 0) ma_nil))) (mss_cons (sset 3 nd (mv 1)) (mss_cons (ms_while hp (tcmp o_gt bl_gt (mv 3) me_int) (mss_one (spar 2 3 nd (mac (mv 3) (mac (mbin o_mod (mv 2) (mv 3)) ma_nil))))) (mss_one (ms_ret (me_tup (mac (mbin o_fdv (mv 0) (mv 2)) (mac (mbin o_fdv (mv 1) (mv 2)) ma_nil))))))))
theorem sc_law_text : FnScope ["_law_one"] ["_law_one"] (defScope t_law_text) := ⟨rfl, rfl, rfl, by decide +kernel, rfl, by decide +kernel, by decide +kernel⟩
theorem ok_law_text (fu : Nat) (T : Tx fa fn fxl K mg) : DefOk P w K mg base 1 "_law_text" 1 (Pg.f_p_show_number fu) [[]] := by
  obtain ⟨fd, F⟩ := T.says.def_ 5 (d := d_law_text) rfl
  refine def_ok (d := d_law_text) (ps := ["_law_one"]) (T.glo 30) F (MI.fn_ok (N := ["_law_one"]) F sc_law_text fun cdv A outer s H E hr => ?_) (allC ⟨[], [], .nil, fun _ => .nil, F.bindsN fun _ _ _ _ _ _ us hl => match us, hl with | [_], _ => rfl⟩ all0)
  have tk : Takes (cxOf (L2.CX P w) P w K mg base ["_law_one"] "_law_text" (defScope t_law_text) (He.ga K "_law_text") cdv A outer s H E) (WD E) := takes_of rfl rfl rfl rfl
  have hp : PassesOwn (model P w) (cxOf (L2.CX P w) P w K mg base ["_law_one"] "_law_text" (defScope t_law_text) (He.ga K "_law_text") cdv A outer s H E).A (cxOf (L2.CX P w) P w K mg base ["_law_one"] "_law_text" (defScope t_law_text) (He.ga K "_law_text") cdv A outer s H E).env (cxOf (L2.CX P w) P w K mg base ["_law_one"] "_law_text" (defScope t_law_text) (He.ga K "_law_text") cdv A outer s H E).xe := passes_of rfl
  have nd : (["_law_one"] : List Str).Nodup := sc_law_text.nd
  show MSs (cxOf (L2.CX P w) P w K mg base ["_law_one"] "_law_text" (defScope t_law_text) (He.ga K "_law_text") cdv A outer s H E) (WD E) (defBody t_law_text) (Pg.s_p_show_number fu)
  exact (mss_cons (ms_if (tcmp (o_eq hr.units) bl_eq (mix (mv 0) me_int) me_int) (mss_one (ms_ret (mcT c_str (T.free 4) (mac (mix (mv 0) me_int) ma_nil)))) mss_nil) (mss_one (ms_ret (mbin o_addL (mbin o_addL (mcT c_str (T.free 4) (mac (mix (mv 0) me_int) ma_nil)) me_str) (mcT c_str (T.free 4) (mac (mix (mv 0) me_int) ma_nil))))))
theorem sc_p_show_number : FnScope ["one"] ["one"] (defScope t_p_show_number) := ⟨rfl, rfl, rfl, by decide +kernel, rfl, by decide +kernel, by decide +kernel⟩
theorem ok_p_show_number (fu : Nat) (T : Tx fa fn fxl K mg) : DefOk P w K mg base 1 "show_number" 1 (Pg.f_p_show_number fu) [[]] := by
  obtain ⟨fd, F⟩ := T.says.def_ 6 (d := d_p_show_number) rfl
  refine def_ok (d := d_p_show_number) (ps := ["one"]) (T.glo 31) F (MI.fn_ok (N := ["one"]) F sc_p_show_number fun cdv A outer s H E hr => ?_) (allC ⟨[], [], .nil, fun _ => .nil, F.bindsN fun _ _ _ _ _ _ us hl => match us, hl with | [_], _ => rfl⟩ all0)
  have tk : Takes (cxOf (L2.CX P w) P w K mg base ["one"] "show_number" (defScope t_p_show_number) (He.ga K "show_number") cdv A outer s H E) (WD E) := takes_of rfl rfl rfl rfl
  have hp : PassesOwn (model P w) (cxOf (L2.CX P w) P w K mg base ["one"] "show_number" (defScope t_p_show_number) (He.ga K "show_number") cdv A outer s H E).A (cxOf (L2.CX P w) P w K mg base ["one"] "show_number" (defScope t_p_show_number) (He.ga K "show_number") cdv A outer s H E).env (cxOf (L2.CX P w) P w K mg base ["one"] "show_number" (defScope t_p_show_number) (He.ga K "show_number") cdv A outer s H E).xe := passes_of rfl
  have nd : (["one"] : List Str).Nodup := sc_p_show_number.nd
  show MSs (cxOf (L2.CX P w) P w K mg base ["one"] "show_number" (defScope t_p_show_number) (He.ga K "show_number") cdv A outer s H E) (WD E) (defBody t_p_show_number) (Pg.s_p_show_number fu)
  exact (mss_cons (ms_if (tcmp (o_eq hr.units) bl_eq (mix (mv 0) me_int) me_int) (mss_one (ms_ret (mcT c_str (T.free 4) (mac (mix (mv 0) me_int) ma_nil)))) mss_nil) (mss_one (ms_ret (mbin o_addL (mbin o_addL (mcT c_str (T.free 4) (mac (mix (mv 0) me_int) ma_nil)) me_str) (mcT c_str (T.free 4) (mac (mix (mv 0) me_int) ma_nil))))))
theorem sc_p_rounded : FnScope ["one"] ["one"] (defScope t_p_rounded) := ⟨rfl, rfl, rfl, by decide +kernel, rfl, by decide +kernel, by decide +kernel⟩
theorem ok_p_rounded (fu : Nat) (T : Tx fa fn fxl K mg) : DefOk P w K mg base 1 "rounded" 1 (Pg.f_p_rounded fu) [[]] := by
  obtain ⟨fd, F⟩ := T.says.def_ 7 (d := d_p_rounded) rfl
  refine def_ok (d := d_p_rounded) (ps := ["one"]) (T.glo 32) F (MI.fn_ok (N := ["one"]) F sc_p_rounded fun cdv A outer s H E hr => ?_) (allC ⟨[], [], .nil, fun _ => .nil, F.bindsN fun _ _ _ _ _ _ us hl => match us, hl with | [_], _ => rfl⟩ all0)
  have tk : Takes (cxOf (L2.CX P w) P w K mg base ["one"] "rounded" (defScope t_p_rounded) (He.ga K "rounded") cdv A outer s H E) (WD E) := takes_of rfl rfl rfl rfl
  have hp : PassesOwn (model P w) (cxOf (L2.CX P w) P w K mg base ["one"] "rounded" (defScope t_p_rounded) (He.ga K "rounded") cdv A outer s H E).A (cxOf (L2.CX P w) P w K mg base ["one"] "rounded" (defScope t_p_rounded) (He.ga K "rounded") cdv A outer s H E).env (cxOf (L2.CX P w) P w K mg base ["one"] "rounded" (defScope t_p_rounded) (He.ga K "rounded") cdv A outer s H E).xe := passes_of rfl
  have nd : (["one"] : List Str).Nodup := sc_p_rounded.nd
  show MSs (cxOf (L2.CX P w) P w K mg base ["one"] "rounded" (defScope t_p_rounded) (He.ga K "rounded") cdv A outer s H E) (WD E) (defBody t_p_rounded) (Pg.s_p_rounded fu)
  exact (mss_one (ms_ret (mbin o_fdv (mbin o_addL (mbin o_mul me_int (mix (mv 0) me_int)) (mix (mv 0) me_int)) (mbin o_mul me_int (mix (mv 0) me_int)))))
theorem sc_p_divisor : FnScope ["one", "other"] ["one", "other"] (defScope t_p_divisor) := ⟨rfl, rfl, rfl, by decide +kernel, rfl, by decide +kernel, by decide +kernel⟩
theorem ok_p_divisor (fu : Nat) (T : Tx fa fn fxl K mg) : DefOk P w K mg base 1 "divisor" 2 (Pg.f_p_divisor fu) [[]] := by
  obtain ⟨fd, F⟩ := T.says.def_ 8 (d := d_p_divisor) rfl
  refine def_ok (d := d_p_divisor) (ps := ["one", "other"]) (T.glo 33) F (MI.fn_ok (N := ["one", "other"]) F sc_p_divisor fun cdv A outer s H E hr => ?_) (allC ⟨[], [], .nil, fun _ => .nil, F.bindsN fun _ _ _ _ _ _ us hl => match us, hl with | [_, _], _ => rfl⟩ all0)
  have tk : Takes (cxOf (L2.CX P w) P w K mg base ["one", "other"] "divisor" (defScope t_p_divisor) (He.ga K "divisor") cdv A outer s H E) (WD E) := takes_of rfl rfl rfl rfl
  have hp : PassesOwn (model P w) (cxOf (L2.CX P w) P w K mg base ["one", "other"] "divisor" (defScope t_p_divisor) (He.ga K "divisor") cdv A outer s H E).A (cxOf (L2.CX P w) P w K mg base ["one", "other"] "divisor" (defScope t_p_divisor) (He.ga K "divisor") cdv A outer s H E).env (cxOf (L2.CX P w) P w K mg base ["one", "other"] "divisor" (defScope t_p_divisor) (He.ga K "divisor") cdv A outer s H E).xe := passes_of rfl
  have nd : (["one", "other"] : List Str).Nodup := sc_p_divisor.nd
  show MSs (cxOf (L2.CX P w) P w K mg base ["one", "other"] "divisor" (defScope t_p_divisor) (He.ga K "divisor") cdv A outer s H E) (WD E) (defBody t_p_divisor) (Pg.s_p_divisor fu)
  exact (mss_cons (ms_while hp (tcmp (o_ne hr.units) bl_ne (mv 1) me_int) (mss_one (spar 0 1 nd (mac (mv 1) (mac (mbin o_mod (mv 0) (mv 1)) ma_nil))))) (mss_one (ms_ret (mcB c_abs (T.free 3) (mac (mv 0) ma_nil)))))
theorem sc_p_lowest : FnScope ["top", "bottom", "by"] ["top", "bottom"] (defScope t_p_lowest) := ⟨rfl, rfl, rfl, by decide +kernel, rfl, by decide +kernel, by decide +kernel⟩
theorem ok_p_lowest (fu : Nat) (T : Tx fa fn fxl K mg) : DefOk P w K mg base 2 "lowest" 2 (Pg.f_p_lowest fu) [[]] := by
  obtain ⟨fd, F⟩ := T.says.def_ 9 (d := d_p_lowest) rfl
  refine def_ok (d := d_p_lowest) (ps := ["top", "bottom"]) (T.glo 34) F (MI.fn_ok (N := ["top", "bottom", "by"]) F sc_p_lowest fun cdv A outer s H E hr => ?_) (allC ⟨[], [], .nil, fun _ => .nil, F.bindsN fun _ _ _ _ _ _ us hl => match us, hl with | [_, _], _ => rfl⟩ all0)
  have tk : Takes (cxOf (L2.CX P w) P w K mg base ["top", "bottom", "by"] "lowest" (defScope t_p_lowest) (He.ga K "lowest") cdv A outer s H E) (WD E) := takes_of rfl rfl rfl rfl
  have hp : PassesOwn (model P w) (cxOf (L2.CX P w) P w K mg base ["top", "bottom", "by"] "lowest" (defScope t_p_lowest) (He.ga K "lowest") cdv A outer s H E).A (cxOf (L2.CX P w) P w K mg base ["top", "bottom", "by"] "lowest" (defScope t_p_lowest) (He.ga K "lowest") cdv A outer s H E).env (cxOf (L2.CX P w) P w K mg base ["top", "bottom", "by"] "lowest" (defScope t_p_lowest) (He.ga K "lowest") cdv A outer s H E).xe := passes_of rfl
  have nd : (["top", "bottom", "by"] : List Str).Nodup := sc_p_lowest.nd
  show MSs (cxOf (L2.CX P w) P w K mg base ["top", "bottom", "by"] "lowest" (defScope t_p_lowest) (He.ga K "lowest") cdv A outer s H E) (WD E) (defBody t_p_lowest) (Pg.s_p_lowest fu)
  exact (mss_cons (sset 2 nd (me_def (dd := []) (ok_p_divisor fu T) hr tk (mac (mv 0) (mac (mv 1) ma_nil)))) (mss_cons (ms_if (tcmp o_lt bl_lt (mv 1) me_int) (mss_one (sset 2 nd (mbin o_sub me_int (mv 2)))) mss_nil) (mss_one (ms_ret (me_tup (mac (mbin o_fdv (mv 0) (mv 2)) (mac (mbin o_fdv (mv 1) (mv 2)) ma_nil)))))))
theorem sc_p_minus : FnScope ["one", "other"] ["one", "other"] (defScope t_p_minus) := ⟨rfl, rfl, rfl, by decide +kernel, rfl, by decide +kernel, by decide +kernel⟩
theorem ok_p_minus (fu : Nat) (T : Tx fa fn fxl K mg) : DefOk P w K mg base 3 "minus" 2 (Pg.f_p_minus fu) [[]] := by
  obtain ⟨fd, F⟩ := T.says.def_ 10 (d := d_p_minus) rfl
  refine def_ok (d := d_p_minus) (ps := ["one", "other"]) (T.glo 35) F (MI.fn_ok (N := ["one", "other"]) F sc_p_minus fun cdv A outer s H E hr => ?_) (allC ⟨[], [], .nil, fun _ => .nil, F.bindsN fun _ _ _ _ _ _ us hl => match us, hl with | [_, _], _ => rfl⟩ all0)
  have tk : Takes (cxOf (L2.CX P w) P w K mg base ["one", "other"] "minus" (defScope t_p_minus) (He.ga K "minus") cdv A outer s H E) (WD E) := takes_of rfl rfl rfl rfl
  have hp : PassesOwn (model P w) (cxOf (L2.CX P w) P w K mg base ["one", "other"] "minus" (defScope t_p_minus) (He.ga K "minus") cdv A outer s H E).A (cxOf (L2.CX P w) P w K mg base ["one", "other"] "minus" (defScope t_p_minus) (He.ga K "minus") cdv A outer s H E).env (cxOf (L2.CX P w) P w K mg base ["one", "other"] "minus" (defScope t_p_minus) (He.ga K "minus") cdv A outer s H E).xe := passes_of rfl
  have nd : (["one", "other"] : List Str).Nodup := sc_p_minus.nd
  show MSs (cxOf (L2.CX P w) P w K mg base ["one", "other"] "minus" (defScope t_p_minus) (He.ga K "minus") cdv A outer s H E) (WD E) (defBody t_p_minus) (Pg.s_p_minus fu)
  exact (mss_one (ms_ret (me_def (dd := []) (ok_p_lowest fu T) hr tk (mac (mbin o_sub (mbin o_mul (mix (mv 0) me_int) (mix (mv 1) me_int)) (mbin o_mul (mix (mv 1) me_int) (mix (mv 0) me_int))) (mac (mbin o_mul (mix (mv 0) me_int) (mix (mv 1) me_int)) ma_nil)))))
theorem sc_p_times : FnScope ["one", "other"] ["one", "other"] (defScope t_p_times) := ⟨rfl, rfl, rfl, by decide +kernel, rfl, by decide +kernel, by decide +kernel⟩
theorem ok_p_times (fu : Nat) (T : Tx fa fn fxl K mg) : DefOk P w K mg base 3 "times" 2 (Pg.f_p_times fu) [[]] := by
  obtain ⟨fd, F⟩ := T.says.def_ 11 (d := d_p_times) rfl
  refine def_ok (d := d_p_times) (ps := ["one", "other"]) (T.glo 36) F (MI.fn_ok (N := ["one", "other"]) F sc_p_times fun cdv A outer s H E hr => ?_) (allC ⟨[], [], .nil, fun _ => .nil, F.bindsN fun _ _ _ _ _ _ us hl => match us, hl with | [_, _], _ => rfl⟩ all0)
  have tk : Takes (cxOf (L2.CX P w) P w K mg base ["one", "other"] "times" (defScope t_p_times) (He.ga K "times") cdv A outer s H E) (WD E) := takes_of rfl rfl rfl rfl
  have hp : PassesOwn (model P w) (cxOf (L2.CX P w) P w K mg base ["one", "other"] "times" (defScope t_p_times) (He.ga K "times") cdv A outer s H E).A (cxOf (L2.CX P w) P w K mg base ["one", "other"] "times" (defScope t_p_times) (He.ga K "times") cdv A outer s H E).env (cxOf (L2.CX P w) P w K mg base ["one", "other"] "times" (defScope t_p_times) (He.ga K "times") cdv A outer s H E).xe := passes_of rfl
  have nd : (["one", "other"] : List Str).Nodup := sc_p_times.nd
  show MSs (cxOf (L2.CX P w) P w K mg base ["one", "other"] "times" (defScope t_p_times) (He.ga K "times") cdv A outer s H E) (WD E) (defBody t_p_times) (Pg.s_p_times fu)
  exact (mss_one (ms_ret (me_def (dd := []) (ok_p_lowest fu T) hr tk (mac (mbin o_mul (mix (mv 0) me_int) (mix (mv 1) me_int)) (mac (mbin o_mul (mix (mv 0) me_int) (mix (mv 1) me_int)) ma_nil)))))
theorem sc_p_over : FnScope ["one", "other"] ["one", "other"] (defScope t_p_over) := ⟨rfl, rfl, rfl, by decide +kernel, rfl, by decide +kernel, by decide +kernel⟩
theorem ok_p_over (fu : Nat) (T : Tx fa fn fxl K mg) : DefOk P w K mg base 3 "over" 2 (Pg.f_p_over fu) [[]] := by
  obtain ⟨fd, F⟩ := T.says.def_ 12 (d := d_p_over) rfl
  refine def_ok (d := d_p_over) (ps := ["one", "other"]) (T.glo 37) F (MI.fn_ok (N := ["one", "other"]) F sc_p_over fun cdv A outer s H E hr => ?_) (allC ⟨[], [], .nil, fun _ => .nil, F.bindsN fun _ _ _ _ _ _ us hl => match us, hl with | [_, _], _ => rfl⟩ all0)
  have tk : Takes (cxOf (L2.CX P w) P w K mg base ["one", "other"] "over" (defScope t_p_over) (He.ga K "over") cdv A outer s H E) (WD E) := takes_of rfl rfl rfl rfl
  have hp : PassesOwn (model P w) (cxOf (L2.CX P w) P w K mg base ["one", "other"] "over" (defScope t_p_over) (He.ga K "over") cdv A outer s H E).A (cxOf (L2.CX P w) P w K mg base ["one", "other"] "over" (defScope t_p_over) (He.ga K "over") cdv A outer s H E).env (cxOf (L2.CX P w) P w K mg base ["one", "other"] "over" (defScope t_p_over) (He.ga K "over") cdv A outer s H E).xe := passes_of rfl
  have nd : (["one", "other"] : List Str).Nodup := sc_p_over.nd
  show MSs (cxOf (L2.CX P w) P w K mg base ["one", "other"] "over" (defScope t_p_over) (He.ga K "over") cdv A outer s H E) (WD E) (defBody t_p_over) (Pg.s_p_over fu)
  exact (mss_cons (ms_if (tcmp (o_eq hr.units) bl_eq (mix (mv 1) me_int) me_int) (mss_one (sraise (T.glo 5) (T.exc 6) tk)) mss_nil) (mss_one (ms_ret (me_def (dd := []) (ok_p_lowest fu T) hr tk (mac (mbin o_mul (mix (mv 0) me_int) (mix (mv 1) me_int)) (mac (mbin o_mul (mix (mv 0) me_int) (mix (mv 1) me_int)) ma_nil))))))
theorem sc_p_under : FnScope ["one", "other"] ["one", "other"] (defScope t_p_under) := ⟨rfl, rfl, rfl, by decide +kernel, rfl, by decide +kernel, by decide +kernel⟩
theorem ok_p_under (fu : Nat) (T : Tx fa fn fxl K mg) : DefOk P w K mg base 1 "under" 2 (Pg.f_p_under fu) [[]] := by
  obtain ⟨fd, F⟩ := T.says.def_ 13 (d := d_p_under) rfl
  refine def_ok (d := d_p_under) (ps := ["one", "other"]) (T.glo 38) F (MI.fn_ok (N := ["one", "other"]) F sc_p_under fun cdv A outer s H E hr => ?_) (allC ⟨[], [], .nil, fun _ => .nil, F.bindsN fun _ _ _ _ _ _ us hl => match us, hl with | [_, _], _ => rfl⟩ all0)
  have tk : Takes (cxOf (L2.CX P w) P w K mg base ["one", "other"] "under" (defScope t_p_under) (He.ga K "under") cdv A outer s H E) (WD E) := takes_of rfl rfl rfl rfl
  have hp : PassesOwn (model P w) (cxOf (L2.CX P w) P w K mg base ["one", "other"] "under" (defScope t_p_under) (He.ga K "under") cdv A outer s H E).A (cxOf (L2.CX P w) P w K mg base ["one", "other"] "under" (defScope t_p_under) (He.ga K "under") cdv A outer s H E).env (cxOf (L2.CX P w) P w K mg base ["one", "other"] "under" (defScope t_p_under) (He.ga K "under") cdv A outer s H E).xe := passes_of rfl
  have nd : (["one", "other"] : List Str).Nodup := sc_p_under.nd
  show MSs (cxOf (L2.CX P w) P w K mg base ["one", "other"] "under" (defScope t_p_under) (He.ga K "under") cdv A outer s H E) (WD E) (defBody t_p_under) (Pg.s_p_under fu)
  exact (mss_one (ms_ret (mcmp o_lt (mbin o_mul (mix (mv 0) me_int) (mix (mv 1) me_int)) (mbin o_mul (mix (mv 1) me_int) (mix (mv 0) me_int)))))
theorem sc_p_along_straight : FnScope ["lo", "hi", "cell", "long"] ["lo", "hi", "cell", "long"] (defScope t_p_along_straight) := ⟨rfl, rfl, rfl, by decide +kernel, rfl, by decide +kernel, by decide +kernel⟩
theorem ok_p_along_straight (fu : Nat) (T : Tx fa fn fxl K mg) : DefOk P w K mg base 4 "along_straight" 4 (Pg.f_p_along_straight fu) [[]] := by
  obtain ⟨fd, F⟩ := T.says.def_ 14 (d := d_p_along_straight) rfl
  refine def_ok (d := d_p_along_straight) (ps := ["lo", "hi", "cell", "long"]) (T.glo 39) F (MI.fn_ok (N := ["lo", "hi", "cell", "long"]) F sc_p_along_straight fun cdv A outer s H E hr => ?_) (allC ⟨[], [], .nil, fun _ => .nil, F.bindsN fun _ _ _ _ _ _ us hl => match us, hl with | [_, _, _, _], _ => rfl⟩ all0)
  have tk : Takes (cxOf (L2.CX P w) P w K mg base ["lo", "hi", "cell", "long"] "along_straight" (defScope t_p_along_straight) (He.ga K "along_straight") cdv A outer s H E) (WD E) := takes_of rfl rfl rfl rfl
  have hp : PassesOwn (model P w) (cxOf (L2.CX P w) P w K mg base ["lo", "hi", "cell", "long"] "along_straight" (defScope t_p_along_straight) (He.ga K "along_straight") cdv A outer s H E).A (cxOf (L2.CX P w) P w K mg base ["lo", "hi", "cell", "long"] "along_straight" (defScope t_p_along_straight) (He.ga K "along_straight") cdv A outer s H E).env (cxOf (L2.CX P w) P w K mg base ["lo", "hi", "cell", "long"] "along_straight" (defScope t_p_along_straight) (He.ga K "along_straight") cdv A outer s H E).xe := passes_of rfl
  have nd : (["lo", "hi", "cell", "long"] : List Str).Nodup := sc_p_along_straight.nd
  show MSs (cxOf (L2.CX P w) P w K mg base ["lo", "hi", "cell", "long"] "along_straight" (defScope t_p_along_straight) (He.ga K "along_straight") cdv A outer s H E) (WD E) (defBody t_p_along_straight) (Pg.s_p_along_straight fu)
  exact (mss_cons (ms_if (PW.pt (mw_or (ttru (me_def (dd := []) (ok_p_under fu T) hr tk (mac (mv 2) (mac (mv 0) ma_nil)))) (mw_or1 (ttru (me_def (dd := []) (ok_p_under fu T) hr tk (mac (mv 1) (mac (mv 2) ma_nil))))))) (mss_one (ms_ret me_non)) mss_nil) (mss_one (ms_ret (me_def (dd := []) (ok_p_over fu T) hr tk (mac (me_def (dd := []) (ok_p_times fu T) hr tk (mac (me_def (dd := []) (ok_p_minus fu T) hr tk (mac (mv 2) (mac (mv 0) ma_nil))) (mac (me_tup (mac (mv 3) (mac me_int ma_nil))) ma_nil))) (mac (me_def (dd := []) (ok_p_minus fu T) hr tk (mac (mv 1) (mac (mv 0) ma_nil))) ma_nil))))))
theorem sc_p_plus : FnScope ["one", "other"] ["one", "other"] (defScope t_p_plus) := ⟨rfl, rfl, rfl, by decide +kernel, rfl, by decide +kernel, by decide +kernel⟩
theorem ok_p_plus (fu : Nat) (T : Tx fa fn fxl K mg) : DefOk P w K mg base 3 "plus" 2 (Pg.f_p_plus fu) [[]] := by
  obtain ⟨fd, F⟩ := T.says.def_ 15 (d := d_p_plus) rfl
  refine def_ok (d := d_p_plus) (ps := ["one", "other"]) (T.glo 40) F (MI.fn_ok (N := ["one", "other"]) F sc_p_plus fun cdv A outer s H E hr => ?_) (allC ⟨[], [], .nil, fun _ => .nil, F.bindsN fun _ _ _ _ _ _ us hl => match us, hl with | [_, _], _ => rfl⟩ all0)
  have tk : Takes (cxOf (L2.CX P w) P w K mg base ["one", "other"] "plus" (defScope t_p_plus) (He.ga K "plus") cdv A outer s H E) (WD E) := takes_of rfl rfl rfl rfl
  have hp : PassesOwn (model P w) (cxOf (L2.CX P w) P w K mg base ["one", "other"] "plus" (defScope t_p_plus) (He.ga K "plus") cdv A outer s H E).A (cxOf (L2.CX P w) P w K mg base ["one", "other"] "plus" (defScope t_p_plus) (He.ga K "plus") cdv A outer s H E).env (cxOf (L2.CX P w) P w K mg base ["one", "other"] "plus" (defScope t_p_plus) (He.ga K "plus") cdv A outer s H E).xe := passes_of rfl
  have nd : (["one", "other"] : List Str).Nodup := sc_p_plus.nd
  show MSs (cxOf (L2.CX P w) P w K mg base ["one", "other"] "plus" (defScope t_p_plus) (He.ga K "plus") cdv A outer s H E) (WD E) (defBody t_p_plus) (Pg.s_p_plus fu)
  exact (mss_one (ms_ret (me_def (dd := []) (ok_p_lowest fu T) hr tk (mac (mbin o_addL (mbin o_mul (mix (mv 0) me_int) (mix (mv 1) me_int)) (mbin o_mul (mix (mv 1) me_int) (mix (mv 0) me_int))) (mac (mbin o_mul (mix (mv 0) me_int) (mix (mv 1) me_int)) ma_nil)))))
theorem sc_p_power_of : FnScope ["base", "many", "found", "k"] ["base", "many"] (defScope t_p_power_of) := ⟨rfl, rfl, rfl, by decide +kernel, rfl, by decide +kernel, by decide +kernel⟩
theorem ok_p_power_of (fu : Nat) (T : Tx fa fn fxl K mg) : DefOk P w K mg base 1 "power_of" 2 (Pg.f_p_power_of fu) [[]] := by
  obtain ⟨fd, F⟩ := T.says.def_ 16 (d := d_p_power_of) rfl
  refine def_ok (d := d_p_power_of) (ps := ["base", "many"]) (T.glo 41) F (MI.fn_ok (N := ["base", "many", "found", "k"]) F sc_p_power_of fun cdv A outer s H E hr => ?_) (allC ⟨[], [], .nil, fun _ => .nil, F.bindsN fun _ _ _ _ _ _ us hl => match us, hl with | [_, _], _ => rfl⟩ all0)
  have tk : Takes (cxOf (L2.CX P w) P w K mg base ["base", "many", "found", "k"] "power_of" (defScope t_p_power_of) (He.ga K "power_of") cdv A outer s H E) (WD E) := takes_of rfl rfl rfl rfl
  have hp : PassesOwn (model P w) (cxOf (L2.CX P w) P w K mg base ["base", "many", "found", "k"] "power_of" (defScope t_p_power_of) (He.ga K "power_of") cdv A outer s H E).A (cxOf (L2.CX P w) P w K mg base ["base", "many", "found", "k"] "power_of" (defScope t_p_power_of) (He.ga K "power_of") cdv A outer s H E).env (cxOf (L2.CX P w) P w K mg base ["base", "many", "found", "k"] "power_of" (defScope t_p_power_of) (He.ga K "power_of") cdv A outer s H E).xe := passes_of rfl
  have nd : (["base", "many", "found", "k"] : List Str).Nodup := sc_p_power_of.nd
  show MSs (cxOf (L2.CX P w) P w K mg base ["base", "many", "found", "k"] "power_of" (defScope t_p_power_of) (He.ga K "power_of") cdv A outer s H E) (WD E) (defBody t_p_power_of) (Pg.s_p_power_of fu)
  exact (mss_cons (sset 2 nd me_int) (mss_cons (ms_for hp (mi_rng1 (T.free 2) (mac (mv 1) ma_nil)) (gname 3 nd) gN_ok (mss_one (sset 2 nd (mbin o_mul (mv 2) (mv 0))))) (mss_one (ms_ret (mv 2)))))
theorem sc_p_along_turns : FnScope ["scale", "cell", "name", "base", "low", "many", "length", "top", "bottom", "turn", "rest"] ["scale", "cell"] (defScope t_p_along_turns) := ⟨rfl, rfl, rfl, by decide +kernel, rfl, by decide +kernel, by decide +kernel⟩
theorem ok_p_along_turns (fu : Nat) (T : Tx fa fn fxl K mg) : DefOk P w K mg base 4 "along_turns" 2 (Pg.f_p_along_turns fu) [[]] := by
  obtain ⟨fd, F⟩ := T.says.def_ 17 (d := d_p_along_turns) rfl
  refine def_ok (d := d_p_along_turns) (ps := ["scale", "cell"]) (T.glo 42) F (MI.fn_ok (N := ["scale", "cell", "name", "base", "low", "many", "length", "top", "bottom", "turn", "rest"]) F sc_p_along_turns fun cdv A outer s H E hr => ?_) (allC ⟨[], [], .nil, fun _ => .nil, F.bindsN fun _ _ _ _ _ _ us hl => match us, hl with | [_, _], _ => rfl⟩ all0)
  have tk : Takes (cxOf (L2.CX P w) P w K mg base ["scale", "cell", "name", "base", "low", "many", "length", "top", "bottom", "turn", "rest"] "along_turns" (defScope t_p_along_turns) (He.ga K "along_turns") cdv A outer s H E) (WD E) := takes_of rfl rfl rfl rfl
  have hp : PassesOwn (model P w) (cxOf (L2.CX P w) P w K mg base ["scale", "cell", "name", "base", "low", "many", "length", "top", "bottom", "turn", "rest"] "along_turns" (defScope t_p_along_turns) (He.ga K "along_turns") cdv A outer s H E).A (cxOf (L2.CX P w) P w K mg base ["scale", "cell", "name", "base", "low", "many", "length", "top", "bottom", "turn", "rest"] "along_turns" (defScope t_p_along_turns) (He.ga K "along_turns") cdv A outer s H E).env (cxOf (L2.CX P w) P w K mg base ["scale", "cell", "name", "base", "low", "many", "length", "top", "bottom", "turn", "rest"] "along_turns" (defScope t_p_along_turns) (He.ga K "along_turns") cdv A outer s H E).xe := passes_of rfl
  have nd : (["scale", "cell", "name", "base", "low", "many", "length", "top", "bottom", "turn", "rest"] : List Str).Nodup := sc_p_along_turns.nd
  show MSs (cxOf (L2.CX P w) P w K mg base ["scale", "cell", "name", "base", "low", "many", "length", "top", "bottom", "turn", "rest"] "along_turns" (defScope t_p_along_turns) (He.ga K "along_turns") cdv A outer s H E) (WD E) (defBody t_p_along_turns) (Pg.s_p_along_turns fu)
  exact (mss_cons (sasg (mv 0) (pg_tup rfl (pgs_cons (gname 2 nd) (pgs_cons (gname 3 nd) (pgs_cons (gname 4 nd) (pgs_cons (gname 5 nd) (pgs_cons (gname 6 nd) pgs_nil)))))) (gT_ok (gsCons_ok gN_ok (gsCons_ok gN_ok (gsCons_ok gN_ok (gsCons_ok gN_ok (gsCons_ok gN_ok gsNil_ok))))))) (mss_cons (ms_if (tcmp o_le bl_le (mix (mv 1) me_int) me_int) (mss_one (ms_ret me_str)) mss_nil) (mss_cons (sset 7 nd (mbin o_mul (mix (mv 1) me_int) (me_def (dd := []) (ok_p_power_of fu T) hr tk (mac (mv 3) (mac (mbin o_sub me_int (mv 4)) ma_nil))))) (mss_cons (sset 8 nd (mbin o_mul (mix (mv 1) me_int) (me_def (dd := []) (ok_p_power_of fu T) hr tk (mac (mv 3) (mac (mv 4) ma_nil))))) (mss_cons (ms_if (tcmp o_lt bl_lt (mv 7) (mv 8)) (mss_one (ms_ret me_str)) mss_nil) (mss_cons (sset 9 nd me_int) (mss_cons (ms_while hp (PW.pt (mw_and (tcmp o_lt bl_lt (mv 9) (mv 5)) (mw_and1 (tcmp o_le bl_le (mbin o_mul (mv 8) (mv 3)) (mv 7))))) (mss_cons (sset 8 nd (mbin o_mul (mv 8) (mv 3))) (mss_one (sset 9 nd (mbin o_addL (mv 9) me_int))))) (mss_cons (ms_if (tcmp (o_eq hr.units) bl_eq (mv 9) (mv 5)) (mss_cons (ms_if (tcmp o_gt bl_gt (mv 7) (mv 8)) (mss_one (ms_ret me_str)) mss_nil) (mss_one (ms_ret (me_tup (mac (mv 6) (mac me_int ma_nil)))))) mss_nil) (mss_cons (sset 10 nd (me_def (dd := []) (ok_p_lowest fu T) hr tk (mac (mbin o_sub (mv 7) (mv 8)) (mac (mbin o_mul (mv 8) (mbin o_sub (mv 3) me_int)) ma_nil)))) (mss_one (ms_ret (me_def (dd := []) (ok_p_times fu T) hr tk (mac (me_def (dd := []) (ok_p_plus fu T) hr tk (mac (me_tup (mac (mv 9) (mac me_int ma_nil))) (mac (mv 10) ma_nil))) (mac (me_def (dd := []) (ok_p_lowest fu T) hr tk (mac (mv 6) (mac (mv 5) ma_nil))) ma_nil))))))))))))))
theorem sc_p_along_pieces : FnScope ["pieces", "cell", "lo", "hi", "begin", "end", "found"] ["pieces", "cell"] (defScope t_p_along_pieces) := ⟨rfl, rfl, rfl, by decide +kernel, rfl, by decide +kernel, by decide +kernel⟩
theorem ok_p_along_pieces (fu : Nat) (T : Tx fa fn fxl K mg) : DefOk P w K mg base 5 "along_pieces" 2 (Pg.f_p_along_pieces fu) [[]] := by
  obtain ⟨fd, F⟩ := T.says.def_ 18 (d := d_p_along_pieces) rfl
  refine def_ok (d := d_p_along_pieces) (ps := ["pieces", "cell"]) (T.glo 43) F (MI.fn_ok (N := ["pieces", "cell", "lo", "hi", "begin", "end", "found"]) F sc_p_along_pieces fun cdv A outer s H E hr => ?_) (allC ⟨[], [], .nil, fun _ => .nil, F.bindsN fun _ _ _ _ _ _ us hl => match us, hl with | [_, _], _ => rfl⟩ all0)
  have tk : Takes (cxOf (L2.CX P w) P w K mg base ["pieces", "cell", "lo", "hi", "begin", "end", "found"] "along_pieces" (defScope t_p_along_pieces) (He.ga K "along_pieces") cdv A outer s H E) (WD E) := takes_of rfl rfl rfl rfl
  have hp : PassesOwn (model P w) (cxOf (L2.CX P w) P w K mg base ["pieces", "cell", "lo", "hi", "begin", "end", "found"] "along_pieces" (defScope t_p_along_pieces) (He.ga K "along_pieces") cdv A outer s H E).A (cxOf (L2.CX P w) P w K mg base ["pieces", "cell", "lo", "hi", "begin", "end", "found"] "along_pieces" (defScope t_p_along_pieces) (He.ga K "along_pieces") cdv A outer s H E).env (cxOf (L2.CX P w) P w K mg base ["pieces", "cell", "lo", "hi", "begin", "end", "found"] "along_pieces" (defScope t_p_along_pieces) (He.ga K "along_pieces") cdv A outer s H E).xe := passes_of rfl
  have nd : (["pieces", "cell", "lo", "hi", "begin", "end", "found"] : List Str).Nodup := sc_p_along_pieces.nd
  show MSs (cxOf (L2.CX P w) P w K mg base ["pieces", "cell", "lo", "hi", "begin", "end", "found"] "along_pieces" (defScope t_p_along_pieces) (He.ga K "along_pieces") cdv A outer s H E) (WD E) (defBody t_p_along_pieces) (Pg.s_p_along_pieces fu)
  exact (mss_cons (ms_if (PW.pt (mw_or (ttru (me_def (dd := []) (ok_p_under fu T) hr tk (mac (mv 1) (mac (mix (mix (mv 0) me_int) me_int) ma_nil)))) (mw_or1 (ttru (me_def (dd := []) (ok_p_under fu T) hr tk (mac (mix (mix (mv 0) (me_un o_neg me_int)) me_int) (mac (mv 1) ma_nil))))))) (mss_one (ms_ret me_str)) mss_nil) (mss_cons (ms_for hp (mi_items (mv 0)) (pg_tup rfl (pgs_cons (gname 2 nd) (pgs_cons (gname 3 nd) (pgs_cons (gname 4 nd) (pgs_cons (gname 5 nd) pgs_nil))))) (gT_ok (gsCons_ok gN_ok (gsCons_ok gN_ok (gsCons_ok gN_ok (gsCons_ok gN_ok gsNil_ok))))) (mss_cons (sset 6 nd (me_def (dd := []) (ok_p_along_straight fu T) hr tk (mac (mv 2) (mac (mv 3) (mac (mv 1) (mac (mbin o_sub (mv 5) (mv 4)) ma_nil)))))) (mss_one (ms_if (tcmp o_isN bl_isN (mv 6) me_non) (mss_one (ms_ret (me_def (dd := []) (ok_p_plus fu T) hr tk (mac (me_tup (mac (mv 4) (mac me_int ma_nil))) (mac (mv 6) ma_nil))))) mss_nil)))) (mss_one (ms_ret me_str))))
theorem sc_p_stretch_on : FnScope ["scale", "word", "words", "at"] ["scale", "word"] (defScope t_p_stretch_on) := ⟨rfl, rfl, rfl, by decide +kernel, rfl, by decide +kernel, by decide +kernel⟩
theorem ok_p_stretch_on (fu : Nat) (T : Tx fa fn fxl K mg) : DefOk P w K mg base 3 "stretch_on" 2 (Pg.f_p_stretch_on fu) [[]] := by
  obtain ⟨fd, F⟩ := T.says.def_ 19 (d := d_p_stretch_on) rfl
  refine def_ok (d := d_p_stretch_on) (ps := ["scale", "word"]) (T.glo 44) F (MI.fn_ok (N := ["scale", "word", "words", "at"]) F sc_p_stretch_on fun cdv A outer s H E hr => ?_) (allC ⟨[], [], .nil, fun _ => .nil, F.bindsN fun _ _ _ _ _ _ us hl => match us, hl with | [_, _], _ => rfl⟩ all0)
  have tk : Takes (cxOf (L2.CX P w) P w K mg base ["scale", "word", "words", "at"] "stretch_on" (defScope t_p_stretch_on) (He.ga K "stretch_on") cdv A outer s H E) (WD E) := takes_of rfl rfl rfl rfl
  have hp : PassesOwn (model P w) (cxOf (L2.CX P w) P w K mg base ["scale", "word", "words", "at"] "stretch_on" (defScope t_p_stretch_on) (He.ga K "stretch_on") cdv A outer s H E).A (cxOf (L2.CX P w) P w K mg base ["scale", "word", "words", "at"] "stretch_on" (defScope t_p_stretch_on) (He.ga K "stretch_on") cdv A outer s H E).env (cxOf (L2.CX P w) P w K mg base ["scale", "word", "words", "at"] "stretch_on" (defScope t_p_stretch_on) (He.ga K "stretch_on") cdv A outer s H E).xe := passes_of rfl
  have nd : (["scale", "word", "words", "at"] : List Str).Nodup := sc_p_stretch_on.nd
  show MSs (cxOf (L2.CX P w) P w K mg base ["scale", "word", "words", "at"] "stretch_on" (defScope t_p_stretch_on) (He.ga K "stretch_on") cdv A outer s H E) (WD E) (defBody t_p_stretch_on) (Pg.s_p_stretch_on fu)
  exact (mss_cons (sset 2 nd (mix (mv 0) me_int)) (mss_cons (sset 3 nd (me_mt PySem.F.plainAttrs_list PySem.F.slot_list_index PySem.F.type_list_index (m_index (hu65 hr)) (mv 2) (mac (mv 1) ma_nil))) (mss_one (ms_ret (me_tup (mac (me_def (dd := []) (ok_p_lowest fu T) hr tk (mac (mbin o_mul (mv 3) (mix (mv 0) me_int)) (mac (mcB c_len (T.free 0) (mac (mv 2) ma_nil)) ma_nil))) (mac (me_def (dd := []) (ok_p_lowest fu T) hr tk (mac (mbin o_mul (mbin o_addL (mv 3) me_int) (mix (mv 0) me_int)) (mac (mcB c_len (T.free 0) (mac (mv 2) ma_nil)) ma_nil))) ma_nil)))))))
theorem sc_p_amid : FnScope ["stretch"] ["stretch"] (defScope t_p_amid) := ⟨rfl, rfl, rfl, by decide +kernel, rfl, by decide +kernel, by decide +kernel⟩
theorem ok_p_amid (fu : Nat) (T : Tx fa fn fxl K mg) : DefOk P w K mg base 4 "amid" 1 (Pg.f_p_amid fu) [[]] := by
  obtain ⟨fd, F⟩ := T.says.def_ 20 (d := d_p_amid) rfl
  refine def_ok (d := d_p_amid) (ps := ["stretch"]) (T.glo 45) F (MI.fn_ok (N := ["stretch"]) F sc_p_amid fun cdv A outer s H E hr => ?_) (allC ⟨[], [], .nil, fun _ => .nil, F.bindsN fun _ _ _ _ _ _ us hl => match us, hl with | [_], _ => rfl⟩ all0)
  have tk : Takes (cxOf (L2.CX P w) P w K mg base ["stretch"] "amid" (defScope t_p_amid) (He.ga K "amid") cdv A outer s H E) (WD E) := takes_of rfl rfl rfl rfl
  have hp : PassesOwn (model P w) (cxOf (L2.CX P w) P w K mg base ["stretch"] "amid" (defScope t_p_amid) (He.ga K "amid") cdv A outer s H E).A (cxOf (L2.CX P w) P w K mg base ["stretch"] "amid" (defScope t_p_amid) (He.ga K "amid") cdv A outer s H E).env (cxOf (L2.CX P w) P w K mg base ["stretch"] "amid" (defScope t_p_amid) (He.ga K "amid") cdv A outer s H E).xe := passes_of rfl
  have nd : (["stretch"] : List Str).Nodup := sc_p_amid.nd
  show MSs (cxOf (L2.CX P w) P w K mg base ["stretch"] "amid" (defScope t_p_amid) (He.ga K "amid") cdv A outer s H E) (WD E) (defBody t_p_amid) (Pg.s_p_amid fu)
  exact (mss_one (ms_ret (me_def (dd := []) (ok_p_times fu T) hr tk (mac (me_def (dd := []) (ok_p_plus fu T) hr tk (mac (mix (mv 0) me_int) (mac (mix (mv 0) me_int) ma_nil))) (mac (me_tup (mac me_int (mac me_int ma_nil))) ma_nil)))))
theorem sc_p_along_order : FnScope ["scale", "cell"] ["scale", "cell"] (defScope t_p_along_order) := ⟨rfl, rfl, rfl, by decide +kernel, rfl, by decide +kernel, by decide +kernel⟩
theorem ok_p_along_order (fu : Nat) (T : Tx fa fn fxl K mg) : DefOk P w K mg base 5 "along_order" 2 (Pg.f_p_along_order fu) [[]] := by
  obtain ⟨fd, F⟩ := T.says.def_ 21 (d := d_p_along_order) rfl
  refine def_ok (d := d_p_along_order) (ps := ["scale", "cell"]) (T.glo 46) F (MI.fn_ok (N := ["scale", "cell"]) F sc_p_along_order fun cdv A outer s H E hr => ?_) (allC ⟨[], [], .nil, fun _ => .nil, F.bindsN fun _ _ _ _ _ _ us hl => match us, hl with | [_, _], _ => rfl⟩ all0)
  have tk : Takes (cxOf (L2.CX P w) P w K mg base ["scale", "cell"] "along_order" (defScope t_p_along_order) (He.ga K "along_order") cdv A outer s H E) (WD E) := takes_of rfl rfl rfl rfl
  have hp : PassesOwn (model P w) (cxOf (L2.CX P w) P w K mg base ["scale", "cell"] "along_order" (defScope t_p_along_order) (He.ga K "along_order") cdv A outer s H E).A (cxOf (L2.CX P w) P w K mg base ["scale", "cell"] "along_order" (defScope t_p_along_order) (He.ga K "along_order") cdv A outer s H E).env (cxOf (L2.CX P w) P w K mg base ["scale", "cell"] "along_order" (defScope t_p_along_order) (He.ga K "along_order") cdv A outer s H E).xe := passes_of rfl
  have nd : (["scale", "cell"] : List Str).Nodup := sc_p_along_order.nd
  show MSs (cxOf (L2.CX P w) P w K mg base ["scale", "cell"] "along_order" (defScope t_p_along_order) (He.ga K "along_order") cdv A outer s H E) (WD E) (defBody t_p_along_order) (Pg.s_p_along_order fu)
  exact (mss_cons (ms_if (tcmp (o_notIn (hu65 hr)) (bl_in true) (mv 1) (mix (mv 0) me_int)) (mss_one (ms_ret me_str)) mss_nil) (mss_one (ms_ret (me_def (dd := []) (ok_p_amid fu T) hr tk (mac (me_def (dd := []) (ok_p_stretch_on fu T) hr tk (mac (mv 0) (mac (mv 1) ma_nil))) ma_nil)))))
theorem sc_p_place_on : FnScope ["scale", "cell", "found"] ["scale", "cell"] (defScope t_p_place_on) := ⟨rfl, rfl, rfl, by decide +kernel, rfl, by decide +kernel, by decide +kernel⟩
theorem ok_p_place_on (fu : Nat) (T : Tx fa fn fxl K mg) : DefOk P w K mg base 6 "place_on" 2 (Pg.f_p_place_on fu) [[]] := by
  obtain ⟨fd, F⟩ := T.says.def_ 22 (d := d_p_place_on) rfl
  refine def_ok (d := d_p_place_on) (ps := ["scale", "cell"]) (T.glo 47) F (MI.fn_ok (N := ["scale", "cell", "found"]) F sc_p_place_on fun cdv A outer s H E hr => ?_) (allC ⟨[], [], .nil, fun _ => .nil, F.bindsN fun _ _ _ _ _ _ us hl => match us, hl with | [_, _], _ => rfl⟩ all0)
  have tk : Takes (cxOf (L2.CX P w) P w K mg base ["scale", "cell", "found"] "place_on" (defScope t_p_place_on) (He.ga K "place_on") cdv A outer s H E) (WD E) := takes_of rfl rfl rfl rfl
  have hp : PassesOwn (model P w) (cxOf (L2.CX P w) P w K mg base ["scale", "cell", "found"] "place_on" (defScope t_p_place_on) (He.ga K "place_on") cdv A outer s H E).A (cxOf (L2.CX P w) P w K mg base ["scale", "cell", "found"] "place_on" (defScope t_p_place_on) (He.ga K "place_on") cdv A outer s H E).env (cxOf (L2.CX P w) P w K mg base ["scale", "cell", "found"] "place_on" (defScope t_p_place_on) (He.ga K "place_on") cdv A outer s H E).xe := passes_of rfl
  have nd : (["scale", "cell", "found"] : List Str).Nodup := sc_p_place_on.nd
  show MSs (cxOf (L2.CX P w) P w K mg base ["scale", "cell", "found"] "place_on" (defScope t_p_place_on) (He.ga K "place_on") cdv A outer s H E) (WD E) (defBody t_p_place_on) (Pg.s_p_place_on fu)
  exact (mss_cons (ms_if (tcmp o_is bl_is (mv 1) me_non) (mss_one (ms_ret me_str)) mss_nil) (mss_cons (ms_if (tcmp (o_eq hr.units) bl_eq (mix (mv 0) me_int) me_str) (mss_one (ms_ret (me_def (dd := []) (ok_p_along_turns fu T) hr tk (mac (mv 0) (mac (mv 1) ma_nil))))) mss_nil) (mss_cons (ms_if (tcmp (o_eq hr.units) bl_eq (mix (mv 0) me_int) me_str) (mss_one (ms_ret (me_def (dd := []) (ok_p_along_pieces fu T) hr tk (mac (mix (mv 0) me_int) (mac (mv 1) ma_nil))))) mss_nil) (mss_cons (ms_if (tcmp (o_eq hr.units) bl_eq (mix (mv 0) me_int) me_str) (mss_one (ms_ret (me_def (dd := []) (ok_p_along_order fu T) hr tk (mac (mv 0) (mac (mv 1) ma_nil))))) mss_nil) (mss_cons (ms_if (tcmp (o_eq hr.units) bl_eq (mix (mv 0) me_int) me_str) (mss_one (sset 2 nd (me_def (dd := []) (ok_p_along_straight fu T) hr tk (mac (me_tup (mac (mix (mv 0) me_int) (mac me_int ma_nil))) (mac (me_tup (mac (mix (mv 0) me_int) (mac me_int ma_nil))) (mac (me_tup (mac (mv 1) (mac me_int ma_nil))) (mac (mix (mv 0) me_int) ma_nil))))))) (mss_one (sset 2 nd (me_def (dd := []) (ok_p_along_straight fu T) hr tk (mac (mix (mv 0) me_int) (mac (mix (mv 0) me_int) (mac (mv 1) (mac (mix (mv 0) me_int) ma_nil)))))))) (mss_cons (ms_if (tcmp o_is bl_is (mv 2) me_non) (mss_one (ms_ret me_str)) mss_nil) (mss_one (ms_ret (mv 2)))))))))
theorem sc_p_with_ticks : FnScope ["scale", "cells", "labels", "cell", "label"] ["scale", "cells", "labels"] (defScope t_p_with_ticks) := ⟨rfl, rfl, rfl, by decide +kernel, rfl, by decide +kernel, by decide +kernel⟩
theorem ok_p_with_ticks (fu : Nat) (T : Tx fa fn fxl K mg) : DefOkT P w K mg base 7 "with_ticks" 3 (Pg.f_p_with_ticks fu) [[]] := by
  obtain ⟨fd, F⟩ := T.says.def_ 23 (d := d_p_with_ticks) rfl
  refine def_okT (d := d_p_with_ticks) (ps := ["scale", "cells", "labels"]) (T.glo 48) F (MI.fn_okT (N := ["scale", "cells", "labels", "cell", "label"]) F sc_p_with_ticks fun cdv A outer s H E hr => ?_) (allC ⟨[], [], .nil, fun _ => .nil, F.bindsN fun _ _ _ _ _ _ us hl => match us, hl with | [_, _, _], _ => rfl⟩ all0)
  have tk : Takes (cxOf (L2.CX P w) P w K mg base ["scale", "cells", "labels", "cell", "label"] "with_ticks" (defScope t_p_with_ticks) (He.ga K "with_ticks") cdv A outer s H E) (WD E) := takes_of rfl rfl rfl rfl
  have hp : PassesOwn (model P w) (cxOf (L2.CX P w) P w K mg base ["scale", "cells", "labels", "cell", "label"] "with_ticks" (defScope t_p_with_ticks) (He.ga K "with_ticks") cdv A outer s H E).A (cxOf (L2.CX P w) P w K mg base ["scale", "cells", "labels", "cell", "label"] "with_ticks" (defScope t_p_with_ticks) (He.ga K "with_ticks") cdv A outer s H E).env (cxOf (L2.CX P w) P w K mg base ["scale", "cells", "labels", "cell", "label"] "with_ticks" (defScope t_p_with_ticks) (He.ga K "with_ticks") cdv A outer s H E).xe := passes_of rfl
  have nd : (["scale", "cells", "labels", "cell", "label"] : List Str).Nodup := sc_p_with_ticks.nd
  show MTSs (cxOf (L2.CX P w) P w K mg base ["scale", "cells", "labels", "cell", "label"] "with_ticks" (defScope t_p_with_ticks) (He.ga K "with_ticks") cdv A outer s H E) (WD E) (defBody t_p_with_ticks) (Pg.s_p_with_ticks fu)
  exact (mtss_one (mts_ret (mx_tupO (mxa_cons (mx_p (mv 0)) (mxa_cons (mx_lc (own := [("cell", 3), ("label", 4)]) nd (mxi_p (mi_zip (T.free 7) (mac (mv 1) (mac (mv 2) ma_nil)))) (blkOk_by (N := ["scale", "cells", "labels", "cell", "label"]) (sc := defScope t_p_with_ticks) (by decide +kernel)) (uVT_ok (uVcons_ok (uV_ok (by decide)) (uVcons_ok (uV_ok (by decide)) uVnil_ok))) (fun _ _ _ _ _ => (pg_seq rfl (pgs_cons (gname 3 nd) (pgs_cons (gname 4 nd) pgs_nil)))) (fun _ _ _ _ _ => mxts_nil) (fun _ _ _ _ _ => (mx_p (me_tup (mac (me_def (dd := []) (ok_p_rounded fu T) hr takes0 (mac (me_def (dd := []) (ok_p_place_on fu T) hr takes0 (mac (mv 0) (mac (mv 3) ma_nil))) ma_nil)) (mac (mv 4) ma_nil)))))) mxa_nil)))))
theorem sc_p_numbers_axis : FnScope ["scale", "cells", "cell"] ["scale", "cells"] (defScope t_p_numbers_axis) := ⟨rfl, rfl, rfl, by decide +kernel, rfl, by decide +kernel, by decide +kernel⟩
theorem ok_p_numbers_axis (fu : Nat) (T : Tx fa fn fxl K mg) : DefOkT P w K mg base 8 "numbers_axis" 2 (f_p_numbers_axis fu) [[]] := by
  obtain ⟨fd, F⟩ := T.says.def_ 24 (d := d_p_numbers_axis) rfl
  refine def_okT (d := d_p_numbers_axis) (ps := ["scale", "cells"]) (T.glo 49) F (MI.fn_okT (N := ["scale", "cells", "cell"]) F sc_p_numbers_axis fun cdv A outer s H E hr => ?_) (allC ⟨[], [], .nil, fun _ => .nil, F.bindsN fun _ _ _ _ _ _ us hl => match us, hl with | [_, _], _ => rfl⟩ all0)
  have tk : Takes (cxOf (L2.CX P w) P w K mg base ["scale", "cells", "cell"] "numbers_axis" (defScope t_p_numbers_axis) (He.ga K "numbers_axis") cdv A outer s H E) (WD E) := takes_of rfl rfl rfl rfl
  have hp : PassesOwn (model P w) (cxOf (L2.CX P w) P w K mg base ["scale", "cells", "cell"] "numbers_axis" (defScope t_p_numbers_axis) (He.ga K "numbers_axis") cdv A outer s H E).A (cxOf (L2.CX P w) P w K mg base ["scale", "cells", "cell"] "numbers_axis" (defScope t_p_numbers_axis) (He.ga K "numbers_axis") cdv A outer s H E).env (cxOf (L2.CX P w) P w K mg base ["scale", "cells", "cell"] "numbers_axis" (defScope t_p_numbers_axis) (He.ga K "numbers_axis") cdv A outer s H E).xe := passes_of rfl
  have nd : (["scale", "cells", "cell"] : List Str).Nodup := sc_p_numbers_axis.nd
  show MTSs (cxOf (L2.CX P w) P w K mg base ["scale", "cells", "cell"] "numbers_axis" (defScope t_p_numbers_axis) (He.ga K "numbers_axis") cdv A outer s H E) (WD E) (defBody t_p_numbers_axis) (s_p_numbers_axis fu)
  exact (mtss_one (mts_ret (mx_fn (dd := []) (ok_p_with_ticks fu T) hr tk (mxr_val (mx_p (mv 0)) (mxr_val (mx_p (mv 1)) (mxr_val (mx_p (me_new (mn_lc (own := [("cell", 2)]) nd (mi_items (mv 1)) (blkOk_by (N := ["scale", "cells", "cell"]) (sc := defScope t_p_numbers_axis) (by decide +kernel)) (vN_ok (by decide)) (fun _ _ _ _ _ => (gname 2 nd)) (fun _ _ _ _ _ => mts_nil) (fun _ _ _ _ _ => (me_def (dd := []) (ok_p_show_number fu T) hr takes0 (mac (mv 2) ma_nil)))))) mxr_nil))))))
theorem sc_p_ends_of : FnScope ["cells", "nought", "some", "lo", "hi"] ["cells", "nought"] (defScope t_p_ends_of) := ⟨rfl, rfl, rfl, by decide +kernel, rfl, by decide +kernel, by decide +kernel⟩
theorem ok_p_ends_of (fu : Nat) (T : Tx fa fn fxl K mg) : DefOk P w K mg base 1 "ends_of" 2 (f_p_ends_of fu) [[]] := by
  obtain ⟨fd, F⟩ := T.says.def_ 25 (d := d_p_ends_of) rfl
  refine def_ok (d := d_p_ends_of) (ps := ["cells", "nought"]) (T.glo 50) F (MI.fn_ok (N := ["cells", "nought", "some", "lo", "hi"]) F sc_p_ends_of fun cdv A outer s H E hr => ?_) (allC ⟨[], [], .nil, fun _ => .nil, F.bindsN fun _ _ _ _ _ _ us hl => match us, hl with | [_, _], _ => rfl⟩ all0)
  have tk : Takes (cxOf (L2.CX P w) P w K mg base ["cells", "nought", "some", "lo", "hi"] "ends_of" (defScope t_p_ends_of) (He.ga K "ends_of") cdv A outer s H E) (WD E) := takes_of rfl rfl rfl rfl
  have hp : PassesOwn (model P w) (cxOf (L2.CX P w) P w K mg base ["cells", "nought", "some", "lo", "hi"] "ends_of" (defScope t_p_ends_of) (He.ga K "ends_of") cdv A outer s H E).A (cxOf (L2.CX P w) P w K mg base ["cells", "nought", "some", "lo", "hi"] "ends_of" (defScope t_p_ends_of) (He.ga K "ends_of") cdv A outer s H E).env (cxOf (L2.CX P w) P w K mg base ["cells", "nought", "some", "lo", "hi"] "ends_of" (defScope t_p_ends_of) (He.ga K "ends_of") cdv A outer s H E).xe := passes_of rfl
  have nd : (["cells", "nought", "some", "lo", "hi"] : List Str).Nodup := sc_p_ends_of.nd
  show MSs (cxOf (L2.CX P w) P w K mg base ["cells", "nought", "some", "lo", "hi"] "ends_of" (defScope t_p_ends_of) (He.ga K "ends_of") cdv A outer s H E) (WD E) (defBody t_p_ends_of) (s_p_ends_of fu)
  exact bad_mss
theorem sc_p_straight_axis : FnScope ["ends", "length", "way", "lo", "hi", "most", "at", "found"] ["ends", "length", "way"] (defScope t_p_straight_axis) := ⟨rfl, rfl, rfl, by decide +kernel, rfl, by decide +kernel, by decide +kernel⟩
theorem ok_p_straight_axis (fu : Nat) (T : Tx fa fn fxl K mg) : DefOk P w K mg base 1 "straight_axis" 3 (f_p_straight_axis fu) [[]] := by
  obtain ⟨fd, F⟩ := T.says.def_ 26 (d := d_p_straight_axis) rfl
  refine def_ok (d := d_p_straight_axis) (ps := ["ends", "length", "way"]) (T.glo 51) F (MI.fn_ok (N := ["ends", "length", "way", "lo", "hi", "most", "at", "found"]) F sc_p_straight_axis fun cdv A outer s H E hr => ?_) (allC ⟨[], [], .nil, fun _ => .nil, F.bindsN fun _ _ _ _ _ _ us hl => match us, hl with | [_, _, _], _ => rfl⟩ all0)
  have tk : Takes (cxOf (L2.CX P w) P w K mg base ["ends", "length", "way", "lo", "hi", "most", "at", "found"] "straight_axis" (defScope t_p_straight_axis) (He.ga K "straight_axis") cdv A outer s H E) (WD E) := takes_of rfl rfl rfl rfl
  have hp : PassesOwn (model P w) (cxOf (L2.CX P w) P w K mg base ["ends", "length", "way", "lo", "hi", "most", "at", "found"] "straight_axis" (defScope t_p_straight_axis) (He.ga K "straight_axis") cdv A outer s H E).A (cxOf (L2.CX P w) P w K mg base ["ends", "length", "way", "lo", "hi", "most", "at", "found"] "straight_axis" (defScope t_p_straight_axis) (He.ga K "straight_axis") cdv A outer s H E).env (cxOf (L2.CX P w) P w K mg base ["ends", "length", "way", "lo", "hi", "most", "at", "found"] "straight_axis" (defScope t_p_straight_axis) (He.ga K "straight_axis") cdv A outer s H E).xe := passes_of rfl
  have nd : (["ends", "length", "way", "lo", "hi", "most", "at", "found"] : List Str).Nodup := sc_p_straight_axis.nd
  show MSs (cxOf (L2.CX P w) P w K mg base ["ends", "length", "way", "lo", "hi", "most", "at", "found"] "straight_axis" (defScope t_p_straight_axis) (He.ga K "straight_axis") cdv A outer s H E) (WD E) (defBody t_p_straight_axis) (s_p_straight_axis fu)
  exact bad_mss
theorem sc_p_turns_axis : FnScope ["base", "cells", "length", "way", "low", "high", "many", "first", "last", "gaps", "ticks", "labels", "cell"] ["base", "cells", "length", "way"] (defScope t_p_turns_axis) := ⟨rfl, rfl, rfl, by decide +kernel, rfl, by decide +kernel, by decide +kernel⟩
theorem ok_p_turns_axis (fu : Nat) (T : Tx fa fn fxl K mg) : DefOk P w K mg base 1 "turns_axis" 4 (f_p_turns_axis fu) [[]] := by
  obtain ⟨fd, F⟩ := T.says.def_ 27 (d := d_p_turns_axis) rfl
  refine def_ok (d := d_p_turns_axis) (ps := ["base", "cells", "length", "way"]) (T.glo 52) F (MI.fn_ok (N := ["base", "cells", "length", "way", "low", "high", "many", "first", "last", "gaps", "ticks", "labels", "cell"]) F sc_p_turns_axis fun cdv A outer s H E hr => ?_) (allC ⟨[], [], .nil, fun _ => .nil, F.bindsN fun _ _ _ _ _ _ us hl => match us, hl with | [_, _, _, _], _ => rfl⟩ all0)
  have tk : Takes (cxOf (L2.CX P w) P w K mg base ["base", "cells", "length", "way", "low", "high", "many", "first", "last", "gaps", "ticks", "labels", "cell"] "turns_axis" (defScope t_p_turns_axis) (He.ga K "turns_axis") cdv A outer s H E) (WD E) := takes_of rfl rfl rfl rfl
  have hp : PassesOwn (model P w) (cxOf (L2.CX P w) P w K mg base ["base", "cells", "length", "way", "low", "high", "many", "first", "last", "gaps", "ticks", "labels", "cell"] "turns_axis" (defScope t_p_turns_axis) (He.ga K "turns_axis") cdv A outer s H E).A (cxOf (L2.CX P w) P w K mg base ["base", "cells", "length", "way", "low", "high", "many", "first", "last", "gaps", "ticks", "labels", "cell"] "turns_axis" (defScope t_p_turns_axis) (He.ga K "turns_axis") cdv A outer s H E).env (cxOf (L2.CX P w) P w K mg base ["base", "cells", "length", "way", "low", "high", "many", "first", "last", "gaps", "ticks", "labels", "cell"] "turns_axis" (defScope t_p_turns_axis) (He.ga K "turns_axis") cdv A outer s H E).xe := passes_of rfl
  have nd : (["base", "cells", "length", "way", "low", "high", "many", "first", "last", "gaps", "ticks", "labels", "cell"] : List Str).Nodup := sc_p_turns_axis.nd
  show MSs (cxOf (L2.CX P w) P w K mg base ["base", "cells", "length", "way", "low", "high", "many", "first", "last", "gaps", "ticks", "labels", "cell"] "turns_axis" (defScope t_p_turns_axis) (He.ga K "turns_axis") cdv A outer s H E) (WD E) (defBody t_p_turns_axis) (s_p_turns_axis fu)
  exact bad_mss
theorem sc_p_widest_of : FnScope ["labels", "label"] ["labels"] (defScope t_p_widest_of) := ⟨rfl, rfl, rfl, by decide +kernel, rfl, by decide +kernel, by decide +kernel⟩
theorem ok_p_widest_of (fu : Nat) (T : Tx fa fn fxl K mg) : DefOk P w K mg base 1 "widest_of" 1 (Pg.f_p_widest_of fu) [[]] := by
  obtain ⟨fd, F⟩ := T.says.def_ 28 (d := d_p_widest_of) rfl
  refine def_ok (d := d_p_widest_of) (ps := ["labels"]) (T.glo 53) F (MI.fn_ok (N := ["labels", "label"]) F sc_p_widest_of fun cdv A outer s H E hr => ?_) (allC ⟨[], [], .nil, fun _ => .nil, F.bindsN fun _ _ _ _ _ _ us hl => match us, hl with | [_], _ => rfl⟩ all0)
  have tk : Takes (cxOf (L2.CX P w) P w K mg base ["labels", "label"] "widest_of" (defScope t_p_widest_of) (He.ga K "widest_of") cdv A outer s H E) (WD E) := takes_of rfl rfl rfl rfl
  have hp : PassesOwn (model P w) (cxOf (L2.CX P w) P w K mg base ["labels", "label"] "widest_of" (defScope t_p_widest_of) (He.ga K "widest_of") cdv A outer s H E).A (cxOf (L2.CX P w) P w K mg base ["labels", "label"] "widest_of" (defScope t_p_widest_of) (He.ga K "widest_of") cdv A outer s H E).env (cxOf (L2.CX P w) P w K mg base ["labels", "label"] "widest_of" (defScope t_p_widest_of) (He.ga K "widest_of") cdv A outer s H E).xe := passes_of rfl
  have nd : (["labels", "label"] : List Str).Nodup := sc_p_widest_of.nd
  show MSs (cxOf (L2.CX P w) P w K mg base ["labels", "label"] "widest_of" (defScope t_p_widest_of) (He.ga K "widest_of") cdv A outer s H E) (WD E) (defBody t_p_widest_of) (Pg.s_p_widest_of fu)
  exact (mss_one (ms_ret (mbin o_mul (mgInt (T.int 8)) (me_df (c_maxDf (hu65 hr) rfl) (T.free 9) (me_new (mn_lc (own := [("label", 1)]) nd (mi_items (mv 0)) (blkOk_by (N := ["labels", "label"]) (sc := defScope t_p_widest_of) (by decide +kernel)) (vN_ok (by decide)) (fun _ _ _ _ _ => (gname 1 nd)) (fun _ _ _ _ _ => mts_nil) (fun _ _ _ _ _ => (mcB c_len (T.free 0) (mac (mv 1) ma_nil))))) me_int))))
theorem sc_p_floor_of : FnScope ["one"] ["one"] (defScope t_p_floor_of) := ⟨rfl, rfl, rfl, by decide +kernel, rfl, by decide +kernel, by decide +kernel⟩
theorem ok_p_floor_of (fu : Nat) (T : Tx fa fn fxl K mg) : DefOk P w K mg base 1 "floor_of" 1 (Pg.f_p_floor_of fu) [[]] := by
  obtain ⟨fd, F⟩ := T.says.def_ 29 (d := d_p_floor_of) rfl
  refine def_ok (d := d_p_floor_of) (ps := ["one"]) (T.glo 54) F (MI.fn_ok (N := ["one"]) F sc_p_floor_of fun cdv A outer s H E hr => ?_) (allC ⟨[], [], .nil, fun _ => .nil, F.bindsN fun _ _ _ _ _ _ us hl => match us, hl with | [_], _ => rfl⟩ all0)
  have tk : Takes (cxOf (L2.CX P w) P w K mg base ["one"] "floor_of" (defScope t_p_floor_of) (He.ga K "floor_of") cdv A outer s H E) (WD E) := takes_of rfl rfl rfl rfl
  have hp : PassesOwn (model P w) (cxOf (L2.CX P w) P w K mg base ["one"] "floor_of" (defScope t_p_floor_of) (He.ga K "floor_of") cdv A outer s H E).A (cxOf (L2.CX P w) P w K mg base ["one"] "floor_of" (defScope t_p_floor_of) (He.ga K "floor_of") cdv A outer s H E).env (cxOf (L2.CX P w) P w K mg base ["one"] "floor_of" (defScope t_p_floor_of) (He.ga K "floor_of") cdv A outer s H E).xe := passes_of rfl
  have nd : (["one"] : List Str).Nodup := sc_p_floor_of.nd
  show MSs (cxOf (L2.CX P w) P w K mg base ["one"] "floor_of" (defScope t_p_floor_of) (He.ga K "floor_of") cdv A outer s H E) (WD E) (defBody t_p_floor_of) (Pg.s_p_floor_of fu)
  exact (mss_one (ms_ret (mbin o_fdv (mix (mv 0) me_int) (mix (mv 0) me_int))))
theorem sc_p_piece_lengths : FnScope ["ends", "room", "parts", "whole", "part", "found", "lo", "hi"] ["ends", "room"] (defScope t_p_piece_lengths) := ⟨rfl, rfl, rfl, by decide +kernel, rfl, by decide +kernel, by decide +kernel⟩
theorem ok_p_piece_lengths (fu : Nat) (T : Tx fa fn fxl K mg) : DefOk P w K mg base 4 "piece_lengths" 2 (f_p_piece_lengths fu) [[]] := by
  obtain ⟨fd, F⟩ := T.says.def_ 30 (d := d_p_piece_lengths) rfl
  refine def_ok (d := d_p_piece_lengths) (ps := ["ends", "room"]) (T.glo 55) F (MI.fn_ok (N := ["ends", "room", "parts", "whole", "part", "found", "lo", "hi"]) F sc_p_piece_lengths fun cdv A outer s H E hr => ?_) (allC ⟨[], [], .nil, fun _ => .nil, F.bindsN fun _ _ _ _ _ _ us hl => match us, hl with | [_, _], _ => rfl⟩ all0)
  have tk : Takes (cxOf (L2.CX P w) P w K mg base ["ends", "room", "parts", "whole", "part", "found", "lo", "hi"] "piece_lengths" (defScope t_p_piece_lengths) (He.ga K "piece_lengths") cdv A outer s H E) (WD E) := takes_of rfl rfl rfl rfl
  have hp : PassesOwn (model P w) (cxOf (L2.CX P w) P w K mg base ["ends", "room", "parts", "whole", "part", "found", "lo", "hi"] "piece_lengths" (defScope t_p_piece_lengths) (He.ga K "piece_lengths") cdv A outer s H E).A (cxOf (L2.CX P w) P w K mg base ["ends", "room", "parts", "whole", "part", "found", "lo", "hi"] "piece_lengths" (defScope t_p_piece_lengths) (He.ga K "piece_lengths") cdv A outer s H E).env (cxOf (L2.CX P w) P w K mg base ["ends", "room", "parts", "whole", "part", "found", "lo", "hi"] "piece_lengths" (defScope t_p_piece_lengths) (He.ga K "piece_lengths") cdv A outer s H E).xe := passes_of rfl
  have nd : (["ends", "room", "parts", "whole", "part", "found", "lo", "hi"] : List Str).Nodup := sc_p_piece_lengths.nd
  show MSs (cxOf (L2.CX P w) P w K mg base ["ends", "room", "parts", "whole", "part", "found", "lo", "hi"] "piece_lengths" (defScope t_p_piece_lengths) (He.ga K "piece_lengths") cdv A outer s H E) (WD E) (defBody t_p_piece_lengths) (s_p_piece_lengths fu)
  exact (mss_cons (ms_setLc (j := 2) (own := [("lo", 6), ("hi", 7)]) nd (mi_items (mv 0)) (blkOk_by (N := ["ends", "room", "parts", "whole", "part", "found", "lo", "hi"]) (sc := defScope t_p_piece_lengths) (by decide +kernel)) (vT_ok (vsCons_ok (vN_ok (by decide)) (vsCons_ok (vN_ok (by decide)) vsNil_ok))) (fun _ _ _ _ _ => (pg_tup rfl (pgs_cons (gname 6 nd) (pgs_cons (gname 7 nd) pgs_nil)))) (fun _ _ _ _ _ => mts_nil) (fun _ _ _ _ _ => (me_def (dd := []) (ok_p_minus fu T) hr takes0 (mac (mv 7) (mac (mv 6) ma_nil))))) (mss_cons (sset 3 nd (me_tup (mac me_int (mac me_int ma_nil)))) (mss_cons (ms_for hp (mi_items (mv 2)) (gname 4 nd) gN_ok (mss_one (sset 3 nd (me_def (dd := []) (ok_p_plus fu T) hr tk (mac (mv 3) (mac (mv 4) ma_nil)))))) (mss_cons (ms_setLc (j := 5) (own := [("part", 4)]) nd (mi_items (me_sl (mv 2) mo_none (mo_some (me_un o_neg me_int)))) (blkOk_by (N := ["ends", "room", "parts", "whole", "part", "found", "lo", "hi"]) (sc := defScope t_p_piece_lengths) (by decide +kernel)) (vN_ok (by decide)) (fun _ _ _ _ _ => (gname 4 nd)) (fun _ _ _ _ _ => mts_nil) (fun _ _ _ _ _ => (me_def (dd := []) (ok_p_floor_of fu T) hr takes0 (mac (me_def (dd := []) (ok_p_over fu T) hr takes0 (mac (me_def (dd := []) (ok_p_times fu T) hr takes0 (mac (mv 4) (mac (me_tup (mac (mv 1) (mac me_int ma_nil))) ma_nil))) (mac (mv 3) ma_nil))) ma_nil)))) (mss_one (ms_ret (mbin o_addL (mv 5) (me_lst (mac (mbin o_sub (mv 1) (mcB (c_sum rfl) (T.free 10) (mac (mv 5) ma_nil))) ma_nil)))))))))
theorem sc_p_broken_axis : FnScope ["ends", "length", "way", "room", "labels", "pair", "least", "lengths", "pieces", "begin", "long", "places", "lo", "hi", "start", "end"] ["ends", "length", "way"] (defScope t_p_broken_axis) := ⟨rfl, rfl, rfl, by decide +kernel, rfl, by decide +kernel, by decide +kernel⟩
theorem ok_p_broken_axis (fu : Nat) (T : Tx fa fn fxl K mg) : DefOkT P w K mg base 5 "broken_axis" 3 (f_p_broken_axis fu) [[]] := by
  obtain ⟨fd, F⟩ := T.says.def_ 31 (d := d_p_broken_axis) rfl
  refine def_okT (d := d_p_broken_axis) (ps := ["ends", "length", "way"]) (T.glo 56) F (MI.fn_okT (N := ["ends", "length", "way", "room", "labels", "pair", "least", "lengths", "pieces", "begin", "long", "places", "lo", "hi", "start", "end"]) F sc_p_broken_axis fun cdv A outer s H E hr => ?_) (allC ⟨[], [], .nil, fun _ => .nil, F.bindsN fun _ _ _ _ _ _ us hl => match us, hl with | [_, _, _], _ => rfl⟩ all0)
  have tk : Takes (cxOf (L2.CX P w) P w K mg base ["ends", "length", "way", "room", "labels", "pair", "least", "lengths", "pieces", "begin", "long", "places", "lo", "hi", "start", "end"] "broken_axis" (defScope t_p_broken_axis) (He.ga K "broken_axis") cdv A outer s H E) (WD E) := takes_of rfl rfl rfl rfl
  have hp : PassesOwn (model P w) (cxOf (L2.CX P w) P w K mg base ["ends", "length", "way", "room", "labels", "pair", "least", "lengths", "pieces", "begin", "long", "places", "lo", "hi", "start", "end"] "broken_axis" (defScope t_p_broken_axis) (He.ga K "broken_axis") cdv A outer s H E).A (cxOf (L2.CX P w) P w K mg base ["ends", "length", "way", "room", "labels", "pair", "least", "lengths", "pieces", "begin", "long", "places", "lo", "hi", "start", "end"] "broken_axis" (defScope t_p_broken_axis) (He.ga K "broken_axis") cdv A outer s H E).env (cxOf (L2.CX P w) P w K mg base ["ends", "length", "way", "room", "labels", "pair", "least", "lengths", "pieces", "begin", "long", "places", "lo", "hi", "start", "end"] "broken_axis" (defScope t_p_broken_axis) (He.ga K "broken_axis") cdv A outer s H E).xe := passes_of rfl
  have nd : (["ends", "length", "way", "room", "labels", "pair", "least", "lengths", "pieces", "begin", "long", "places", "lo", "hi", "start", "end"] : List Str).Nodup := sc_p_broken_axis.nd
  show MTSs (cxOf (L2.CX P w) P w K mg base ["ends", "length", "way", "room", "labels", "pair", "least", "lengths", "pieces", "begin", "long", "places", "lo", "hi", "start", "end"] "broken_axis" (defScope t_p_broken_axis) (He.ga K "broken_axis") cdv A outer s H E) (WD E) (defBody t_p_broken_axis) (s_p_broken_axis fu)
  exact (mtss_cons (mts_set 3 nd (mx_p (mbin o_sub (mv 1) (mbin o_mul (mgInt (T.int 11)) (mbin o_sub (mcB c_len (T.free 0) (mac (mv 0) ma_nil)) me_int))))) (mtss_cons (mts_set 4 nd (mx_own mxa_nil)) (mtss_cons (mts_for hp (mxi_p (mi_items (mv 0))) (gname 5 nd) uN_ok (mtss_one (mts_ext 4 (mx_own (mxa_cons (mx_p (me_def (dd := []) (ok_p_show_number fu T) hr tk (mac (mix (mv 5) me_int) ma_nil))) (mxa_cons (mx_p (me_def (dd := []) (ok_p_show_number fu T) hr tk (mac (mix (mv 5) me_int) ma_nil))) mxa_nil))) (pv 4)))) (mtss_frz 4 (mtss_cons (mts_set 6 nd (mx_p (mgInt (T.int 12)))) (mtss_cons (mts_if (mxt_p (tcmp (o_eq hr.units) bl_eq (mv 2) me_str)) (mtss_one (mts_set 6 nd (mx_p (mbin o_addL (mgInt (T.int 12)) (me_def (dd := []) (ok_p_widest_of fu T) hr tk (mac (mv 4) ma_nil)))))) mtss_nil) (mtss_cons (mts_set 7 nd (mx_p (me_def (dd := []) (ok_p_piece_lengths fu T) hr tk (mac (mv 0) (mac (mv 3) ma_nil))))) (mtss_cons (mts_if (mxt_p (PW.pt (mw_or (tcmp o_lt bl_lt (mcB (c_minL rfl) (T.free 13) (mac (mv 7) ma_nil)) (mv 6)) (mw_or1 (PW.pt (mw_and (tcmp (o_eq hr.units) bl_eq (mv 2) me_str) (mw_and1 (tcmp o_gt bl_gt (me_def (dd := []) (ok_p_widest_of fu T) hr tk (mac (mv 4) ma_nil)) (mgInt (T.int 14)))))))))) (mtss_one (mts_sraise (T.glo 15) (T.exc 16) tk)) mtss_nil) (mtss_cons (mts_set 8 nd (mx_own mxa_nil)) (mtss_cons (mts_set 9 nd (mx_p me_int)) (mtss_cons (mts_for hp (mxi_p (mi_zipM (T.free 7) (mac (mv 0) (mac (mv 7) ma_nil)))) (pg_seq rfl (pgs_cons (gname 5 nd) (pgs_cons (gname 10 nd) pgs_nil))) (uT_ok (usCons_ok uN_ok (usCons_ok uN_ok usNil_ok))) (mtss_cons (mts_app 8 (mx_p (me_tup (mac (mix (mv 5) me_int) (mac (mix (mv 5) me_int) (mac (mv 9) (mac (mbin o_addL (mv 9) (mv 10)) ma_nil)))))) (pv 8)) (mtss_one (mts_set 9 nd (mx_p (mbin o_addL (mbin o_addL (mv 9) (mv 10)) (mgInt (T.int 11)))))))) (mtss_cons (mts_set 11 nd (mx_own mxa_nil)) (mtss_cons (mts_forN 8 hp (pv 8) (mv 8) (pg_seq rfl (pgs_cons (gname 12 nd) (pgs_cons (gname 13 nd) (pgs_cons (gname 14 nd) (pgs_cons (gname 15 nd) pgs_nil))))) (uT_ok (usCons_ok uN_ok (usCons_ok uN_ok (usCons_ok uN_ok (usCons_ok uN_ok usNil_ok))))) (mtss_one (mts_ext 11 (mx_own (mxa_cons (mx_p (mv 14)) (mxa_cons (mx_p (mv 15)) mxa_nil))) (pv 11)))) (mtss_frz 11 (mtss_one (mts_ret (mx_tupO (mxa_cons (mx_tupO (mxa_cons (mx_p me_str) (mxa_cons (mx_mv 8) (mxa_cons (mx_p (mv 1)) mxa_nil)))) (mxa_cons (mx_nV (mn_lz rfl (T.free 17) (T.free 7) (mac (mv 11) (mac (mv 4) ma_nil)))) mxa_nil)))))))))))))))))))
theorem sc_p_days_axis : FnScope ["cells", "length", "way", "least", "greatest", "step", "first", "last", "found", "days", "month"] ["cells", "length", "way"] (defScope t_p_days_axis) := ⟨rfl, rfl, rfl, by decide +kernel, rfl, by decide +kernel, by decide +kernel⟩
theorem ok_p_days_axis (fu : Nat) (T : Tx fa fn fxl K mg) : DefOk P w K mg base 1 "days_axis" 3 (f_p_days_axis fu) [[]] := by
  obtain ⟨fd, F⟩ := T.says.def_ 32 (d := d_p_days_axis) rfl
  refine def_ok (d := d_p_days_axis) (ps := ["cells", "length", "way"]) (T.glo 57) F (MI.fn_ok (N := ["cells", "length", "way", "least", "greatest", "step", "first", "last", "found", "days", "month"]) F sc_p_days_axis fun cdv A outer s H E hr => ?_) (allC ⟨[], [], .nil, fun _ => .nil, F.bindsN fun _ _ _ _ _ _ us hl => match us, hl with | [_, _, _], _ => rfl⟩ all0)
  have tk : Takes (cxOf (L2.CX P w) P w K mg base ["cells", "length", "way", "least", "greatest", "step", "first", "last", "found", "days", "month"] "days_axis" (defScope t_p_days_axis) (He.ga K "days_axis") cdv A outer s H E) (WD E) := takes_of rfl rfl rfl rfl
  have hp : PassesOwn (model P w) (cxOf (L2.CX P w) P w K mg base ["cells", "length", "way", "least", "greatest", "step", "first", "last", "found", "days", "month"] "days_axis" (defScope t_p_days_axis) (He.ga K "days_axis") cdv A outer s H E).A (cxOf (L2.CX P w) P w K mg base ["cells", "length", "way", "least", "greatest", "step", "first", "last", "found", "days", "month"] "days_axis" (defScope t_p_days_axis) (He.ga K "days_axis") cdv A outer s H E).env (cxOf (L2.CX P w) P w K mg base ["cells", "length", "way", "least", "greatest", "step", "first", "last", "found", "days", "month"] "days_axis" (defScope t_p_days_axis) (He.ga K "days_axis") cdv A outer s H E).xe := passes_of rfl
  have nd : (["cells", "length", "way", "least", "greatest", "step", "first", "last", "found", "days", "month"] : List Str).Nodup := sc_p_days_axis.nd
  show MSs (cxOf (L2.CX P w) P w K mg base ["cells", "length", "way", "least", "greatest", "step", "first", "last", "found", "days", "month"] "days_axis" (defScope t_p_days_axis) (He.ga K "days_axis") cdv A outer s H E) (WD E) (defBody t_p_days_axis) (s_p_days_axis fu)
  exact bad_mss
theorem sc_p_words_of : FnScope ["cells", "found", "cell"] ["cells"] (defScope t_p_words_of) := ⟨rfl, rfl, rfl, by decide +kernel, rfl, by decide +kernel, by decide +kernel⟩
theorem ok_p_words_of (fu : Nat) (T : Tx fa fn fxl K mg) : DefOk P w K mg base 1 "words_of" 1 (f_p_words_of fu) [[]] := by
  obtain ⟨fd, F⟩ := T.says.def_ 33 (d := d_p_words_of) rfl
  refine def_ok (d := d_p_words_of) (ps := ["cells"]) (T.glo 58) F (MI.fn_ok (N := ["cells", "found", "cell"]) F sc_p_words_of fun cdv A outer s H E hr => ?_) (allC ⟨[], [], .nil, fun _ => .nil, F.bindsN fun _ _ _ _ _ _ us hl => match us, hl with | [_], _ => rfl⟩ all0)
  have tk : Takes (cxOf (L2.CX P w) P w K mg base ["cells", "found", "cell"] "words_of" (defScope t_p_words_of) (He.ga K "words_of") cdv A outer s H E) (WD E) := takes_of rfl rfl rfl rfl
  have hp : PassesOwn (model P w) (cxOf (L2.CX P w) P w K mg base ["cells", "found", "cell"] "words_of" (defScope t_p_words_of) (He.ga K "words_of") cdv A outer s H E).A (cxOf (L2.CX P w) P w K mg base ["cells", "found", "cell"] "words_of" (defScope t_p_words_of) (He.ga K "words_of") cdv A outer s H E).env (cxOf (L2.CX P w) P w K mg base ["cells", "found", "cell"] "words_of" (defScope t_p_words_of) (He.ga K "words_of") cdv A outer s H E).xe := passes_of rfl
  have nd : (["cells", "found", "cell"] : List Str).Nodup := sc_p_words_of.nd
  show MSs (cxOf (L2.CX P w) P w K mg base ["cells", "found", "cell"] "words_of" (defScope t_p_words_of) (He.ga K "words_of") cdv A outer s H E) (WD E) (defBody t_p_words_of) (s_p_words_of fu)
  exact bad_mss
theorem sc_p_order_axis : FnScope ["words", "length", "way"] ["words", "length", "way"] (defScope t_p_order_axis) := ⟨rfl, rfl, rfl, by decide +kernel, rfl, by decide +kernel, by decide +kernel⟩
theorem ok_p_order_axis (fu : Nat) (T : Tx fa fn fxl K mg) : DefOk P w K mg base 1 "order_axis" 3 (f_p_order_axis fu) [[]] := by
  obtain ⟨fd, F⟩ := T.says.def_ 34 (d := d_p_order_axis) rfl
  refine def_ok (d := d_p_order_axis) (ps := ["words", "length", "way"]) (T.glo 59) F (MI.fn_ok (N := ["words", "length", "way"]) F sc_p_order_axis fun cdv A outer s H E hr => ?_) (allC ⟨[], [], .nil, fun _ => .nil, F.bindsN fun _ _ _ _ _ _ us hl => match us, hl with | [_, _, _], _ => rfl⟩ all0)
  have tk : Takes (cxOf (L2.CX P w) P w K mg base ["words", "length", "way"] "order_axis" (defScope t_p_order_axis) (He.ga K "order_axis") cdv A outer s H E) (WD E) := takes_of rfl rfl rfl rfl
  have hp : PassesOwn (model P w) (cxOf (L2.CX P w) P w K mg base ["words", "length", "way"] "order_axis" (defScope t_p_order_axis) (He.ga K "order_axis") cdv A outer s H E).A (cxOf (L2.CX P w) P w K mg base ["words", "length", "way"] "order_axis" (defScope t_p_order_axis) (He.ga K "order_axis") cdv A outer s H E).env (cxOf (L2.CX P w) P w K mg base ["words", "length", "way"] "order_axis" (defScope t_p_order_axis) (He.ga K "order_axis") cdv A outer s H E).xe := passes_of rfl
  have nd : (["words", "length", "way"] : List Str).Nodup := sc_p_order_axis.nd
  show MSs (cxOf (L2.CX P w) P w K mg base ["words", "length", "way"] "order_axis" (defScope t_p_order_axis) (He.ga K "order_axis") cdv A outer s H E) (WD E) (defBody t_p_order_axis) (s_p_order_axis fu)
  exact bad_mss
theorem sc_p_axis_for : FnScope ["wish", "cells", "length", "way", "nought"] ["wish", "cells", "length", "way", "nought"] (defScope t_p_axis_for) := ⟨rfl, rfl, rfl, by decide +kernel, rfl, by decide +kernel, by decide +kernel⟩
theorem ok_p_axis_for (fu : Nat) (T : Tx fa fn fxl K mg) : DefOkT P w K mg base 9 "axis_for" 5 (f_p_axis_for fu) [[], [.bool false]] := by
  obtain ⟨fd, F⟩ := T.says.def_ 35 (d := d_p_axis_for) rfl
  refine def_okT (d := d_p_axis_for) (ps := ["wish", "cells", "length", "way", "nought"]) (T.glo 60) F (MI.fn_okT (N := ["wish", "cells", "length", "way", "nought"]) F sc_p_axis_for fun cdv A outer s H E hr => ?_) (allC (let ⟨ds, h1, h2⟩ := F.binds1 5 1 (by intro z; cases z) rfl (fun _ _ _ _ _ _ _ us its hl hi => match us, its, hl, hi with | [_, _, _, _, _], [_], _, _ => ⟨_, rfl, rfl⟩); ⟨_, ds, h1, fun _ => .nil, h2⟩) (allC (let ⟨ds, h1, h2⟩ := F.binds1 4 0 (by intro z; cases z) rfl (fun _ _ _ _ _ _ _ us its hl hi => match us, its, hl, hi with | [_, _, _, _], [_], _, _ => ⟨_, rfl, rfl⟩); ⟨_, ds, h1, fun _ => .cons (.bl _) (.nil), h2⟩) all0))
  have tk : Takes (cxOf (L2.CX P w) P w K mg base ["wish", "cells", "length", "way", "nought"] "axis_for" (defScope t_p_axis_for) (He.ga K "axis_for") cdv A outer s H E) (WD E) := takes_of rfl rfl rfl rfl
  have hp : PassesOwn (model P w) (cxOf (L2.CX P w) P w K mg base ["wish", "cells", "length", "way", "nought"] "axis_for" (defScope t_p_axis_for) (He.ga K "axis_for") cdv A outer s H E).A (cxOf (L2.CX P w) P w K mg base ["wish", "cells", "length", "way", "nought"] "axis_for" (defScope t_p_axis_for) (He.ga K "axis_for") cdv A outer s H E).env (cxOf (L2.CX P w) P w K mg base ["wish", "cells", "length", "way", "nought"] "axis_for" (defScope t_p_axis_for) (He.ga K "axis_for") cdv A outer s H E).xe := passes_of rfl
  have nd : (["wish", "cells", "length", "way", "nought"] : List Str).Nodup := sc_p_axis_for.nd
  show MTSs (cxOf (L2.CX P w) P w K mg base ["wish", "cells", "length", "way", "nought"] "axis_for" (defScope t_p_axis_for) (He.ga K "axis_for") cdv A outer s H E) (WD E) (defBody t_p_axis_for) (s_p_axis_for fu)
  exact (mtss_cons (mts_if (mxt_p (tcmp (o_eq hr.units) bl_eq (mix (mv 0) me_int) me_str)) (mtss_one (mts_ret (mx_p (me_def (dd := []) (ok_p_turns_axis fu T) hr tk (mac (mix (mv 0) me_int) (mac (mv 1) (mac (mv 2) (mac (mv 3) ma_nil)))))))) mtss_nil) (mtss_cons (mts_if (mxt_p (tcmp (o_eq hr.units) bl_eq (mix (mv 0) me_int) me_str)) (mtss_one (mts_ret (mx_fn (dd := []) (ok_p_broken_axis fu T) hr tk (mxr_val (mx_p (mix (mv 0) me_int)) (mxr_val (mx_p (mv 2)) (mxr_val (mx_p (mv 3)) mxr_nil)))))) mtss_nil) (mtss_cons (mts_if (mxt_p (tcmp (o_eq hr.units) bl_eq (mix (mv 0) me_int) me_str)) (mtss_one (mts_ret (mx_p (me_def (dd := []) (ok_p_days_axis fu T) hr tk (mac (mv 1) (mac (mv 2) (mac (mv 3) ma_nil))))))) mtss_nil) (mtss_cons (mts_if (mxt_p (PW.pt (mw_and (tcmp (o_eq hr.units) bl_eq (mix (mv 0) me_int) me_str) (mw_and1 (tcmp (o_eq hr.units) bl_eq (mcB c_len (T.free 0) (mac (mv 0) ma_nil)) me_int))))) (mtss_one (mts_ret (mx_p (me_def (dd := []) (ok_p_order_axis fu T) hr tk (mac (mcT c_list (T.free 17) (mac (mix (mv 0) me_int) ma_nil)) (mac (mv 2) (mac (mv 3) ma_nil))))))) mtss_nil) (mtss_cons (mts_if (mxt_p (tcmp (o_eq hr.units) bl_eq (mix (mv 0) me_int) me_str)) (mtss_one (mts_ret (mx_p (me_def (dd := []) (ok_p_order_axis fu T) hr tk (mac (me_def (dd := []) (ok_p_words_of fu T) hr tk (mac (mv 1) ma_nil)) (mac (mv 2) (mac (mv 3) ma_nil))))))) mtss_nil) (mtss_cons (mts_if (mxt_p (tcmp (o_eq hr.units) bl_eq (mcB c_len (T.free 0) (mac (mv 0) ma_nil)) me_int)) (mtss_one (mts_ret (mx_fn (dd := []) (ok_p_numbers_axis fu T) hr tk (mxr_val (mx_p (me_tup (mac me_str (mac (mix (mv 0) me_int) (mac (mix (mv 0) me_int) (mac (mv 2) ma_nil)))))) (mxr_val (mx_p (me_lst (mac (mix (mv 0) me_int) (mac (mix (mv 0) me_int) ma_nil)))) mxr_nil))))) mtss_nil) (mtss_one (mts_ret (mx_p (me_def (dd := []) (ok_p_straight_axis fu T) hr tk (mac (me_def (dd := []) (ok_p_ends_of fu T) hr tk (mac (mv 1) (mac (mv 4) ma_nil))) (mac (mv 2) (mac (mv 3) ma_nil)))))))))))))
theorem sc_law_asked : FnScope ["_law_wish", "_law_cells", "_law_length", "_law_way", "_law_nought", "_law_found"] ["_law_wish", "_law_cells", "_law_length", "_law_way", "_law_nought"] (defScope t_law_asked) := ⟨rfl, rfl, rfl, by decide +kernel, rfl, by decide +kernel, by decide +kernel⟩
theorem ok_law_asked (fu : Nat) (T : Tx fa fn fxl K mg) : DefOkT P w K mg base 10 "_law_asked" 5 (f_law_asked fu) [[]] := by
  obtain ⟨fd, F⟩ := T.says.def_ 36 (d := d_law_asked) rfl
  refine def_okT (d := d_law_asked) (ps := ["_law_wish", "_law_cells", "_law_length", "_law_way", "_law_nought"]) (T.glo 61) F (MI.fn_okT (N := ["_law_wish", "_law_cells", "_law_length", "_law_way", "_law_nought", "_law_found"]) F sc_law_asked fun cdv A outer s H E hr => ?_) (allC ⟨[], [], .nil, fun _ => .nil, F.bindsN fun _ _ _ _ _ _ us hl => match us, hl with | [_, _, _, _, _], _ => rfl⟩ all0)
  have tk : Takes (cxOf (L2.CX P w) P w K mg base ["_law_wish", "_law_cells", "_law_length", "_law_way", "_law_nought", "_law_found"] "_law_asked" (defScope t_law_asked) (He.ga K "_law_asked") cdv A outer s H E) (WD E) := takes_of rfl rfl rfl rfl
  have hp : PassesOwn (model P w) (cxOf (L2.CX P w) P w K mg base ["_law_wish", "_law_cells", "_law_length", "_law_way", "_law_nought", "_law_found"] "_law_asked" (defScope t_law_asked) (He.ga K "_law_asked") cdv A outer s H E).A (cxOf (L2.CX P w) P w K mg base ["_law_wish", "_law_cells", "_law_length", "_law_way", "_law_nought", "_law_found"] "_law_asked" (defScope t_law_asked) (He.ga K "_law_asked") cdv A outer s H E).env (cxOf (L2.CX P w) P w K mg base ["_law_wish", "_law_cells", "_law_length", "_law_way", "_law_nought", "_law_found"] "_law_asked" (defScope t_law_asked) (He.ga K "_law_asked") cdv A outer s H E).xe := passes_of rfl
  have nd : (["_law_wish", "_law_cells", "_law_length", "_law_way", "_law_nought", "_law_found"] : List Str).Nodup := sc_law_asked.nd
  show MTSs (cxOf (L2.CX P w) P w K mg base ["_law_wish", "_law_cells", "_law_length", "_law_way", "_law_nought", "_law_found"] "_law_asked" (defScope t_law_asked) (He.ga K "_law_asked") cdv A outer s H E) (WD E) (defBody t_law_asked) (s_law_asked fu)
  exact (mtss_cons (mts_set 5 nd (mx_p me_str)) (mtss_cons (mts_try (T.glo 15) tk (subT_ok _ (allC ⟨(T.glo 15), T.exm 21⟩ (allC ⟨(T.glo 5), T.exm 20⟩ (allC ⟨(T.glo 18), T.exm 19⟩ all0)))) (fun W2 pn2 xe2 tk hp => (mtss_one (mts_if (mxt_p (ttru (mv 4))) (mtss_one (mts_set 5 nd (mx_fn (dd := []) (ok_p_axis_for fu T) hr tk (mxr_val (mx_p (mv 0)) (mxr_val (mx_p (mv 1)) (mxr_val (mx_p (mv 2)) (mxr_val (mx_p (mv 3)) (mxr_val (mx_p me_bl) mxr_nil)))))))) (mtss_one (mts_set 5 nd (mx_fn (dd := [.bool false]) (ok_p_axis_for fu T) hr tk (mxr_val (mx_p (mv 0)) (mxr_val (mx_p (mv 1)) (mxr_val (mx_p (mv 2)) (mxr_val (mx_p (mv 3)) mxr_nil)))))))))) (fun a2 oe2 cls2 d2 pn2 z2 f2 W2 => (mtss_one (mts_set 5 nd (mx_p me_str))))) (mtss_one (mts_ret (mx_mv 5)))))
theorem sc_law_is_axis : FnScope ["_law_found", "_law_due", "_law_tick"] ["_law_found", "_law_due"] (defScope t_law_is_axis) := ⟨rfl, rfl, rfl, by decide +kernel, rfl, by decide +kernel, by decide +kernel⟩
theorem ok_law_is_axis (fu : Nat) (T : Tx fa fn fxl K mg) : DefOk P w K mg base 1 "_law_is_axis" 2 (Pg.f_ax_is_axis fu) [[]] := by
  obtain ⟨fd, F⟩ := T.says.def_ 37 (d := d_law_is_axis) rfl
  refine def_ok (d := d_law_is_axis) (ps := ["_law_found", "_law_due"]) (T.glo 62) F (MI.fn_ok (N := ["_law_found", "_law_due", "_law_tick"]) F sc_law_is_axis fun cdv A outer s H E hr => ?_) (allC ⟨[], [], .nil, fun _ => .nil, F.bindsN fun _ _ _ _ _ _ us hl => match us, hl with | [_, _], _ => rfl⟩ all0)
  have tk : Takes (cxOf (L2.CX P w) P w K mg base ["_law_found", "_law_due", "_law_tick"] "_law_is_axis" (defScope t_law_is_axis) (He.ga K "_law_is_axis") cdv A outer s H E) (WD E) := takes_of rfl rfl rfl rfl
  have hp : PassesOwn (model P w) (cxOf (L2.CX P w) P w K mg base ["_law_found", "_law_due", "_law_tick"] "_law_is_axis" (defScope t_law_is_axis) (He.ga K "_law_is_axis") cdv A outer s H E).A (cxOf (L2.CX P w) P w K mg base ["_law_found", "_law_due", "_law_tick"] "_law_is_axis" (defScope t_law_is_axis) (He.ga K "_law_is_axis") cdv A outer s H E).env (cxOf (L2.CX P w) P w K mg base ["_law_found", "_law_due", "_law_tick"] "_law_is_axis" (defScope t_law_is_axis) (He.ga K "_law_is_axis") cdv A outer s H E).xe := passes_of rfl
  have nd : (["_law_found", "_law_due", "_law_tick"] : List Str).Nodup := sc_law_is_axis.nd
  show MSs (cxOf (L2.CX P w) P w K mg base ["_law_found", "_law_due", "_law_tick"] "_law_is_axis" (defScope t_law_is_axis) (He.ga K "_law_is_axis") cdv A outer s H E) (WD E) (defBody t_law_is_axis) (Pg.s_ax_is_axis fu)
  exact (mss_cons (ms_if (tcmp o_is bl_is (mv 1) me_non) (mss_one (ms_ret (mcmp (o_eq hr.units) (mv 0) me_str))) mss_nil) (mss_cons (ms_if (PW.pt (mw_or (mt_not (ttru (misi "tuple" (T.free 22) (T.free 23) (mv 0)))) (mw_or (tcmp (o_ne hr.units) bl_ne (mcB c_len (T.free 0) (mac (mv 0) ma_nil)) me_int) (mw_or (tcmp (o_ne hr.units) bl_ne (mv 0) (mv 1)) (mw_or1 (mt_not (ttru (misi "list" (T.free 22) (T.free 17) (mix (mv 0) me_int))))))))) (mss_one (ms_ret me_bl)) mss_nil) (mss_cons (ms_for hp (mi_items (mix (mv 0) me_int)) (gname 2 nd) gN_ok (mss_one (ms_if (PW.pt (mw_or (mt_not (ttru (misi "tuple" (T.free 22) (T.free 23) (mv 2)))) (mw_or (ttru (misi "bool" (T.free 22) (T.free 24) (mix (mv 2) me_int))) (mw_or1 (mt_not (ttru (misi "int" (T.free 22) (T.free 1) (mix (mv 2) me_int)))))))) (mss_one (ms_ret me_bl)) mss_nil))) (mss_one (ms_ret me_bl)))))
theorem sc_law_right : FnScope ["_law_wish", "_law_cells", "_law_length", "_law_way", "_law_nought", "_law_due", "_law_handed", "_law_found"] ["_law_wish", "_law_cells", "_law_length", "_law_way", "_law_nought", "_law_due"] (defScope t_law_right) := ⟨rfl, rfl, rfl, by decide +kernel, rfl, by decide +kernel, by decide +kernel⟩
theorem ok_law_right (fu : Nat) (T : Tx fa fn fxl K mg) : DefOkT P w K mg base 11 "_law_right" 6 (f_law_right fu) [[]] := by
  obtain ⟨fd, F⟩ := T.says.def_ 38 (d := d_law_right) rfl
  refine def_okT (d := d_law_right) (ps := ["_law_wish", "_law_cells", "_law_length", "_law_way", "_law_nought", "_law_due"]) (T.glo 63) F (MI.fn_okT (N := ["_law_wish", "_law_cells", "_law_length", "_law_way", "_law_nought", "_law_due", "_law_handed", "_law_found"]) F sc_law_right fun cdv A outer s H E hr => ?_) (allC ⟨[], [], .nil, fun _ => .nil, F.bindsN fun _ _ _ _ _ _ us hl => match us, hl with | [_, _, _, _, _, _], _ => rfl⟩ all0)
  have tk : Takes (cxOf (L2.CX P w) P w K mg base ["_law_wish", "_law_cells", "_law_length", "_law_way", "_law_nought", "_law_due", "_law_handed", "_law_found"] "_law_right" (defScope t_law_right) (He.ga K "_law_right") cdv A outer s H E) (WD E) := takes_of rfl rfl rfl rfl
  have hp : PassesOwn (model P w) (cxOf (L2.CX P w) P w K mg base ["_law_wish", "_law_cells", "_law_length", "_law_way", "_law_nought", "_law_due", "_law_handed", "_law_found"] "_law_right" (defScope t_law_right) (He.ga K "_law_right") cdv A outer s H E).A (cxOf (L2.CX P w) P w K mg base ["_law_wish", "_law_cells", "_law_length", "_law_way", "_law_nought", "_law_due", "_law_handed", "_law_found"] "_law_right" (defScope t_law_right) (He.ga K "_law_right") cdv A outer s H E).env (cxOf (L2.CX P w) P w K mg base ["_law_wish", "_law_cells", "_law_length", "_law_way", "_law_nought", "_law_due", "_law_handed", "_law_found"] "_law_right" (defScope t_law_right) (He.ga K "_law_right") cdv A outer s H E).xe := passes_of rfl
  have nd : (["_law_wish", "_law_cells", "_law_length", "_law_way", "_law_nought", "_law_due", "_law_handed", "_law_found"] : List Str).Nodup := sc_law_right.nd
  show MTSs (cxOf (L2.CX P w) P w K mg base ["_law_wish", "_law_cells", "_law_length", "_law_way", "_law_nought", "_law_due", "_law_handed", "_law_found"] "_law_right" (defScope t_law_right) (He.ga K "_law_right") cdv A outer s H E) (WD E) (defBody t_law_right) (s_law_right fu)
  exact (mtss_cons (mts_set 6 nd (mx_p (mcT c_list (T.free 17) (mac (mv 1) ma_nil)))) (mtss_cons (mts_set 7 nd (mx_fn (dd := []) (ok_law_asked fu T) hr tk (mxr_val (mx_p (mv 0)) (mxr_val (mx_p (mv 6)) (mxr_val (mx_p (mv 2)) (mxr_val (mx_p (mv 3)) (mxr_val (mx_p (mv 4)) mxr_nil))))))) (mtss_cons (mts_if (mxt_p (PW.pt (mw_or (mt_not (ttru (me_def (dd := []) (ok_law_is_axis fu T) hr tk (mac (mv 7) (mac (mv 5) ma_nil))))) (mw_or1 (tcmp (o_ne hr.units) bl_ne (mv 6) (mv 1)))))) (mtss_one (mts_ret (mx_p me_bl))) mtss_nil) (mtss_cons (mts_if (mxt_p (tcmp o_isN bl_isN (mv 5) me_non)) (mtss_cons (mts_mut 7 PySem.F.slot_list_append PySem.F.type_list_append mt_append u_app (rcv_ix (W := WD E) 7 (rcv_nm 7 (pv 7)) me_int) (mac (me_tup (mac (mv 2) (mac me_str ma_nil))) ma_nil)) (mtss_one (mts_if (mxt_p (ttru (misi "list" (T.free 22) (T.free 17) (mix (mix (mv 7) me_int) me_int)))) (mtss_one (mts_mut 7 PySem.F.slot_list_append PySem.F.type_list_append mt_append u_app (rcv_ix (W := WD E) 7 (rcv_ix (W := WD E) 7 (rcv_nm 7 (pv 7)) me_int) me_int) (mac me_str ma_nil))) mtss_nil))) mtss_nil) (mtss_one (mts_ret (mx_def (dd := []) (ok_law_is_axis fu T) hr tk (mxa_cons (mx_fn (dd := []) (ok_law_asked fu T) hr tk (mxr_val (mx_p (mv 0)) (mxr_val (mx_p (mv 6)) (mxr_val (mx_p (mv 2)) (mxr_val (mx_p (mv 3)) (mxr_val (mx_p (mv 4)) mxr_nil)))))) (mxa_cons (mx_p (mv 5)) mxa_nil)))))))))
theorem sc_law_rising : FnScope ["_law_source_here", "_law_many", "_law_most", "_law_top", "_law_found", "_law_k"] ["_law_source_here", "_law_many"] (defScope t_law_rising) := ⟨rfl, rfl, rfl, by decide +kernel, rfl, by decide +kernel, by decide +kernel⟩
theorem ok_law_rising (fu : Nat) (T : Tx fa fn fxl K mg) : DefOkT P w K mg base 3 "_law_rising" 2 (f_law_rising fu) [[]] := by
  obtain ⟨fd, F⟩ := T.says.def_ 39 (d := d_law_rising) rfl
  refine def_okT (d := d_law_rising) (ps := ["_law_source_here", "_law_many"]) (T.glo 64) F (MI.fn_okT (N := ["_law_source_here", "_law_many", "_law_most", "_law_top", "_law_found", "_law_k"]) F sc_law_rising fun cdv A outer s H E hr => ?_) (allC ⟨[], [], .nil, fun _ => .nil, F.bindsN fun _ _ _ _ _ _ us hl => match us, hl with | [_, _], _ => rfl⟩ all0)
  have tk : Takes (cxOf (L2.CX P w) P w K mg base ["_law_source_here", "_law_many", "_law_most", "_law_top", "_law_found", "_law_k"] "_law_rising" (defScope t_law_rising) (He.ga K "_law_rising") cdv A outer s H E) (WD E) := takes_of rfl rfl rfl rfl
  have hp : PassesOwn (model P w) (cxOf (L2.CX P w) P w K mg base ["_law_source_here", "_law_many", "_law_most", "_law_top", "_law_found", "_law_k"] "_law_rising" (defScope t_law_rising) (He.ga K "_law_rising") cdv A outer s H E).A (cxOf (L2.CX P w) P w K mg base ["_law_source_here", "_law_many", "_law_most", "_law_top", "_law_found", "_law_k"] "_law_rising" (defScope t_law_rising) (He.ga K "_law_rising") cdv A outer s H E).env (cxOf (L2.CX P w) P w K mg base ["_law_source_here", "_law_many", "_law_most", "_law_top", "_law_found", "_law_k"] "_law_rising" (defScope t_law_rising) (He.ga K "_law_rising") cdv A outer s H E).xe := passes_of rfl
  have nd : (["_law_source_here", "_law_many", "_law_most", "_law_top", "_law_found", "_law_k"] : List Str).Nodup := sc_law_rising.nd
  show MTSs (cxOf (L2.CX P w) P w K mg base ["_law_source_here", "_law_many", "_law_most", "_law_top", "_law_found", "_law_k"] "_law_rising" (defScope t_law_rising) (He.ga K "_law_rising") cdv A outer s H E) (WD E) (defBody t_law_rising) (s_law_rising fu)
  exact (mtss_cons (mts_setD 2 nd (mx_ix (mx_p (me_lst (mac me_int (mac (mbin o_pow me_int me_int) ma_nil)))) (mx_fn (dd := []) (ok_law_draw fu T) hr tk (mxr_bor 0 (mxr_val (mx_p me_int) mxr_nil) (pv 0))))) (mtss_cons (mts_setD 3 nd (mx_op o_sub (mx_fn (dd := []) (ok_law_great fu T) hr tk (mxr_bor 0 (mxr_val (mx_p (mbin o_mul me_int (mv 2))) mxr_nil) (pv 0))) (mx_p (mbin o_mul me_int (mv 2))))) (mtss_cons (mts_set 4 nd (mx_own mxa_nil)) (mtss_cons (mts_for hp (mxi_p (mi_rng1 (T.free 2) (mac (mv 1) ma_nil))) (gname 5 nd) uN_ok (mtss_cons (mts_app 4 (mx_p (mv 3)) (pv 4)) (mtss_one (mts_setD 3 nd (mx_op o_addL (mx_p (mbin o_addL (mv 3) me_int)) (mx_fn (dd := []) (ok_law_great fu T) hr tk (mxr_bor 0 (mxr_val (mx_p (mv 2)) mxr_nil) (pv 0)))))))) (mtss_one (mts_ret (mx_mv 4)))))))
theorem sc_law_pieces : FnScope ["_law_tops", "_law_bottom", "_law_longs", "_law_pieces_here", "_law_ticks", "_law_begin", "_law_k", "_law_lo", "_law_hi", "_law_end"] ["_law_tops", "_law_bottom", "_law_longs"] (defScope t_law_pieces) := ⟨rfl, rfl, rfl, by decide +kernel, rfl, by decide +kernel, by decide +kernel⟩
theorem ok_law_pieces (fu : Nat) (T : Tx fa fn fxl K mg) : DefOk P w K mg base 2 "_law_pieces" 3 (f_law_pieces fu) [[]] := by
  obtain ⟨fd, F⟩ := T.says.def_ 40 (d := d_law_pieces) rfl
  refine def_ok (d := d_law_pieces) (ps := ["_law_tops", "_law_bottom", "_law_longs"]) (T.glo 65) F (MI.fn_ok (N := ["_law_tops", "_law_bottom", "_law_longs", "_law_pieces_here", "_law_ticks", "_law_begin", "_law_k", "_law_lo", "_law_hi", "_law_end"]) F sc_law_pieces fun cdv A outer s H E hr => ?_) (allC ⟨[], [], .nil, fun _ => .nil, F.bindsN fun _ _ _ _ _ _ us hl => match us, hl with | [_, _, _], _ => rfl⟩ all0)
  have tk : Takes (cxOf (L2.CX P w) P w K mg base ["_law_tops", "_law_bottom", "_law_longs", "_law_pieces_here", "_law_ticks", "_law_begin", "_law_k", "_law_lo", "_law_hi", "_law_end"] "_law_pieces" (defScope t_law_pieces) (He.ga K "_law_pieces") cdv A outer s H E) (WD E) := takes_of rfl rfl rfl rfl
  have hp : PassesOwn (model P w) (cxOf (L2.CX P w) P w K mg base ["_law_tops", "_law_bottom", "_law_longs", "_law_pieces_here", "_law_ticks", "_law_begin", "_law_k", "_law_lo", "_law_hi", "_law_end"] "_law_pieces" (defScope t_law_pieces) (He.ga K "_law_pieces") cdv A outer s H E).A (cxOf (L2.CX P w) P w K mg base ["_law_tops", "_law_bottom", "_law_longs", "_law_pieces_here", "_law_ticks", "_law_begin", "_law_k", "_law_lo", "_law_hi", "_law_end"] "_law_pieces" (defScope t_law_pieces) (He.ga K "_law_pieces") cdv A outer s H E).env (cxOf (L2.CX P w) P w K mg base ["_law_tops", "_law_bottom", "_law_longs", "_law_pieces_here", "_law_ticks", "_law_begin", "_law_k", "_law_lo", "_law_hi", "_law_end"] "_law_pieces" (defScope t_law_pieces) (He.ga K "_law_pieces") cdv A outer s H E).xe := passes_of rfl
  have nd : (["_law_tops", "_law_bottom", "_law_longs", "_law_pieces_here", "_law_ticks", "_law_begin", "_law_k", "_law_lo", "_law_hi", "_law_end"] : List Str).Nodup := sc_law_pieces.nd
  show MSs (cxOf (L2.CX P w) P w K mg base ["_law_tops", "_law_bottom", "_law_longs", "_law_pieces_here", "_law_ticks", "_law_begin", "_law_k", "_law_lo", "_law_hi", "_law_end"] "_law_pieces" (defScope t_law_pieces) (He.ga K "_law_pieces") cdv A outer s H E) (WD E) (defBody t_law_pieces) (s_law_pieces fu)
  exact (mss_cons (ms_own 3 nd (mn_lst ma_nil)) (mss_cons (sset 4 nd (me_lst ma_nil)) (mss_cons (sset 5 nd me_int) (mss_cons (ms_for hp (mi_rng1 (T.free 2) (mac (mcB c_len (T.free 0) (mac (mv 2) ma_nil)) ma_nil)) (gname 6 nd) gN_ok (mss_cons (sset 7 nd (me_def (dd := []) (ok_law_low fu T) hr tk (mac (mix (mv 0) (mbin o_mul me_int (mv 6))) (mac (mv 1) ma_nil)))) (mss_cons (sset 8 nd (me_def (dd := []) (ok_law_low fu T) hr tk (mac (mix (mv 0) (mbin o_addL (mbin o_mul me_int (mv 6)) me_int)) (mac (mv 1) ma_nil)))) (mss_cons (sset 9 nd (mbin o_addL (mv 5) (mix (mv 2) (mv 6)))) (mss_cons (ms_app 3 (me_tup (mac (mv 7) (mac (mv 8) (mac (mv 5) (mac (mv 9) ma_nil))))) (pv 3)) (mss_cons (sset 4 nd (mbin o_addL (mv 4) (me_lst (mac (me_tup (mac (mv 5) (mac (me_def (dd := []) (ok_law_text fu T) hr tk (mac (mv 7) ma_nil)) ma_nil))) (mac (me_tup (mac (mv 9) (mac (me_def (dd := []) (ok_law_text fu T) hr tk (mac (mv 8) ma_nil)) ma_nil))) ma_nil))))) (mss_one (sset 5 nd (mbin o_addL (mv 9) me_int))))))))) (mss_fz (mss_one (ms_ret (me_tup (mac (mv 3) (mac (mv 4) ma_nil))))))))))
theorem sc_law_broken : FnScope ["_law_tops", "_law_bottom", "_law_length", "_law_way", "_law_parts", "_law_room", "_law_longs", "_law_pieces_here", "_law_ticks", "_law_longest", "_law_least", "_law_k", "_law_part", "_law_place", "_law_label"] ["_law_tops", "_law_bottom", "_law_length", "_law_way"] (defScope t_law_broken) := ⟨rfl, rfl, rfl, by decide +kernel, rfl, by decide +kernel, by decide +kernel⟩
theorem ok_law_broken (fu : Nat) (T : Tx fa fn fxl K mg) : DefOk P w K mg base 3 "_law_broken" 4 (f_law_broken fu) [[]] := by
  obtain ⟨fd, F⟩ := T.says.def_ 41 (d := d_law_broken) rfl
  refine def_ok (d := d_law_broken) (ps := ["_law_tops", "_law_bottom", "_law_length", "_law_way"]) (T.glo 66) F (MI.fn_ok (N := ["_law_tops", "_law_bottom", "_law_length", "_law_way", "_law_parts", "_law_room", "_law_longs", "_law_pieces_here", "_law_ticks", "_law_longest", "_law_least", "_law_k", "_law_part", "_law_place", "_law_label"]) F sc_law_broken fun cdv A outer s H E hr => ?_) (allC ⟨[], [], .nil, fun _ => .nil, F.bindsN fun _ _ _ _ _ _ us hl => match us, hl with | [_, _, _, _], _ => rfl⟩ all0)
  have tk : Takes (cxOf (L2.CX P w) P w K mg base ["_law_tops", "_law_bottom", "_law_length", "_law_way", "_law_parts", "_law_room", "_law_longs", "_law_pieces_here", "_law_ticks", "_law_longest", "_law_least", "_law_k", "_law_part", "_law_place", "_law_label"] "_law_broken" (defScope t_law_broken) (He.ga K "_law_broken") cdv A outer s H E) (WD E) := takes_of rfl rfl rfl rfl
  have hp : PassesOwn (model P w) (cxOf (L2.CX P w) P w K mg base ["_law_tops", "_law_bottom", "_law_length", "_law_way", "_law_parts", "_law_room", "_law_longs", "_law_pieces_here", "_law_ticks", "_law_longest", "_law_least", "_law_k", "_law_part", "_law_place", "_law_label"] "_law_broken" (defScope t_law_broken) (He.ga K "_law_broken") cdv A outer s H E).A (cxOf (L2.CX P w) P w K mg base ["_law_tops", "_law_bottom", "_law_length", "_law_way", "_law_parts", "_law_room", "_law_longs", "_law_pieces_here", "_law_ticks", "_law_longest", "_law_least", "_law_k", "_law_part", "_law_place", "_law_label"] "_law_broken" (defScope t_law_broken) (He.ga K "_law_broken") cdv A outer s H E).env (cxOf (L2.CX P w) P w K mg base ["_law_tops", "_law_bottom", "_law_length", "_law_way", "_law_parts", "_law_room", "_law_longs", "_law_pieces_here", "_law_ticks", "_law_longest", "_law_least", "_law_k", "_law_part", "_law_place", "_law_label"] "_law_broken" (defScope t_law_broken) (He.ga K "_law_broken") cdv A outer s H E).xe := passes_of rfl
  have nd : (["_law_tops", "_law_bottom", "_law_length", "_law_way", "_law_parts", "_law_room", "_law_longs", "_law_pieces_here", "_law_ticks", "_law_longest", "_law_least", "_law_k", "_law_part", "_law_place", "_law_label"] : List Str).Nodup := sc_law_broken.nd
  show MSs (cxOf (L2.CX P w) P w K mg base ["_law_tops", "_law_bottom", "_law_length", "_law_way", "_law_parts", "_law_room", "_law_longs", "_law_pieces_here", "_law_ticks", "_law_longest", "_law_least", "_law_k", "_law_part", "_law_place", "_law_label"] "_law_broken" (defScope t_law_broken) (He.ga K "_law_broken") cdv A outer s H E) (WD E) (defBody t_law_broken) (s_law_broken fu)
  exact (mss_cons (sset 4 nd (me_new (mn_lc (own := [("_law_k", 11)]) nd (mi_rng3 (T.free 2) (mac me_int (mac (mcB c_len (T.free 0) (mac (mv 0) ma_nil)) (mac me_int ma_nil)))) (blkOk_by (N := ["_law_tops", "_law_bottom", "_law_length", "_law_way", "_law_parts", "_law_room", "_law_longs", "_law_pieces_here", "_law_ticks", "_law_longest", "_law_least", "_law_k", "_law_part", "_law_place", "_law_label"]) (sc := defScope t_law_broken) (by decide +kernel)) (vN_ok (by decide)) (fun _ _ _ _ _ => (gname 11 nd)) (fun _ _ _ _ _ => mts_nil) (fun _ _ _ _ _ => (mbin o_sub (mix (mv 0) (mbin o_addL (mv 11) me_int)) (mix (mv 0) (mv 11))))))) (mss_cons (sset 5 nd (mbin o_sub (mv 2) (mbin o_mul me_int (mbin o_sub (mcB c_len (T.free 0) (mac (mv 4) ma_nil)) me_int)))) (mss_cons (ms_ownLc (j := 6) (own := [("_law_part", 12)]) nd (mi_items (me_sl (mv 4) mo_none (mo_some (me_un o_neg me_int)))) (blkOk_by (N := ["_law_tops", "_law_bottom", "_law_length", "_law_way", "_law_parts", "_law_room", "_law_longs", "_law_pieces_here", "_law_ticks", "_law_longest", "_law_least", "_law_k", "_law_part", "_law_place", "_law_label"]) (sc := defScope t_law_broken) (by decide +kernel)) (vN_ok (by decide)) (fun _ _ _ _ _ => (gname 12 nd)) (fun _ _ _ _ _ => mts_nil) (fun _ _ _ _ _ => (mbin o_fdv (mbin o_mul (mv 5) (mv 12)) (mcB (c_sum rfl) (T.free 10) (mac (mv 4) ma_nil))))) (mss_cons (ms_appF 6 (mbin o_sub (mv 5) (mcB (c_sum rfl) (T.free 10) (mac (mv 6) ma_nil))) (pv 6)) (mss_fz (mss_cons (sasg (me_def (dd := []) (ok_law_pieces fu T) hr tk (mac (mv 0) (mac (mv 1) (mac (mv 6) ma_nil)))) (pg_tup rfl (pgs_cons (gname 7 nd) (pgs_cons (gname 8 nd) pgs_nil))) (gT_ok (gsCons_ok gN_ok (gsCons_ok gN_ok gsNil_ok)))) (mss_cons (sset 9 nd (mcB (c_maxL rfl) (T.free 9) (mac (me_new (mn_lc (own := [("_law_place", 13), ("_law_label", 14)]) nd (mi_items (mv 8)) (blkOk_by (N := ["_law_tops", "_law_bottom", "_law_length", "_law_way", "_law_parts", "_law_room", "_law_longs", "_law_pieces_here", "_law_ticks", "_law_longest", "_law_least", "_law_k", "_law_part", "_law_place", "_law_label"]) (sc := defScope t_law_broken) (by decide +kernel)) (vT_ok (vsCons_ok (vN_ok (by decide)) (vsCons_ok (vN_ok (by decide)) vsNil_ok))) (fun _ _ _ _ _ => (pg_tup rfl (pgs_cons (gname 13 nd) (pgs_cons (gname 14 nd) pgs_nil)))) (fun _ _ _ _ _ => mts_nil) (fun _ _ _ _ _ => (mcB c_len (T.free 0) (mac (mv 14) ma_nil))))) ma_nil))) (mss_cons (sset 10 nd (mix (me_lst (mac me_int (mac (mbin o_addL me_int (mbin o_mul me_int (mv 9))) ma_nil))) (mcT c_intT (T.free 1) (mac (mcmp (o_eq hr.units) (mv 3) me_str) ma_nil)))) (mss_cons (ms_if (PW.pt (mw_or (tcmp o_lt bl_lt (mcB (c_minL rfl) (T.free 13) (mac (mv 6) ma_nil)) (mv 10)) (mw_or1 (PW.pt (mw_and (tcmp (o_eq hr.units) bl_eq (mv 3) me_str) (mw_and1 (tcmp o_gt bl_gt (mv 9) me_int))))))) (mss_one (ms_ret me_non)) mss_nil) (mss_one (ms_ret (me_tup (mac (me_tup (mac me_str (mac (mv 7) (mac (mv 2) ma_nil)))) (mac (mv 8) ma_nil))))))))))))))
theorem sc_p_law : FnScope ["_law_script", "_law_k", "_law_source_here", "_law_length", "_law_cells", "_law_nought", "_law_bottom", "_law_lo", "_law_hi", "_law_ends", "_law_ticks", "_law_tops", "_law_some", "_law_wish", "_law_way", "_law_due", "_law_j", "_law_top"] ["_law_script"] (defScope t_p_law) := ⟨rfl, rfl, rfl, by decide +kernel, rfl, by decide +kernel, by decide +kernel⟩
theorem ok_p_law (fu : Nat) (T : Tx fa fn fxl K mg) {fd : FuncData} (F : FunD K d_p_law.name d_p_law.qual d_p_law.params d_p_law.body d_p_law.scope (d_p_law.dvs K) (d_p_law.kws K) (He.ga K "law") fd) : FnOk P w K mg base (L2.CX P w) 12 (He.ga K "law") fd ["_law_script"] (spT K mg 1 (f_p_law fu)) := by
  refine MI.fn_okT (N := ["_law_script", "_law_k", "_law_source_here", "_law_length", "_law_cells", "_law_nought", "_law_bottom", "_law_lo", "_law_hi", "_law_ends", "_law_ticks", "_law_tops", "_law_some", "_law_wish", "_law_way", "_law_due", "_law_j", "_law_top"]) F sc_p_law fun cdv A outer s H E hr => ?_
  have tk : Takes (cxOf (L2.CX P w) P w K mg base ["_law_script", "_law_k", "_law_source_here", "_law_length", "_law_cells", "_law_nought", "_law_bottom", "_law_lo", "_law_hi", "_law_ends", "_law_ticks", "_law_tops", "_law_some", "_law_wish", "_law_way", "_law_due", "_law_j", "_law_top"] "law" (defScope t_p_law) (He.ga K "law") cdv A outer s H E) (WD E) := takes_of rfl rfl rfl rfl
  have hp : PassesOwn (model P w) (cxOf (L2.CX P w) P w K mg base ["_law_script", "_law_k", "_law_source_here", "_law_length", "_law_cells", "_law_nought", "_law_bottom", "_law_lo", "_law_hi", "_law_ends", "_law_ticks", "_law_tops", "_law_some", "_law_wish", "_law_way", "_law_due", "_law_j", "_law_top"] "law" (defScope t_p_law) (He.ga K "law") cdv A outer s H E).A (cxOf (L2.CX P w) P w K mg base ["_law_script", "_law_k", "_law_source_here", "_law_length", "_law_cells", "_law_nought", "_law_bottom", "_law_lo", "_law_hi", "_law_ends", "_law_ticks", "_law_tops", "_law_some", "_law_wish", "_law_way", "_law_due", "_law_j", "_law_top"] "law" (defScope t_p_law) (He.ga K "law") cdv A outer s H E).env (cxOf (L2.CX P w) P w K mg base ["_law_script", "_law_k", "_law_source_here", "_law_length", "_law_cells", "_law_nought", "_law_bottom", "_law_lo", "_law_hi", "_law_ends", "_law_ticks", "_law_tops", "_law_some", "_law_wish", "_law_way", "_law_due", "_law_j", "_law_top"] "law" (defScope t_p_law) (He.ga K "law") cdv A outer s H E).xe := passes_of rfl
  have nd : (["_law_script", "_law_k", "_law_source_here", "_law_length", "_law_cells", "_law_nought", "_law_bottom", "_law_lo", "_law_hi", "_law_ends", "_law_ticks", "_law_tops", "_law_some", "_law_wish", "_law_way", "_law_due", "_law_j", "_law_top"] : List Str).Nodup := sc_p_law.nd
  show MTSs (cxOf (L2.CX P w) P w K mg base ["_law_script", "_law_k", "_law_source_here", "_law_length", "_law_cells", "_law_nought", "_law_bottom", "_law_lo", "_law_hi", "_law_ends", "_law_ticks", "_law_tops", "_law_some", "_law_wish", "_law_way", "_law_due", "_law_j", "_law_top"] "law" (defScope t_p_law) (He.ga K "law") cdv A outer s H E) (WD E) (defBody t_p_law) (s_p_law fu)
  exact (mtss_cons (mts_for hp (mxi_p (mi_rng1 (T.free 2) (mac (mcB (c_max rfl) (T.free 9) (mac me_int (mac (mcB (c_min rfl) (T.free 13) (mac (mcB c_len (T.free 0) (mac (mv 0) ma_nil)) (mac me_int ma_nil))) ma_nil))) ma_nil))) (gname 1 nd) uN_ok (mtss_cons (mts_set 2 nd (mx_fn (dd := []) (ok_law_source fu T) hr tk (mxr_val (mx_p (mv 0)) (mxr_val (mx_p (mv 1)) mxr_nil)))) (mtss_cons (mts_setD 3 nd (mx_op o_addL (mx_p me_int) (mx_fn (dd := []) (ok_law_great fu T) hr tk (mxr_bor 2 (mxr_val (mx_ix (mx_p (me_lst (mac me_int (mac me_int ma_nil)))) (mx_fn (dd := []) (ok_law_draw fu T) hr tk (mxr_bor 2 (mxr_val (mx_p me_int) mxr_nil) (pv 2)))) mxr_nil) (pv 2))))) (mtss_cons (mts_setLc 4 (own := [("_law_j", 16)]) nd (mxi_rng1 (T.free 2) (mxa_cons (mx_fn (dd := []) (ok_law_draw fu T) hr tk (mxr_bor 2 (mxr_val (mx_p me_int) mxr_nil) (pv 2))) mxa_nil)) (blkOk_by (N := ["_law_script", "_law_k", "_law_source_here", "_law_length", "_law_cells", "_law_nought", "_law_bottom", "_law_lo", "_law_hi", "_law_ends", "_law_ticks", "_law_tops", "_law_some", "_law_wish", "_law_way", "_law_due", "_law_j", "_law_top"]) (sc := defScope t_p_law) (by decide +kernel)) (uV_ok (by decide)) (fun _ _ _ _ _ => (gname 16 nd)) (fun _ _ _ _ _ => mxts_nil) (fun _ _ _ _ _ => (mx_tup (mxa_cons (mx_fn (dd := []) (ok_law_draw fu T) hr takes0 (mxr_bor 2 (mxr_val (mx_p me_int) mxr_nil) (pv 2))) (mxa_cons (mx_p me_int) mxa_nil))))) (mtss_frz 4 (mtss_cons (mts_setD 5 nd (mx_cmp (o_eq hr.units) (mx_fn (dd := []) (ok_law_draw fu T) hr tk (mxr_bor 2 (mxr_val (mx_p me_int) mxr_nil) (pv 2))) (mx_p me_int))) (mtss_cons (mts_setD 6 nd (mx_ix (mx_lst (mxa_cons (mx_p me_int) (mxa_cons (mx_op o_addL (mx_p me_int) (mx_fn (dd := []) (ok_law_draw fu T) hr tk (mxr_bor 2 (mxr_val (mx_p me_int) mxr_nil) (pv 2)))) mxa_nil))) (mx_fn (dd := []) (ok_law_draw fu T) hr tk (mxr_bor 2 (mxr_val (mx_p me_int) mxr_nil) (pv 2))))) (mtss_cons (mts_asg (mx_fn (dd := []) (ok_law_rising fu T) hr tk (mxr_bor 2 (mxr_val (mx_p me_int) mxr_nil) (pv 2))) (pg_seq rfl (pgs_cons (gname 7 nd) (pgs_cons (gname 8 nd) pgs_nil))) (uT_ok (usCons_ok uN_ok (usCons_ok uN_ok usNil_ok)))) (mtss_cons (mts_set 9 nd (mx_p (me_lst (mac (me_def (dd := []) (ok_law_low fu T) hr tk (mac (mv 7) (mac (mv 6) ma_nil))) (mac (me_def (dd := []) (ok_law_low fu T) hr tk (mac (mv 8) (mac (mv 6) ma_nil))) ma_nil))))) (mtss_cons (mts_set 10 nd (mx_p (me_lst (mac (me_tup (mac me_int (mac (me_def (dd := []) (ok_law_text fu T) hr tk (mac (mix (mv 9) me_int) ma_nil)) ma_nil))) (mac (me_tup (mac (mv 3) (mac (me_def (dd := []) (ok_law_text fu T) hr tk (mac (mix (mv 9) me_int) ma_nil)) ma_nil))) ma_nil))))) (mtss_cons (mts_setD 11 nd (mx_fn (dd := []) (ok_law_rising fu T) hr tk (mxr_bor 2 (mxr_val (mx_op o_mul (mx_p me_int) (mx_op o_addL (mx_p me_int) (mx_fn (dd := []) (ok_law_draw fu T) hr tk (mxr_bor 2 (mxr_val (mx_p me_int) mxr_nil) (pv 2))))) mxr_nil) (pv 2)))) (mtss_cons (mts_set 12 nd (mx_p (me_new (mn_lc (own := [("_law_top", 17)]) nd (mi_items (mv 11)) (blkOk_by (N := ["_law_script", "_law_k", "_law_source_here", "_law_length", "_law_cells", "_law_nought", "_law_bottom", "_law_lo", "_law_hi", "_law_ends", "_law_ticks", "_law_tops", "_law_some", "_law_wish", "_law_way", "_law_due", "_law_j", "_law_top"]) (sc := defScope t_p_law) (by decide +kernel)) (vN_ok (by decide)) (fun _ _ _ _ _ => (gname 17 nd)) (fun _ _ _ _ _ => mts_nil) (fun _ _ _ _ _ => (me_def (dd := []) (ok_law_low fu T) hr takes0 (mac (mv 17) (mac (mv 6) ma_nil)))))))) (mtss_cons (mts_set 13 nd (mx_p (me_tup (mac me_str (mac (mcT c_tuple (T.free 23) (mac (me_new (mn_lc (own := [("_law_j", 16)]) nd (mi_rng3 (T.free 2) (mac me_int (mac (mcB c_len (T.free 0) (mac (mv 12) ma_nil)) (mac me_int ma_nil)))) (blkOk_by (N := ["_law_script", "_law_k", "_law_source_here", "_law_length", "_law_cells", "_law_nought", "_law_bottom", "_law_lo", "_law_hi", "_law_ends", "_law_ticks", "_law_tops", "_law_some", "_law_wish", "_law_way", "_law_due", "_law_j", "_law_top"]) (sc := defScope t_p_law) (by decide +kernel)) (vN_ok (by decide)) (fun _ _ _ _ _ => (gname 16 nd)) (fun _ _ _ _ _ => mts_nil) (fun _ _ _ _ _ => (me_tup (mac (mix (mv 12) (mv 16)) (mac (mix (mv 12) (mbin o_addL (mv 16) me_int)) ma_nil)))))) ma_nil)) ma_nil))))) (mtss_one (mts_for hp (mxi_p (mi_items (me_lst (mac me_str (mac me_str ma_nil))))) (gname 14 nd) uN_ok (mtss_cons (mts_set 15 nd (mx_p (me_tup (mac (me_tup (mac me_str (mac (mix (mv 9) me_int) (mac (mix (mv 9) me_int) (mac (mv 3) ma_nil))))) (mac (mv 10) ma_nil))))) (mtss_cons (mts_if (mxt_not (mxt_tru (mx_fn (dd := []) (ok_law_right fu T) hr tk (mxr_val (mx_p (me_tup (mac me_str (mac (mix (mv 9) me_int) (mac (mix (mv 9) me_int) ma_nil))))) (mxr_val (mx_p (mv 4)) (mxr_val (mx_p (mv 3)) (mxr_val (mx_p (mv 14)) (mxr_val (mx_p (mv 5)) (mxr_val (mx_p (mv 15)) mxr_nil))))))))) (mtss_one (mts_ret (mx_p me_bl))) mtss_nil) (mtss_one (mts_if (mxt_not (mxt_tru (mx_fn (dd := []) (ok_law_right fu T) hr tk (mxr_val (mx_p (mv 13)) (mxr_val (mx_p (mv 4)) (mxr_val (mx_p (mv 3)) (mxr_val (mx_p (mv 14)) (mxr_val (mx_p (mv 5)) (mxr_val (mx_p (me_def (dd := []) (ok_law_broken fu T) hr tk (mac (mv 11) (mac (mv 6) (mac (mv 3) (mac (mv 14) ma_nil)))))) mxr_nil))))))))) (mtss_one (mts_ret (mx_p me_bl))) mtss_nil))))))))))))))))))) (mtss_one (mts_ret (mx_p me_bl))))
end
abbrev R0 : PySem.W.OpenRow := PySem.W.OpenLaw.row PySem.Challenge.rw_markscale_k28_told_ends_and_pieces
abbrev hk : PySem.W.Hook := hookM 2 fa fn fxl
def ob (s : PySem.W.SharedT) : AlM := obsM 2 fa fn fxl (HandSHeadRun.getT s)
theorem ob_eq (s : PySem.W.SharedT) : ob s = hk.obs s.abs := obsM_eq (HandSHeadRun.getT_eq s)
theorem head (w : World) : HandSHeadRun.RunEq R0 (PySem.W.view R0.prog [85]) hk ob 4000 ("MarkError" :: "NoNumber" :: "NoDay" :: "NoSpace" :: "SIGN" :: "WIDEST" :: "LEAST" :: "BREAK" :: "MOST_WORDS" :: "MOST_TURNS" :: "GREATEST_POWER" :: "DAY_STEPS" :: "MONTH_STEPS" :: "is_whole" :: "divisor" :: "lowest" :: "plus" :: "minus" :: "times" :: "over" :: "under" :: "floor_of" :: "rounded" :: "is_leap" :: "length_of" :: "ahead_of" :: "day_of" :: "parts_of" :: "show_day" :: "month_of" :: "month_begin" :: "show_number" :: "along_straight" :: "power_of" :: "along_turns" :: "along_pieces" :: "stretch_on" :: "amid" :: "along_order" :: "place_on" :: "widest_of" :: "labels_fit" :: "with_ticks" :: "numbers_axis" :: "size_of" :: "greatest_of" :: "least_of" :: "ends_of" :: "power" :: "round_step" :: "first_step" :: "straight_by" :: "straight_axis" :: "power_below" :: "powers_of" :: "powers" :: "turns_axis" :: "piece_lengths" :: "broken_axis" :: "days_by" :: "months_by" :: "days_axis_at" :: "days_axis" :: "words_of" :: "order_axis" :: "axis_for" :: "_law_cell_at" :: "_law_source" :: "_law_draw" :: "_law_great" :: "_law_low" :: "_law_text" :: "_law_asked" :: "_law_is_axis" :: "_law_right" :: "_law_rising" :: "_law_pieces" :: "_law_broken" :: "__name__" :: []) w := by
  intro os
  kernel_rfl
end K28
section
open PySem PySem.W PySem.Calls PyProof.Rows
theorem K28.holds_of (fu : Nat) (hf : ∀ ns : List Int, ns.length ≤ 63 → (∀ z ∈ ns, Builtin.Int.intBits z ≤ 1048576) → ∃ bs, K28.f_p_law fu [(false, .dat (.list (ns.map .int)))] = .ok (.dat (.bool true)) bs) : PySem.Challenge.rw_markscale_k28_told_ends_and_pieces.Holds := by
  w_on; o_law
  refine HandSHeadRun.head_any (r := OpenLaw.row PySem.Challenge.rw_markscale_k28_told_ends_and_pieces) (q := view (OpenLaw.row PySem.Challenge.rw_markscale_k28_told_ends_and_pieces).prog [85]) (H := K28.hk) (ob := K28.ob) (M := 4000) (loose := ("MarkError" :: "NoNumber" :: "NoDay" :: "NoSpace" :: "SIGN" :: "WIDEST" :: "LEAST" :: "BREAK" :: "MOST_WORDS" :: "MOST_TURNS" :: "GREATEST_POWER" :: "DAY_STEPS" :: "MONTH_STEPS" :: "is_whole" :: "divisor" :: "lowest" :: "plus" :: "minus" :: "times" :: "over" :: "under" :: "floor_of" :: "rounded" :: "is_leap" :: "length_of" :: "ahead_of" :: "day_of" :: "parts_of" :: "show_day" :: "month_of" :: "month_begin" :: "show_number" :: "along_straight" :: "power_of" :: "along_turns" :: "along_pieces" :: "stretch_on" :: "amid" :: "along_order" :: "place_on" :: "widest_of" :: "labels_fit" :: "with_ticks" :: "numbers_axis" :: "size_of" :: "greatest_of" :: "least_of" :: "ends_of" :: "power" :: "round_step" :: "first_step" :: "straight_by" :: "straight_axis" :: "power_below" :: "powers_of" :: "powers" :: "turns_axis" :: "piece_lengths" :: "broken_axis" :: "days_by" :: "months_by" :: "days_axis_at" :: "days_axis" :: "words_of" :: "order_axis" :: "axis_for" :: "_law_cell_at" :: "_law_source" :: "_law_draw" :: "_law_great" :: "_law_low" :: "_law_text" :: "_law_asked" :: "_law_is_axis" :: "_law_right" :: "_law_rising" :: "_law_pieces" :: "_law_broken" :: "__name__" :: [])) (d := HandSHeadRun.topDef (OpenLaw.row PySem.Challenge.rw_markscale_k28_told_ends_and_pieces).prog 85) (kwd := []) K28.ob_eq
    (by kernel_rfl) (fun s => by kernel_rfl) K28.head (by kernel_rfl) (by kernel_rfl) (by kernel_rfl) (by rfl) (by first | assumption | decide +kernel) (by decide +kernel) ⟨rfl, rfl, rfl, rfl, rfl, by decide +kernel⟩ ?hw ?hc
  case hw => w_witness2
  case hc =>
    refine MI.walk_miT (l := PySem.Challenge.rw_markscale_k28_told_ends_and_pieces) (n := 63) (k := 12) (x := "_law_script") (f := K28.f_p_law fu) rfl (by decide) (by kernel_rfl) ⟨rfl, by decide, by decide⟩ ?F hf
    intro w mg fa h Y G hmg0
    obtain ⟨K, KX, c⟩ := Y
    have hmg : mg ("law" : PySem.Str) = some (.ref fa) := by
      have e : (HandSHeadRun.topDef (OpenLaw.row PySem.Challenge.rw_markscale_k28_told_ends_and_pieces).prog 85).name = ("law" : PySem.Str) := by kernel_rfl
      rw [← e]
      exact hmg0
    have T : MI.Tx K28.fa K28.fn K28.fxl K mg := ⟨c.1, ⟨h, KX, G⟩, c.2⟩
    obtain ⟨fd, F⟩ := T.says.def_ 42 (d := K28.d_p_law) rfl
    have e := hmg.symm.trans (T.glo 67)
    cases e
    have b := L2.FunD.bindsA (ps := ["_law_script"]) F fun _ _ _ _ _ _ us hl => match us, hl with | [_], _ => rfl
    exact ⟨K, fd, KX, fun s v => b s [v] rfl, fun base _ _ => K28.ok_p_law fu T F⟩
end
set_option Elab.async false
set_option linter.all false
set_option maxRecDepth 100000
set_option maxHeartbeats 4000000
namespace Tx
open PySem MI PySem.NumText
/-- a text by its signs -/
def S (cs : List Nat) : Str := ⟨cs.toArray⟩
@[simp] theorem S_cps (cs : List Nat) : (S cs).cps.toList = cs := by simp [S]
@[simp] theorem S_len (cs : List Nat) : (S cs).length = cs.length := by simp [S, Str.length]
@[simp] theorem S_inj {a b : List Nat} : S a = S b ↔ a = b := ⟨fun h => by rw [← S_cps a, h, S_cps], fun h => by rw [h]⟩
@[simp] theorem S_app (a b : List Nat) : S a ++ S b = S (a ++ b) := Str.ext' (by show a.toArray ++ b.toArray = (a ++ b).toArray; simp)
@[simp] theorem l_empty : ("" : Str) = S [] := by decide +kernel
@[simp] theorem l_minus : ("-" : Str) = S [45] := by decide +kernel
@[simp] theorem l_slash : ("/" : Str) = S [47] := by decide +kernel
@[simp] theorem l_zero : ("0" : Str) = S [48] := by decide +kernel
@[simp] theorem l_m0 : ("-0" : Str) = S [45, 48] := by decide +kernel
@[simp] theorem l_figs : ("0123456789" : Str) = S [48, 49, 50, 51, 52, 53, 54, 55, 56, 57] := by decide +kernel
theorem add_ss {a b : List Nat} (h : a.length + b.length ≤ most) : fAdd (.str (S a)) (.str (S b)) = some (.str (S (a ++ b))) := by
  show (if (S a).length + (S b).length ≤ most then some (PyData.str (S a ++ S b)) else none) = _
  rw [if_pos (by simpa using h), S_app]
theorem len_s {a : List Nat} (h : a.length ≤ most) : fLen [.str (S a)] = some (.int a.length) := by
  show (if (S a).length ≤ most then some (PyData.int (S a).length) else none) = _
  rw [S_len, if_pos h]
theorem ix_s {a : List Nat} (h : a.length ≤ most) {k c : Nat} (hc : a[k]? = some c) : fIx (.str (S a)) (.int (k : Int)) = some (.str (S [c])) := by
  show (if (S a).length ≤ most then (L2.atI (S a).cps.toList (k : Int)).map fun c => PyData.str ⟨#[c]⟩ else none) = _
  rw [S_len, if_pos h, S_cps, L2.atI_nat hc]
  rfl
theorem ix_0 {c : Nat} {a : List Nat} (h : (c :: a).length ≤ most) : fIx (.str (S (c :: a))) (.int 0) = some (.str (S [c])) := ix_s (k := 0) h rfl
theorem sl_to (a : List Nat) (n : Nat) : Txt.slice (S a) none (some (n : Int)) = S (a.take n) := by
  by_cases h : n ≤ a.length
  · show StrLaws.sliceText (S a) none (some (n : Int)) = _
    rw [StrLaws.sliceText_to ⟨by omega, by simp; omega⟩]
    simp [S]
  · rw [PyProof.Rows.slice_to_beyond (by simp; omega)]
    show StrLaws.sliceText (S a) none (some ((S a).length : Int)) = _
    rw [StrLaws.sliceText_to ⟨by omega, by simp⟩]
    rw [S_cps, S_len, List.drop_zero, Int.sub_zero, Int.toNat_natCast, List.take_length, List.take_of_length_le (by omega)]
    rfl
theorem sl_from (a : List Nat) (n : Nat) : Txt.slice (S a) (some (n : Int)) none = S (a.drop n) := by
  by_cases h : n ≤ a.length
  · show StrLaws.sliceText (S a) (some (n : Int)) none = _
    rw [StrLaws.sliceText_from ⟨by omega, by rw [S_cps]; omega⟩]
    rw [S_cps, Int.toNat_natCast, List.take_of_length_le (by rw [List.length_drop]; omega)]
    rfl
  · rw [PyProof.Rows.slice_from_beyond (by simp; omega), List.drop_eq_nil_of_le (by omega)]
    rfl
theorem sl_mid (a : List Nat) (n m : Nat) (h : n ≤ m) (h2 : m ≤ a.length) : Txt.slice (S a) (some (n : Int)) (some (m : Int)) = S ((a.drop n).take (m - n)) := by
  show StrLaws.sliceText (S a) (some (n : Int)) (some (m : Int)) = _
  rw [StrLaws.sliceText_nat _ h (by simpa using h2), S_cps]
  rfl
def dig (c : Nat) : Bool := decide (48 ≤ c) && decide (c ≤ 57)
/-- a whole number's figures -/
def dg (n : Nat) : List Nat := (Nat.toDigits 10 n).map Char.toNat
theorem dgc : ∀ d : Nat, d < 10 → (Nat.digitChar d).toNat = 48 + d := by decide
theorem dg_lt {n : Nat} (h : n < 10) : dg n = [48 + n] := by
  unfold dg
  rw [Nat.toDigits_of_lt_base h, List.map_singleton, dgc n h]
theorem dg_snoc {n d : Nat} (h : 0 < n) (hd : d < 10) : dg (10 * n + d) = dg n ++ [48 + d] := by
  unfold dg
  rw [← Nat.toDigits_append_toDigits (by decide) h hd, List.map_append, Nat.toDigits_of_lt_base hd, List.map_singleton, dgc d hd]
theorem dg_ind {P : Nat → Prop} (h0 : ∀ n, n < 10 → P n) (h1 : ∀ n d, 0 < n → d < 10 → P n → P (10 * n + d)) (n : Nat) : P n := by
  induction n using Nat.strongRecOn with
  | _ n ih =>
    by_cases c : n < 10
    · exact h0 n c
    · have := h1 (n / 10) (n % 10) (by omega) (by omega) (ih (n / 10) (by omega))
      rwa [show 10 * (n / 10) + n % 10 = n by omega] at this
theorem dg_all (n : Nat) : (dg n).all dig = true := dg_ind (P := fun n => (dg n).all dig = true) (fun n h => by rw [dg_lt h]; simp [dig]; omega) (fun n d h hd ih => by rw [dg_snoc h hd, List.all_append, ih]; simp [dig]; omega) n
theorem dg_len {n k : Nat} (h : n < 10 ^ (k + 1)) : (dg n).length ≤ k + 1 := by
  induction k generalizing n with
  | zero => rw [dg_lt (by simpa using h)]; simp
  | succ k ih =>
    by_cases c : n < 10
    · rw [dg_lt c]; simp
    · have e : n = 10 * (n / 10) + n % 10 := by omega
      rw [e, dg_snoc (by omega) (by omega), List.length_append, List.length_singleton]
      have := ih (n := n / 10) (by rw [Nat.pow_succ] at h; omega)
      omega
theorem str_nat (n : Nat) : (Str.ofString (toString (n : Int))) = S (dg n) := by
  rw [Str.ofString_eq_toList]
  show Str.mk (((Nat.repr n).toList.map Char.toNat).toArray) = _
  unfold Nat.repr
  rw [String.toList_ofList]
  rfl
end Tx
set_option Elab.async false
set_option linter.all false
set_option maxRecDepth 100000
set_option maxHeartbeats 4000000
namespace Num
open PySem MI
@[simp] theorem whole_int (fu : Nat) (i : Int) : Pg.f_p_is_whole fu [.int i] = .ok (.bool true) := by
  simp [Pg.f_p_is_whole, Pg.s_p_is_whole, run_eq]
@[simp] theorem whole_bool (fu : Nat) (i : Bool) : Pg.f_p_is_whole fu [.bool i] = .ok (.bool false) := by
  simp [Pg.f_p_is_whole, Pg.s_p_is_whole, run_eq]
@[simp] theorem whole_none (fu : Nat) : Pg.f_p_is_whole fu [.none] = .ok (.bool false) := by
  simp [Pg.f_p_is_whole, Pg.s_p_is_whole, run_eq]
@[simp] theorem whole_str (fu : Nat) (z : Str) : Pg.f_p_is_whole fu [.str z] = .ok (.bool false) := by
  simp [Pg.f_p_is_whole, Pg.s_p_is_whole, run_eq]
@[simp] theorem whole_list (fu : Nat) (z : List MI.D) : Pg.f_p_is_whole fu [.list z] = .ok (.bool false) := by
  simp [Pg.f_p_is_whole, Pg.s_p_is_whole, run_eq]
@[simp] theorem whole_tuple (fu : Nat) (z : List MI.D) : Pg.f_p_is_whole fu [.tuple z] = .ok (.bool false) := by
  simp [Pg.f_p_is_whole, Pg.s_p_is_whole, run_eq]
theorem natAbs_fmod_lt (a b : Int) (h : b ≠ 0) : (a.fmod b).natAbs < b.natAbs := by
  rw [Int.fmod_eq_emod]
  have h1 := Int.emod_nonneg a h
  have h2 := Int.emod_lt a h
  split
  · omega
  · rename_i hn
    have h3 : a % b ≠ 0 := fun e => hn (.inr (Int.dvd_of_emod_eq_zero e))
    omega
theorem gcd_fmod (a b : Int) : Int.gcd b (a.fmod b) = Int.gcd a b := by
  have e : a.fmod b = a - b * (a.fdiv b) := by
    have := Int.mul_fdiv_add_fmod a b
    omega
  rw [e, Int.gcd_comm a b]
  apply Nat.dvd_antisymm
  · apply Int.dvd_gcd
    · exact Int.gcd_dvd_left _ _
    · have h1 : (Int.gcd b (a - b * a.fdiv b) : Int) ∣ a - b * a.fdiv b := Int.gcd_dvd_right _ _
      have h2 : (Int.gcd b (a - b * a.fdiv b) : Int) ∣ b * a.fdiv b := Int.dvd_trans (Int.gcd_dvd_left _ _) (Int.dvd_mul_right ..)
      have := Int.dvd_add h1 h2
      rwa [Int.sub_add_cancel] at this
  · apply Int.dvd_gcd
    · exact Int.gcd_dvd_left _ _
    · exact Int.dvd_sub (Int.gcd_dvd_right _ _) (Int.dvd_trans (Int.gcd_dvd_left _ _) (Int.dvd_mul_right ..))
theorem div_loop (fu : Nat) : ∀ (n : Nat) (a b : Int), b.natAbs < n → ∃ a' : Int, loopW (mTru (mBin fNe (mVar 1) (mC (.int 0)))) (Pg.b_p_divisor_1 fu) n [.dat (.int a), .dat (.int b)] = .nx [.dat (.int a'), .dat (.int 0)] ∧ a'.natAbs = Int.gcd a b
  | 0, a, b, h => by omega
  | n + 1, a, b, h => by
    rw [loopW_ap]
    by_cases e : b = 0
    · subst e
      refine ⟨a, by simp, by simp⟩
    · obtain ⟨a', h1, h2⟩ := div_loop fu n b (a.fmod b) (by have := natAbs_fmod_lt a b e; omega)
      refine ⟨a', ?_, by rw [h2, gcd_fmod]⟩
      simp [Pg.b_p_divisor_1, e, fMod_ii e]
      exact h1
theorem divisor (fu : Nat) (a b : Int) (h : b.natAbs < fu) : Pg.f_p_divisor fu [.int a, .int b] = .ok (.int (Int.gcd a b)) := by
  obtain ⟨a', h1, h2⟩ := div_loop fu fu a b h
  simp [Pg.f_p_divisor, Pg.s_p_divisor, run_eq, h1]
  omega
/-- both within so many bits -/
def FU : Nat := 2 ^ 4000
theorem fu_lt {a b : Nat} (h : a < 2 ^ b) (hb : b ≤ 4000) : a < FU := Nat.lt_of_lt_of_le h (Nat.pow_le_pow_right (by decide) hb)
def Sm (i : Int) : Prop := i.natAbs < FU
theorem sm_gcd {a b : Int} (h : Sm b) (hb : b ≠ 0) : Int.gcd a b ≠ 0 ∧ ((Int.gcd a b : Nat) : Int).natAbs < FU := by
  refine ⟨fun e => hb (Int.gcd_eq_zero_iff.mp e).2, ?_⟩
  have : Int.gcd a b ≤ b.natAbs := Nat.le_of_dvd (by omega) (Int.natAbs_dvd_natAbs.mpr (Int.gcd_dvd_right a b) |> fun x => by simpa using x)
  unfold Sm at h
  simp
  omega
theorem lowest (fu : Nat) (top bottom : Int) (hb : bottom ≠ 0) (h2 : Sm bottom) (hfu : FU ≤ fu) :
    ∃ t b : Int, Pg.f_p_lowest fu [.int top, .int bottom] = .ok (.tuple [.int t, .int b]) ∧ 0 < b ∧ Int.gcd t b = 1 ∧ t * bottom = top * b ∧ b.natAbs ≤ bottom.natAbs ∧ t.natAbs ≤ top.natAbs := by
  obtain ⟨g0, gs⟩ := sm_gcd (a := top) h2 hb
  have hd := divisor fu top bottom (Nat.lt_of_lt_of_le h2 hfu)
  obtain ⟨q, hq⟩ : ((Int.gcd top bottom : Nat) : Int) ∣ top := Int.gcd_dvd_left _ _
  obtain ⟨r, hr⟩ : ((Int.gcd top bottom : Nat) : Int) ∣ bottom := Int.gcd_dvd_right _ _
  have g1 : 0 < ((Int.gcd top bottom : Nat) : Int) := by omega
  have hco : Int.gcd q r = 1 := by
    have e : Int.gcd (((Int.gcd top bottom : Nat) : Int) * q) (((Int.gcd top bottom : Nat) : Int) * r) = Int.gcd top bottom := by rw [← hq, ← hr]
    rw [Int.gcd_mul_left, Int.natAbs_natCast] at e
    exact Nat.eq_of_mul_eq_mul_left (Nat.pos_of_ne_zero g0) (e.trans (Nat.mul_one _).symm)
  generalize hg : ((Int.gcd top bottom : Nat) : Int) = g at *
  have rle : r.natAbs ≤ bottom.natAbs := by
    rw [hr, Int.natAbs_mul]
    exact Nat.le_mul_of_pos_left _ (by omega)
  have qle : q.natAbs ≤ top.natAbs := by
    rw [hq, Int.natAbs_mul]
    exact Nat.le_mul_of_pos_left _ (by omega)
  by_cases c : bottom < 0
  · have r0 : r < 0 := by
      rcases (by omega : r < 0 ∨ 0 ≤ r) with h | h
      · exact h
      · have := Int.mul_nonneg (Int.le_of_lt g1) h
        omega
    have ok : okDiv (0 - g) = true := okDiv_bd 4000 (by omega) (by show _ < FU; omega) (by decide) (by decide)
    have e1 : top.fdiv (0 - g) = -q := by
      rw [show top = (0 - g) * (-q) by rw [hq, Int.zero_sub, Int.neg_mul_neg], Int.mul_fdiv_cancel_left _ (by omega)]
    have e2 : bottom.fdiv (0 - g) = -r := by
      rw [show bottom = (0 - g) * (-r) by rw [hr, Int.zero_sub, Int.neg_mul_neg], Int.mul_fdiv_cancel_left _ (by omega)]
    refine ⟨-q, -r, ?_, by omega, by simpa using hco, ?_, by simpa using rle, by simpa using qle⟩
    · have m1 := fFdv_ii (i := top) ok
      have m2 := fFdv_ii (i := bottom) ok
      rw [e1] at m1
      rw [e2] at m2
      rw [Int.zero_sub] at m1 m2
      simp [Pg.f_p_lowest, Pg.s_p_lowest, run_eq, hd, hg, c, m1, m2]
    · rw [hq, hr, Int.neg_mul, Int.mul_neg]
      congr 1
      ac_rfl
  · have r0 : 0 < r := by
      rcases (by omega : 0 < r ∨ r ≤ 0) with h | h
      · exact h
      · have := Int.mul_nonpos_of_nonneg_of_nonpos (Int.le_of_lt g1) h
        omega
    have ok : okDiv g = true := okDiv_bd 4000 (by omega) (by show _ < FU; omega) (by decide) (by decide)
    have e1 : top.fdiv g = q := by
      rw [show top = g * q from hq, Int.mul_fdiv_cancel_left _ (by omega)]
    have e2 : bottom.fdiv g = r := by
      rw [show bottom = g * r from hr, Int.mul_fdiv_cancel_left _ (by omega)]
    refine ⟨q, r, ?_, r0, hco, ?_, rle, qle⟩
    · have m1 := fFdv_ii (i := top) ok
      have m2 := fFdv_ii (i := bottom) ok
      rw [e1] at m1
      rw [e2] at m2
      simp [Pg.f_p_lowest, Pg.s_p_lowest, run_eq, hd, hg, c, m1, m2]
    · rw [hq, hr]
      ac_rfl
theorem cell_at (fu : Nat) (ns : List Int) (k : Nat) : Pg.f_law_cell_at fu [.list (ns.map .int), .int (k : Int)] = .ok (.int (ns.getD k 0)) := by
  by_cases h : k < ns.length
  · have e : (ns.map PyData.int)[k]? = some (.int (ns.getD k 0)) := by
      rw [List.getElem?_map, List.getElem?_eq_getElem h]
      simp [List.getD, List.getElem?_eq_getElem h]
    simp [Pg.f_law_cell_at, Pg.s_law_cell_at, run_eq, h, fIx_l e]
  · simp [Pg.f_law_cell_at, Pg.s_law_cell_at, run_eq, h, List.getD, List.getElem?_eq_none (show ns.length ≤ k by omega)]
theorem cell_at' (fu : Nat) (ns : List Int) {z : Int} (h : 0 ≤ z) : Pg.f_law_cell_at fu [.list (ns.map .int), .int z] = .ok (.int (ns.getD z.toNat 0)) := by
  have := cell_at fu ns z.toNat
  rwa [Int.toNat_of_nonneg h] at this
theorem mul_bd {i j : Int} (a b c : Nat) (ha : i.natAbs < 2 ^ a) (hb : j.natAbs < 2 ^ b) (h : a + b ≤ c) : (i * j).natAbs < 2 ^ c := by
  have := natAbs_mul_lt ha hb
  rw [← Nat.pow_add] at this
  exact Nat.lt_of_lt_of_le this (Nat.pow_le_pow_right (by decide) h)
theorem add_bd {i j : Int} (a b : Nat) (ha : i.natAbs < 2 ^ a) (hb : j.natAbs < 2 ^ a) (h : a < b) : (i + j).natAbs < 2 ^ b := by
  have h2 : 2 ^ (a + 1) ≤ 2 ^ b := Nat.pow_le_pow_right (by decide) h
  rw [Nat.pow_succ] at h2
  omega
theorem sub_bd {i j : Int} (a b : Nat) (ha : i.natAbs < 2 ^ a) (hb : j.natAbs < 2 ^ a) (h : a < b) : (i - j).natAbs < 2 ^ b := by
  have h2 : 2 ^ (a + 1) ≤ 2 ^ b := Nat.pow_le_pow_right (by decide) h
  rw [Nat.pow_succ] at h2
  omega
section
end
end Num
set_option Elab.async false
set_option linter.all false
set_option maxRecDepth 100000
set_option maxHeartbeats 4000000
namespace Num
open PySem MI
def nm (r : Rat) : MI.D := .tuple [.int r.num, .int (r.den : Int)]
def Bd (n : Nat) (r : Rat) : Prop := r.num.natAbs < 2 ^ n ∧ r.den < 2 ^ n
theorem nm_int (i : Int) : nm (i : Rat) = .tuple [.int i, .int 1] := rfl
theorem bd_pos {n : Nat} {r : Rat} (h : Bd n r) : 0 < n := by
  rcases Nat.eq_zero_or_pos n with e | e
  · subst e
    have := h.2
    have := r.den_pos
    simp at *
    omega
  · exact e
theorem bd_mono {n m : Nat} {r : Rat} (h : Bd n r) (l : n ≤ m) : Bd m r :=
  ⟨Nat.lt_of_lt_of_le h.1 (Nat.pow_le_pow_right (by decide) l), Nat.lt_of_lt_of_le h.2 (Nat.pow_le_pow_right (by decide) l)⟩
theorem bd_int {n : Nat} {i : Int} (h : i.natAbs < 2 ^ n) (h0 : 0 < n) : Bd n (i : Rat) := ⟨h, Nat.one_lt_two_pow (by omega)⟩
theorem lowest_q (fu : Nat) (hfu : FU ≤ fu) {top bottom : Int} (hb : bottom ≠ 0) (h : Sm bottom) :
    Pg.f_p_lowest fu [.int top, .int bottom] = .ok (nm (Rat.divInt top bottom)) ∧ (Rat.divInt top bottom).num.natAbs ≤ top.natAbs ∧ (Rat.divInt top bottom).den ≤ bottom.natAbs := by
  obtain ⟨t, b, e, b0, g, k, l1, l2⟩ := lowest fu top bottom hb h hfu
  have q : (⟨t, b.natAbs, by omega, g⟩ : Rat) = Rat.divInt top bottom := by
    rw [← Rat.num_divInt_den (⟨t, b.natAbs, by omega, g⟩ : Rat)]
    show Rat.divInt t ((b.natAbs : Nat) : Int) = _
    rw [Int.natAbs_of_nonneg (by omega)]
    exact (Rat.divInt_eq_divInt_iff (by omega) hb).mpr k
  rw [← q]
  refine ⟨?_, l2, l1⟩
  rw [e]
  show _ = R.ok (PyData.tuple [.int t, .int ((b.natAbs : Nat) : Int)])
  rw [Int.natAbs_of_nonneg (by omega)]
section
variable {fu : Nat} (hfu : FU ≤ fu) {n m : Nat} {r s : Rat} (hr : Bd n r) (hs : Bd m s)
theorem mulB {n m : Nat} {i j : Int} (hi : i.natAbs < 2 ^ n) (hj : j.natAbs < 2 ^ m) (h0 : 0 < n) (h1 : 0 < m) (hl : n + m ≤ 900000) : fMul (.int i) (.int j) = some (.int (i * j)) :=
  fMul_ii (okMul_bd n m hi hj h0 h1 (by omega))
theorem addB {a : Nat} {i j : Int} (hi : i.natAbs < 2 ^ a) (hj : j.natAbs < 2 ^ a) : (i + j).natAbs < 2 ^ (a + 1) := add_bd a (a + 1) hi hj (by omega)
theorem subB {a : Nat} {i j : Int} (hi : i.natAbs < 2 ^ a) (hj : j.natAbs < 2 ^ a) : (i - j).natAbs < 2 ^ (a + 1) := sub_bd a (a + 1) hi hj (by omega)
theorem sm_of {a : Nat} {i : Int} (h : i.natAbs < 2 ^ a) (ha : a ≤ 4000) : Sm i := fu_lt h ha
include hr hs
theorem under_q (hl : n + m ≤ 900000) : Pg.f_p_under fu [nm r, nm s] = .ok (.bool (decide (r < s))) := by
  have n0 := bd_pos hr
  have m0 := bd_pos hs
  have m1 := mulB hr.1 (show ((s.den : Int)).natAbs < 2 ^ m from hs.2) n0 m0 hl
  have m2 := mulB hs.1 (show ((r.den : Int)).natAbs < 2 ^ n from hr.2) m0 n0 (by omega)
  unfold nm
  rw [Pg.f_p_under, Pg.s_p_under]
  simp [run_eq, m1, m2, Rat.lt_iff]
include hfu
theorem times_q (hl : n + m ≤ 4000) : Pg.f_p_times fu [nm r, nm s] = .ok (nm (r * s)) ∧ Bd (n + m) (r * s) := by
  have n0 := bd_pos hr
  have m0 := bd_pos hs
  have hs2 : ((s.den : Int)).natAbs < 2 ^ m := hs.2
  have hr2 : ((r.den : Int)).natAbs < 2 ^ n := hr.2
  have m1 := mulB hr.1 hs.1 n0 m0 (by omega)
  have m2 := mulB hr2 hs2 n0 m0 (by omega)
  have b1 := mul_bd n m (n + m) hr.1 hs.1 (by omega)
  have b2 := mul_bd n m (n + m) hr2 hs2 (by omega)
  have z : (r.den : Int) * (s.den : Int) ≠ 0 := Int.mul_ne_zero (by have := r.den_pos; omega) (by have := s.den_pos; omega)
  obtain ⟨e, l1, l2⟩ := lowest_q fu hfu (top := r.num * s.num) z (sm_of b2 (by omega))
  have q : Rat.divInt (r.num * s.num) ((r.den : Int) * (s.den : Int)) = r * s := by
    rw [Rat.mul_def', ← Rat.divInt_ofNat, Int.natCast_mul]
  rw [q] at e l1 l2
  refine ⟨?_, Nat.lt_of_le_of_lt l1 b1, Nat.lt_of_le_of_lt l2 b2⟩
  rw [← e]
  unfold nm
  rw [Pg.f_p_times, Pg.s_p_times]
  rw [nm] at e
  simp [run_eq, m1, m2, e]
theorem plus_q (hl : n + m ≤ 4000) : Pg.f_p_plus fu [nm r, nm s] = .ok (nm (r + s)) ∧ Bd (n + m + 1) (r + s) := by
  have n0 := bd_pos hr
  have m0 := bd_pos hs
  have hs2 : ((s.den : Int)).natAbs < 2 ^ m := hs.2
  have hr2 : ((r.den : Int)).natAbs < 2 ^ n := hr.2
  have m1 := mulB hr.1 hs2 n0 m0 (by omega)
  have m3 := mulB hs.1 hr2 m0 n0 (by omega)
  have m2 := mulB hr2 hs2 n0 m0 (by omega)
  have b1 := addB (mul_bd n m (n + m) hr.1 hs2 (by omega)) (mul_bd m n (n + m) hs.1 hr2 (by omega))
  have b2 := mul_bd n m (n + m) hr2 hs2 (by omega)
  have z : (r.den : Int) * (s.den : Int) ≠ 0 := Int.mul_ne_zero (by have := r.den_pos; omega) (by have := s.den_pos; omega)
  obtain ⟨e, l1, l2⟩ := lowest_q fu hfu (top := r.num * s.den + s.num * r.den) z (sm_of b2 (by omega))
  have q : Rat.divInt (r.num * s.den + s.num * r.den) ((r.den : Int) * (s.den : Int)) = r + s := by
    rw [Rat.add_def', ← Rat.divInt_ofNat, Int.natCast_mul]
  rw [q] at e l1 l2
  refine ⟨?_, Nat.lt_of_le_of_lt l1 b1, Nat.lt_of_le_of_lt l2 (Nat.lt_of_lt_of_le b2 (Nat.pow_le_pow_right (by decide) (by omega)))⟩
  rw [← e]
  unfold nm
  rw [Pg.f_p_plus, Pg.s_p_plus]
  rw [nm] at e
  simp [run_eq, m1, m2, m3, e]
theorem minus_q (hl : n + m ≤ 4000) : Pg.f_p_minus fu [nm r, nm s] = .ok (nm (r - s)) ∧ Bd (n + m + 1) (r - s) := by
  have n0 := bd_pos hr
  have m0 := bd_pos hs
  have hs2 : ((s.den : Int)).natAbs < 2 ^ m := hs.2
  have hr2 : ((r.den : Int)).natAbs < 2 ^ n := hr.2
  have m1 := mulB hr.1 hs2 n0 m0 (by omega)
  have m3 := mulB hs.1 hr2 m0 n0 (by omega)
  have m2 := mulB hr2 hs2 n0 m0 (by omega)
  have b1 := subB (mul_bd n m (n + m) hr.1 hs2 (by omega)) (mul_bd m n (n + m) hs.1 hr2 (by omega))
  have b2 := mul_bd n m (n + m) hr2 hs2 (by omega)
  have z : (r.den : Int) * (s.den : Int) ≠ 0 := Int.mul_ne_zero (by have := r.den_pos; omega) (by have := s.den_pos; omega)
  obtain ⟨e, l1, l2⟩ := lowest_q fu hfu (top := r.num * s.den - s.num * r.den) z (sm_of b2 (by omega))
  have q : Rat.divInt (r.num * s.den - s.num * r.den) ((r.den : Int) * (s.den : Int)) = r - s := by
    rw [Rat.sub_def', ← Rat.divInt_ofNat, Int.natCast_mul]
  rw [q] at e l1 l2
  refine ⟨?_, Nat.lt_of_le_of_lt l1 b1, Nat.lt_of_le_of_lt l2 (Nat.lt_of_lt_of_le b2 (Nat.pow_le_pow_right (by decide) (by omega)))⟩
  rw [← e]
  unfold nm
  rw [Pg.f_p_minus, Pg.s_p_minus]
  rw [nm] at e
  simp [run_eq, m1, m2, m3, e]
theorem over_q (s0 : s ≠ 0) (hl : n + m ≤ 4000) : Pg.f_p_over fu [nm r, nm s] = .ok (nm (r / s)) ∧ Bd (n + m) (r / s) := by
  have n0 := bd_pos hr
  have m0 := bd_pos hs
  have sn : s.num ≠ 0 := fun e => s0 (Rat.num_eq_zero.mp e)
  have hs2 : ((s.den : Int)).natAbs < 2 ^ m := hs.2
  have hr2 : ((r.den : Int)).natAbs < 2 ^ n := hr.2
  have m1 := mulB hr.1 hs2 n0 m0 (by omega)
  have m2 := mulB hr2 hs.1 n0 m0 (by omega)
  have b1 := mul_bd n m (n + m) hr.1 hs2 (by omega)
  have b2 := mul_bd n m (n + m) hr2 hs.1 (by omega)
  have z : (r.den : Int) * s.num ≠ 0 := Int.mul_ne_zero (by have := r.den_pos; omega) sn
  obtain ⟨e, l1, l2⟩ := lowest_q fu hfu (top := r.num * s.den) z (sm_of b2 (by omega))
  have q : Rat.divInt (r.num * s.den) ((r.den : Int) * s.num) = r / s := by
    rw [Rat.div_def, Rat.inv_def, ← Rat.divInt_mul_divInt, Rat.num_divInt_den]
  rw [q] at e l1 l2
  refine ⟨?_, Nat.lt_of_le_of_lt l1 b1, Nat.lt_of_le_of_lt l2 b2⟩
  rw [← e]
  unfold nm
  rw [Pg.f_p_over, Pg.s_p_over]
  rw [nm] at e
  simp [run_eq, m1, m2, e, sn]
end
end Num
set_option Elab.async false
set_option linter.all false
set_option maxRecDepth 100000
set_option maxHeartbeats 4000000
namespace Num
open PySem MI
theorem law_lowest_q (fu : Nat) (hfu : FU ≤ fu) {top bottom : Int} (hb : 0 < bottom) (h : Sm bottom) :
    Pg.f_law_lowest fu [.int top, .int bottom] = .ok (nm (Rat.divInt top bottom)) ∧ (Rat.divInt top bottom).num.natAbs ≤ top.natAbs ∧ (Rat.divInt top bottom).den ≤ bottom.natAbs := by
  obtain ⟨e, l⟩ := lowest_q fu hfu (top := top) (show bottom ≠ 0 by omega) h
  refine ⟨?_, l⟩
  rw [← e]
  have hd := divisor fu top bottom (Nat.lt_of_lt_of_le h hfu)
  have c : ¬ bottom < 0 := by omega
  rw [Pg.f_law_lowest, Pg.s_law_lowest, Pg.f_p_lowest, Pg.s_p_lowest]
  simp [run_eq, hd, c]
section
variable {fu : Nat} (hfu : FU ≤ fu)
theorem rat_sub_ne {a b : Rat} (h : a < b) : b - a ≠ 0 := by grind
include hfu
theorem along_q {n k : Nat} {lo hi c : Rat} {L : Int} (hl : Bd n lo) (hh : Bd n hi) (hc : Bd k c) (hL : L.natAbs < 2 ^ 13) (lt : lo < hi) (hn : 3 * n + k + 20 ≤ 4000) :
    Pg.f_p_along_straight fu [nm lo, nm hi, nm c, .int L] = .ok (if c < lo ∨ hi < c then .none else nm ((c - lo) * (L : Rat) / (hi - lo))) ∧ Bd (3 * n + k + 16) ((c - lo) * (L : Rat) / (hi - lo)) := by
  have u1 := under_q (fu := fu) hc hl (by omega)
  have u2 := under_q (fu := fu) hh hc (by omega)
  obtain ⟨a1, b1⟩ := minus_q hfu hc hl (by omega)
  obtain ⟨a2, b2⟩ := times_q hfu b1 (bd_int hL (by decide)) (by omega)
  obtain ⟨a3, b3⟩ := minus_q hfu hh hl (by omega)
  obtain ⟨a4, b4⟩ := over_q hfu b2 b3 (rat_sub_ne lt) (by omega)
  rw [nm_int] at a2
  refine ⟨?_, bd_mono b4 (by omega)⟩
  rw [Pg.f_p_along_straight, Pg.s_p_along_straight]
  by_cases q1 : c < lo
  · simp [run_eq, u1, u2, q1]
  · by_cases q2 : hi < c
    · simp [run_eq, u1, u2, q1, q2]
    · simp [run_eq, u1, u2, q1, q2, a1, a2, a3, a4]
end
theorem nm0 (r : Rat) : fIx (nm r) (.int 0) = some (.int r.num) := fIx_t0 _ _
theorem nm1 (r : Rat) : fIx (nm r) (.int 1) = some (.int r.den) := fIx_t1 _ _ _
theorem nm_none (r : Rat) : fIs (nm r) .none = some (.bool false) := Eq.trans rfl rfl
theorem isT_nm (r : Rat) : isT "str" (nm r) = some false := isT_str_tuple _
theorem ix4 (a b c d : MI.D) : fIx (.tuple [a, b, c, d]) (.int 3) = some d := fIx_t (j := 3) rfl
theorem s_so : (("straight" : Str) = ("turns" : Str)) = False := eq_false (by decide)
theorem s_sb : (("straight" : Str) = ("broken" : Str)) = False := eq_false (by decide)
theorem s_sr : (("straight" : Str) = ("order" : Str)) = False := eq_false (by decide)
theorem s_sd : (("straight" : Str) = ("days" : Str)) = False := eq_false (by decide)
theorem dTup_4 (a b c d : MI.D) : dTup [a, b, c, d] = some (.tuple [a, b, c, d]) := Eq.trans rfl rfl
end Num
set_option Elab.async false
set_option linter.all false
set_option maxRecDepth 100000
set_option maxHeartbeats 4000000
namespace Cal
open PySem MI Num
def leap (y : Int) : Bool := decide (y % 400 = 0) || (decide (y % 4 = 0) && !decide (y % 100 = 0))
def len (y m : Int) : Int := if m = 2 then 28 + (if leap y = true then 1 else 0) else if m = 4 ∨ m = 6 ∨ m = 9 ∨ m = 11 then 30 else 31
theorem fdv_n (i : Int) (n : Nat) (h : 0 < n) (h2 : n < 2 ^ 40) : fFdv (.int i) (.int (n : Int)) = some (.int (i / (n : Int))) :=
  fFdv_pos (by omega) (Nat.lt_trans (log2_lt (a := 40) (by simpa using h2) (by decide)) (by decide))
theorem mod_n (i : Int) (n : Nat) (h : 0 < n) : fMod (.int i) (.int (n : Int)) = some (.int (i % (n : Int))) := fMod_pos (by omega)
theorem mul_s {i j : Int} (hi : i.natAbs < 2 ^ 300) (hj : j.natAbs < 2 ^ 300) : fMul (.int i) (.int j) = some (.int (i * j)) := fMul_ii (okMul_bd 300 300 hi hj (by decide) (by decide) (by decide))
theorem rngL_succ (lo : Int) (n : Nat) : rngL lo 1 (n + 1) = .int lo :: rngL (lo + 1) 1 n := by
  unfold rngL
  rw [List.range_succ_eq_map, List.map_cons, List.map_map]
  congr 1
  · simp
  · apply List.map_congr_left
    intro i _
    simp
    omega
def lens (y : Int) : Int → Nat → List Int
  | _, 0 => []
  | lo, n + 1 => len y lo :: lens y (lo + 1) n
theorem ints_map : ∀ ns : List Int, intsD (ns.map PyData.int) = some ns
  | [] => rfl
  | n :: ns => by
    rw [List.map_cons]
    unfold intsD
    rw [ints_map ns]
    rfl
end Cal
set_option Elab.async false
set_option linter.all false
set_option maxRecDepth 100000
set_option maxHeartbeats 4000000
namespace Cal
open PySem MI Num
end Cal
set_option Elab.async false
set_option linter.all false
set_option maxRecDepth 100000
set_option maxHeartbeats 4000000
namespace Num
open PySem MI Cal
def P (B n : Int) : Int := B ^ n.toNat
theorem pow_bd {B : Int} (h1 : 2 ≤ B) (h2 : B ≤ 10) : ∀ k : Nat, 0 < B ^ k ∧ (B ^ k).natAbs < 2 ^ (4 * k + 1)
  | 0 => ⟨by simp, by simp⟩
  | k + 1 => by
    obtain ⟨p, b⟩ := pow_bd h1 h2 k
    refine ⟨by rw [Int.pow_succ]; exact Int.mul_pos p (by omega), ?_⟩
    rw [Int.pow_succ]
    exact mul_bd (4 * k + 1) 4 _ b (by omega) (by omega)
theorem P_pos {B : Int} (h1 : 2 ≤ B) (h2 : B ≤ 10) (n : Int) : 0 < P B n := (pow_bd h1 h2 _).1
theorem P_bd {B : Int} (h1 : 2 ≤ B) (h2 : B ≤ 10) {n : Int} {k : Nat} (h : n ≤ k) : (P B n).natAbs < 2 ^ (4 * k + 1) :=
  Nat.lt_of_lt_of_le (pow_bd h1 h2 _).2 (Nat.pow_le_pow_right (by decide) (by omega))
/-- where a place's number is -/
def val (B low : Int) (t : Rat) : Rat := (B : Rat) ^ (low + t.num / t.den) * (1 + (t - ((t.num / (t.den : Int) : Int) : Rat)) * ((B : Rat) - 1))
/-- what a scale by turns holds -/
structure Tu (B low many L : Int) : Prop where
  b1 : 2 ≤ B
  b2 : B ≤ 10
  l : -200 ≤ low ∧ low ≤ 200
  m : 1 ≤ many ∧ many ≤ 400
  L : 1 ≤ L ∧ L ≤ 4000
def sct (B low many L : Int) : MI.D := .tuple [.str "turns", .int B, .int low, .int many, .int L]
section
end
section
end
end Num
set_option Elab.async false
set_option linter.all false
set_option maxRecDepth 100000
set_option maxHeartbeats 4000000
namespace Num
open PySem MI Cal
structure Pc where
  lo : Rat
  hi : Rat
  b : Int
  e : Int
def Pc.d (p : Pc) : MI.D := .tuple [nm p.lo, nm p.hi, .int p.b, .int p.e]
structure Pc.Ok (p : Pc) : Prop where
  lt : p.lo < p.hi
  bl : Bd 130 p.lo
  bh : Bd 130 p.hi
  b0 : 0 ≤ p.b
  be : p.b < p.e
  e1 : p.e ≤ 8000
def Pc.at_ (q : Rat) (p : Pc) : Bool := decide (¬ q < (p.b : Rat) ∧ ¬ (p.e : Rat) < q)
def Pc.back (q : Rat) (p : Pc) : Rat := p.lo + (q - (p.b : Rat)) * (p.hi - p.lo) / ((p.e - p.b : Int) : Rat)
section
variable {fu : Nat} (hfu : FU ≤ fu)
include hfu
/-- what a broken scale holds -/
structure Ps (ps : List Pc) (a z : Pc) : Prop where
  ok : ∀ p ∈ ps, p.Ok
  fst : ∃ t, ps = a :: t
  lst : ∃ i, ps = i ++ [z]
  far : ps.Pairwise fun p q => p.e < q.b
omit hfu in
theorem d0 (p : Pc) : fIx p.d (.int 0) = some (nm p.lo) := fIx_t (j := 0) rfl
omit hfu in
theorem d1 (p : Pc) : fIx p.d (.int 1) = some (nm p.hi) := fIx_t (j := 1) rfl
omit hfu in
theorem d2 (p : Pc) : fIx p.d (.int 2) = some (.int p.b) := fIx_t (j := 2) rfl
omit hfu in
theorem d3 (p : Pc) : fIx p.d (.int 3) = some (.int p.e) := fIx_t (j := 3) rfl
omit hfu in
theorem Pc.Ok.w {p : Pc} (ok : p.Ok) : (0 : Rat) < p.hi - p.lo ∧ (0 : Rat) < ((p.e - p.b : Int) : Rat) :=
  ⟨by have := ok.lt; grind, Rat.intCast_pos.mpr (by have := ok.be; omega)⟩
end
end Num
set_option Elab.async false
set_option linter.all false
set_option maxRecDepth 100000
set_option maxHeartbeats 4000000
namespace Num
open PySem MI Cal
structure Tv (B low many L : Int) : Prop where
  b1 : 2 ≤ B
  b2 : B ≤ 10
  l : -15 ≤ low ∧ low ≤ 15
  m : 1 ≤ many ∧ many ≤ 25
  L : 1 ≤ L ∧ L ≤ 4000
section
end
end Num
set_option Elab.async false
set_option linter.all false
set_option maxRecDepth 100000
set_option maxHeartbeats 4000000
namespace Num
open PySem MI Cal
def scb (ps : List Pc) (z : Pc) : MI.D := .tuple [.str "broken", .list (ps.map Pc.d), .int z.e]
def scs (lo hi : Rat) (L : Int) : MI.D := .tuple [.str "straight", nm lo, nm hi, .int L]
def scd (lo hi L : Int) : MI.D := .tuple [.str "days", .int lo, .int hi, .int L]
inductive Sl where
  | str (lo hi : Rat) (L : Int)
  | trn (B low many L : Int)
  | brk (ps : List Pc) (a z : Pc)
  | dys (lo hi L : Int)
def Sl.d : Sl → MI.D
  | .str lo hi L => scs lo hi L
  | .trn B low many L => sct B low many L
  | .brk ps _ z => scb ps z
  | .dys lo hi L => scd lo hi L
def Sl.len : Sl → Int
  | .str _ _ L => L
  | .trn _ _ _ L => L
  | .brk _ _ z => z.e
  | .dys _ _ L => L
def Sl.Ok : Sl → Prop
  | .str lo hi L => lo < hi ∧ Bd 130 lo ∧ Bd 130 hi ∧ 1 ≤ L ∧ L ≤ 4000
  | .trn B low many L => Tv B low many L
  | .brk ps a z => Ps ps a z ∧ (ps.Pairwise fun p q => p.hi < q.lo) ∧ a.b = 0 ∧ 2 ≤ ps.length ∧ ps.length ≤ 4
  | .dys lo hi L => 0 ≤ lo ∧ lo < hi ∧ hi ≤ 3652059 ∧ 1 ≤ L ∧ L ≤ 4000
def Sl.back : Sl → Rat → Rat
  | .str lo hi L, q => lo + q * (hi - lo) / (L : Rat)
  | .trn B low many L, q => val B low (q * Rat.divInt many L)
  | .brk ps _ _, q => match ps.find? (Pc.at_ q) with
    | some p => p.back q
    | none => 0
  | .dys lo hi L, q => (lo : Rat) + q * ((hi : Rat) - (lo : Rat)) / (L : Rat)
section
end
end Num
set_option Elab.async false
set_option linter.all false
set_option maxRecDepth 100000
set_option maxHeartbeats 4000000
namespace MI
open PySem
/-- data that can be held against data, at most so deep -/
def Sh (n : Nat) (d : D) : Prop := d.canLay0 = true ∧ d.depth ≤ n
theorem sh_int (i : Int) (n : Nat) : Sh n (.int i) := ⟨by simp [PyData.canLay0], by simp [PyData.depth]⟩
theorem sh_str {z : Str} (h : PyData.strOk z = true) (n : Nat) : Sh n (.str z) := ⟨by simp [PyData.canLay0, h], by simp [PyData.depth]⟩
theorem sh_all {n : Nat} : ∀ {ds : List D}, (∀ d ∈ ds, Sh n d) → PyData.canLayAll0 ds = true ∧ PyData.depthAll ds ≤ n
  | [], _ => ⟨by simp [PyData.canLayAll0], by simp [PyData.depthAll]⟩
  | d :: ds, h => by
    obtain ⟨a, b⟩ := h d (List.mem_cons_self ..)
    obtain ⟨a2, b2⟩ := sh_all fun e he => h e (List.mem_cons_of_mem _ he)
    exact ⟨by simp [PyData.canLayAll0, a, a2], by simp [PyData.depthAll, b, b2]; omega⟩
theorem sh_list {n : Nat} {ds : List D} (h : ∀ d ∈ ds, Sh n d) : Sh (n + 1) (.list ds) := ⟨by simp [PyData.canLay0, (sh_all h).1], by simp [PyData.depth, (sh_all h).2]⟩
theorem sh_tuple {n : Nat} {ds : List D} (h : ∀ d ∈ ds, Sh n d) : Sh (n + 1) (.tuple ds) := ⟨by simp [PyData.canLay0, (sh_all h).1], by simp [PyData.depth, (sh_all h).2]⟩
theorem sh_mono {n m : Nat} {d : D} (h : Sh n d) (l : n ≤ m) : Sh m d := ⟨h.1, Nat.le_trans h.2 l⟩
theorem shaped_of {n : Nat} {d : D} (h : Sh n d) (l : n ≤ 64) : SeqAt.shaped d = true := by
  unfold SeqAt.shaped
  rw [Bool.and_eq_true, decide_eq_true_eq]
  exact ⟨h.1, Nat.le_trans h.2 l⟩
theorem dEq_sh {n m : Nat} {d e : D} (h : Sh n d) (k : Sh m e) (l : n ≤ 64) (l2 : m ≤ 64) : dEq d e = some (PyData.eqv d e) := by
  have a := shaped_of h l
  have b := shaped_of k l2
  unfold dEq
  split
  · simp only [PyData.eqv]; rw [Option.some.injEq, Bool.eq_iff_iff]; simp
  · simp only [PyData.eqv]; rw [Option.some.injEq, Bool.eq_iff_iff]; simp
  · simp only [PyData.eqv]; rw [Option.some.injEq, Bool.eq_iff_iff]; simp
  · simp only [PyData.eqv]
  · rw [a, b]
    rfl
theorem ne_sh {n m : Nat} {d e : D} (h : Sh n d) (k : Sh m e) (l : n ≤ 64) (l2 : m ≤ 64) : fNe d e = some (.bool (!PyData.eqv d e)) := by
  unfold fNe
  rw [dEq_sh h k l l2]
  rfl
theorem eqv_self {n : Nat} {d : D} (h : Sh n d) (l : n ≤ 64) : PyData.eqv d d = true := SeqAt.eqv_refl _ (SeqAt.canLay_of_shaped (shaped_of h l))
theorem ne_self {n : Nat} {d : D} (h : Sh n d) (l : n ≤ 64) : fNe d d = some (.bool false) := by rw [ne_sh h h l l, eqv_self h l]; rfl
end MI
set_option Elab.async false
set_option linter.all false
set_option maxRecDepth 100000
set_option maxHeartbeats 4000000
namespace Num
open PySem MI Cal
theorem mul_log {z k : Int} (hz : z.natAbs.log2 ≤ 1048576) (hk : k.natAbs.log2 ≤ 1048600) : fMul (.int z) (.int k) = some (.int (z * k)) := fMul_ii (by
  unfold okMul
  rw [decide_eq_true_eq]
  omega)
/-- rising whole numbers -/
structure Up (es : List Int) (n : Nat) : Prop where
  len : es.length = n
  up : es.Pairwise (· < ·)
  bd : ∀ e ∈ es, e.natAbs < 2 ^ 100
theorem ends_loop (fu : Nat) (ns : List Int) (c1 c2 : Cell) : ∀ (m : Nat) (lo : Int) (init : List Int) (last : Int) (c4 c5 c6 : Cell), 0 ≤ lo → init.length + m ≤ 20 → (init ++ [last]).Pairwise (· < ·) → (∀ e ∈ init ++ [last], e ≤ last) → (∀ e ∈ init ++ [last], e.natAbs ≤ 1000000000000000000000000 + init.length * 100000000000000000000000000000) →
    ∃ (i' : List Int) (l' : Int) (x4 x5 x6 : Cell), loopF (gN 4) (Pg.b_law_ends_1 fu) (rngL lo 1 m) [.dat (.list (ns.map .int)), c1, c2, .own ((init ++ [last]).map .int), c4, c5, c6] = .nx [.dat (.list (ns.map .int)), c1, c2, .own ((i' ++ [l']).map .int), x4, x5, x6] ∧ i'.length = init.length + m ∧ (i' ++ [l']).Pairwise (· < ·) ∧ (∀ e ∈ i' ++ [l'], e.natAbs ≤ 1000000000000000000000000 + i'.length * 100000000000000000000000000000)
  | 0, lo, init, last, c4, c5, c6, _, _, h1, _, h3 => ⟨init, last, c4, c5, c6, by simp [rngL, loopF], rfl, h1, h3⟩
  | m + 1, lo, init, last, c4, c5, c6, h0, hm, h1, h2, h3 => by
    have k := cell_at' fu ns (z := 2 + lo) (by omega)
    obtain ⟨x, hx⟩ : ∃ x, ns.getD (2 + lo).toNat 0 = x := ⟨_, rfl⟩
    rw [hx] at k
    have p18 : fPow (.int 10) (.int 18) = some (.int 1000000000000000000) := fPow_ii (by decide)
    have p29 : fPow (.int 10) (.int 29) = some (.int 100000000000000000000000000000) := fPow_ii (by decide)
    have e1 := fMod_pos (i := x) (j := 100000000000000000000000000000) (by decide)
    have e2 := mod_n x 60 (by decide)
    simp at e2
    have neg : fIx (.list ((init ++ [last]).map .int)) (.int (-1)) = some (.int last) := by
      rw [List.map_append]
      exact L2.atI_last _ _
    have st : ∃ r : Int, 1 ≤ r ∧ r ≤ 100000000000000000000000000000 ∧ Pg.b_law_ends_1 fu [.dat (.list (ns.map .int)), c1, c2, .own ((init ++ [last]).map .int), .dat (.int lo), c5, c6] = .nx [.dat (.list (ns.map .int)), c1, c2, .own (((init ++ [last]) ++ [last + r]).map .int), .dat (.int lo), .dat (.int x), .dat (.int r)] := by
      have f : ∀ r, flat (.int (last + r)) = true := fun _ => rfl
      have ml : ((init ++ [last]).map PyData.int).length < 16777216 := by simp; omega
      by_cases h : (1000000000000000000 : Int) ≤ x
      · refine ⟨1 + x % 100000000000000000000000000000, by omega, by omega, ?_⟩
        rw [List.map_append (l₁ := init ++ [last])]
        obtain ⟨xs, hx⟩ : ∃ xs, (init ++ [last]).map PyData.int = xs := ⟨_, rfl⟩
        rw [hx] at neg ml ⊢
        rw [Pg.b_law_ends_1]
        simp [neg, k, e1, e2, p18, p29, h, f, ml]
      · refine ⟨1 + x % 60, by omega, by omega, ?_⟩
        rw [List.map_append (l₁ := init ++ [last])]
        obtain ⟨xs, hx⟩ : ∃ xs, (init ++ [last]).map PyData.int = xs := ⟨_, rfl⟩
        rw [hx] at neg ml ⊢
        rw [Pg.b_law_ends_1]
        simp [neg, k, e2, p18, h, f, ml]
    obtain ⟨r, r1, r2, st⟩ := st
    have bl := h3 last (by simp)
    obtain ⟨i', l', x4, x5, x6, e, q1, q2, q3⟩ := ends_loop fu ns c1 c2 m (lo + 1) (init ++ [last]) (last + r) (.dat (.int lo)) (.dat (.int x)) (.dat (.int r)) (by omega) (by simp; omega) (by
      rw [List.pairwise_append]
      refine ⟨h1, by simp, fun a ha b hb => ?_⟩
      have := h2 a ha
      simp at hb
      omega) (fun e he => by
      rcases List.mem_append.mp he with he | he
      · have := h2 e he
        omega
      · simp at he
        omega) (fun e he => by
      have hl : (init ++ [last]).length = init.length + 1 := by rw [List.length_append, List.length_singleton]
      rw [hl, Nat.succ_mul]
      generalize init.length * 100000000000000000000000000000 = T at bl h3 ⊢
      rcases List.mem_append.mp he with he | he
      · have := h3 e he
        omega
      · have he := List.mem_singleton.mp he
        omega)
    refine ⟨i', l', x4, x5, x6, ?_, by rw [q1]; simp; omega, q2, q3⟩
    rw [rngL_succ, loopF_cons rfl st]
    exact e
theorem rng1_m {m : Nat} (h : m ≤ 100000) : rng1 [.int (m : Int)] = some (rngL 0 1 m) := by
  show (if lim62 (m : Int) = true then some (rngL 0 1 (m : Int).toNat) else none) = _
  rw [if_pos]
  · rfl
  · unfold lim62
    simp
    omega
theorem ap {s1 s2 : S} {g g' : Ce} (h : s1 g = .nx g') : sSeq s1 s2 g = s2 g' := by unfold sSeq; rw [h]
theorem run_rt {n N : Nat} {m : S} {ds : List MI.D} {d : MI.D} (h : ds.length = n) (e : m (ds.map Cell.dat ++ List.replicate (N - n) Cell.un) = .rt d) : run n N m ds = .ok d := by
  rw [run_eq n N m ds h, e]
theorem ends (fu : Nat) (ns : List Int) (m : Nat) (hm : m = 3 ∨ m = 5 ∨ m = 7) : ∃ es : List Int, Pg.f_law_ends fu [.list (ns.map .int), .int (m : Int)] = .ok (.list (es.map .int)) ∧ Up es (m + 1) := by
  have k1 := cell_at' fu ns (z := 1) (by decide)
  generalize ns.getD (1 : Int).toNat 0 = x1 at *
  have p24 : fPow (.int 10) (.int 24) = some (.int 1000000000000000000000000) := fPow_ii (by decide)
  have e1 := fdv_n x1 2 (by decide) (by decide)
  have e2 := fMod_pos (i := x1 / 2) (j := 1000000000000000000000000) (by decide)
  have e3 := mod_n x1 2 (by decide)
  simp at e1 e3
  have u1 := Int.emod_nonneg (x1 / 2) (b := 1000000000000000000000000) (by decide)
  have u2 := Int.emod_lt_of_pos (x1 / 2) (b := 1000000000000000000000000) (by decide)
  obtain ⟨t, ht⟩ : ∃ t, x1 / 2 % 1000000000000000000000000 = t := ⟨_, rfl⟩
  rw [ht] at e2 u1 u2
  have r := rng1_m (m := m) (by omega)
  have st : ∃ top : Int, top.natAbs < 1000000000000000000000000 ∧ ∀ k : S, (sSeq (sSet 2 (mBin fMod (mBin fFdv (mCall 2 (Pg.f_law_cell_at fu) [] (mCons (mVar 0) (mCons (mC (.int 1)) (mNil)))) (mC (.int 2))) (mBin fPow (mC (.int 10)) (mC (.int 24))))) (sSeq (sIf (mTru (mBin fEq (mBin fMod (mCall 2 (Pg.f_law_cell_at fu) [] (mCons (mVar 0) (mCons (mC (.int 1)) (mNil)))) (mC (.int 2))) (mC (.int 1)))) (sSet 2 (mBin fSub (mC (.int 0)) (mVar 2))) (sNop)) k)) [.dat (.list (ns.map .int)), .dat (.int (m : Int)), .un, .un, .un, .un, .un] = k [.dat (.list (ns.map .int)), .dat (.int (m : Int)), .dat (.int top), .un, .un, .un, .un] := by
    by_cases c : x1 % 2 = 1
    · exact ⟨-t, by omega, fun k => by simp [k1, p24, e1, e2, e3, c]⟩
    · exact ⟨t, by omega, fun k => by simp [k1, p24, e1, e2, e3, c]⟩
  obtain ⟨top, htop, st⟩ := st
  obtain ⟨i', l', x4, x5, x6, e, q1, q2, q3⟩ := ends_loop fu ns (.dat (.int (m : Int))) (.dat (.int top)) m 0 [] top .un .un .un (by decide) (by simp; omega) (by simp) (by simp) (by simp; omega)
  refine ⟨i' ++ [l'], ?_, by simp [q1], q2, fun e he => ?_⟩
  · have hi : mRng rng1 (mCons (mVar 1) (mNil)) (vd [.dat (.list (ns.map .int)), .dat (.int (m : Int)), .dat (.int top), .own [.int top], .un, .un, .un]) = .ok (rngL 0 1 m) := by simp [r]
    have hf := (forG (t := gN 4) (b := Pg.b_law_ends_1 fu) hi).trans e
    rw [Pg.f_law_ends, Pg.s_law_ends]
    refine run_rt rfl ?_
    show (sSeq _ _ : S) [.dat (.list (ns.map .int)), .dat (.int (m : Int)), .un, .un, .un, .un, .un] = _
    rw [st, ap (g' := [.dat (.list (ns.map .int)), .dat (.int (m : Int)), .dat (.int top), .own [.int top], .un, .un, .un]) (by simp), ap hf]
    simp
  · have := q3 e he
    rw [q1] at this
    simp at this
    omega
/-- what the pieces' loop has laid -/
structure Pp (es : List Int) (bo : Int) (ps : List Pc) (i : Nat) (b : Int) : Prop where
  len : ps.length = i
  ok : ∀ p ∈ ps, p.Ok
  far : ps.Pairwise fun p q => p.e < q.b
  bef : ∀ p ∈ ps, p.e < b
  b0 : 0 ≤ b
  b1 : b ≤ 1100 * i
  z : i = 0 → b = 0
  fst : ∀ p, ps[0]? = some p → p.b = 0
  his : ∀ p ∈ ps, ∃ (k : Nat) (x : Int), k < 2 * i ∧ es[k]? = some x ∧ p.hi = Rat.divInt x bo
  rise : ps.Pairwise fun p q => p.hi < q.lo
theorem up_lt {es : List Int} {n : Nat} (h : Up es n) {j k : Nat} {x y : Int} (hj : es[j]? = some x) (hk : es[k]? = some y) (l : j < k) : x < y := by
  obtain ⟨h1, e1⟩ := List.getElem?_eq_some_iff.mp hj
  obtain ⟨h2, e2⟩ := List.getElem?_eq_some_iff.mp hk
  rw [← e1, ← e2]
  exact List.pairwise_iff_getElem.mp h.up j k h1 h2 l
theorem up_get {es : List Int} {n : Nat} (h : Up es n) {k : Nat} (hk : k + 1 < n) : ∃ x y : Int, es[k]? = some x ∧ es[k + 1]? = some y ∧ x < y ∧ x.natAbs < 2 ^ 100 ∧ y.natAbs < 2 ^ 100 := by
  have hl := h.len
  have h0 : k < es.length := by omega
  have h1 : k + 1 < es.length := by omega
  exact ⟨es[k], es[k + 1], List.getElem?_eq_getElem h0, List.getElem?_eq_getElem h1, up_lt h (List.getElem?_eq_getElem h0) (List.getElem?_eq_getElem h1) (by omega), h.bd _ (List.getElem_mem h0), h.bd _ (List.getElem_mem h1)⟩
theorem ix_map {es : List Int} {k : Nat} {x : Int} (h : es[k]? = some x) : fIx (.list (es.map .int)) (.int (k : Int)) = some (.int x) := fIx_l (by rw [List.getElem?_map, h]; rfl)
theorem div_lt {x y bo : Int} (b0 : 0 < bo) (h : x < y) : Rat.divInt x bo < Rat.divInt y bo := by
  have bp : (0 : Rat) < (bo : Rat) := Rat.intCast_pos.mpr b0
  refine Rat.lt_of_mul_lt_mul_right (c := (bo : Rat)) ?_ (Rat.le_of_lt bp)
  rw [Rat.divInt_eq_div, Rat.divInt_eq_div, Rat.div_mul_cancel (Rat.ne_of_gt bp), Rat.div_mul_cancel (Rat.ne_of_gt bp)]
  exact Rat.intCast_lt_intCast.mpr h
section
variable {fu : Nat} (hfu : FU ≤ fu)
include hfu
theorem end_num {x : Int} {bo : Int} (hx : x.natAbs < 2 ^ 100) (b0 : 0 < bo) (b1 : bo ≤ 100000) : Pg.f_law_lowest fu [.int x, .int bo] = .ok (nm (Rat.divInt x bo)) ∧ Bd 130 (Rat.divInt x bo) := by
  have hb : bo.natAbs < 2 ^ 20 := by omega
  obtain ⟨e, l1, l2⟩ := law_lowest_q fu hfu (top := x) b0 (sm_of hb (by decide))
  exact ⟨e, bd_mono (n := 100) ⟨Nat.lt_of_le_of_lt l1 hx, Nat.lt_of_le_of_lt l2 (Nat.lt_of_lt_of_le hb (Nat.pow_le_pow_right (by decide) (by decide)))⟩ (by decide)⟩
theorem piece_step {es : List Int} {n : Nat} (up : Up es n) {bo cl : Int} (bo0 : 0 < bo) (bo1 : bo ≤ 100000) (hcl : ∀ k : Int, 0 ≤ k → k ≤ 1000000 → (cl + k).natAbs.log2 ≤ 1048576) {ps : List Pc} {i : Nat} {b : Int} (h : Pp es bo ps i b) (hi : i < 5) (hk : 2 * i + 1 < n) (c5 c6 : Cell) :
    ∃ (p : Pc) (b' : Int) (x6 : Cell), Pp es bo (ps ++ [p]) (i + 1) b' ∧ Pg.b_law_pieces_1 fu [.dat (.list (es.map .int)), .dat (.int bo), .dat (.int cl), .own (ps.map Pc.d), .dat (.int b), .dat (.int ((2 * i : Nat) : Int)), c6] = .nx [.dat (.list (es.map .int)), .dat (.int bo), .dat (.int cl), .own ((ps ++ [p]).map Pc.d), .dat (.int b'), .dat (.int ((2 * i : Nat) : Int)), x6] := by
  obtain ⟨x, y, gx, gy, xy, bx, by_⟩ := up_get up hk
  have ex := ix_map gx
  have ey := ix_map gy
  rw [show ((2 * i + 1 : Nat) : Int) = ((2 * i : Nat) : Int) + 1 by omega] at ey
  obtain ⟨lx, Bx⟩ := end_num hfu bx bo0 bo1
  obtain ⟨ly, By⟩ := end_num hfu by_ bo0 bo1
  have lt := div_lt bo0 xy
  obtain ⟨kk, hkk⟩ : ∃ kk : Int, ((2 * i : Nat) : Int) = kk := ⟨_, rfl⟩
  rw [hkk] at ex ey
  have m1 := mul_s (i := 7919) (j := kk) (by decide) (by omega)
  have m2 := mul_s (i := 104729) (j := kk) (by decide) (by omega)
  have l1 := hcl kk (by omega) (by omega)
  have l2 := hcl (7919 * kk) (by omega) (by omega)
  have l3 := hcl (104729 * kk) (by omega) (by omega)
  have m3 := mul_log l1 (k := cl + 7919 * kk) (by omega)
  have m4 := mul_log l1 (k := cl + 104729 * kk) (by omega)
  obtain ⟨q, hq⟩ : ∃ q, (cl + kk) * (cl + 7919 * kk) = q := ⟨_, rfl⟩
  obtain ⟨q2, hq2⟩ : ∃ q, (cl + kk) * (cl + 104729 * kk) = q := ⟨_, rfl⟩
  rw [hq] at m3
  rw [hq2] at m4
  have e1 := mod_n q 2147483629 (by decide)
  have e2 := mod_n (q % 2147483629) 500 (by decide)
  have e4 := mod_n q2 2147483587 (by decide)
  have e5 := mod_n (q2 % 2147483587) 500 (by decide)
  simp at e1 e2 e4 e5
  obtain ⟨u, hu⟩ : ∃ u, q % 2147483629 % 500 = u := ⟨_, rfl⟩
  obtain ⟨v, hv⟩ : ∃ v, q2 % 2147483587 % 500 = v := ⟨_, rfl⟩
  have u0 : 0 ≤ u ∧ u < 500 := by omega
  have v0 : 0 ≤ v ∧ v < 500 := by omega
  rw [hu] at e2
  rw [hv] at e5
  have ml : (ps.map Pc.d).length < 16777216 := by rw [List.length_map, h.len]; omega
  have hb0 := h.b0
  have hb1 := h.b1
  refine ⟨⟨Rat.divInt x bo, Rat.divInt y bo, b, b + 1 + u⟩, b + 1 + u + 1 + v, .dat (.int (b + 1 + u)), ⟨by simp [h.len], ?_, ?_, ?_, by omega, by omega, by omega, ?_, ?_, ?_⟩, ?_⟩
  · intro p hp
    rcases List.mem_append.mp hp with hp | hp
    · exact h.ok p hp
    · have := List.mem_singleton.mp hp
      subst this
      exact ⟨lt, Bx, By, hb0, by show b < b + 1 + u; omega, by show b + 1 + u ≤ 8000; omega⟩
  · rw [List.pairwise_append]
    refine ⟨h.far, by simp, fun p hp q hq => ?_⟩
    have := List.mem_singleton.mp hq
    subst this
    exact h.bef p hp
  · intro p hp
    rcases List.mem_append.mp hp with hp | hp
    · have := h.bef p hp
      omega
    · have := List.mem_singleton.mp hp
      subst this
      show b + 1 + u < _
      omega
  · intro p hp
    cases ps with
    | nil =>
      simp at hp
      subst hp
      exact h.z (by have := h.len; simpa using this.symm)
    | cons a t => exact h.fst p (by simpa using hp)
  · intro p hp
    rcases List.mem_append.mp hp with hp | hp
    · obtain ⟨k, x, hk, g, e⟩ := h.his p hp
      exact ⟨k, x, by omega, g, e⟩
    · have := List.mem_singleton.mp hp
      subst this
      exact ⟨2 * i + 1, y, by omega, gy, rfl⟩
  · rw [List.pairwise_append]
    refine ⟨h.rise, by simp, fun p hp q hq => ?_⟩
    have := List.mem_singleton.mp hq
    subst this
    obtain ⟨k, w, hk, g, e⟩ := h.his p hp
    rw [e]
    exact div_lt bo0 (up_lt up g gx hk)
  · rw [hkk, List.map_append]
    obtain ⟨xs, hxs⟩ : ∃ xs, ps.map Pc.d = xs := ⟨_, rfl⟩
    rw [hxs] at ml ⊢
    rw [Pg.b_law_pieces_1]
    simp [m1, m2, m3, m4, e1, e2, e4, e5, ex, ey, lx, ly, dTup_4, ml, Pc.d]
theorem pieces_loop {es : List Int} {n : Nat} (up : Up es n) {bo cl : Int} (bo0 : 0 < bo) (bo1 : bo ≤ 100000) (hcl : ∀ k : Int, 0 ≤ k → k ≤ 1000000 → (cl + k).natAbs.log2 ≤ 1048576) : ∀ (m i : Nat) (ps : List Pc) (b : Int) (c5 c6 : Cell), Pp es bo ps i b → i + m ≤ 5 → 2 * (i + m) ≤ n →
    ∃ (qs : List Pc) (b' : Int) (x5 x6 : Cell), Pp es bo qs (i + m) b' ∧ loopF (gN 5) (Pg.b_law_pieces_1 fu) ((List.range m).map fun j => .int ((2 * (i + j) : Nat) : Int)) [.dat (.list (es.map .int)), .dat (.int bo), .dat (.int cl), .own (ps.map Pc.d), .dat (.int b), c5, c6] = .nx [.dat (.list (es.map .int)), .dat (.int bo), .dat (.int cl), .own (qs.map Pc.d), .dat (.int b'), x5, x6]
  | 0, i, ps, b, c5, c6, h, _, _ => ⟨ps, b, c5, c6, h, loopF_nil⟩
  | m + 1, i, ps, b, c5, c6, h, h1, h2 => by
    obtain ⟨p, b', x6, h', e⟩ := piece_step hfu up bo0 bo1 hcl h (by omega) (by omega) c5 c6
    obtain ⟨qs, b2, y5, y6, h2', e2⟩ := pieces_loop up bo0 bo1 hcl m (i + 1) (ps ++ [p]) b' (.dat (.int ((2 * i : Nat) : Int))) x6 h' (by omega) (by omega)
    refine ⟨qs, b2, y5, y6, by rw [show i + (m + 1) = i + 1 + m by omega]; exact h2', ?_⟩
    rw [List.range_succ_eq_map, List.map_cons, List.map_map, loopF_cons (g1 := [.dat (.list (es.map .int)), .dat (.int bo), .dat (.int cl), .own (ps.map Pc.d), .dat (.int b), .dat (.int ((2 * i : Nat) : Int)), c6]) rfl e, ← e2]
    congr 1
    apply List.map_congr_left
    intro j _
    show PyData.int _ = PyData.int _
    rw [show i + (j + 1) = i + 1 + j by omega]
end
end Num
set_option Elab.async false
set_option linter.all false
set_option maxRecDepth 100000
set_option maxHeartbeats 4000000
namespace Num
open PySem MI Cal
section
end
theorem sh_nm (r : Rat) : Sh 1 (nm r) := sh_tuple (n := 0) (allC (sh_int _ _) (allC (sh_int _ _) all0))
end Num
set_option Elab.async false
set_option linter.all false
set_option maxRecDepth 100000
set_option maxHeartbeats 4000000
namespace Fg
open PySem MI Tx Num PySem.NumText
end Fg
set_option Elab.async false
set_option linter.all false
set_option maxRecDepth 100000
set_option maxHeartbeats 4000000
namespace Ord
open PySem MI Num Tx
/-- plain texts -/
def Pw (w : List Nat) : Prop := w.length ≤ 1000 ∧ ∀ c ∈ w, c < 1114112
def wsd (ws : List (List Nat)) : List MI.D := ws.map fun w => .str (Tx.S w)
/-- a fraction of the length -/
def fr (a : Int) (n : Nat) : Rat := Rat.divInt a n
section
variable {fu : Nat} (hfu : FU ≤ fu) {ws : List (List Nat)} {L : Int} {k : Nat} {w : List Nat} (h : ∀ w ∈ ws, Pw w) (nd : ws.Nodup) (hL : 0 ≤ L ∧ L ≤ 4000) (hn : ws.length ≤ 60) (hk : ws[k]? = some w)
include hfu h nd hL hn hk
theorem small : k < ws.length ∧ (0 < ws.length) := by
  have := (List.getElem?_eq_some_iff.mp hk).1
  exact ⟨this, by omega⟩
end
end Ord
set_option Elab.async false
set_option linter.all false
set_option maxRecDepth 100000
set_option maxHeartbeats 4000000
namespace Dr
open PySem MI Num
/-- what is drawn from -/
def src (l m : Int) : T := .lst [.dat (.int l), .dat (.int m)]
structure Src (l m : Int) : Prop where
  l0 : 0 ≤ l
  m0 : 0 ≤ m
  m1 : m < 2147483647
theorem draw (fu : Nat) {l m n : Int} (h : Src l m) (hn : 0 < n) (hb : n.natAbs.log2 < 9000) : ∃ r l' m', Pg.f_sr_draw fu [(true, src l m), (false, .dat (.int n))] = .ok (.dat (.int r)) [.t (src l' m'), .un] ∧ Src l' m' ∧ 0 ≤ r ∧ r < n := by
  have i0 : fIx (.list [.int l, .int m]) (.int 0) = some (.int l) := fIx_l (j := 0) rfl
  have i1 : fIx (.list [.int l, .int m]) (.int 1) = some (.int m) := fIx_l (j := 1) rfl
  have ml := fMod_pos (i := l) (j := n) hn
  have dl := fFdv_pos (i := l) (j := n) hn hb
  have fzs : fz (src l m) = .list [.int l, .int m] := by simp [src]
  by_cases c : 0 < l
  · refine ⟨l % n, l / n, m, ?_, ⟨Int.ediv_nonneg h.l0 (by omega), h.m0, h.m1⟩, Int.emod_nonneg _ (by omega), Int.emod_lt_of_pos _ hn⟩
    have pt : tPut 0 (xP (mC (.int 0))) (xV (mBin fFdv (mBin fIx (mVar 0) (mC (.int 0))) (mVar 1))) [.b (src l m), .t (.dat (.int n)), .t (.dat (.int (l % n)))] = .nx [.b (src (l / n) m), .t (.dat (.int n)), .t (.dat (.int (l % n)))] :=
      tPut_b (g1 := [.b (src l m), .t (.dat (.int n)), .t (.dat (.int (l % n)))]) (t := .dat (.int (l / n))) (i := 0) (k := 0) (ts := [.dat (.int l), .dat (.int m)]) (by simp [fzs, i0, dl]) rfl (by simp) rfl rfl
    rw [Pg.f_sr_draw, Pg.s_sr_draw, runT_go 2 3 _ _ [.b (src l m), .t (.dat (.int n)), .un] rfl rfl]
    simp [fzs, i0, c, ml]
    rw [pt]
    simp
  · have P : (2 : Nat) ^ 31 = 2147483648 := by decide
    have hm := h.m0
    have hm1 := h.m1
    have e1 := mulB (n := 31) (m := 31) (i := m) (j := 48271) (by omega) (by decide) (by decide) (by decide) (by decide)
    have e2 := fMod_pos (i := m * 48271 + 11) (j := 2147483647) (by decide)
    have q1 := Int.emod_nonneg (m * 48271 + 11) (b := 2147483647) (by decide)
    have q2 := Int.emod_lt_of_pos (m * 48271 + 11) (b := 2147483647) (by decide)
    generalize (m * 48271 + 11) % 2147483647 = m' at *
    have e3 := mulB (n := 31) (m := 31) (i := m') (j := m') (by omega) (by omega) (by decide) (by decide) (by decide)
    have e4 := fMod_pos (i := m' * m') (j := 2147483629) (by decide)
    have e5 := fFdv_pos (i := m' * m' % 2147483629) (j := 64) (by decide) (by decide +kernel)
    have e6 := fMod_pos (i := m' * m' % 2147483629 / 64) (j := n) hn
    have j1 : fIx (.list [.int l, .int m']) (.int 1) = some (.int m') := fIx_l (j := 1) rfl
    have fzs' : fz (src l m') = .list [.int l, .int m'] := by simp [src]
    refine ⟨m' * m' % 2147483629 / 64 % n, l, m', ?_, ⟨h.l0, q1, q2⟩, Int.emod_nonneg _ (by omega), Int.emod_lt_of_pos _ hn⟩
    have pt : tPut 0 (xP (mC (.int 1))) (xV (mBin fMod (mBin fAddL (mBin fMul (mBin fIx (mVar 0) (mC (.int 1))) (mC (.int 48271))) (mC (.int 11))) (mC (.int 2147483647)))) [.b (src l m), .t (.dat (.int n)), .un] = .nx [.b (src l m'), .t (.dat (.int n)), .un] :=
      tPut_b (g1 := [.b (src l m), .t (.dat (.int n)), .un]) (t := .dat (.int m')) (i := 1) (k := 1) (ts := [.dat (.int l), .dat (.int m)]) (by simp [fzs, i1, e1, e2]) rfl (by simp) rfl rfl
    rw [Pg.f_sr_draw, Pg.s_sr_draw, runT_go 2 3 _ _ [.b (src l m), .t (.dat (.int n)), .un] rfl rfl]
    simp [fzs, i0, c]
    rw [pt]
    simp [fzs', j1, e3, e4, e5, e6]
theorem low_loop (fu : Nat) (x y : Cell) : ∀ (n : Nat) (a b : Int), 0 ≤ b → 0 ≤ a → b.natAbs < n → loopW (mTru (mBin fGt (mVar 3) (mC (.int 0)))) (Pg.b_sr_low_1 fu) n [x, y, .dat (.int a), .dat (.int b)] = .nx [x, y, .dat (.int (Int.gcd a b)), .dat (.int 0)]
  | 0, a, b, h, _, l => by omega
  | n + 1, a, b, h, ha, l => by
    rw [loopW_ap]
    by_cases e : b = 0
    · subst e
      have : ((Int.gcd a 0 : Nat) : Int) = a := by rw [Int.gcd_zero_right]; omega
      rw [this]
      simp
    · have mm := fMod_ii (i := a) (j := b) e
      have fe : a.fmod b = a % b := Int.fmod_eq_emod_of_nonneg a (by omega)
      have g0 := Int.emod_nonneg a e
      have g1 := Int.emod_lt_of_pos a (b := b) (by omega)
      have ih := low_loop fu x y n b (a % b) g0 h (by omega)
      have gg := gcd_fmod a b
      rw [fe] at mm gg
      rw [gg] at ih
      have c : 0 < b := by omega
      simp [Pg.b_sr_low_1, c, mm]
      exact ih
theorem low_q (fu : Nat) (hfu : FU ≤ fu) {top bottom : Int} (hb : 0 < bottom) (h : Sm bottom) :
    Pg.f_sr_low fu [.int top, .int bottom] = .ok (nm (Rat.divInt top bottom)) ∧ (Rat.divInt top bottom).num.natAbs ≤ top.natAbs ∧ (Rat.divInt top bottom).den ≤ bottom.natAbs := by
  obtain ⟨e, l⟩ := lowest_q fu hfu (top := top) (show bottom ≠ 0 by omega) h
  refine ⟨?_, l⟩
  rw [← e]
  have hl : bottom.natAbs < fu := Nat.lt_of_lt_of_le h hfu
  have hd := divisor fu top bottom hl
  have c : ¬ bottom < 0 := by omega
  obtain ⟨a, ha, ha0, hg⟩ : ∃ a : Int, fAbs [.int top] = some (.int a) ∧ 0 ≤ a ∧ Int.gcd a bottom = Int.gcd top bottom := by
    by_cases z : top < 0
    · exact ⟨-top, by rw [fAbs_i, if_pos z], by omega, Int.neg_gcd ..⟩
    · exact ⟨top, by rw [fAbs_i, if_neg z], by omega, rfl⟩
  have lp := low_loop fu (.dat (.int top)) (.dat (.int bottom)) fu a bottom (by omega) ha0 hl
  rw [hg] at lp
  obtain ⟨g0, gs⟩ := sm_gcd (a := top) h (show bottom ≠ 0 by omega)
  have ok : okDiv ((Int.gcd top bottom : Nat) : Int) = true := okDiv_bd 4000 (by omega) (by show _ < FU; omega) (by decide) (by decide)
  have f1 := fFdv_ii (i := top) ok
  have f2 := fFdv_ii (i := bottom) ok
  rw [Pg.f_sr_low, Pg.s_sr_low, Pg.f_p_lowest, Pg.s_p_lowest]
  simp [run_eq, hd, c, ha, lp, f1, f2]
theorem source (fu : Nat) {ns : List Int} (hz : ∀ k, (ns.getD k 0).natAbs.log2 ≤ 1048576) (k : Nat) (hk : k ≤ 100) : ∃ l m, Pg.f_sr_source fu [(false, .dat (.list (ns.map .int))), (false, .dat (.int (k : Int)))] = .ok (src l m) [.un, .un] ∧ Src l m := by
  have k0 := cell_at' fu ns (z := (k : Int)) (by omega)
  have z0 := hz (k : Int).toNat
  generalize ns.getD (k : Int).toNat 0 = c at k0 z0
  have p18 : fPow (.int 10) (.int 18) = some (.int 1000000000000000000) := fPow_ii (by decide)
  have m1 := fMod_pos (i := c) (j := 2147483647) (by decide)
  have b1 := Int.emod_nonneg c (b := 2147483647) (by decide)
  have b2 := Int.emod_lt_of_pos c (b := 2147483647) (by decide)
  have P : (2 : Nat) ^ 40 = 1099511627776 := by decide
  have e1 := mulB (n := 40) (m := 40) (i := 104729) (j := (k : Int)) (by decide) (by omega) (by decide) (by decide) (by decide)
  have e2 := mulB (n := 40) (m := 40) (i := c % 2147483647 + 104729 * (k : Int) + 7) (j := 48271) (by omega) (by decide) (by decide) (by decide) (by decide)
  have e3 := fMod_pos (i := (c % 2147483647 + 104729 * (k : Int) + 7) * 48271) (j := 2147483629) (by decide)
  have q1 := Int.emod_nonneg ((c % 2147483647 + 104729 * (k : Int) + 7) * 48271) (b := 2147483629) (by decide)
  have q2 := Int.emod_lt_of_pos ((c % 2147483647 + 104729 * (k : Int) + 7) * 48271) (b := 2147483629) (by decide)
  generalize (c % 2147483647 + 104729 * (k : Int) + 7) * 48271 % 2147483629 = sd at *
  have e4 := mulB (n := 40) (m := 40) (i := sd) (j := sd) (by omega) (by omega) (by decide) (by decide) (by decide)
  have e5 := fMod_pos (i := sd * sd) (j := 2147483587) (by decide)
  have r1 := Int.emod_nonneg (sd * sd) (b := 2147483587) (by decide)
  have r2 := Int.emod_lt_of_pos (sd * sd) (b := 2147483587) (by decide)
  by_cases w : 1000000000000000000 ≤ c
  · have e6 : fMul (.int c) (.int 1) = some (.int (c * 1)) := fMul_ii (by
      unfold okMul
      rw [decide_eq_true_eq]
      have : (1 : Int).natAbs.log2 = 0 := by decide
      omega)
    refine ⟨c * 1, sd * sd % 2147483587, ?_, by omega, r1, by omega⟩
    rw [Pg.f_sr_source, Pg.s_sr_source, runT_go 2 4 _ _ [.t (.dat (.list (ns.map .int))), .t (.dat (.int (k : Int))), .un, .un] rfl rfl]
    simp only [Int.mul_one] at e6
    simp [k0, m1, e1, e2, e3, e4, e5, p18, w, e6, src]
  · have e6 : fMul (.int c) (.int 0) = some (.int (c * 0)) := fMul_ii (by
      unfold okMul
      rw [decide_eq_true_eq]
      have : (0 : Int).natAbs.log2 = 0 := by decide
      omega)
    refine ⟨c * 0, sd * sd % 2147483587, ?_, by omega, r1, by omega⟩
    rw [Pg.f_sr_source, Pg.s_sr_source, runT_go 2 4 _ _ [.t (.dat (.list (ns.map .int))), .t (.dat (.int (k : Int))), .un, .un] rfl rfl]
    simp only [Int.mul_zero] at e6
    simp [k0, m1, e1, e2, e3, e4, e5, p18, w, e6, src]
end Dr
set_option Elab.async false
set_option linter.all false
set_option maxRecDepth 100000
set_option maxHeartbeats 4000000
namespace MI
open PySem
def R.sat {α : Type} (r : R α) (Q : α → Prop) (E : Str → Option D → Prop) : Prop := match r with
  | .ok a => Q a
  | .exc c p => E c p
  | .bad => False
@[simp ↓] theorem sat_ok {α : Type} (a : α) (Q : α → Prop) (E : Str → Option D → Prop) : (R.ok a).sat Q E = Q a := Eq.trans rfl rfl
@[simp ↓] theorem sat_exc {α : Type} (c : Str) (p : Option D) (Q : α → Prop) (E : Str → Option D → Prop) : (R.exc c p : R α).sat Q E = E c p := Eq.trans rfl rfl
@[simp ↓] theorem sat_bad {α : Type} (Q : α → Prop) (E : Str → Option D → Prop) : (R.bad : R α).sat Q E = False := Eq.trans rfl rfl
@[simp ↓] theorem sat_bind {α β : Type} (x : R α) (f : α → R β) (Q : β → Prop) (E : Str → Option D → Prop) : (x.bind f).sat Q E = x.sat (fun a => (f a).sat Q E) E := by
  cases x <;> rfl
theorem R.sat.mono {α : Type} {r : R α} {Q Q' : α → Prop} {E E' : Str → Option D → Prop} (h : r.sat Q E) (q : ∀ a, Q a → Q' a) (e : ∀ c p, E c p → E' c p) : r.sat Q' E' := by
  cases r with
  | ok a => exact q a h
  | exc c p => exact e c p h
  | bad => exact h
theorem R.sat.eq {α : Type} {r : R α} {Q : α → Prop} (h : r.sat Q fun _ _ => False) : ∃ a, r = .ok a ∧ Q a := by
  cases r with
  | ok a => exact ⟨a, rfl, h⟩
  | exc c p => exact h.elim
  | bad => exact h.elim
/-- a partial operation -/
theorem sat_of {α : Type} {o : Option α} {a : α} {Q : α → Prop} {E : Str → Option D → Prop} (e : o = some a) (h : Q a) : (R.of o).sat Q E := by rw [e]; exact h
@[simp] theorem sat_ite {α : Type} (c : Prop) [Decidable c] (x y : R α) (Q : α → Prop) (E : Str → Option D → Prop) : (if c then x else y).sat Q E = ((c → x.sat Q E) ∧ (¬ c → y.sat Q E)) := by
  by_cases h : c <;> simp [h]
@[simp ↓] theorem sat_ite_bad {α : Type} (c : Prop) [Decidable c] (x : R α) (Q : α → Prop) (E : Str → Option D → Prop) : (if c then x else .bad).sat Q E = (c ∧ x.sat Q E) := by
  by_cases h : c <;> simp [h]
structure Po where
  nx : Ce → Prop
  bk : Ce → Prop
  ct : Ce → Prop
  rt : D → Prop
  ex : Str → Option D → Ce → Prop
def Out.sat (o : Out) (p : Po) : Prop := match o with
  | .nx g => p.nx g
  | .rt d => p.rt d
  | .bk g => p.bk g
  | .ct g => p.ct g
  | .ex c q g => p.ex c q g
  | .bad => False
@[simp ↓] theorem osat_nx (g : Ce) (p : Po) : (Out.nx g).sat p = p.nx g := Eq.trans rfl rfl
@[simp ↓] theorem osat_rt (g : D) (p : Po) : (Out.rt g).sat p = p.rt g := Eq.trans rfl rfl
@[simp ↓] theorem osat_bk (g : Ce) (p : Po) : (Out.bk g).sat p = p.bk g := Eq.trans rfl rfl
@[simp ↓] theorem osat_ct (g : Ce) (p : Po) : (Out.ct g).sat p = p.ct g := Eq.trans rfl rfl
@[simp ↓] theorem osat_ex (c : Str) (q : Option D) (g : Ce) (p : Po) : (Out.ex c q g).sat p = p.ex c q g := Eq.trans rfl rfl
@[simp ↓] theorem osat_bad (p : Po) : Out.bad.sat p = False := Eq.trans rfl rfl
theorem Out.sat.mono {o : Out} {p p' : Po} (h : o.sat p) (n : ∀ g, p.nx g → p'.nx g) (r : ∀ d, p.rt d → p'.rt d) (b : ∀ g, p.bk g → p'.bk g) (c : ∀ g, p.ct g → p'.ct g) (e : ∀ a q g, p.ex a q g → p'.ex a q g) : o.sat p' := by
  cases o with
  | nx g => exact n g h
  | rt d => exact r d h
  | bk g => exact b g h
  | ct g => exact c g h
  | ex a q g => exact e a q g h
  | bad => exact h
@[simp] theorem osat_ite (c : Prop) [Decidable c] (x y : Out) (p : Po) : (if c then x else y).sat p = ((c → x.sat p) ∧ (¬ c → y.sat p)) := by
  by_cases h : c <;> simp [h]
@[simp ↓] theorem osat_ite_bad (c : Prop) [Decidable c] (x : Out) (p : Po) : (if c then x else .bad).sat p = (c ∧ x.sat p) := by
  by_cases h : c <;> simp [h]
@[simp ↓] theorem osat_to {α : Type} (x : R α) (g : Ce) (k : α → Out) (p : Po) : (x.to g k).sat p = x.sat (fun a => (k a).sat p) (fun c q => flatO q = true ∧ p.ex c q g) := by
  cases x with
  | ok a => rfl
  | exc c q =>
    show (if flatO q = true then Out.ex c q g else .bad).sat p = _
    rw [osat_ite_bad]
    rfl
  | bad => rfl
@[simp ↓] theorem osat_seq (a b : S) (g : Ce) (p : Po) : (sSeq a b g).sat p = (a g).sat ⟨fun g' => (b g').sat p, p.bk, p.ct, p.rt, p.ex⟩ := by
  unfold sSeq
  cases a g <;> rfl
@[simp ↓] theorem osat_if (t : Vw → R Bool) (a b : S) (g : Ce) (p : Po) : (sIf t a b g).sat p = (t (va g)).sat (fun k => (k = true → (a g).sat p) ∧ (k = false → (b g).sat p)) (fun x q => flatO q = true ∧ p.ex x q g) := by
  unfold sIf
  rw [osat_to]
  congr
  funext k
  cases k <;> simp
@[simp ↓] theorem osat_ret (m : M) (g : Ce) (p : Po) : (sRet m g).sat p = (m (va g)).sat p.rt (fun x q => flatO q = true ∧ p.ex x q g) := by
  unfold sRet
  cases m (va g) with
  | ok a => rfl
  | exc x q =>
    show (if flatO q = true then Out.ex x q g else .bad).sat p = _
    rw [osat_ite_bad]
    rfl
  | bad => rfl
@[simp ↓] theorem osat_for (it : Vw → R (List D)) (t : Tg) (b : S) (g : Ce) (p : Po) : (sFor it t b g).sat p = (it (vd g)).sat (fun ds => (loopF t b ds g).sat p) (fun x q => flatO q = true ∧ p.ex x q g) := by
  unfold sFor
  rw [osat_to]
theorem run_sat {n N : Nat} {m : S} {ds : List D} {Q : D → Prop} {E : Str → Option D → Prop} (h : ds.length = n) (g : Ce) (hg : ds.map Cell.dat ++ List.replicate (N - n) Cell.un = g) (s : (m g).sat ⟨fun _ => Q .none, fun _ => False, fun _ => False, Q, fun c p _ => E c p⟩) : (run n N m ds).sat Q E := by
  unfold run
  rw [if_pos h, hg]
  cases e : m g with
  | nx g => rw [e] at s; exact s
  | rt d => rw [e] at s; exact s
  | bk g => rw [e] at s; exact s
  | ct g => rw [e] at s; exact s
  | ex c q g => rw [e] at s; exact s
  | bad => rw [e] at s; exact s
def os {α : Type} (o : Option α) (Q : α → Prop) : Prop := match o with
  | some a => Q a
  | none => False
@[simp ↓] theorem os_some {α : Type} (a : α) (Q : α → Prop) : os (some a) Q = Q a := Eq.trans rfl rfl
@[simp ↓] theorem os_none {α : Type} (Q : α → Prop) : os none Q = False := Eq.trans rfl rfl
@[simp ↓] theorem os_bind {α β : Type} (o : Option α) (f : α → Option β) (Q : β → Prop) : os (o.bind f) Q = os o (fun a => os (f a) Q) := by cases o <;> rfl
@[simp ↓] theorem os_ite {α : Type} (c : Prop) [Decidable c] (o : Option α) (Q : α → Prop) : os (if c then o else none) Q = (c ∧ os o Q) := by by_cases h : c <;> simp [h]
theorem loopF_sat {t : Tg} {b : S} {p : Po} (I : Nat → Ce → Prop) : ∀ {ds : List D} {g : Ce}, I 0 g → (∀ k d g, ds[k]? = some d → I k g → os (t d g) fun g1 => (b g1).sat ⟨I (k + 1), p.nx, I (k + 1), p.rt, p.ex⟩) → (∀ g, I ds.length g → p.nx g) → (loopF t b ds g).sat p := by
  intro ds g h0 hs h1
  have key : ∀ (k : Nat) (es : List D) (g : Ce), k + es.length = ds.length → (∀ i, es[i]? = ds[k + i]?) → I k g → (loopF t b es g).sat p := by
    intro k es
    induction es generalizing k with
    | nil =>
      intro g e _ i
      refine h1 g ?_
      simp at e
      rw [← e]
      exact i
    | cons d es ih =>
      intro g e q i
      have hd : ds[k]? = some d := by simpa using (q 0).symm
      have s := hs k d g hd i
      rw [loopF]
      cases et : t d g with
      | none => rw [et] at s; exact s
      | some g1 =>
        rw [et] at s
        have s' : (b g1).sat ⟨I (k + 1), p.nx, I (k + 1), p.rt, p.ex⟩ := s
        have nxt : ∀ g2, I (k + 1) g2 → (loopF t b es g2).sat p := fun g2 i2 => ih (k + 1) g2 (by simp at e; omega) (fun i => by
          have := q (i + 1)
          simp at this
          rw [this]
          congr 1
          omega) i2
        dsimp only
        cases eb : b g1 with
        | nx g2 => rw [eb] at s'; exact nxt g2 s'
        | ct g2 => rw [eb] at s'; exact nxt g2 s'
        | bk g2 => rw [eb] at s'; exact s'
        | rt v => rw [eb] at s'; exact s'
        | ex c q g2 => rw [eb] at s'; exact s'
        | bad => rw [eb] at s'; exact s'
  exact key 0 ds g (by simp) (fun i => by simp) h0
def RG.sat {α : Type} (r : RG α) (Q : α → Ct → Prop) (E : Str → Option D → Ct → Prop) : Prop := match r with
  | .ok a g => Q a g
  | .exc c p g => E c p g
  | .bad => False
section
variable {α β : Type} (Q : α → Ct → Prop) (E : Str → Option D → Ct → Prop)
@[simp ↓] theorem gsat_ok (a : α) (g : Ct) : (RG.ok a g).sat Q E = Q a g := Eq.trans rfl rfl
@[simp ↓] theorem gsat_exc (c : Str) (p : Option D) (g : Ct) : (RG.exc c p g : RG α).sat Q E = E c p g := Eq.trans rfl rfl
@[simp ↓] theorem gsat_bad : (RG.bad : RG α).sat Q E = False := Eq.trans rfl rfl
@[simp ↓] theorem gsat_bind (x : RG β) (f : β → Ct → RG α) : (x.bind f).sat Q E = x.sat (fun a g => (f a g).sat Q E) E := by cases x <;> rfl
@[simp] theorem gsat_ite (c : Prop) [Decidable c] (x y : RG α) : (if c then x else y).sat Q E = ((c → x.sat Q E) ∧ (¬ c → y.sat Q E)) := by
  by_cases h : c <;> simp [h]
@[simp ↓] theorem gsat_ite_bad (c : Prop) [Decidable c] (x : RG α) : (if c then x else .bad).sat Q E = (c ∧ x.sat Q E) := by
  by_cases h : c <;> simp [h]
@[simp ↓] theorem gsat_of (x : R α) (g : Ct) : (RG.of x g).sat Q E = x.sat (fun a => Q a g) (fun c p => E c p g) := by cases x <;> rfl
end
theorem RG.sat.mono {α : Type} {r : RG α} {Q Q' : α → Ct → Prop} {E E' : Str → Option D → Ct → Prop} (h : r.sat Q E) (q : ∀ a g, Q a g → Q' a g) (e : ∀ c p g, E c p g → E' c p g) : r.sat Q' E' := by
  cases r with
  | ok a g => exact q a g h
  | exc c p g => exact e c p g h
  | bad => exact h
section
variable (Q : T → Ct → Prop) (E : Str → Option D → Ct → Prop)
@[simp ↓] theorem gsat_xOf (o : Option D) (g : Ct) : (xOf o g).sat Q E = (R.of o).sat (fun d => Q (.dat d) g) (fun c p => E c p g) := by cases o <;> rfl
@[simp ↓] theorem gsat_P (m : M) (g : Ct) : (xP m g).sat Q E = (m (tvd g)).sat (fun d => Q (.dat d) g) (fun x q => E x q g) := by
  unfold xP
  rw [gsat_bind, gsat_of]
  rfl
@[simp ↓] theorem gsat_V (m : M) (g : Ct) : (xV m g).sat Q E = (m (tva g)).sat (fun d => flat d = true ∧ Q (.dat d) g) (fun x q => flatO q = true ∧ E x q g) := by
  unfold xV
  cases m (tva g) <;> simp
@[simp ↓] theorem gsat_TP (m : Vw → R Bool) (g : Ct) (Q : Bool → Ct → Prop) : (xTP m g).sat Q E = (m (tva g)).sat (fun d => Q d g) (fun x q => flatO q = true ∧ E x q g) := by
  unfold xTP
  cases m (tva g) <;> simp
end
def RF.sat (r : RF) (Q : T → Ct → Prop) (E : Str → Option D → Ct → Prop) : Prop := match r with
  | .ok t bs => Q t bs
  | .exc c p bs => E c p bs
  | .bad => False
theorem RF.sat.mono {r : RF} {Q Q' : T → Ct → Prop} {E E' : Str → Option D → Ct → Prop} (h : r.sat Q E) (q : ∀ a g, Q a g → Q' a g) (e : ∀ c p g, E c p g → E' c p g) : r.sat Q' E' := by
  cases r with
  | ok a g => exact q a g h
  | exc c p g => exact e c p g h
  | bad => exact h
@[simp ↓] theorem fsat_ok (t : T) (bs : Ct) (Q : T → Ct → Prop) (E : Str → Option D → Ct → Prop) : (RF.ok t bs).sat Q E = Q t bs := Eq.trans rfl rfl
theorem fsat_of_eq {r : RF} {t : T} {bs : Ct} {Q : T → Ct → Prop} {E : Str → Option D → Ct → Prop} (e : r = .ok t bs) (h : Q t bs) : r.sat Q E := by rw [e]; exact h
theorem RF.sat.eq {r : RF} {Q : T → Ct → Prop} (h : r.sat Q fun _ _ _ => False) : ∃ t bs, r = .ok t bs ∧ Q t bs := by
  cases r with
  | ok t bs => exact ⟨t, bs, rfl, h⟩
  | exc c p g => exact h.elim
  | bad => exact h.elim
@[simp ↓] theorem gsat_fn (f : Us → RF) (n : Nat) (dds : List D) (r : XR) (g : Ct) (Q : T → Ct → Prop) (E : Str → Option D → Ct → Prop) : (xFn f n dds r g).sat Q E = (r g).sat (fun as g1 => os (usOf g1 as) fun us => (us ++ dds.map fun d => (false, T.dat d)).length = n ∧ (brs as).Nodup ∧ (f (us ++ dds.map fun d => (false, T.dat d))).sat (fun t bs => os (backG as bs g1) fun g2 => Q t g2) (fun x p bs => os (backG as bs g1) fun g2 => E x p g2)) E := by
  unfold xFn
  rw [gsat_bind]
  congr
  funext as g1
  cases usOf g1 as with
  | none => rfl
  | some us =>
    dsimp only
    rw [gsat_ite_bad, os_some, and_assoc]
    congr
    cases f (us ++ dds.map fun d => (false, T.dat d)) with
    | ok t bs =>
      dsimp only
      rw [fsat_ok]
      cases backG as bs g1 <;> rfl
    | exc c p bs =>
      dsimp only
      show _ = os (backG as bs g1) fun g2 => E c p g2
      cases backG as bs g1 <;> rfl
    | bad => rfl
structure PoT where
  nx : Ct → Prop
  bk : Ct → Prop
  ct : Ct → Prop
  rt : T → Ct → Prop
  ex : Str → Option D → Ct → Prop
def OutT.sat (o : OutT) (p : PoT) : Prop := match o with
  | .nx g => p.nx g
  | .rt d g => p.rt d g
  | .bk g => p.bk g
  | .ct g => p.ct g
  | .ex c q g => p.ex c q g
  | .bad => False
@[simp ↓] theorem tsat_nx (g : Ct) (p : PoT) : (OutT.nx g).sat p = p.nx g := Eq.trans rfl rfl
@[simp ↓] theorem tsat_rt (d : T) (g : Ct) (p : PoT) : (OutT.rt d g).sat p = p.rt d g := Eq.trans rfl rfl
@[simp ↓] theorem tsat_bk (g : Ct) (p : PoT) : (OutT.bk g).sat p = p.bk g := Eq.trans rfl rfl
@[simp ↓] theorem tsat_ct (g : Ct) (p : PoT) : (OutT.ct g).sat p = p.ct g := Eq.trans rfl rfl
@[simp ↓] theorem tsat_ex (c : Str) (q : Option D) (g : Ct) (p : PoT) : (OutT.ex c q g).sat p = p.ex c q g := Eq.trans rfl rfl
@[simp ↓] theorem tsat_bad (p : PoT) : OutT.bad.sat p = False := Eq.trans rfl rfl
theorem OutT.sat.mono {o : OutT} {p p' : PoT} (h : o.sat p) (n : ∀ g, p.nx g → p'.nx g) (r : ∀ d g, p.rt d g → p'.rt d g) (b : ∀ g, p.bk g → p'.bk g) (c : ∀ g, p.ct g → p'.ct g) (e : ∀ a q g, p.ex a q g → p'.ex a q g) : o.sat p' := by
  cases o with
  | nx g => exact n g h
  | rt d g => exact r d g h
  | bk g => exact b g h
  | ct g => exact c g h
  | ex a q g => exact e a q g h
  | bad => exact h
@[simp] theorem tsat_ite (c : Prop) [Decidable c] (x y : OutT) (p : PoT) : (if c then x else y).sat p = ((c → x.sat p) ∧ (¬ c → y.sat p)) := by
  by_cases h : c <;> simp [h]
@[simp ↓] theorem tsat_ite_bad (c : Prop) [Decidable c] (x : OutT) (p : PoT) : (if c then x else .bad).sat p = (c ∧ x.sat p) := by
  by_cases h : c <;> simp [h]
@[simp ↓] theorem tsat_to {α : Type} (x : RG α) (k : α → Ct → OutT) (p : PoT) : (x.to k).sat p = x.sat (fun a g => (k a g).sat p) p.ex := by cases x <;> rfl
@[simp ↓] theorem tsat_seq (a b : ST) (g : Ct) (p : PoT) : (tSeq a b g).sat p = (a g).sat ⟨fun g' => (b g').sat p, p.bk, p.ct, p.rt, p.ex⟩ := by
  unfold tSeq
  cases a g <;> rfl
@[simp ↓] theorem tsat_if (t : XT) (a b : ST) (g : Ct) (p : PoT) : (tIf t a b g).sat p = (t g).sat (fun k g1 => (k = true → (a g1).sat p) ∧ (k = false → (b g1).sat p)) p.ex := by
  unfold tIf
  rw [tsat_to]
  congr
  funext k g1
  cases k <;> simp
@[simp ↓] theorem tsat_ret (m : XM) (g : Ct) (p : PoT) : (tRet m g).sat p = (m g).sat p.rt p.ex := by
  unfold tRet
  rw [tsat_to]
  rfl
@[simp ↓] theorem tsat_for (it : XI) (t : TgT) (b : ST) (g : Ct) (p : PoT) : (tFor it t b g).sat p = (it g).sat (fun ds g1 => (loopT t b ds g1).sat p) p.ex := by
  unfold tFor
  rw [tsat_to]
@[simp ↓] theorem tsat_asg (t : TgT) (m : XM) (g : Ct) (p : PoT) : (tAsg t m g).sat p = (m g).sat (fun x g1 => os (t (fz x) g1) p.nx) p.ex := by
  unfold tAsg
  rw [tsat_to]
  congr
  funext x g1
  cases t (fz x) g1 <;> rfl
theorem runT_sat {n N : Nat} {m : ST} {us : Us} {Q : T → Ct → Prop} {E : Str → Option D → Ct → Prop} (h : us.length = n) (g : Ct) (hg : us.map cellOf ++ List.replicate (N - n) Cl.un = g) (s : (m g).sat ⟨fun g => os (bback us g) fun bs => Q (.dat .none) bs, fun _ => False, fun _ => False, fun t g => os (bback us g) fun bs => Q t bs, fun c p g => os (bback us g) fun bs => E c p bs⟩) : (runT n N m us).sat Q E := by
  rw [runT_go n N m us g h hg]
  cases e : m g with
  | nx g1 =>
    rw [e] at s
    have s' : os (bback us g1) fun bs => Q (.dat .none) bs := s
    dsimp only
    cases eb : bback us g1 with
    | none => rw [eb] at s'; exact s'
    | some bs => rw [eb] at s'; exact s'
  | rt t g1 =>
    rw [e] at s
    have s' : os (bback us g1) fun bs => Q t bs := s
    dsimp only
    cases eb : bback us g1 with
    | none => rw [eb] at s'; exact s'
    | some bs => rw [eb] at s'; exact s'
  | bk g => rw [e] at s; exact s
  | ct g => rw [e] at s; exact s
  | ex c p g1 =>
    rw [e] at s
    have s' : os (bback us g1) fun bs => E c p bs := s
    dsimp only
    cases eb : bback us g1 with
    | none => rw [eb] at s'; exact s'
    | some bs => rw [eb] at s'; exact s'
  | bad => rw [e] at s; exact s
theorem loopT_sat {t : TgT} {b : ST} {p : PoT} (I : Nat → Ct → Prop) : ∀ {ds : List D} {g : Ct}, I 0 g → (∀ k d g, ds[k]? = some d → I k g → os (t d g) fun g1 => (b g1).sat ⟨I (k + 1), p.nx, I (k + 1), p.rt, p.ex⟩) → (∀ g, I ds.length g → p.nx g) → (loopT t b ds g).sat p := by
  intro ds g h0 hs h1
  have key : ∀ (k : Nat) (es : List D) (g : Ct), k + es.length = ds.length → (∀ i, es[i]? = ds[k + i]?) → I k g → (loopT t b es g).sat p := by
    intro k es
    induction es generalizing k with
    | nil =>
      intro g e _ i
      refine h1 g ?_
      simp at e
      rw [← e]
      exact i
    | cons d es ih =>
      intro g e q i
      have hd : ds[k]? = some d := by simpa using (q 0).symm
      have s := hs k d g hd i
      rw [loopT]
      cases et : t d g with
      | none => rw [et] at s; exact s
      | some g1 =>
        rw [et] at s
        have s' : (b g1).sat ⟨I (k + 1), p.nx, I (k + 1), p.rt, p.ex⟩ := s
        have nxt : ∀ g2, I (k + 1) g2 → (loopT t b es g2).sat p := fun g2 i2 => ih (k + 1) g2 (by simp at e; omega) (fun i => by
          have := q (i + 1)
          simp at this
          rw [this]
          congr 1
          omega) i2
        dsimp only
        cases eb : b g1 with
        | nx g2 => rw [eb] at s'; exact nxt g2 s'
        | ct g2 => rw [eb] at s'; exact nxt g2 s'
        | bk g2 => rw [eb] at s'; exact s'
        | rt v g2 => rw [eb] at s'; exact s'
        | ex c q g2 => rw [eb] at s'; exact s'
        | bad => rw [eb] at s'; exact s'
  exact key 0 ds g (by simp) (fun i => by simp) h0
theorem loopCT_sat {t : TgT} {tt : XT} {te : XM} {vs : List Nat} {Q : List T → Ct → Prop} {E : Str → Option D → Ct → Prop} (I : Nat → List T → Ct → Prop) : ∀ {ds : List D} {acc : List T} {g : Ct}, I 0 acc g → (∀ k d acc g, ds[k]? = some d → I k acc g → os (t d g) fun g1 => (tt g1).sat (fun c g2 => (c = true → (te g2).sat (fun y g3 => acc.length < most ∧ g3.length = g.length ∧ I (k + 1) (acc ++ [.dat (fz y)]) (wipeG vs g3)) fun _ _ _ => False) ∧ (c = false → g2.length = g.length ∧ I (k + 1) acc (wipeG vs g2))) fun _ _ _ => False) → (∀ acc g, I ds.length acc g → Q acc g) → (loopCT t tt te vs ds acc g).sat Q E := by
  intro ds acc g h0 hs h1
  have key : ∀ (k : Nat) (es : List D) (acc : List T) (g : Ct), k + es.length = ds.length → (∀ i, es[i]? = ds[k + i]?) → I k acc g → (loopCT t tt te vs es acc g).sat Q E := by
    intro k es
    induction es generalizing k with
    | nil =>
      intro acc g e _ i
      refine h1 acc g ?_
      simp at e
      rw [← e]
      exact i
    | cons d es ih =>
      intro acc g e q i
      have hd : ds[k]? = some d := by simpa using (q 0).symm
      have s := hs k d acc g hd i
      have nxt : ∀ a2 g2, I (k + 1) a2 g2 → (loopCT t tt te vs es a2 g2).sat Q E := fun a2 g2 i2 => ih (k + 1) a2 g2 (by simp at e; omega) (fun i => by
          have := q (i + 1)
          simp at this
          rw [this]
          congr 1
          omega) i2
      rw [loopCT]
      cases et : t d g with
      | none => rw [et] at s; exact s
      | some g1 =>
        rw [et] at s
        rw [os_some] at s
        dsimp only
        cases ec : tt g1 with
        | bad => rw [ec] at s; exact s
        | exc c p g => rw [ec] at s; exact s.elim
        | ok c g2 =>
          rw [ec] at s
          rw [gsat_ok] at s
          cases c with
          | false =>
            dsimp only
            have s' := s.2 rfl
            rw [if_pos s'.1]
            exact nxt acc _ s'.2
          | true =>
            have s' := s.1 rfl
            dsimp only
            cases ee : te g2 with
            | bad => rw [ee] at s'; exact s'
            | exc c p g => rw [ee] at s'; exact s'.elim
            | ok y g3 =>
              rw [ee] at s'
              dsimp only
              rw [gsat_ok] at s'
              rw [if_pos ⟨s'.1, s'.2.1⟩]
              exact nxt _ _ s'.2.2
  exact key 0 ds acc g (by simp) (fun i => by simp) h0
@[simp ↓] theorem gsat_lc (it : XI) (vs : List Nat) (t : TgT) (tt : XT) (te : XM) (g : Ct) (Q : T → Ct → Prop) (E : Str → Option D → Ct → Prop) : (xLc it vs t tt te g).sat Q E = (it g).sat (fun ds g1 => vs.all (fun v => decide (v < g1.length)) = true ∧ (loopCT t tt te vs ds [] (wipeG vs g1)).sat (fun acc g2 => Q (.lst acc) g2) E) E := by
  unfold xLc
  rw [gsat_bind]
  congr
  funext ds g1
  rw [gsat_ite_bad, gsat_bind]
  rfl
@[simp ↓] theorem gsat_xiRng (f : List D → Option (List D)) (m : XA) (g : Ct) (Q : List D → Ct → Prop) (E : Str → Option D → Ct → Prop) : (xiRng f m g).sat Q E = (m g).sat (fun ts g1 => (R.of (f (fzL ts))).sat (fun ds => Q ds g1) fun c p => E c p g1) E := by
  unfold xiRng
  rw [gsat_bind]
  congr
  funext ts g1
  cases f (fzL ts) <;> rfl
end MI
set_option Elab.async false
set_option linter.all false
set_option maxRecDepth 100000
set_option maxHeartbeats 4000000
namespace MI
open PySem
def itemsD : D → Option (List D)
  | .list ds => some ds
  | .tuple ds => some ds
  | _ => none
@[simp] theorem itemsD_l (ds : List D) : itemsD (.list ds) = some ds := Eq.trans rfl rfl
@[simp] theorem itemsD_t (ds : List D) : itemsD (.tuple ds) = some ds := Eq.trans rfl rfl
def intD : D → Option Int
  | .int i => some i
  | _ => none
@[simp] theorem intD_i (i : Int) : intD (.int i) = some i := Eq.trans rfl rfl
def boolD : D → Option Bool
  | .bool b => some b
  | _ => none
@[simp] theorem boolD_b (b : Bool) : boolD (.bool b) = some b := Eq.trans rfl rfl
@[simp ↓] theorem sat_truth (o : Option Bool) (Q : Bool → Prop) (E : Str → Option D → Prop) : (R.of o).sat Q E = os o Q := by cases o <;> rfl
theorem sat_os {α : Type} (o : Option α) (Q : α → Prop) (E : Str → Option D → Prop) : (R.of o).sat Q E = os o Q := by cases o <;> rfl
section
variable (Q : D → Prop) (QL : List D → Prop) (QB : Bool → Prop) (QO : Option Int → Prop) (E : Str → Option D → Prop) (δ : Vw)
def dV : Option (Option D) → Option D
  | some (some d) => some d
  | _ => none
@[simp] theorem dV_s (d : D) : dV (some (some d)) = some d := Eq.trans rfl rfl
@[simp ↓] theorem msat_var (i : Nat) : (mVar i δ).sat Q E = os (dV δ[i]?) Q := by
  unfold mVar
  cases δ[i]? with
  | none => rfl
  | some o => cases o <;> rfl
@[simp ↓] theorem msat_items (m : M) : (mItems m δ).sat QL E = (m δ).sat (fun d => os (itemsD d) QL) E := by
  unfold mItems
  rw [sat_bind]
  congr
  funext d
  cases d <;> rfl
@[simp ↓] theorem msat_of (m : M) : (nOf m δ).sat QL E = (m δ).sat (fun d => os (itemsD d) QL) E := by
  unfold nOf
  rw [sat_bind]
  congr
  funext d
  cases d <;> rfl
@[simp ↓] theorem msat_part (m : M) : (mPart m δ).sat QO E = (m δ).sat (fun d => os (intD d) fun i => QO (some i)) E := by
  unfold mPart
  rw [sat_bind]
  congr
  funext d
  cases d <;> rfl
@[simp ↓] theorem msat_lc (it : Vw → R (List D)) (vs : List Nat) (t : VTg) (tt : Vw → R Bool) (te : M) : (nLc it vs t tt te δ).sat QL E = (it δ).sat (fun ds => (loopC t tt te (wipeV δ vs) ds []).sat QL E) E := by
  unfold nLc
  rw [sat_bind]
@[simp ↓] theorem msat_bin (f : D → D → Option D) (a b : M) : (mBin f a b δ).sat Q E = (a δ).sat (fun x => (b δ).sat (fun y => (R.of (f x y)).sat Q E) E) E := by
  unfold mBin
  simp only [sat_bind]
@[simp ↓] theorem msat_tru (m : M) : (mTru m δ).sat QB E = (m δ).sat (fun x => os (truthD x) QB) E := by
  unfold mTru
  simp only [sat_bind, sat_os]
@[simp ↓] theorem msat_not (t : Vw → R Bool) : (mNot t δ).sat QB E = (t δ).sat (fun b => QB (!b)) E := by
  unfold mNot
  simp only [sat_bind, sat_ok]
@[simp ↓] theorem msat_andT (t u : Vw → R Bool) : (mAndT t u δ).sat QB E = (t δ).sat (fun b => (b = true → (u δ).sat QB E) ∧ (b = false → QB false)) E := by
  unfold mAndT
  rw [sat_bind]
  congr
  funext b
  cases b <;> simp
@[simp ↓] theorem msat_orT (t u : Vw → R Bool) : (mOrT t u δ).sat QB E = (t δ).sat (fun b => (b = true → QB true) ∧ (b = false → (u δ).sat QB E)) E := by
  unfold mOrT
  rw [sat_bind]
  congr
  funext b
  cases b <;> simp
@[simp ↓] theorem msat_if (t : Vw → R Bool) (x y : M) : (mIf t x y δ).sat Q E = (t δ).sat (fun b => (b = true → (x δ).sat Q E) ∧ (b = false → (y δ).sat Q E)) E := by
  unfold mIf
  rw [sat_bind]
  congr
  funext b
  cases b <;> simp
@[simp ↓] theorem msat_call (n : Nat) (f : List D → R D) (dds : List D) (m : Vw → R (List D)) : (mCall n f dds m δ).sat Q E = (m δ).sat (fun ds => (ds ++ dds).length = n ∧ (f (ds ++ dds)).sat Q E) E := by
  unfold mCall
  simp only [sat_bind, sat_ite_bad]
@[simp ↓] theorem msat_mt (T : String) (f : D → List D → Option D) (o : M) (a : Vw → R (List D)) : (mMt T f o a δ).sat Q E = (o δ).sat (fun d => (tyD d = T ∧ (T = "str" ∨ T = "list")) ∧ (a δ).sat (fun ds => (R.of (f d ds)).sat Q E) E) E := by
  unfold mMt
  simp only [sat_bind, sat_ite_bad]
@[simp ↓] theorem msat_chain (f f' : D → D → Option D) (a b c : M) : (mChain f f' a b c δ).sat Q E = (a δ).sat (fun x => (b δ).sat (fun y => (R.of (f x y)).sat (fun r => os (boolD r) fun k => (k = true → (c δ).sat (fun z => (R.of (f' y z)).sat Q E) E) ∧ (k = false → Q (.bool false))) E) E) E := by
  unfold mChain
  simp only [sat_bind]
  congr
  funext x
  congr
  funext y
  cases f x y with
  | none => rfl
  | some r => cases r with
    | bool k => cases k <;> simp
    | _ => rfl
@[simp ↓] theorem msat_andV (a b : M) : (mAndV a b δ).sat Q E = (a δ).sat (fun x => os (truthD x) fun k => (k = true → (b δ).sat Q E) ∧ (k = false → Q x)) E := by
  unfold mAndV
  simp only [sat_bind, sat_os]
  congr
  funext x
  congr
  funext k
  cases k <;> simp
@[simp ↓] theorem msat_orV (a b : M) : (mOrV a b δ).sat Q E = (a δ).sat (fun x => os (truthD x) fun k => (k = true → Q x) ∧ (k = false → (b δ).sat Q E)) E := by
  unfold mOrV
  simp only [sat_bind, sat_os]
  congr
  funext x
  congr
  funext k
  cases k <;> simp
@[simp ↓] theorem msat_notV (a : M) : (mNotV a δ).sat Q E = (a δ).sat (fun x => os (truthD x) fun k => Q (.bool !k)) E := by
  unfold mNotV
  simp only [sat_bind, sat_os, sat_ok]
end
section
variable (p : Po) (g : Ce)
@[simp ↓] theorem osat_set (i : Nat) (m : M) : (sSet i m g).sat p = (m (vd g)).sat (fun d => p.nx (g.set i (.dat d))) (fun c q => flatO q = true ∧ p.ex c q g) := by
  unfold sSet
  rw [osat_to]
  rfl
@[simp ↓] theorem osat_setF (i : Nat) (m : M) : (sSetF i m g).sat p = (m (va g)).sat (fun d => flat d = true ∧ p.nx (g.set i (.dat d))) (fun c q => flatO q = true ∧ p.ex c q g) := by
  unfold sSetF
  rw [osat_to]
  simp only [osat_ite_bad, osat_nx]
@[simp ↓] theorem osat_expr (m : M) : (sExpr m g).sat p = (m (va g)).sat (fun _ => p.nx g) (fun c q => flatO q = true ∧ p.ex c q g) := by
  unfold sExpr
  rw [osat_to]
  rfl
@[simp ↓] theorem osat_asg (t : Tg) (m : M) : (sAsg t m g).sat p = (m (vd g)).sat (fun d => os (t d g) p.nx) (fun c q => flatO q = true ∧ p.ex c q g) := by
  unfold sAsg
  rw [osat_to]
  congr
  funext d
  cases t d g <;> rfl
@[simp ↓] theorem osat_asgF (t : Tg) (m : M) : (sAsgF t m g).sat p = (m (va g)).sat (fun d => flat d = true ∧ os (t d g) p.nx) (fun c q => flatO q = true ∧ p.ex c q g) := by
  unfold sAsgF
  rw [osat_to]
  simp only [osat_ite_bad]
  congr
  funext d
  cases t d g <;> rfl
@[simp ↓] theorem osat_own (i : Nat) (m : Vw → R (List D)) : (sOwn i m g).sat p = (m (vd g)).sat (fun ds => p.nx (g.set i (.own ds))) (fun c q => flatO q = true ∧ p.ex c q g) := by
  unfold sOwn
  rw [osat_to]
  rfl
def ownC : Option Cell → Option (List D)
  | some (.own ds) => some ds
  | _ => none
@[simp] theorem ownC_o (ds : List D) : ownC (some (.own ds)) = some ds := Eq.trans rfl rfl
@[simp ↓] theorem osat_app (i : Nat) (m : M) : (sApp i m g).sat p = os (ownC g[i]?) fun ds => (m (vd g)).sat (fun d => ds.length < most ∧ p.nx (g.set i (.own (ds ++ [d])))) (fun c q => flatO q = true ∧ p.ex c q g) := by
  unfold sApp
  cases e : g[i]? with
  | none => rfl
  | some c => cases c with
    | own ds =>
      dsimp only
      rw [osat_to]
      simp only [osat_ite_bad, osat_nx, ownC_o, os_some]
    | _ => rfl
@[simp ↓] theorem osat_appF (i : Nat) (m : M) : (sAppF i m g).sat p = os (ownC g[i]?) fun ds => (m (va g)).sat (fun d => (flat d = true ∧ ds.length < most) ∧ p.nx (g.set i (.own (ds ++ [d])))) (fun c q => flatO q = true ∧ p.ex c q g) := by
  unfold sAppF
  cases e : g[i]? with
  | none => rfl
  | some c => cases c with
    | own ds =>
      dsimp only
      rw [osat_to]
      simp only [osat_ite_bad, osat_nx, ownC_o, os_some]
    | _ => rfl
end
section
variable (Q : T → Ct → Prop) (QL : List T → Ct → Prop) (QB : Bool → Ct → Prop) (QD : List D → Ct → Prop) (QR : List Ar → Ct → Prop) (E : Str → Option D → Ct → Prop) (g : Ct)
@[simp ↓] theorem gsat_bin (f : D → D → Option D) (a b : XM) : (xBin f a b g).sat Q E = (a g).sat (fun x g1 => (b g1).sat (fun y g2 => (R.of (f (fz x) (fz y))).sat (fun d => Q (.dat d) g2) (fun c p => E c p g2)) E) E := by
  unfold xBin
  simp only [gsat_bind, gsat_xOf]
@[simp ↓] theorem gsat_un (f : D → Option D) (a : XM) : (xUn f a g).sat Q E = (a g).sat (fun x g1 => (R.of (f (fz x))).sat (fun d => Q (.dat d) g1) (fun c p => E c p g1)) E := by
  unfold xUn
  simp only [gsat_bind, gsat_xOf]
@[simp ↓] theorem gsat_tru (m : XM) : (xTru m g).sat QB E = (m g).sat (fun x g1 => os (truthD (fz x)) fun b => QB b g1) E := by
  unfold xTru
  simp only [gsat_bind]
  congr
  funext x g1
  cases truthD (fz x) <;> rfl
@[simp ↓] theorem gsat_not (t : XT) : (xNot t g).sat QB E = (t g).sat (fun b g1 => QB (!b) g1) E := by
  unfold xNot
  simp only [gsat_bind, gsat_ok]
@[simp ↓] theorem gsat_andT (t u : XT) : (xAndT t u g).sat QB E = (t g).sat (fun b g1 => (b = true → (u g1).sat QB E) ∧ (b = false → QB false g1)) E := by
  unfold xAndT
  simp only [gsat_bind]
  congr
  funext b g1
  cases b <;> simp
@[simp ↓] theorem gsat_orT (t u : XT) : (xOrT t u g).sat QB E = (t g).sat (fun b g1 => (b = true → QB true g1) ∧ (b = false → (u g1).sat QB E)) E := by
  unfold xOrT
  simp only [gsat_bind]
  congr
  funext b g1
  cases b <;> simp
@[simp ↓] theorem gsat_if (t : XT) (a b : XM) : (xIf t a b g).sat Q E = (t g).sat (fun k g1 => (k = true → (a g1).sat Q E) ∧ (k = false → (b g1).sat Q E)) E := by
  unfold xIf
  simp only [gsat_bind]
  congr
  funext b g1
  cases b <;> simp
@[simp ↓] theorem gsat_nil : (xNil g).sat QL E = QL [] g := Eq.trans rfl rfl
@[simp ↓] theorem gsat_cons (a : XM) (r : XA) : (xCons a r g).sat QL E = (a g).sat (fun t g1 => (r g1).sat (fun ts g2 => QL (t :: ts) g2) E) E := by
  unfold xCons
  simp only [gsat_bind, gsat_ok]
@[simp ↓] theorem gsat_ds (f : List D → Option D) (a : XA) : (xDs f a g).sat Q E = (a g).sat (fun ts g1 => (R.of (f (fzL ts))).sat (fun d => Q (.dat d) g1) (fun c p => E c p g1)) E := by
  unfold xDs
  simp only [gsat_bind, gsat_xOf]
@[simp ↓] theorem gsat_call (n : Nat) (f : List D → R D) (dds : List D) (a : XA) : (xCall n f dds a g).sat Q E = (a g).sat (fun ts g1 => (fzL ts ++ dds).length = n ∧ (f (fzL ts ++ dds)).sat (fun d => Q (.dat d) g1) (fun c p => E c p g1)) E := by
  unfold xCall
  simp only [gsat_bind, gsat_ite_bad, gsat_of, gsat_ok]
@[simp ↓] theorem gsat_mt (T : String) (f : D → List D → Option D) (o : XM) (a : XA) : (xMt T f o a g).sat Q E = (o g).sat (fun t g1 => (tyD (fz t) = T ∧ (T = "str" ∨ T = "list")) ∧ (a g1).sat (fun ts g2 => (R.of (f (fz t) (fzL ts))).sat (fun d => Q (.dat d) g2) (fun c p => E c p g2)) E) E := by
  unfold xMt
  simp only [gsat_bind, gsat_ite_bad, gsat_xOf]
@[simp ↓] theorem gsat_andV (a b : XM) : (xAndV a b g).sat Q E = (a g).sat (fun t g1 => os (boolD (fz t)) fun k => (k = true → (b g1).sat Q E) ∧ (k = false → Q (.dat (.bool false)) g1)) E := by
  unfold xAndV
  simp only [gsat_bind]
  congr
  funext t g1
  cases fz t with
  | bool k => cases k <;> simp
  | _ => rfl
@[simp ↓] theorem gsat_orV (a b : XM) : (xOrV a b g).sat Q E = (a g).sat (fun t g1 => os (boolD (fz t)) fun k => (k = true → Q (.dat (.bool true)) g1) ∧ (k = false → (b g1).sat Q E)) E := by
  unfold xOrV
  simp only [gsat_bind]
  congr
  funext t g1
  cases fz t with
  | bool k => cases k <;> simp
  | _ => rfl
@[simp ↓] theorem gsat_notV (a : XM) : (xNotV a g).sat Q E = (a g).sat (fun t g1 => os (boolD (fz t)) fun k => Q (.dat (.bool !k)) g1) E := by
  unfold xNotV
  simp only [gsat_bind]
  congr
  funext t g1
  cases fz t <;> rfl
@[simp ↓] theorem gsat_ls (m : XA) : (xLs m g).sat Q E = (m g).sat (fun ts g1 => ts.length ≤ most ∧ Q (.lst ts) g1) E := by
  unfold xLs
  simp only [gsat_bind, gsat_ite_bad, gsat_ok]
@[simp ↓] theorem gsat_listOf (m : XM) : (xListOf m g).sat Q E = (m g).sat (fun t g1 => os (itemsD (fz t)) fun ds => Q (.lst (ds.map T.dat)) g1) E := by
  unfold xListOf
  simp only [gsat_bind]
  congr
  funext t g1
  cases fz t <;> rfl
def tC : Option Cl → Option T
  | some (.t x) => some x
  | _ => none
@[simp] theorem tC_t (x : T) : tC (some (.t x)) = some x := Eq.trans rfl rfl
@[simp ↓] theorem gsat_mv (i : Nat) : (xMv i g).sat Q E = os (tC g[i]?) fun x => Q x ((kil i g).set i .un) := by
  unfold xMv
  cases g[i]? with
  | none => rfl
  | some c => cases c <;> rfl
@[simp ↓] theorem gsat_N (m : Vw → R (List D)) : (xN m g).sat Q E = (m (tvd g)).sat (fun ds => Q (.lst (ds.map T.dat)) g) (fun c p => E c p g) := by
  unfold xN
  simp only [gsat_bind, gsat_of, gsat_ok]
@[simp ↓] theorem gsat_iP (m : Vw → R (List D)) : (xiP m g).sat QD E = (m (tvd g)).sat (fun ds => QD ds g) (fun c p => E c p g) := by
  unfold xiP
  simp only [gsat_of]
@[simp ↓] theorem gsat_iItems (m : XM) : (xiItems m g).sat QD E = (m g).sat (fun t g1 => os (itemsD (fz t)) fun ds => QD ds g1) E := by
  unfold xiItems
  simp only [gsat_bind]
  congr
  funext t g1
  cases fz t <;> rfl
@[simp ↓] theorem gsat_rNil : (rNil g).sat QR E = QR [] g := Eq.trans rfl rfl
@[simp ↓] theorem gsat_rVal (a : XM) (r : XR) : (rVal a r g).sat QR E = (a g).sat (fun t g1 => (r g1).sat (fun as g2 => QR (.v t :: as) g2) E) E := by
  unfold rVal
  simp only [gsat_bind, gsat_ok]
@[simp ↓] theorem gsat_rBor (i : Nat) (r : XR) : (rBor i r g).sat QR E = os (nt g i) fun _ => (r g).sat (fun as g2 => QR (.b i :: as) g2) E := by
  unfold rBor
  cases nt g i with
  | none => rfl
  | some x =>
    dsimp only
    simp only [gsat_bind, gsat_ok, os_some]
@[simp ↓] theorem gsat_yes : (xYes g).sat QB E = QB true g := Eq.trans rfl rfl
def datT : Option T → Option D
  | some (.dat d) => some d
  | _ => none
@[simp] theorem datT_d (d : D) : datT (some (.dat d)) = some d := Eq.trans rfl rfl
@[simp ↓] theorem gsat_item (j : Nat) (mi : XM) : (xItem j mi g).sat Q E = os (locT g j []) fun _ => (mi g).sat (fun i g1 => os (intD (fz i)) fun i => os (locT g1 j []) fun ts => os (datT (L2.atI ts i)) fun d => Q (.dat d) g1) E := by
  unfold xItem
  cases locT g j [] with
  | none => rfl
  | some ts =>
    dsimp only
    simp only [gsat_bind, os_some]
    congr
    funext i g1
    cases fz i with
    | int i =>
      dsimp only
      simp only [intD_i, os_some]
      cases locT g1 j [] with
      | none => rfl
      | some ts =>
        dsimp only
        simp only [os_some]
        cases L2.atI ts i with
        | none => rfl
        | some t => cases t <;> rfl
    | _ => rfl
@[simp ↓] theorem gsat_pop (j : Nat) : (xPop j g).sat Q E = os (locT (kil j g) j []) fun ts => os (datT ts[ts.length - 1]?) fun d => Q (.dat d) (putL (kil j g) j [] (ts.eraseIdx (ts.length - 1))) := by
  unfold xPop
  cases locT (kil j g) j [] with
  | none => rfl
  | some ts =>
    dsimp only
    simp only [os_some]
    cases ts[ts.length - 1]? with
    | none => rfl
    | some t => cases t <;> rfl
end
section
variable (p : PoT) (g : Ct)
@[simp ↓] theorem tsat_putC (i : Nat) (t : T) : (putC i t g).sat p = (free1 g i = true ∧ p.nx ((kil i g).set i (.t t))) := by
  unfold putC
  rw [tsat_ite_bad]
  rfl
@[simp ↓] theorem tsat_nop : (tNop g).sat p = p.nx g := Eq.trans rfl rfl
@[simp ↓] theorem tsat_retN : (tRetN g).sat p = p.rt (.dat .none) g := Eq.trans rfl rfl
@[simp ↓] theorem tsat_break : (tBreak g).sat p = p.bk g := Eq.trans rfl rfl
@[simp ↓] theorem tsat_cont : (tCont g).sat p = p.ct g := Eq.trans rfl rfl
@[simp ↓] theorem tsat_raise (c : Str) : (tRaise c g).sat p = p.ex c none g := Eq.trans rfl rfl
@[simp ↓] theorem tsat_expr (m : XM) : (tExpr m g).sat p = (m g).sat (fun _ g1 => p.nx g1) p.ex := by
  unfold tExpr
  simp only [tsat_to, tsat_nx]
@[simp ↓] theorem tsat_set (i : Nat) (m : XM) : (tSet i m g).sat p = (m g).sat (fun t g1 => (putC i t g1).sat p) p.ex := by
  unfold tSet
  simp only [tsat_to]
@[simp ↓] theorem tsat_setD (i : Nat) (m : XM) : (tSetD i m g).sat p = (m g).sat (fun t g1 => (putC i (.dat (fz t)) g1).sat p) p.ex := by
  unfold tSetD
  simp only [tsat_to]
@[simp ↓] theorem tsat_app (j : Nat) (m : XM) : (tApp j m g).sat p = os (locT g j []) fun _ => (m g).sat (fun t g1 => os (locT g1 j []) fun ts => ts.length < most ∧ p.nx (putL g1 j [] (ts ++ [.dat (fz t)]))) p.ex := by
  unfold tApp
  cases locT g j [] with
  | none => rfl
  | some ts =>
    dsimp only
    simp only [tsat_to, os_some]
    congr
    funext t g1
    cases locT g1 j [] with
    | none => rfl
    | some ts =>
      dsimp only
      simp only [os_some, tsat_ite_bad, tsat_nx]
def lstT : T → Option (List T)
  | .lst us => some us
  | _ => none
@[simp] theorem lstT_l (us : List T) : lstT (.lst us) = some us := Eq.trans rfl rfl
@[simp ↓] theorem tsat_ext (j : Nat) (m : XM) : (tExt j m g).sat p = os (locT g j []) fun _ => (m g).sat (fun t g1 => os (lstT t) fun us => os (locT g1 j []) fun ts => ts.length + us.length ≤ most ∧ p.nx (putL g1 j [] (ts ++ (fzL us).map T.dat))) p.ex := by
  unfold tExt
  cases locT g j [] with
  | none => rfl
  | some ts =>
    dsimp only
    simp only [tsat_to, os_some]
    congr
    funext t g1
    cases t with
    | lst us =>
      dsimp only
      simp only [lstT_l, os_some]
      cases locT g1 j [] with
      | none => rfl
      | some ts =>
        dsimp only
        simp only [os_some, tsat_ite_bad, tsat_nx]
    | _ => rfl
@[simp ↓] theorem tsat_put (j : Nat) (mi m : XM) : (tPut j mi m g).sat p = (m g).sat (fun t g1 => os (locT g1 j []) fun _ => (mi g1).sat (fun i g2 => os (intD (fz i)) fun i => os (locT g2 j []) fun ts => os (L2.ixN ts.length i) fun k => p.nx (putL (kilk j k g2) j [] (ts.set k (.dat (fz t))))) p.ex) p.ex := by
  unfold tPut
  simp only [tsat_to]
  congr
  funext t g1
  cases locT g1 j [] with
  | none => rfl
  | some ts0 =>
    dsimp only
    simp only [tsat_to, os_some]
    congr
    funext i g2
    cases fz i with
    | int i =>
      dsimp only
      simp only [intD_i, os_some]
      cases locT g2 j [] with
      | none => rfl
      | some ts =>
        dsimp only
        simp only [os_some]
        cases L2.ixN ts.length i <;> rfl
    | _ => rfl
def two : List T → Option (T × T)
  | [i, t] => some (i, t)
  | _ => none
@[simp] theorem two_2 (i t : T) : two [i, t] = some (i, t) := Eq.trans rfl rfl
@[simp ↓] theorem tsat_ins (j : Nat) (m : XA) : (tIns j m g).sat p = os (locT g j []) fun _ => (m g).sat (fun us g1 => os (two us) fun w => os (intD (fz w.1)) fun i => os (locT (kil j g1) j []) fun ts => (ts.length < most ∧ 0 ≤ i ∧ i < 2 ^ 63) ∧ p.nx (putL (kil j g1) j [] (ts.take i.toNat ++ [.dat (fz w.2)] ++ ts.drop i.toNat))) p.ex := by
  unfold tIns
  cases locT g j [] with
  | none => rfl
  | some ts =>
    dsimp only
    simp only [tsat_to, os_some]
    congr
    funext us g1
    rcases us with _ | ⟨i, _ | ⟨t, _ | ⟨z, r⟩⟩⟩
    · rfl
    · rfl
    · dsimp only
      simp only [two_2, os_some]
      cases fz i with
      | int i =>
        dsimp only
        simp only [intD_i, os_some]
        cases locT (kil j g1) j [] with
        | none => rfl
        | some ts =>
          dsimp only
          simp only [os_some, tsat_ite_bad, tsat_nx]
      | _ => rfl
    · rfl
@[simp ↓] theorem tsat_clr (j : Nat) : (tClr j g).sat p = os (locT (kil j g) j []) fun _ => p.nx (putL (kil j g) j [] []) := by
  unfold tClr
  cases locT (kil j g) j [] <;> rfl
@[simp ↓] theorem tsat_rev (j : Nat) : (tRev j g).sat p = os (locT (kil j g) j []) fun ts => p.nx (putL (kil j g) j [] ts.reverse) := by
  unfold tRev
  cases locT (kil j g) j [] <;> rfl
@[simp ↓] theorem tsat_par (i j : Nat) (m : XA) : (tPar i j m g).sat p = (m g).sat (fun ts g1 => os (two ts) fun w => os (uN i (fz w.1) g1) fun g2 => os (uN j (fz w.2) g2) p.nx) p.ex := by
  unfold tPar
  simp only [tsat_to]
  congr
  funext ts g1
  rcases ts with _ | ⟨i', _ | ⟨t, _ | ⟨z, r⟩⟩⟩
  · rfl
  · rfl
  · dsimp only
    simp only [two_2, os_some]
    cases uN i (fz i') g1 with
    | none => rfl
    | some g2 =>
      dsimp only
      simp only [os_some]
      cases uN j (fz t) g2 <;> rfl
  · rfl
@[simp ↓] theorem tsat_al (y j k : Nat) : (tAl y j k g).sat p = os ((nt g j).bind lstT) fun ts => os ((ts[k]?).bind lstT) fun _ => (free1 g y = true ∧ y ≠ j ∧ y < g.length) ∧ p.nx ((kil y g).set y (.al j k)) := by
  unfold tAl
  cases nt g j with
  | none => rfl
  | some x =>
    cases x with
    | lst ts =>
      simp only [Option.bind_some, lstT_l, os_some]
      cases ts[k]? with
      | none => rfl
      | some z =>
        cases z with
        | lst us => simp only [Option.bind_some, lstT_l, os_some, tsat_ite_bad, tsat_nx]
        | _ => rfl
    | _ => rfl
@[simp ↓] theorem tsat_frz (i : Nat) (m : ST) (x : T) (h : g[i]? = some (.t x)) : (tFrz i m g).sat p = (m ((kil i g).set i (.t (.dat (fz x))))).sat p := by
  unfold tFrz
  rw [h]
theorem tsat_try (sub : Str → Option Bool) (b u : ST) : (tTry sub b u g).sat p = (b g).sat ⟨p.nx, p.bk, p.ct, p.rt, fun c q g' => os (sub c) fun k => (k = true → (u g').sat ⟨p.nx, p.bk, p.ct, p.rt, fun _ _ _ => False⟩) ∧ (k = false → p.ex c q g')⟩ := by
  unfold tTry
  cases b g with
  | ex c q g' =>
    dsimp only
    rw [tsat_ex]
    dsimp only
    cases sub c with
    | none => rfl
    | some k =>
      cases k with
      | true =>
        simp only [os_some]
        cases u g' <;> simp
      | false => simp
  | _ => rfl
end
def locA (g : Ct) (j : Nat) : Option (List T) := locT g j []
def putA (g : Ct) (j : Nat) (ts : List T) : Ct := putL g j [] ts
@[simp] theorem asL_l (ts : List T) : asL (.lst ts) = some ts := Eq.trans rfl rfl
@[simp] theorem locT_ev (c : Cl) (g : Ct) (j : Nat) : locT (c :: g) j [] = match (c :: g)[j]? with
    | some (.t x) => asL x
    | some (.b x) => asL x
    | _ => locA (c :: g) j := by
  generalize c :: g = g
  unfold locA locT locS
  cases h : g[j]? with
  | none => rfl
  | some c =>
    have hn : nt g j = c.nm := by unfold nt; rw [h]; rfl
    cases c with
    | t x => dsimp only; rw [hn]; rfl
    | b x => dsimp only; rw [hn]; rfl
    | _ => rfl
@[simp] theorem putL_ev (c : Cl) (g : Ct) (j : Nat) (ts : List T) : putL (c :: g) j [] ts = match (c :: g)[j]? with
    | some (.t _) => (c :: g).set j (.t (.lst ts))
    | some (.b _) => (c :: g).set j (.b (.lst ts))
    | _ => putA (c :: g) j ts := by
  generalize c :: g = g
  unfold putA putL locS
  cases h : g[j]? with
  | none => rfl
  | some c =>
    have hn : nt g j = c.nm := by unfold nt; rw [h]; rfl
    have hs : ∀ y, setT g j y = g.set j (repl y c) := fun y => by unfold setT; rw [h]
    cases c with
    | t x => dsimp only; rw [hn]; exact hs _
    | b x => dsimp only; rw [hn]; exact hs _
    | _ => rfl
end MI
set_option Elab.async false
set_option linter.all false
set_option maxRecDepth 100000
set_option maxHeartbeats 4000000
namespace MI
open PySem
section
variable {α : Type} (Q : D → Prop) (E : Str → Option D → Prop)
@[simp] theorem sat_mul (i j : Int) : (R.of (fMul (.int i) (.int j))).sat Q E = (okMul i j = true ∧ Q (.int (i * j))) := by
  show (R.of (if okMul i j = true then some (PyData.int (i * j)) else none)).sat Q E = _
  split <;> simp [*]
@[simp] theorem sat_fdv (i j : Int) : (R.of (fFdv (.int i) (.int j))).sat Q E = (okDiv j = true ∧ Q (.int (i.fdiv j))) := by
  show (R.of (if okDiv j = true then some (PyData.int (i.fdiv j)) else none)).sat Q E = _
  split <;> simp [*]
@[simp] theorem sat_mod (i j : Int) : (R.of (fMod (.int i) (.int j))).sat Q E = (j ≠ 0 ∧ Q (.int (i.fmod j))) := by
  show (R.of (if j ≠ 0 then some (PyData.int (i.fmod j)) else none)).sat Q E = _
  split <;> simp [*]
theorem sat_lst (ds : List D) : (R.of (dLst ds)).sat Q E = (ds.length ≤ most ∧ Q (.list ds)) := by
  show (R.of (if ds.length ≤ most then some (PyData.list ds) else none)).sat Q E = _
  by_cases h : ds.length ≤ most
  · rw [if_pos h, R.of_some, sat_ok, eq_true h, true_and]
  · rw [if_neg h, R.of_none, sat_bad, eq_false h, false_and]
@[simp] theorem sat_lst_nil : (R.of (dLst [])).sat Q E = Q (.list []) := by rw [sat_lst]; simp
@[simp] theorem sat_lst_cons (d : D) (ds : List D) : (R.of (dLst (d :: ds))).sat Q E = ((d :: ds).length ≤ most ∧ Q (.list (d :: ds))) := by rw [sat_lst]
theorem sat_tup (ds : List D) : (R.of (dTup ds)).sat Q E = (ds.length ≤ most ∧ Q (.tuple ds)) := by
  show (R.of (if ds.length ≤ most then some (PyData.tuple ds) else none)).sat Q E = _
  by_cases h : ds.length ≤ most
  · rw [if_pos h, R.of_some, sat_ok, eq_true h, true_and]
  · rw [if_neg h, R.of_none, sat_bad, eq_false h, false_and]
@[simp] theorem sat_tup_nil : (R.of (dTup [])).sat Q E = Q (.tuple []) := by rw [sat_tup]; simp
@[simp] theorem sat_tup_cons (d : D) (ds : List D) : (R.of (dTup (d :: ds))).sat Q E = ((d :: ds).length ≤ most ∧ Q (.tuple (d :: ds))) := by rw [sat_tup]
@[simp] theorem sat_cat (a b : List D) : (R.of (fAddL (.list a) (.list b))).sat Q E = (a.length + b.length ≤ most ∧ Q (.list (a ++ b))) := by
  show (R.of (if a.length + b.length ≤ most then some (PyData.list (a ++ b)) else none)).sat Q E = _
  by_cases h : a.length + b.length ≤ most
  · rw [if_pos h, R.of_some, sat_ok, eq_true h, true_and]
  · rw [if_neg h, R.of_none, sat_bad, eq_false h, false_and]
@[simp] theorem sat_rng1 (j : Int) (Q : List D → Prop) : (R.of (rng1 [.int j])).sat Q E = (lim62 j = true ∧ Q (rngL 0 1 j.toNat)) := by
  show (R.of (if lim62 j = true then some (rngL 0 1 j.toNat) else none)).sat Q E = _
  split <;> simp [*]
@[simp] theorem sat_rng2 (i j : Int) (Q : List D → Prop) : (R.of (rng2 [.int i, .int j])).sat Q E = ((lim62 i && lim62 j) = true ∧ Q (rngL i 1 (j - i).toNat)) := by
  show (R.of (if (lim62 i && lim62 j) = true then some (rngL i 1 (j - i).toNat) else none)).sat Q E = _
  split <;> simp [*]
end
@[simp] theorem fListOf_l (ds : List D) : fListOf [.list ds] = some (.list ds) := Eq.trans rfl rfl
@[simp] theorem fListOf_t (ds : List D) : fListOf [.tuple ds] = some (.list ds) := Eq.trans rfl rfl
@[simp] theorem fTupOf_l (ds : List D) : fTupOf [.list ds] = some (.tuple ds) := Eq.trans rfl rfl
@[simp] theorem fTupOf_t (ds : List D) : fTupOf [.tuple ds] = some (.tuple ds) := Eq.trans rfl rfl
@[simp] theorem fIs_n (d : D) : fIs d .none = some (.bool (match d with
  | .none => true
  | _ => false)) := by cases d <;> rfl
@[simp] theorem fIsN_n (d : D) : fIsN d .none = some (.bool (match d with
  | .none => false
  | _ => true)) := by cases d <;> rfl
/-- divisors that are written out -/
@[simp] theorem fMod_lit (i : Int) (n : Nat) (h : 0 < n) : fMod (.int i) (.int (no_index (OfNat.ofNat n))) = some (.int (i % OfNat.ofNat n)) := fMod_pos (by
  show (0 : Int) < (n : Int)
  omega)
@[simp] theorem fFdv_lit (i : Int) (n : Nat) (h : 0 < n) (h2 : n < 18446744073709551616) : fFdv (.int i) (.int (no_index (OfNat.ofNat n))) = some (.int (i / OfNat.ofNat n)) := by
  refine fFdv_pos ?_ ?_
  · show (0 : Int) < (n : Int)
    omega
  · refine Nat.lt_trans (log2_lt (a := 64) ?_ (by decide)) (by decide)
    show ((n : Int)).natAbs < _
    rw [Int.natAbs_natCast]
    exact h2
/-- a place in a list that is written out -/
theorem atI_ofNat {α : Type} (ds : List α) (n : Nat) : L2.atI ds ((n : Nat) : Int) = ds[n]? := by
  cases h : ds[n]? with
  | some d => exact L2.atI_nat h
  | none =>
    have l := List.getElem?_eq_none_iff.mp h
    unfold L2.atI L2.ixN
    have c1 : ¬ ((n : Int) < 0) := by omega
    simp [c1]
    omega
@[simp] theorem fIx_tn (ds : List D) (n : Nat) : fIx (.tuple ds) (.int (no_index (OfNat.ofNat n))) = ds[n]? := atI_ofNat ds n
@[simp] theorem fIx_ln (ds : List D) (n : Nat) : fIx (.list ds) (.int (no_index (OfNat.ofNat n))) = ds[n]? := atI_ofNat ds n
theorem fIx_lN (ds : List D) (n : Nat) : fIx (.list ds) (.int ((n : Nat) : Int)) = ds[n]? := atI_ofNat ds n
/-- one of a list's things -/
theorem pick {ds : List D} {r : Int} (h0 : 0 ≤ r) (h1 : r < ds.length) : ∃ d ∈ ds, fIx (.list ds) (.int r) = some d := by
  obtain ⟨j, rfl⟩ := Int.eq_ofNat_of_zero_le h0
  have l : j < ds.length := by omega
  exact ⟨ds[j], List.getElem_mem l, by rw [fIx_lN, List.getElem?_eq_getElem l]⟩
theorem sat_pick {ds : List D} {r : Int} {Q : D → Prop} {E : Str → Option D → Prop} (h0 : 0 ≤ r) (h1 : r < ds.length) (h : ∀ d ∈ ds, Q d) : (R.of (fIx (.list ds) (.int r))).sat Q E := by
  obtain ⟨d, hd, e⟩ := pick h0 h1
  exact sat_of e (h d hd)
@[simp] theorem rngL_get? (lo c : Int) (n k : Nat) : (rngL lo c n)[k]? = if k < n then some (.int (lo + (k : Int) * c)) else none := by
  split
  · exact rngL_get (by assumption)
  · exact List.getElem?_eq_none_iff.mpr (by rw [rngL_len]; omega)
@[simp] theorem rngL_length (lo c : Int) (n : Nat) : (rngL lo c n).length = n := rngL_len
theorem okM {i j : Int} (a : Nat := 100) (b : Nat := 100) (ha : i.natAbs < 2 ^ a := by omega) (hb : j.natAbs < 2 ^ b := by omega) (h0 : 0 < a := by decide) (h1 : 0 < b := by decide) (h : a + b ≤ 100000000 := by decide) : okMul i j = true := okMul_bd a b ha hb h0 h1 h
theorem lim {j : Int} (h : -4611686018427387904 ≤ j ∧ j < 4611686018427387904 := by omega) : lim62 j = true := by
  unfold lim62
  rw [Bool.and_eq_true, decide_eq_true_eq, decide_eq_true_eq]
  have : (2 : Int) ^ 62 = 4611686018427387904 := by decide
  omega
end MI
namespace Dr
open PySem MI Num
def IsSrc (s : T) : Prop := ∃ l m, s = src l m ∧ Src l m
theorem draw_sat {fu : Nat} {s : T} (h : IsSrc s) {n : Int} (hn : 0 < n) (hb : n.natAbs < 2 ^ 200) {Q : T → Ct → Prop} {E : Str → Option D → Ct → Prop} (q : ∀ r s', IsSrc s' → 0 ≤ r → r < n → Q (.dat (.int r)) [.t s', .un]) : (Pg.f_sr_draw fu [(true, s), (false, .dat (.int n))]).sat Q E := by
  obtain ⟨l, m, rfl, h⟩ := h
  obtain ⟨r, l', m', e, h', r0, r1⟩ := draw fu h hn (Nat.lt_trans (MI.log2_lt hb (by decide)) (by decide))
  exact fsat_of_eq e (q r _ ⟨l', m', rfl, h'⟩ r0 r1)
theorem source_sat {fu : Nat} {ns : List Int} (hz : ∀ k, (ns.getD k 0).natAbs.log2 ≤ 1048576) {k : Nat} (hk : k ≤ 100) {Q : T → Ct → Prop} {E : Str → Option D → Ct → Prop} (q : ∀ s, IsSrc s → Q s [.un, .un]) : (Pg.f_sr_source fu [(false, .dat (.list (ns.map .int))), (false, .dat (.int (k : Int)))]).sat Q E := by
  obtain ⟨l, m, e, h⟩ := source fu hz k hk
  exact fsat_of_eq e (q _ ⟨l, m, rfl, h⟩)
theorem bits {ns : List Int} (hb : ∀ z ∈ ns, Builtin.Int.intBits z ≤ 1048576) (k : Nat) : (ns.getD k 0).natAbs.log2 ≤ 1048576 := by
  by_cases h : k < ns.length
  · have e : ns.getD k 0 = ns[k] := by rw [List.getD_eq_getElem?_getD, List.getElem?_eq_getElem h]; rfl
    have := hb _ (List.getElem_mem h)
    rw [e]
    unfold Builtin.Int.intBits at this
    split at this
    · rename_i z
      rw [show ns[k].natAbs = 0 by simpa using z]
      decide
    · omega
  · have e : ns.getD k 0 = 0 := by rw [List.getD_eq_getElem?_getD, List.getElem?_eq_none (by omega)]; rfl
    rw [e]
    decide
end Dr
set_option Elab.async false
set_option linter.all false
set_option maxRecDepth 100000
set_option maxHeartbeats 4000000
namespace MI
open PySem
@[simp] theorem clvd_al (g : Ct) (i k : Nat) : Cl.vd g (.al i k) = match nt g i with
    | some (.lst ts) => (match ts[k]? with
      | some (.dat d) => some d
      | _ => none)
    | _ => none := Eq.trans rfl rfl
@[simp] theorem clva_al (g : Ct) (i k : Nat) : Cl.va g (.al i k) = match nt g i with
    | some (.lst ts) => (ts[k]?).map fz
    | _ => none := Eq.trans rfl rfl
@[simp] theorem tget_lst (ts : List T) (k : Nat) (p : List Nat) : (T.lst ts).get (k :: p) = match ts[k]? with
    | some u => u.get p
    | none => none := by rw [T.get] <;> cases ts[k]? <;> rfl
@[simp] theorem tget_tup (ts : List T) (k : Nat) (p : List Nat) : (T.tup ts).get (k :: p) = match ts[k]? with
    | some u => u.get p
    | none => none := by rw [T.get] <;> cases ts[k]? <;> rfl
@[simp] theorem tget_nil (t : T) : t.get [] = some t := T.get_nil t
@[simp] theorem tput_lst (ts : List T) (k : Nat) (p : List Nat) (n : T) : (T.lst ts).put (k :: p) n = match ts[k]? with
    | some u => .lst (ts.set k (u.put p n))
    | none => .lst ts := by rw [T.put] <;> cases ts[k]? <;> rfl
@[simp] theorem tput_tup (ts : List T) (k : Nat) (p : List Nat) (n : T) : (T.tup ts).put (k :: p) n = match ts[k]? with
    | some u => .tup (ts.set k (u.put p n))
    | none => .tup ts := by rw [T.put] <;> cases ts[k]? <;> rfl
@[simp] theorem tput_nil (t n : T) : t.put [] n = n := T.put_nil t n
@[simp] theorem locA_ev (c : Cl) (g : Ct) (j : Nat) : locA (c :: g) j = match (c :: g)[j]? with
    | some (.t x) => asL x
    | some (.b x) => asL x
    | some (.al i k) => (match nt (c :: g) i with
      | some x => (x.get [k]).bind asL
      | none => none)
    | _ => none := by
  have h := locT_ev c g j
  cases e : (c :: g)[j]? with
  | none => unfold locA locT locS; rw [e]
  | some d =>
    rw [e] at h
    cases d with
    | t x => exact h
    | b x => exact h
    | al i k => unfold locA locT locS; rw [e]; rfl
    | un => unfold locA locT locS; rw [e]
    | pin => unfold locA locT locS; rw [e]
    | tm x => unfold locA locT locS; rw [e]
@[simp] theorem putA_ev (c : Cl) (g : Ct) (j : Nat) (ts : List T) : putA (c :: g) j ts = match (c :: g)[j]? with
    | some (.t x) => (c :: g).set j (.t (.lst ts))
    | some (.b x) => (c :: g).set j (.b (.lst ts))
    | some (.al i k) => (match nt (c :: g) i with
      | some x => setT (c :: g) i (x.put [k] (.lst ts))
      | none => c :: g)
    | _ => c :: g := by
  have h := putL_ev c g j ts
  cases e : (c :: g)[j]? with
  | none => unfold putA putL locS; rw [e]
  | some d =>
    rw [e] at h
    cases d with
    | t x => exact h
    | b x => exact h
    | al i k => unfold putA putL locS; rw [e]; rfl
    | un => unfold putA putL locS; rw [e]
    | pin => unfold putA putL locS; rw [e]
    | tm x => unfold putA putL locS; rw [e]
@[simp] theorem klk_al (j k a b : Nat) : klk j k (.al a b) = if a = j ∧ b = k then .un else .al a b := Eq.trans rfl rfl
@[simp] theorem kilk_nil' (j k : Nat) : kilk j k [] = [] := Eq.trans rfl rfl
@[simp] theorem kilk_cons' (j k : Nat) (c : Cl) (g : Ct) : kilk j k (c :: g) = klk j k c :: kilk j k g := kilk_cons j k c g
theorem ixN_nn {n : Nat} {i : Int} (h0 : 0 ≤ i) (h1 : i < n) : L2.ixN n i = some i.toNat := by
  unfold L2.ixN
  rw [if_pos h0, if_pos h1]
@[simp] theorem ixN_lit (n m : Nat) (h : m < n) : L2.ixN n (no_index (OfNat.ofNat m) : Int) = some m := by
  have := ixN_nn (n := n) (i := (m : Int)) (by omega) (by omega)
  rw [Int.toNat_natCast] at this
  exact this
@[simp] theorem atI_lit {α : Type} (ds : List α) (n : Nat) : L2.atI ds (no_index (OfNat.ofNat n) : Int) = ds[n]? := atI_ofNat ds n
theorem atI_nn {α : Type} {ds : List α} {i : Int} (h0 : 0 ≤ i) (h1 : i < ds.length) : L2.atI ds i = some (ds[i.toNat]'(by omega)) := by
  obtain ⟨j, rfl⟩ := Int.eq_ofNat_of_zero_le h0
  rw [atI_ofNat]
  have : j < ds.length := by omega
  rw [List.getElem?_eq_getElem this]
  simp
@[simp] theorem fRev_l (ds : List D) : fRev (.list ds) = some (.list ds.reverse) := Eq.trans rfl rfl
theorem fPow10_18 : fPow (.int 10) (.int 18) = some (.int 1000000000000000000) := fPow_ii (by decide)
theorem fPow10_16 : fPow (.int 10) (.int 16) = some (.int 10000000000000000) := fPow_ii (by decide)
/-- cells that are free -/
def AF (n : Nat) (g : Ct) : Prop := g.length = n ∧ ∀ c ∈ g, Fr c
@[simp] theorem af_0 (g : Ct) : AF 0 g = (g = []) := by
  unfold AF
  rw [List.length_eq_zero_iff]
  exact propext ⟨fun h => h.1, fun h => ⟨h, by rw [h]; simp⟩⟩
@[simp] theorem af_cons (n : Nat) (c : Cl) (g : Ct) : AF (n + 1) (c :: g) = (Fr c ∧ AF n g) := by
  unfold AF
  simp
  exact ⟨fun h => ⟨h.2.1, h.1, h.2.2⟩, fun h => ⟨h.2.1, h.1, h.2.2⟩⟩
@[simp] theorem af_nil : AF 0 [] = True := by unfold AF; simp
end MI
set_option Elab.async false
set_option linter.all false
set_option maxRecDepth 100000
set_option maxHeartbeats 4000000
namespace MI
open PySem
theorem tsat_mapG (o : OutT) (f : Ct → Ct) (p : PoT) : (o.mapG f).sat p = o.sat ⟨fun g => p.nx (f g), fun g => p.bk (f g), fun g => p.ct (f g), fun t g => p.rt t (f g), fun c q g => p.ex c q (f g)⟩ := by
  cases o <;> rfl
theorem loopTN_sat {j : Nat} {ds0 : List D} {t : TgT} {b : ST} {p : PoT} (I : Nat → Ct → Prop) (hI : ∀ k g, I k g → g[j]? = some (.b (.lst (ds0.map T.dat)))) : ∀ {ds : List D} {g : Ct}, I 0 g → (∀ k d g, ds[k]? = some d → I k g → os (t d g) fun g1 => (b g1).sat ⟨I (k + 1), p.nx, I (k + 1), p.rt, p.ex⟩) → (∀ g, I ds.length g → p.nx g) → (loopTN j ds0 t b ds g).sat p := by
  intro ds g h0 hs h1
  have key : ∀ (k : Nat) (es : List D) (g : Ct), k + es.length = ds.length → (∀ i, es[i]? = ds[k + i]?) → I k g → (loopTN j ds0 t b es g).sat p := by
    intro k es
    induction es generalizing k with
    | nil =>
      intro g e _ i
      rw [loopTN, if_pos (hI _ _ i)]
      refine h1 g ?_
      simp at e
      rw [← e]
      exact i
    | cons d es ih =>
      intro g e q i
      have hd : ds[k]? = some d := by simpa using (q 0).symm
      have s := hs k d g hd i
      rw [loopTN, if_pos (hI _ _ i)]
      cases et : t d g with
      | none => rw [et] at s; exact s
      | some g1 =>
        rw [et] at s
        have s' : (b g1).sat ⟨I (k + 1), p.nx, I (k + 1), p.rt, p.ex⟩ := s
        have nxt : ∀ g2, I (k + 1) g2 → (loopTN j ds0 t b es g2).sat p := fun g2 i2 => ih (k + 1) g2 (by simp at e; omega) (fun i => by
          have := q (i + 1)
          simp at this
          rw [this]
          congr 1
          omega) i2
        dsimp only
        cases eb : b g1 with
        | nx g2 => rw [eb] at s'; exact nxt g2 s'
        | ct g2 => rw [eb] at s'; exact nxt g2 s'
        | bk g2 => rw [eb] at s'; exact s'
        | rt v g2 => rw [eb] at s'; exact s'
        | ex c q g2 => rw [eb] at s'; exact s'
        | bad => rw [eb] at s'; exact s'
  exact key 0 ds g (by simp) (fun i => by simp) h0
def itemsL : D → Option (List D)
  | .list ds => some ds
  | _ => none
@[simp] theorem itemsL_l (ds : List D) : itemsL (.list ds) = some ds := Eq.trans rfl rfl
/-- a list of one's own walked -/
theorem forN_satT {j : Nat} {t : TgT} {b : ST} {p : PoT} {g : Ct} {ds : List D} (hg : g[j]? = some (.t (.lst (ds.map T.dat)))) (I : Nat → Ct → Prop) (hI : ∀ k g', I k g' → g'[j]? = some (.b (.lst (ds.map T.dat)))) (h0 : I 0 (g.set j (.b (.lst (ds.map T.dat))))) (hs : ∀ k d g, ds[k]? = some d → I k g → os (t d g) fun g1 => (b g1).sat ⟨I (k + 1), fun g => p.nx (unp j g), I (k + 1), fun t g => p.rt t (unp j g), fun c q g => p.ex c q (unp j g)⟩) (h1 : ∀ g, I ds.length g → p.nx (unp j g)) : (tForN j t b g).sat p := by
  unfold tForN
  rw [hg]
  dsimp only
  rw [datsT_map]
  dsimp only
  rw [tsat_mapG]
  exact loopTN_sat I hI h0 hs h1
section
variable (Q : T → Ct → Prop) (QL : List D → Prop) (E : Str → Option D → Ct → Prop) (E' : Str → Option D → Prop) (δ : Vw) (g : Ct)
@[simp ↓] theorem msat_cat (a b : M) : (nCat a b δ).sat QL E' = (a δ).sat (fun x => (b δ).sat (fun y => os (itemsL x) fun xs => os (itemsL y) fun ys => xs.length + ys.length ≤ most ∧ QL (xs ++ ys)) E') E' := by
  unfold nCat
  simp only [sat_bind]
  congr
  funext x
  congr
  funext y
  cases x <;> cases y <;> simp [itemsL]
@[simp ↓] theorem msat_nsl (m : M) (lo hi : Vw → R (Option Int)) : (nSl m lo hi δ).sat QL E' = (m δ).sat (fun d => (lo δ).sat (fun l => (hi δ).sat (fun h => os (itemsL d) fun ds => QL (cutD ds l h)) E') E') E' := by
  unfold nSl
  simp only [sat_bind]
  congr
  funext d
  congr
  funext l
  congr
  funext h
  cases d <;> simp [itemsL]
end
@[simp ↓] theorem gsat_fz (m : XM) (g : Ct) (Q : T → Ct → Prop) (E : Str → Option D → Ct → Prop) : (xFz m g).sat Q E = (m g).sat (fun t g1 => Q (.dat (fz t)) g1) E := by
  unfold xFz
  simp only [gsat_bind, gsat_ok]
end MI
set_option Elab.async false
set_option linter.all false
set_option maxRecDepth 100000
set_option maxHeartbeats 4000000
namespace Bx
open PySem MI Num
def box (cs : List Int) (at' cnt : Int) : T := .lst [.lst (cs.map fun i => .dat (.int i)), .dat (.int at'), .dat (.int cnt)]
/-- a box, asked at most m times so far -/
def IsBox (m : Nat) (s : T) : Prop := ∃ cs a c, s = box cs a c ∧ 0 ≤ a ∧ 0 ≤ c ∧ c ≤ m
theorem draw_sat {fu : Nat} {m : Nat} {s : T} (h : IsBox m s) (hm : m ≤ 1000000000) {n : Int} (hn : 0 < n) (hb : n.natAbs < 2 ^ 200) {Q : T → Ct → Prop} {E : Str → Option D → Ct → Prop} (q : ∀ r s', IsBox (m + 1) s' → 0 ≤ r → r < n → Q (.dat (.int r)) [.t s', .un]) : (Pg.f_bx_draw fu [(true, s), (false, .dat (.int n))]).sat Q E := by
  obtain ⟨cs, a, c, rfl, a0, c0, c1⟩ := h
  refine runT_sat rfl _ rfl ?_
  rw [Pg.s_bx_draw]
  have mn : ∀ i : Int, fMod (.int i) (.int n) = some (.int (i % n)) := fun i => fMod_pos hn
  have dn : ∀ i : Int, fFdv (.int i) (.int n) = some (.int (i / n)) := fun i => fFdv_pos hn (Nat.lt_trans (MI.log2_lt hb (by decide)) (by decide))
  have P : (2 : Nat) ^ 100 = 1267650600228229401496703205376 := by decide
  have fzc : ∀ l : List Int, fzL (l.map fun i => T.dat (.int i)) = l.map .int := fun l => by
    induction l with
    | nil => rfl
    | cons x l ih => rw [List.map_cons, fzL_cons, ih]; rfl
  have pc : 0 ≤ 48271 * (c + 1) ∧ 48271 * (c + 1) < 1267650600228229401496703205376 := by omega
  rcases cs with _ | ⟨x, cs⟩
  · simp [box, mn, dn, fPow10_18]
    refine ⟨okM, okM, okM, okM, okM, ?_⟩
    exact q _ _ ⟨[0], _, c + 1, rfl, by omega, by omega, by omega⟩ (Int.emod_nonneg _ (by omega)) (Int.emod_lt_of_pos _ hn)
  · have hne : ¬ ((cs.length : Int) + 1 = 0) := by omega
    have fe : a.fmod ((cs.length : Int) + 1) = a % ((cs.length : Int) + 1) := Int.fmod_eq_emod_of_nonneg _ (by omega)
    have i0 := Int.emod_nonneg a hne
    have i1 := Int.emod_lt_of_pos a (b := (cs.length : Int) + 1) (by omega)
    obtain ⟨v, hv⟩ : ∃ v, L2.atI (T.dat (PyData.int x) :: List.map (fun i => T.dat (PyData.int i)) cs) (a % ((cs.length : Int) + 1)) = some (.dat (.int v)) := by
      have := atI_nn (ds := T.dat (PyData.int x) :: List.map (fun i => T.dat (PyData.int i)) cs) i0 (by simp; omega)
      rw [this]
      have : T.dat (PyData.int x) :: List.map (fun i => T.dat (PyData.int i)) cs = (x :: cs).map fun i => T.dat (.int i) := rfl
      simp only [this, List.getElem_map]
      exact ⟨_, rfl⟩
    have hx := ixN_nn (n := cs.length + 1) i0 (by omega)
    generalize a % ((cs.length : Int) + 1) = i at *
    simp [box, mn, dn, fPow10_18, fzc, hne, fe, hv, hx]
    refine ⟨fun e => ?_, fun e => ⟨okM, okM, okM, okM, okM, ?_⟩⟩
    · refine q _ _ ⟨(x :: cs).set i.toNat (v / n), a, c + 1, ?_, by omega, by omega, by omega⟩ (Int.emod_nonneg _ (by omega)) (Int.emod_lt_of_pos _ hn)
      have : T.dat (PyData.int x) :: List.map (fun i => T.dat (PyData.int i)) cs = (x :: cs).map fun i => T.dat (.int i) := rfl
      rw [box, this, List.map_set]
    · exact q _ _ ⟨x :: cs, i + 1, c + 1, rfl, by omega, by omega, by omega⟩ (Int.emod_nonneg _ (by omega)) (Int.emod_lt_of_pos _ hn)
end Bx
set_option Elab.async false
set_option linter.all false
set_option maxRecDepth 100000
set_option maxHeartbeats 4000000
namespace Bx
open PySem MI Num Tx Ord
theorem low_loop (fu : Nat) (x y : Cell) : ∀ (n : Nat) (a b : Int), 0 ≤ b → 0 ≤ a → b.natAbs < n → loopW (mTru (mBin fNe (mVar 3) (mC (.int 0)))) (Pg.b_bx_low_1 fu) n [x, y, .dat (.int a), .dat (.int b)] = .nx [x, y, .dat (.int (Int.gcd a b)), .dat (.int 0)]
  | 0, a, b, h, _, l => by omega
  | n + 1, a, b, h, ha, l => by
    rw [loopW_ap]
    by_cases e : b = 0
    · subst e
      have : ((Int.gcd a 0 : Nat) : Int) = a := by rw [Int.gcd_zero_right]; omega
      rw [this]
      simp
    · have mm := fMod_ii (i := a) (j := b) e
      have fe : a.fmod b = a % b := Int.fmod_eq_emod_of_nonneg a (by omega)
      have g0 := Int.emod_nonneg a e
      have g1 := Int.emod_lt_of_pos a (b := b) (by omega)
      have ih := low_loop fu x y n b (a % b) g0 h (by omega)
      have gg := gcd_fmod a b
      rw [fe] at mm gg
      rw [gg] at ih
      simp [Pg.b_bx_low_1, e, mm]
      exact ih
theorem low_q (fu : Nat) (hfu : FU ≤ fu) {top bottom : Int} (hb : 0 < bottom) (h : Sm bottom) :
    Pg.f_bx_low fu [.int top, .int bottom] = .ok (nm (Rat.divInt top bottom)) ∧ (Rat.divInt top bottom).num.natAbs ≤ top.natAbs ∧ (Rat.divInt top bottom).den ≤ bottom.natAbs := by
  obtain ⟨e, l⟩ := lowest_q fu hfu (top := top) (show bottom ≠ 0 by omega) h
  refine ⟨?_, l⟩
  rw [← e]
  have hl : bottom.natAbs < fu := Nat.lt_of_lt_of_le h hfu
  have hd := divisor fu top bottom hl
  have c : ¬ bottom < 0 := by omega
  obtain ⟨a, ha, ha0, hg⟩ : ∃ a : Int, fAbs [.int top] = some (.int a) ∧ 0 ≤ a ∧ Int.gcd a bottom = Int.gcd top bottom := by
    by_cases z : top < 0
    · exact ⟨-top, by rw [fAbs_i, if_pos z], by omega, Int.neg_gcd ..⟩
    · exact ⟨top, by rw [fAbs_i, if_neg z], by omega, rfl⟩
  have lp := low_loop fu (.dat (.int top)) (.dat (.int bottom)) fu a bottom (by omega) ha0 hl
  rw [hg] at lp
  obtain ⟨g0, gs⟩ := sm_gcd (a := top) h (show bottom ≠ 0 by omega)
  have ok : okDiv ((Int.gcd top bottom : Nat) : Int) = true := okDiv_bd 4000 (by omega) (by show _ < FU; omega) (by decide) (by decide)
  have f1 := fFdv_ii (i := top) ok
  have f2 := fFdv_ii (i := bottom) ok
  rw [Pg.f_bx_low, Pg.s_bx_low, Pg.f_p_lowest, Pg.s_p_lowest]
  simp [run_eq, hd, c, ha, lp, f1, f2]
theorem IsBox.up {m m' : Nat} {s : T} (h : IsBox m s) (l : m ≤ m') : IsBox m' s := by
  obtain ⟨cs, a, c, e, a0, c0, c1⟩ := h
  exact ⟨cs, a, c, e, a0, c0, by omega⟩
section
end
end Bx
set_option Elab.async false
set_option linter.all false
set_option maxRecDepth 100000
set_option maxHeartbeats 4000000
namespace Mk
open PySem MI Num
section
end
section
end
end Mk
set_option Elab.async false
set_option linter.all false
set_option maxRecDepth 100000
set_option maxHeartbeats 4000000
namespace Dw
open PySem MI Num Bx
theorem divInt_bd {fu : Nat} (hfu : FU ≤ fu) {t b : Int} (hb : 0 < b) (h : Sm b) : (Rat.divInt t b).num.natAbs ≤ t.natAbs ∧ (Rat.divInt t b).den ≤ b.natAbs := (lowest_q fu hfu (top := t) (show b ≠ 0 by omega) h).2
end Dw
set_option Elab.async false
set_option linter.all false
set_option maxRecDepth 100000
set_option maxHeartbeats 4000000
namespace MI
open PySem
theorem cut_from (ds : List D) (n : Nat) : cutD ds (some (n : Int)) none = ds.drop n := by
  unfold cutD
  rw [HT.sIx_nat, HT.sIx_none]
  rcases Nat.le_total n ds.length with h | h
  · rw [Nat.min_eq_left h]
    exact List.take_of_length_le (by rw [List.length_drop]; omega)
  · rw [Nat.min_eq_right h, List.drop_of_length_le (Nat.le_refl _), List.drop_of_length_le h]
    simp
theorem cut_to (ds : List D) (n : Nat) : cutD ds none (some (n : Int)) = ds.take n := by
  have := cut_take ds n
  have e : fSl (.list ds) none (some (n : Int)) = some (.list (cutD ds none (some (n : Int)))) := rfl
  rw [e] at this
  injection this with this
  injection this
theorem cut_mid (ds : List D) (a b : Nat) : cutD ds (some (a : Int)) (some (b : Int)) = (ds.take b).drop a := by
  unfold cutD
  rw [HT.sIx_nat, HT.sIx_nat]
  apply List.ext_getElem?
  intro i
  rw [List.getElem?_take, List.getElem?_drop, List.getElem?_drop, List.getElem?_take]
  rcases Nat.le_total a ds.length with h | h
  · rw [Nat.min_eq_left h]
    rcases Nat.le_total b ds.length with h2 | h2
    · rw [Nat.min_eq_left h2]
      by_cases c : i < b - a
      · rw [if_pos c, if_pos (by omega)]
      · rw [if_neg c, if_neg (by omega)]
    · rw [Nat.min_eq_right h2]
      by_cases c : i < ds.length - a
      · rw [if_pos c, if_pos (by omega)]
      · rw [if_neg c]
        split
        · rw [List.getElem?_eq_none (by omega)]
        · rfl
  · rw [Nat.min_eq_right h]
    have : ds[a + i]? = none := List.getElem?_eq_none (by omega)
    rw [this, if_neg (by omega)]
    split <;> rfl
theorem sl_from (ds : List D) (n : Nat) : fSl (.list ds) (some (n : Int)) none = some (.list (ds.drop n)) := by rw [← cut_from]; rfl
theorem sl_to (ds : List D) (n : Nat) : fSl (.list ds) none (some (n : Int)) = some (.list (ds.take n)) := cut_take ds n
theorem sl_mid (ds : List D) (a b : Nat) : fSl (.list ds) (some (a : Int)) (some (b : Int)) = some (.list ((ds.take b).drop a)) := by rw [← cut_mid]; rfl
@[simp] theorem sl_from_lit (ds : List D) (n : Nat) : fSl (.list ds) (some (no_index (OfNat.ofNat n) : Int)) none = some (.list (ds.drop (OfNat.ofNat n))) := sl_from ds n
@[simp] theorem sl_to_lit (ds : List D) (n : Nat) : fSl (.list ds) none (some (no_index (OfNat.ofNat n) : Int)) = some (.list (ds.take (OfNat.ofNat n))) := sl_to ds n
@[simp] theorem sl_mid_lit (ds : List D) (a b : Nat) : fSl (.list ds) (some (no_index (OfNat.ofNat a) : Int)) (some (no_index (OfNat.ofNat b) : Int)) = some (.list ((ds.take (OfNat.ofNat b)).drop (OfNat.ofNat a))) := sl_mid ds a b
@[simp] theorem cut_to_lit (ds : List D) (n : Nat) : cutD ds none (some (no_index (OfNat.ofNat n) : Int)) = ds.take (OfNat.ofNat n) := cut_to ds n
@[simp] theorem cut_from_lit (ds : List D) (n : Nat) : cutD ds (some (no_index (OfNat.ofNat n) : Int)) none = ds.drop (OfNat.ofNat n) := cut_from ds n
@[simp] theorem cut_mid_lit (ds : List D) (a b : Nat) : cutD ds (some (no_index (OfNat.ofNat a) : Int)) (some (no_index (OfNat.ofNat b) : Int)) = (ds.take (OfNat.ofNat b)).drop (OfNat.ofNat a) := cut_mid ds a b
end MI
set_option Elab.async false
set_option linter.all false
set_option maxRecDepth 100000
set_option maxHeartbeats 4000000
namespace Tb
open PySem MI Num Tx Bx Dw Fg
def ltr (c : Nat) : Bool := decide (97 ≤ c ∧ c ≤ 122)
def wordB (w : List Nat) : Bool := decide (1 ≤ w.length) && (decide (w.length ≤ 8) && w.all ltr)
section
end
end Tb
set_option Elab.async false
set_option linter.all false
set_option maxRecDepth 100000
set_option maxHeartbeats 4000000
namespace Zs
open PySem MI Tx
@[simp] theorem sat_addS (a b : List Nat) (Q : MI.D → Prop) (E : Str → Option MI.D → Prop) : (R.of (fAddL (.str (S a)) (.str (S b)))).sat Q E = (a.length + b.length ≤ most ∧ Q (.str (S (a ++ b)))) := by
  rw [fAddL_ss]
  show (R.of (if (S a).length + (S b).length ≤ most then _ else none)).sat Q E = _
  rw [S_len, S_len]
  by_cases h : a.length + b.length ≤ most
  · have := add_ss h
    rw [if_pos h, R.of_some, sat_ok]
    have e : fAdd (.str (S a)) (.str (S b)) = if (S a).length + (S b).length ≤ most then some (.str (S a ++ S b)) else none := rfl
    rw [e, S_len, S_len, if_pos h] at this
    injection this with this
    rw [this, eq_true h, true_and]
  · rw [if_neg h, R.of_none, sat_bad, eq_false h, false_and]
end Zs
set_option Elab.async false
set_option linter.all false
set_option maxRecDepth 100000
set_option maxHeartbeats 4000000
namespace Fd
open PySem MI Num Dw
/-- a fraction and its lowest terms -/
theorem low_k {a b : Int} (hb : 0 < b) {r : Rat} (h : r = Rat.divInt a b) : ∃ k : Int, 0 < k ∧ a = r.num * k ∧ b = r.den * k := by
  have dp : (0 : Int) < r.den := by have := r.den_pos; omega
  have e : a * (r.den : Int) = r.num * b := by
    have h2 : Rat.divInt r.num r.den = Rat.divInt a b := by rw [← h]; exact Rat.num_divInt_den r
    exact ((Rat.divInt_eq_divInt_iff (by omega) (by omega)).mp h2).symm
  have dv : (r.den : Int) ∣ b := by
    have h1 : (r.den : Int) ∣ r.num * b := ⟨a, by rw [← e, Int.mul_comm]⟩
    have h2 := Int.natAbs_dvd_natAbs.mpr h1
    rw [Int.natAbs_mul, Int.natAbs_natCast] at h2
    have h3 := Nat.Coprime.dvd_of_dvd_mul_left (Nat.Coprime.symm r.reduced) h2
    exact Int.natAbs_dvd_natAbs.mp (by rw [Int.natAbs_natCast]; exact h3)
  obtain ⟨k, rfl⟩ := dv
  have kp : 0 < k := by
    rcases Int.lt_or_le 0 k with c | c
    · exact c
    · have := Int.mul_nonpos_of_nonneg_of_nonpos (Int.le_of_lt dp) c
      omega
  refine ⟨k, kp, ?_, rfl⟩
  have : (r.den : Int) * a = (r.den : Int) * (r.num * k) := by
    rw [Int.mul_comm, e]
    rw [Int.mul_left_comm]
  exact Int.eq_of_mul_eq_mul_left (by omega) this
/-- rounded alike -/
theorem round_k {a b : Int} (hb : 0 < b) {r : Rat} (h : r = Rat.divInt a b) : (2 * a + b) / (2 * b) = (2 * r.num + r.den) / (2 * r.den) := by
  obtain ⟨k, kp, ea, eb⟩ := low_k hb h
  have e1 : 2 * a + b = k * (2 * r.num + r.den) := by rw [ea, eb]; grind
  have e2 : 2 * b = k * (2 * r.den) := by rw [eb]; grind
  rw [e1, e2]
  exact Int.mul_ediv_mul_of_pos _ _ kp
section
variable {fu : Nat}
def sco (ws : List (List Nat)) (L : Int) : MI.D := .tuple [.str "order", .list (Ord.wsd ws), .int L]
end
end Fd
set_option Elab.async false
set_option linter.all false
set_option maxRecDepth 100000
set_option maxHeartbeats 4000000
namespace Fd
open PySem MI Num Dw
def pr (a b : Int) : MI.D := .tuple [.int a, .int b]
theorem pr0 (a b : Int) : fIx (pr a b) (.int 0) = some (.int a) := fIx_t0 _ _
theorem pr1 (a b : Int) : fIx (pr a b) (.int 1) = some (.int b) := fIx_t1 _ _ _
section
end
end Fd
set_option Elab.async false
set_option linter.all false
set_option maxRecDepth 100000
set_option maxHeartbeats 4000000
set_option profiler true
set_option profiler.threshold 3000
namespace Fd
open PySem MI Num Dw
section
end
end Fd
set_option Elab.async false
set_option linter.all false
set_option maxRecDepth 100000
set_option maxHeartbeats 4000000
namespace Fd
open PySem MI Num Dw
section
end
end Fd
set_option Elab.async false
set_option linter.all false
set_option maxRecDepth 100000
set_option maxHeartbeats 4000000
namespace Fd
open PySem MI Num Dw
inductive Fs where
  | str (lo hi : Rat) (L : Int)
  | trn (B low many L : Int)
  | brk (ps : List Pc) (a z : Pc)
  | dys (lo hi L : Int)
  | ord (ws : List (List Nat)) (L : Int)
def Fs.d : Fs → MI.D
  | .str lo hi L => scs lo hi L
  | .trn B low many L => sct B low many L
  | .brk ps _ z => scb ps z
  | .dys lo hi L => scd lo hi L
  | .ord ws L => sco ws L
def Fs.len : Fs → Int
  | .str _ _ L => L
  | .trn _ _ _ L => L
  | .brk _ _ z => z.e
  | .dys _ _ L => L
  | .ord _ L => L
def Fs.Ok : Fs → Prop
  | .str lo hi L => lo < hi ∧ Bd 100 lo ∧ Bd 100 hi ∧ 1 ≤ L ∧ L ≤ 4000
  | .trn B low many L => Tu B low many L ∧ (B = 2 ∨ B = 10)
  | .brk ps a z => Ps ps a z ∧ (ps.Pairwise fun p q => p.hi < q.lo) ∧ a.b = 0 ∧ 2 ≤ ps.length ∧ ps.length ≤ 4 ∧ ∀ p ∈ ps, Bd 90 p.lo ∧ Bd 90 p.hi
  | .dys lo hi L => 364877 ≤ lo ∧ lo < hi ∧ hi ≤ 3286816 ∧ 1 ≤ L ∧ L ≤ 4000
  | .ord ws L => 1 ≤ L ∧ L ≤ 4000 ∧ ws.Nodup ∧ 1 ≤ ws.length ∧ ws.length ≤ 60 ∧ ∀ w ∈ ws, Tb.wordB w = true
inductive Fc where
  | none
  | num (c : Rat)
  | day (i : Int)
  | word (w : List Nat)
def Fc.d : Fc → MI.D
  | .none => .none
  | .num c => nm c
  | .day i => .int i
  | .word w => .str (Tx.S w)
section
end
end Fd
set_option Elab.async false
set_option linter.all false
set_option maxRecDepth 100000
set_option maxHeartbeats 4000000
namespace Fd
open PySem MI Num Dw
section
end
end Fd
set_option Elab.async false
set_option linter.all false
set_option maxRecDepth 100000
set_option maxHeartbeats 4000000
namespace Fd
open PySem MI Num Dw
structure Fl where
  x : Fs
  y : Fs
  x0 : Int
  y0 : Int
def Fl.d (F : Fl) : MI.D := .tuple [F.x.d, F.y.d, .int F.x0, .int F.y0, .int F.x.len, .int F.y.len]
structure Fl.Ok (F : Fl) : Prop where
  x : F.x.Ok
  y : F.y.Ok
def rnd (p : Rat) : Int := (2 * p.num + p.den) / (2 * p.den)
@[simp ↓] theorem msat_rep (m : Vw → R (List MI.D)) (b : M) (δ : Vw) (QL : List MI.D → Prop) (E : Str → Option MI.D → Prop) : (nRep m b δ).sat QL E = (m δ).sat (fun xs => xs.length ≤ most ∧ (b δ).sat (fun y => os (intD y) fun k => (-(2 ^ 63) ≤ k ∧ k < 2 ^ 63 ∧ xs.length * k.toNat ≤ most) ∧ QL (repD k xs)) E) E := by
  unfold nRep
  simp only [sat_bind, sat_ite_bad]
  congr
  funext xs
  congr
  funext y
  cases y with
  | int k => simp only [sat_ite_bad, sat_ok, intD_i, os_some]
  | _ => rfl
section
variable {fu : Nat} (hfu : FU ≤ fu)
theorem rounded_p {a b : Int} (b0 : 0 < b) (ha : a.natAbs < 2 ^ 12000) (hb : b.natAbs < 2 ^ 8900) {p : Rat} (e : Rat.divInt a b = p) : Pg.f_p_rounded fu [pr a b] = .ok (.int (rnd p)) := by
  have m1 := mulB (i := 2) (j := a) (n := 2) (by decide) ha (by decide) (by decide) (by decide)
  have m2 := mulB (i := 2) (j := b) (n := 2) (by decide) hb (by decide) (by decide) (by decide)
  have fd := fFdv_pos (i := 2 * a + b) (j := 2 * b) (by omega) (Nat.lt_trans (MI.log2_lt (mul_bd 2 8900 8902 (by decide) hb (by decide)) (by decide)) (by decide))
  rw [Pg.f_p_rounded, Pg.s_p_rounded]
  simp [run_eq, pr0, pr1, m1, m2, fd]
  rw [rnd, ← round_k b0 e.symm]
theorem rounded_n {p : Rat} (hp : Bd 1100 p) : Pg.f_p_rounded fu [nm p] = .ok (.int (rnd p)) := by
  have dp : (0 : Int) < p.den := by have := p.den_pos; omega
  exact rounded_p dp (Nat.lt_of_lt_of_le hp.1 (Nat.pow_le_pow_right (by decide) (by decide))) (Nat.lt_of_lt_of_le (show ((p.den : Int)).natAbs < 2 ^ 1100 from hp.2) (Nat.pow_le_pow_right (by decide) (by decide))) (Rat.num_divInt_den p)
include hfu
end
end Fd
set_option Elab.async false
set_option linter.all false
set_option maxRecDepth 100000
set_option maxHeartbeats 4000000
namespace Fd
open PySem MI Num Dw
section
variable {fu : Nat}
/-- plain data, so deep -/
inductive Fine : Nat → MI.D → Prop
  | int (n : Nat) (i : Int) : Fine n (.int i)
  | str (n : Nat) (z : Str) : Fine n (.str z)
  | lst {n : Nat} {ds : List MI.D} : ds.length ≤ most → (∀ d ∈ ds, Fine n d) → Fine (n + 1) (.list ds)
  | tup {n : Nat} {ds : List MI.D} : ds.length ≤ most → (∀ d ∈ ds, Fine n d) → Fine (n + 1) (.tuple ds)
theorem Fine.up {n m : Nat} {d : MI.D} (h : Fine n d) (l : n ≤ m) : Fine m d := by
  induction h generalizing m with
  | int n i => exact .int _ _
  | str n z => exact .str _ _
  | lst hl h ih =>
    obtain ⟨k, rfl⟩ : ∃ k, m = k + 1 := ⟨m - 1, by omega⟩
    exact .lst hl fun d hd => ih d hd (by omega)
  | tup hl h ih =>
    obtain ⟨k, rfl⟩ : ∃ k, m = k + 1 := ⟨m - 1, by omega⟩
    exact .tup hl fun d hd => ih d hd (by omega)
@[simp ↓] theorem msat_isi2 (T U : String) (a : M) (δ : Vw) (Q : MI.D → Prop) (E : Str → Option MI.D → Prop) : (mIsi2 T U a δ).sat Q E = (a δ).sat (fun d => os (isT2 T U d) fun b => Q (.bool b)) E := by
  unfold mIsi2
  rw [sat_bind]
  congr
  funext d
  cases isT2 T U d <;> rfl
@[simp ↓] theorem msat_rng (f : List MI.D → Option (List MI.D)) (m : Vw → R (List MI.D)) (δ : Vw) (QL : List MI.D → Prop) (E : Str → Option MI.D → Prop) : (mRng f m δ).sat QL E = (m δ).sat (fun ds => (R.of (f ds)).sat QL E) E := by
  unfold mRng
  rw [sat_bind]
end
end Fd
set_option Elab.async false
set_option linter.all false
set_option maxRecDepth 100000
set_option maxHeartbeats 4000000
namespace Ax
open PySem MI Num Tx Fg Cal PySem.NumText Dr Ord
def w2 (n : Nat) : List Nat := [48 + n / 10, 48 + n % 10]
def w4 (n : Nat) : List Nat := [48 + n / 1000, 48 + n / 100 % 10, 48 + n / 10 % 10, 48 + n % 10]
def lens (ls : List (List Nat)) : List Int := ls.map fun w => (w.length : Int)
def Lw (ls : List (List Nat)) : Prop := ∀ w ∈ ls, w.length ≤ 1000
theorem lens_loop (i : Nat) (δ : Vw) (hi : i < δ.length) : ∀ (ls : List (List Nat)) (acc : List Int), Lw ls → acc.length + ls.length ≤ 10000 → loopC (vN i) mYes (mDs fLen (mCons (mVar i) (mNil))) δ (wsd ls) (acc.map .int) = .ok ((acc ++ lens ls).map .int)
  | [], acc, _, _ => by
    show loopC _ _ _ _ [] _ = _
    rw [loopC]
    simp [lens]
  | w :: ls, acc, h, hl => by
    simp only [List.length_cons] at hl
    have M : most = 16777216 := rfl
    have wl := h w (List.mem_cons_self ..)
    have ln := len_s (a := w) (by omega)
    have ih := lens_loop i δ hi ls (acc ++ [(w.length : Int)]) (fun x hx => h x (List.mem_cons_of_mem _ hx)) (by simp; omega)
    have al : acc.length < 16777216 := by omega
    show loopC _ _ _ _ (.str (Tx.S w) :: wsd ls) _ = _
    rw [loopC]
    simp at ih
    simp [vN, mYes, hi, ln, al]
    rw [ih]
    simp [lens]
theorem ints_map : ∀ ns : List Int, intsD (ns.map PyData.int) = some ns
  | [] => rfl
  | n :: ns => by
    rw [List.map_cons]
    unfold intsD
    rw [ints_map ns]
    rfl
/-- the longest -/
def lg (ls : List (List Nat)) : Int := maxI 0 (lens ls)
theorem lg_b {ls : List (List Nat)} (h : Lw ls) : 0 ≤ lg ls ∧ lg ls ≤ 1000 := by
  unfold lg
  refine ⟨(maxI_ge _ _).1, ?_⟩
  rcases maxI_mem (lens ls) 0 with e | e
  · omega
  · obtain ⟨w, hw, e2⟩ := List.mem_map.mp e
    have := h w hw
    omega
theorem df_max (ls : List (List Nat)) : fMaxDf [.list ((lens ls).map .int)] [.int 0] = some (.int (lg ls)) := by
  unfold fMaxDf
  dsimp only
  rw [ints_map]
  cases ls with
  | nil => rfl
  | cons w ls =>
    show some (PyData.int (maxI (w.length : Int) (lens ls))) = some (.int (maxI 0 ((w.length : Int) :: lens ls)))
    congr 2
    show _ = maxI (if 0 < (w.length : Int) then (w.length : Int) else 0) (lens ls)
    congr 1
    split <;> omega
theorem widest (fu : Nat) {ls : List (List Nat)} (h : Lw ls) (hl : ls.length ≤ 10000) : Pg.f_p_widest_of fu [.list (wsd ls)] = .ok (.int (6 * lg ls)) := by
  obtain ⟨b1, b2⟩ := lg_b h
  have lp := lens_loop 1 [some (.list (wsd ls)), none] (by simp) ls [] h (by simp; omega)
  have nl : nLc (mItems (mVar 0)) [1] (vN 1) (mYes) (mDs fLen (mCons (mVar 1) (mNil))) [some (.list (wsd ls)), none] = .ok ((lens ls).map .int) := by
    unfold nLc
    simp [wipeV]
    simpa using lp
  have df := df_max ls
  have m6 := mulB (n := 5) (m := 11) (i := 6) (j := lg ls) (by decide) (by have : (2 : Nat) ^ 11 = 2048 := by decide
                                                                           omega) (by decide) (by decide) (by decide)
  rw [Pg.f_p_widest_of, Pg.s_p_widest_of]
  simp [run_eq, nl, df, m6]
section
end
def tick (p : Int) (w : List Nat) : MI.D := .tuple [.int p, .str (S w)]
def ticks : List Int → List (List Nat) → List MI.D
  | p :: ps, w :: ws => tick p w :: ticks ps ws
  | _, _ => []
theorem ticks_len : ∀ {ps : List Int} {ws : List (List Nat)}, ps.length = ws.length → (ticks ps ws).length = ps.length
  | [], [], _ => rfl
  | _ :: ps, _ :: ws, h => by
    show (ticks ps ws).length + 1 = ps.length + 1
    rw [ticks_len (by simpa using h)]
theorem ticks_get : ∀ {ps : List Int} {ws : List (List Nat)} {k : Nat} {p : Int} {w : List Nat}, ps[k]? = some p → ws[k]? = some w → (ticks ps ws)[k]? = some (tick p w)
  | _ :: ps, _ :: ws, 0, p, w, h1, h2 => by
    simp at h1 h2
    subst h1
    subst h2
    rfl
  | _ :: ps, _ :: ws, k + 1, p, w, h1, h2 => by
    show (_ :: ticks ps ws)[k + 1]? = _
    rw [List.getElem?_cons_succ]
    exact ticks_get (by simpa using h1) (by simpa using h2)
  | [], _, _, _, _, h1, _ => by simp at h1
  | _ :: _, [], _, _, _, _, h2 => by simp at h2
@[simp ↓] theorem gsat_ts (m : XA) (g : Ct) (Q : T → Ct → Prop) (E : Str → Option MI.D → Ct → Prop) : (xTs m g).sat Q E = (m g).sat (fun ts g1 => ts.length ≤ most ∧ Q (.tup ts) g1) E := by
  unfold xTs
  simp only [gsat_bind, gsat_ite_bad, gsat_ok]
theorem rng_zip (ds es : List MI.D) : fZip [.list ds, .list es] = some (zipD ds es) := rfl
/-- the ticks of a scale -/
theorem with_ticks {fu : Nat} {sc : MI.D} {cs : List MI.D} {ls : List (List Nat)} {ps : List Int} (hl : cs.length ≤ 10000) (h1 : ls.length = cs.length) (h2 : ps.length = cs.length)
    (h : ∀ (k : Nat) (c : MI.D), cs[k]? = some c → ∃ d p, ps[k]? = some p ∧ Pg.f_p_place_on fu [sc, c] = .ok d ∧ Pg.f_p_rounded fu [d] = .ok (.int p)) {Q : T → Ct → Prop} {E : Str → Option MI.D → Ct → Prop}
    (q : Q (.tup [.dat sc, .lst ((ticks ps ls).map T.dat)]) [.un, .un, .un]) :
    (Pg.f_p_with_ticks fu [(false, .dat sc), (false, .dat (.list cs)), (false, .dat (.list (wsd ls)))]).sat Q E := by
  have M : most = 16777216 := rfl
  refine runT_sat rfl _ rfl ?_
  rw [Pg.s_p_with_ticks]
  simp [rng_zip]
  refine loopCT_sat (fun k acc g => acc = ((ticks ps ls).take k).map T.dat ∧ k ≤ cs.length ∧ g = [.t (.dat sc), .t (.dat (.list cs)), .t (.dat (.list (wsd ls))), .un, .un]) ⟨rfl, Nat.zero_le _, rfl⟩ ?_ ?_
  · rintro k d acc g hd ⟨rfl, kl, rfl⟩
    obtain ⟨a, b, ha, hb, rfl⟩ := zipD_get hd
    obtain ⟨d2, p, hp, e1, e2⟩ := h k a ha
    obtain ⟨w, hw, rfl⟩ : ∃ w, ls[k]? = some w ∧ b = .str (S w) := by
      unfold wsd at hb
      rw [List.getElem?_map] at hb
      obtain ⟨w, hw, e⟩ := Option.map_eq_some_iff.mp hb
      exact ⟨w, hw, e.symm⟩
    have tk := ticks_get hp hw
    have kl2 : k < cs.length := (List.getElem?_eq_some_iff.mp ha).1
    simp [uV, e1, e2]
    refine ⟨by omega, ?_, by omega, by simp [wipeG]⟩
    rw [List.take_add_one, List.getElem?_map, tk]
    rfl
  · rintro acc g ⟨rfl, kl, rfl⟩
    have tl : (ticks ps ls).length = cs.length := by rw [ticks_len (by omega)]; exact h2
    have zl : (zipD cs (wsd ls)).length = cs.length := by
      rw [zipD_len]
      simp [wsd]
      omega
    rw [zl, ← tl, List.take_length]
    simp
    exact q
end Ax
set_option Elab.async false
set_option linter.all false
set_option maxRecDepth 100000
set_option maxHeartbeats 4000000
namespace MI
open PySem
theorem seqS {a b : S} {g : Ce} {p : Po} (I : Ce → Prop) (h : (a g).sat ⟨I, p.bk, p.ct, p.rt, p.ex⟩) (h2 : ∀ g', I g' → (b g').sat p) : (sSeq a b g).sat p := by
  rw [osat_seq]
  exact Out.sat.mono h h2 (fun _ h => h) (fun _ h => h) (fun _ h => h) (fun _ _ _ h => h)
theorem seqT {a b : ST} {g : Ct} {p : PoT} (I : Ct → Prop) (h : (a g).sat ⟨I, p.bk, p.ct, p.rt, p.ex⟩) (h2 : ∀ g', I g' → (b g').sat p) : (tSeq a b g).sat p := by
  rw [tsat_seq]
  exact OutT.sat.mono h h2 (fun _ _ h => h) (fun _ h => h) (fun _ h => h) (fun _ _ _ h => h)
theorem ifS {t : Vw → R Bool} {a b : S} {g : Ce} {p : Po} (c : Prop) [Decidable c] (h : (t (va g)).sat (fun k => k = decide c) (fun _ _ => False)) (ha : c → (a g).sat p) (hb : ¬ c → (b g).sat p) : (sIf t a b g).sat p := by
  rw [osat_if]
  refine h.mono (fun k hk => ?_) (fun _ _ h => h.elim)
  subst hk
  exact ⟨fun h => ha (of_decide_eq_true h), fun h => hb (of_decide_eq_false h)⟩
theorem ifT {t : XT} {a b : ST} {g : Ct} {p : PoT} (c : Prop) [Decidable c] (h : (t g).sat (fun k g1 => k = decide c ∧ g1 = g) (fun _ _ _ => False)) (ha : c → (a g).sat p) (hb : ¬ c → (b g).sat p) : (tIf t a b g).sat p := by
  rw [tsat_if]
  refine RG.sat.mono h (fun k g1 hk => ?_) (fun _ _ _ h => h.elim)
  obtain ⟨rfl, rfl⟩ := hk
  exact ⟨fun h => ha (of_decide_eq_true h), fun h => hb (of_decide_eq_false h)⟩
/-- a statement that goes on at one state -/
theorem seqS1 {a b : S} {g : Ce} {p : Po} (g' : Ce) (h : (a g).sat ⟨fun x => x = g', fun _ => False, fun _ => False, fun _ => False, fun _ _ _ => False⟩) (h2 : (b g').sat p) : (sSeq a b g).sat p :=
  seqS (fun x => x = g') (h.mono (fun _ h => h) (fun _ h => h.elim) (fun _ h => h.elim) (fun _ h => h.elim) (fun _ _ _ h => h.elim)) (by rintro _ rfl; exact h2)
theorem seqT1 {a b : ST} {g : Ct} {p : PoT} (g' : Ct) (h : (a g).sat ⟨fun x => x = g', fun _ => False, fun _ => False, fun _ _ => False, fun _ _ _ => False⟩) (h2 : (b g').sat p) : (tSeq a b g).sat p :=
  seqT (fun x => x = g') (h.mono (fun _ h => h) (fun _ _ h => h.elim) (fun _ h => h.elim) (fun _ h => h.elim) (fun _ _ _ h => h.elim)) (by rintro _ rfl; exact h2)
end MI
set_option Elab.async false
set_option linter.all false
set_option maxRecDepth 100000
set_option maxHeartbeats 4000000
namespace Ax
open PySem MI Num Tx Fg Cal Dr Ord
theorem great_sat {fu : Nat} {s : T} (h : IsSrc s) {n : Int} (hn : 0 < n) (hb : n.natAbs < 2 ^ 200) {Q : T → Ct → Prop} {E : Str → Option MI.D → Ct → Prop} (q : ∀ r s', IsSrc s' → 0 ≤ r → r < n → Q (.dat (.int r)) [.t s', .un]) : (Pg.f_sr_great fu [(true, s), (false, .dat (.int n))]).sat Q E := by
  refine runT_sat rfl _ rfl ?_
  rw [Pg.s_sr_great]
  simp
  refine ⟨lim, ?_⟩
  obtain ⟨I, hI⟩ : ∃ I : Nat → Ct → Prop, ∀ k g, I k g ↔ ∃ (s : T) (f : Int) (c3 : Cl), g = [.b s, .t (.dat (.int n)), .t (.dat (.int f)), c3] ∧ Fr c3 ∧ IsSrc s ∧ 0 ≤ f ∧ f < 2 ^ (21 * k + 1) := ⟨_, fun _ _ => Iff.rfl⟩
  refine loopT_sat I ((hI _ _).mpr ⟨s, 0, .un, rfl, fr_un, h, by decide, by decide⟩) ?_ ?_
  · intro k d g hd hg
    obtain ⟨s1, f, c3, rfl, f3, h1, f0, f1⟩ := (hI _ _).mp hg
    simp at hd
    obtain ⟨kl, rfl⟩ := hd
    have fb : f.natAbs < 2 ^ 100 := by
      have p : 2 ^ (21 * k + 1) ≤ 2 ^ 100 := Nat.pow_le_pow_right (by decide) (by omega)
      have P : (2 : Int) ^ (21 * k + 1) = ((2 ^ (21 * k + 1) : Nat) : Int) := by rw [Int.natCast_pow]; rfl
      omega
    have m := fMul_ii (i := f) (j := 1000003) (okMul_bd 100 100 fb (by decide) (by decide) (by decide) (by decide))
    rw [Pg.b_sr_great_1]
    simp [f3, m]
    refine draw_sat h1 (by omega) (by decide) fun r s2 h2 r0 r1 => ?_
    simp
    refine (hI _ _).mpr ⟨s2, f * 1000003 + r, _, rfl, by simp, h2, by omega, ?_⟩
    have e : (2 : Int) ^ (21 * (k + 1) + 1) = 2 ^ (21 * k + 1) * 2097152 := by
      rw [show 21 * (k + 1) + 1 = (21 * k + 1) + 21 by omega, Int.pow_add]
      rfl
    rw [e]
    omega
  · intro g hg
    obtain ⟨s1, f, c3, rfl, f3, h1, f0, f1⟩ := (hI _ _).mp hg
    have m := fMod_pos (i := f) hn
    simp [m]
    exact q _ _ h1 (Int.emod_nonneg _ (by omega)) (Int.emod_lt_of_pos _ hn)
def sAsked (sub : Str → Option Bool) (F : Us → RF) : ST := tSeq (tSet 5 (xP (mC (.str "none")))) (tSeq (tTry sub (tIf (xTP (mTru (mVar 4))) (tSet 5 (xFn F 5 [] (rVal (xP (mVar 0)) (rVal (xP (mVar 1)) (rVal (xP (mVar 2)) (rVal (xP (mVar 3)) (rVal (xP (mC (.bool true))) (rNil)))))))) (tSet 5 (xFn F 5 [.bool false] (rVal (xP (mVar 0)) (rVal (xP (mVar 1)) (rVal (xP (mVar 2)) (rVal (xP (mVar 3)) (rNil)))))))) (tSet 5 (xP (mC (.str "none"))))) (tRet (xMv 5)))
def asked (sub : Str → Option Bool) (F : Us → RF) : Us → RF := runT 5 6 (sAsked sub F)
def sRight (fu : Nat) (A : Us → RF) : ST := tSeq (tSet 6 (xP (mDs fListOf (mCons (mVar 1) (mNil))))) (tSeq (tSet 7 (xFn A 5 [] (rVal (xP (mVar 0)) (rVal (xP (mVar 6)) (rVal (xP (mVar 2)) (rVal (xP (mVar 3)) (rVal (xP (mVar 4)) (rNil)))))))) (tSeq (tIf (xTP (mOrT (mNot (mTru (mCall 2 (Pg.f_ax_is_axis fu) [] (mCons (mVar 7) (mCons (mVar 5) (mNil)))))) (mTru (mBin fNe (mVar 6) (mVar 1))))) (tRet (xP (mC (.bool false)))) (tNop)) (tSeq (tIf (xTP (mTru (mBin fIsN (mVar 5) (mC .none)))) (tSeq (tMut 7 (pIx 7 (pNm 7) (mC (.int 1))) uApp (mCons (mDs dTup (mCons (mVar 2) (mCons (mC (.str "more")) (mNil)))) (mNil))) (tIf (xTP (mTru (mIsi "list" (mBin fIx (mBin fIx (mVar 7) (mC (.int 0))) (mC (.int 1)))))) (tMut 7 (pIx 7 (pIx 7 (pNm 7) (mC (.int 0))) (mC (.int 1))) uApp (mCons (mC (.str "more")) (mNil))) (tNop))) (tNop)) (tRet (xCall 2 (Pg.f_ax_is_axis fu) [] (xCons (xFn A 5 [] (rVal (xP (mVar 0)) (rVal (xP (mVar 6)) (rVal (xP (mVar 2)) (rVal (xP (mVar 3)) (rVal (xP (mVar 4)) (rNil))))))) (xCons (xP (mVar 5)) (xNil))))))))
def right (fu : Nat) (A : Us → RF) : Us → RF := runT 6 8 (sRight fu A)
def ags (wish cells : MI.D) (L : Int) (way : Str) (n : Bool) : Us := [(false, .dat wish), (false, .dat cells), (false, .dat (.int L)), (false, .dat (.str way)), (false, .dat (.bool n))]
def un5 : Ct := [.un, .un, .un, .un, .un]
/-- the axis, or NoSpace -/
def Gives (F : Us → RF) (us : Us) (r : Option T) : Prop := (F us).sat (fun t bs => r = some t ∧ bs = un5) (fun c p bs => r = none ∧ c = "NoSpace" ∧ p = none ∧ bs = un5)
def oT : Option T → T
  | some t => t
  | none => .dat (.str "none")
theorem Gives.eq {F : Us → RF} {us : Us} {r : Option T} (h : Gives F us r) : F us = match r with
    | some t => .ok t un5
    | none => .exc "NoSpace" none un5 := by
  unfold Gives at h
  cases e : F us with
  | ok t bs => rw [e] at h; obtain ⟨rfl, rfl⟩ := h; rfl
  | exc c p bs => rw [e] at h; obtain ⟨rfl, rfl, rfl, rfl⟩ := h; rfl
  | bad => rw [e] at h; exact h.elim
@[simp ↓] theorem fsat_exc (c : Str) (p : Option MI.D) (bs : Ct) (Q : T → Ct → Prop) (E : Str → Option MI.D → Ct → Prop) : (RF.exc c p bs).sat Q E = E c p bs := Eq.trans rfl rfl
theorem asked_ok {sub : Str → Option Bool} (hs : sub "NoSpace" = some true) {F : Us → RF} {wish cells : MI.D} {L : Int} {way : Str} {n : Bool} {r : Option T} (h : Gives F (ags wish cells L way n) r) : asked sub F (ags wish cells L way n) = .ok (oT r) un5 := by
  have e := h.eq
  unfold ags at e
  have key : (asked sub F (ags wish cells L way n)).sat (fun t bs => t = oT r ∧ bs = un5) fun _ _ _ => False := by
    refine runT_sat rfl [.t (.dat wish), .t (.dat cells), .t (.dat (.int L)), .t (.dat (.str way)), .t (.dat (.bool n)), .un] rfl ?_
    rw [sAsked]
    simp [tsat_try, ags]
    cases n with
    | true =>
      cases r with
      | some t => simp [e, un5, oT]
      | none => simp [e, un5, hs, oT]
    | false =>
      cases r with
      | some t => simp [e, un5, oT]
      | none => simp [e, un5, hs, oT]
  obtain ⟨t, bs, e, rfl, rfl⟩ := key.eq
  exact e
theorem nm_t (x : T) : (Cl.t x).nm = some x := rfl
def due (r : Option T) : MI.D := match r with
  | some t => fz t
  | none => .none
theorem ticks_mem : ∀ {ps : List Int} {ls : List (List Nat)} {d : MI.D}, d ∈ ticks ps ls → ∃ p w, d = tick p w
  | [], _, _, h => by cases h
  | _ :: _, [], _, h => by cases h
  | p :: ps, w :: ls, d, h => by
    rcases List.mem_cons.mp (show d ∈ tick p w :: ticks ps ls from h) with h | h
    · exact ⟨p, w, h⟩
    · exact ticks_mem h
theorem none_ok (fu : Nat) : Pg.f_ax_is_axis fu [.str "none", .none] = .ok (.bool true) := by
  rw [Pg.f_ax_is_axis, Pg.s_ax_is_axis]
  simp [run_eq]
theorem tick_ok (fu : Nat) (sc : MI.D) (ps : List Int) (ls : List (List Nat)) (sh : Sh 5 (.tuple [sc, .list (ticks ps ls)])) : Pg.f_ax_is_axis fu [.tuple [sc, .list (ticks ps ls)], .tuple [sc, .list (ticks ps ls)]] = .ok (.bool true) := by
  have ns := ne_self sh (by decide)
  generalize hD : PyData.tuple [sc, .list (ticks ps ls)] = D at *
  have i1 : fIx D (.int 1) = some (.list (ticks ps ls)) := by rw [← hD]; exact fIx_t1 _ _ _
  have l2 : fLen [D] = some (.int 2) := by rw [← hD]; rfl
  have tt : isT "tuple" D = some true := by rw [← hD]; simp
  have nn : fIs D .none = some (.bool false) := by rw [← hD]; rfl
  have key : (Pg.f_ax_is_axis fu [D, D]).sat (fun d => d = .bool true) fun _ _ => False := by
    refine run_sat rfl [.dat D, .dat D, .un] rfl ?_
    rw [Pg.s_ax_is_axis]
    simp [-fIs_n, nn, tt, l2, ns, i1]
    refine loopF_sat (fun k g => ∃ c, g = [.dat D, .dat D, c]) ⟨_, rfl⟩ ?_ ?_
    · rintro k d g hd ⟨c, rfl⟩
      obtain ⟨p, w, rfl⟩ := ticks_mem (List.mem_of_getElem? hd)
      rw [Pg.b_ax_is_axis_1]
      simp [tick]
    · rintro g ⟨c, rfl⟩
      simp
  obtain ⟨d, e, rfl⟩ := key.eq
  exact e
end Ax
set_option Elab.async false
set_option linter.all false
set_option maxRecDepth 100000
set_option maxHeartbeats 4000000
namespace Num
open PySem MI
section
end
end Num
set_option Elab.async false
set_option linter.all false
set_option maxRecDepth 100000
set_option maxHeartbeats 4000000
namespace Ax
open PySem MI Num Tx Fg Dr Ord
theorem dg_dig {n : Nat} : ∀ c ∈ dg n, c < 1114112 := fun c hc => by
  have := List.all_eq_true.mp (dg_all n) c hc
  unfold dig at this
  simp at this
  omega
def lbl (B e : Int) : List Nat := if e < 0 then 49 :: 47 :: dg (P B (-e)).toNat else dg (P B e).toNat
section
variable {B : Int} (h1 : 2 ≤ B) (h2 : B ≤ 10)
include h1 h2
theorem P_nat {e : Int} (he : e ≤ 400) : ∃ n : Nat, P B e = n ∧ 0 < n ∧ n < 2 ^ 1601 := by
  have p := P_pos h1 h2 e
  have b := P_bd h1 h2 (n := e) (k := 400) (by omega)
  exact ⟨(P B e).toNat, by omega, by omega, by omega⟩
theorem lbl_len {e : Int} (he : e.natAbs ≤ 400) : (lbl B e).length ≤ 1000 ∧ ∀ c ∈ lbl B e, c < 1114112 := by
  have key : ∀ n : Nat, n < 2 ^ 1601 → (dg n).length ≤ 900 := fun n hn => dg_len (k := 899) (Nat.lt_of_lt_of_le hn (by decide +kernel))
  unfold lbl
  split
  · obtain ⟨n, e1, _, b⟩ := P_nat h1 h2 (e := -e) (by omega)
    rw [e1, Int.toNat_natCast]
    have := key n b
    refine ⟨by simp; omega, fun c hc => ?_⟩
    rcases List.mem_cons.mp hc with rfl | hc
    · decide
    · rcases List.mem_cons.mp hc with rfl | hc
      · decide
      · exact dg_dig c hc
  · obtain ⟨n, e1, _, b⟩ := P_nat h1 h2 (e := e) (by omega)
    rw [e1, Int.toNat_natCast]
    have := key n b
    exact ⟨by omega, dg_dig⟩
end
end Ax
set_option Elab.async false
set_option linter.all false
set_option maxRecDepth 100000
set_option maxHeartbeats 4000000
namespace Ax
open PySem MI Num Tx Fg Dr Ord
def Fl (B : Int) (c : Rat) (n : Int) : Prop := (B : Rat) ^ n ≤ c ∧ c < (B : Rat) ^ (n + 1)
def Up (B : Int) (c : Rat) (n : Int) : Prop := (B : Rat) ^ (n - 1) < c ∧ c ≤ (B : Rat) ^ n
section
end
section
end
section
end
section
end
end Ax
set_option Elab.async false
set_option linter.all false
set_option maxRecDepth 100000
set_option maxHeartbeats 4000000
namespace Ax
open PySem MI Num Tx Fg Dr Ord
theorem sh_nm (r : Rat) : Sh 1 (nm r) := sh_tuple (n := 0) fun d hd => by
  simp at hd
  rcases hd with rfl | rfl <;> exact sh_int _ _
def pos (cs : List Rat) : List Rat := cs.filter fun c => decide (0 < c)
/-- from power to power -/
structure Rch (B : Int) (ps : List Rat) (lo hi : Int) : Prop where
  h : (ps = [] ∧ lo = 0 ∧ hi = 1) ∨ ∃ h0 : Int, ((∃ c ∈ ps, Fl B c lo) ∧ ∀ c ∈ ps, ∀ n, Fl B c n → lo ≤ n) ∧ ((∃ c ∈ ps, Up B c h0) ∧ ∀ c ∈ ps, ∀ n, Up B c n → n ≤ h0) ∧ hi = (if h0 < lo + 1 then lo + 1 else h0)
theorem Rch.one {B : Int} {ps : List Rat} {a b c d : Int} (x : Rch B ps a b) (y : Rch B ps c d) : a = c ∧ b = d := by
  rcases x.h with ⟨e, rfl, rfl⟩ | ⟨h0, ⟨⟨p, pm, pf⟩, pl⟩, ⟨⟨q, qm, qf⟩, ql⟩, rfl⟩
  · rcases y.h with ⟨_, rfl, rfl⟩ | ⟨_, ⟨⟨p, pm, _⟩, _⟩, _, _⟩
    · exact ⟨rfl, rfl⟩
    · rw [e] at pm; cases pm
  · rcases y.h with ⟨e, _, _⟩ | ⟨h1, ⟨⟨p', pm', pf'⟩, pl'⟩, ⟨⟨q', qm', qf'⟩, ql'⟩, rfl⟩
    · rw [e] at pm; cases pm
    · have e1 := pl _ pm' _ pf'
      have e2 := pl' _ pm _ pf
      have e3 := ql _ qm' _ qf'
      have e4 := ql' _ qm _ qf
      obtain rfl : a = c := by omega
      obtain rfl : h0 = h1 := by omega
      exact ⟨rfl, rfl⟩
section
end
def gp (lo hi m : Int) : Nat := (0 - (0 - hi) / m - lo / m).toNat
structure Gf (lo hi m : Int) : Prop where
  last : 0 - (0 - hi) / m * m = lo / m * m + (gp lo hi m : Int) * m
  g1 : 1 ≤ gp lo hi m
  a : lo / m * m ≤ lo ∧ lo < lo / m * m + m
  b : hi ≤ lo / m * m + (gp lo hi m : Int) * m ∧ lo / m * m + (gp lo hi m : Int) * m < hi + m
  gb : (gp lo hi m : Int) ≤ hi - lo + 2
theorem gf {lo hi m : Int} (hm : 1 ≤ m) (h : lo < hi) : Gf lo hi m := by
  have e1 := Int.mul_ediv_add_emod lo m
  have r1 := Int.emod_nonneg lo (show m ≠ 0 by omega)
  have r2 := Int.emod_lt_of_pos lo (show 0 < m by omega)
  have e2 := Int.mul_ediv_add_emod (0 - hi) m
  have r3 := Int.emod_nonneg (0 - hi) (show m ≠ 0 by omega)
  have r4 := Int.emod_lt_of_pos (0 - hi) (show 0 < m by omega)
  have c1 : lo / m * m = m * (lo / m) := Int.mul_comm _ _
  have c2 : (0 - hi) / m * m = m * ((0 - hi) / m) := Int.mul_comm _ _
  have lt : lo / m < 0 - (0 - hi) / m := by
    refine Int.lt_of_mul_lt_mul_left (a := m) ?_ (by omega)
    rw [Int.mul_sub, Int.mul_zero]
    omega
  have ge : (gp lo hi m : Int) = 0 - (0 - hi) / m - lo / m := by
    unfold gp
    omega
  have gm : (gp lo hi m : Int) * m = 0 - m * ((0 - hi) / m) - m * (lo / m) := by
    rw [ge, Int.mul_comm, Int.mul_sub, Int.mul_sub, Int.mul_zero]
  refine ⟨by omega, by omega, by omega, by omega, ?_⟩
  have : (gp lo hi m : Int) * 1 ≤ (gp lo hi m : Int) * m := Int.mul_le_mul_of_nonneg_left hm (by omega)
  -- the ends reach at most one step beyond on either side
  have gg : ((gp lo hi m : Int) - 2) * m < hi - lo := by
    rw [Int.sub_mul]
    omega
  rcases Int.lt_or_le (gp lo hi m : Int) 3 with c | c
  · omega
  · have : ((gp lo hi m : Int) - 2) * 1 ≤ ((gp lo hi m : Int) - 2) * m := Int.mul_le_mul_of_nonneg_left hm (by omega)
    omega
def lbs (B f m : Int) (g : Nat) : List (List Nat) := (List.range (g + 1)).map fun k : Nat => lbl B (f + m * (k : Int))
def tpl (L : Int) (g : Nat) : List Int := (List.range (g + 1)).map fun k : Nat => (2 * L * (k : Int) + g) / (2 * g)
def tks (B f m L : Int) (g : Nat) : List MI.D := ticks (tpl L g) (lbs B f m g)
def tfit (w : Bool) (B L lo hi m : Int) : Bool := if w = true then decide (lg (lbs B (lo / m * m) m (gp lo hi m)) ≤ 10) && decide ((6 + 6 * lg (lbs B (lo / m * m) m (gp lo hi m))) * (gp lo hi m : Int) ≤ L) else true
def tin (L lo hi m : Int) : Prop := -200 ≤ lo / m * m ∧ lo / m * m + (gp lo hi m : Int) * m ≤ 200 ∧ 12 * (gp lo hi m : Int) ≤ L
instance (L lo hi m : Int) : Decidable (tin L lo hi m) := by unfold tin; infer_instance
def tok (w : Bool) (B L lo hi m : Int) : Bool := decide (tin L lo hi m) && tfit w B L lo hi m
def wy (w : Bool) : Str := if w = true then "level" else "upright"
theorem lbs_len (B f m : Int) (g : Nat) : (lbs B f m g).length = g + 1 := by simp [lbs]
section
variable {fu : Nat} (hfu : FU ≤ fu) {B : Int} (h1 : 2 ≤ B) (h2 : B ≤ 10)
include hfu h1 h2
theorem lbs_lw {f m : Int} {g : Nat} (hm : 0 ≤ m) (hf : -200 ≤ f) (hl : f + (g : Int) * m ≤ 200) : Lw (lbs B f m g) ∧ ∀ w ∈ lbs B f m g, ∀ c ∈ w, c < 1114112 := by
  have key : ∀ w ∈ lbs B f m g, w.length ≤ 1000 ∧ ∀ c ∈ w, c < 1114112 := by
    intro w hw
    unfold lbs at hw
    obtain ⟨k, hk, rfl⟩ := List.mem_map.mp hw
    rw [List.mem_range] at hk
    have mk0 : 0 ≤ m * (k : Int) := Int.mul_nonneg (by omega) (by omega)
    have mk1 : m * (k : Int) ≤ m * (g : Int) := Int.mul_le_mul_of_nonneg_left (by omega) (by omega)
    have cm : m * (g : Int) = (g : Int) * m := Int.mul_comm _ _
    exact lbl_len h1 h2 (by omega)
  exact ⟨fun w hw => (key w hw).1, fun w hw => (key w hw).2⟩
end
end Ax
set_option Elab.async false
set_option linter.all false
set_option maxRecDepth 100000
set_option maxHeartbeats 4000000
namespace Ax
open PySem MI Num Tx Fg Dr Ord
theorem ifRT {t : XT} {a rest : ST} {g : Ct} {p : PoT} (c : Prop) [Decidable c] (h : (t g).sat (fun k g1 => k = decide c ∧ g1 = g) (fun _ _ _ => False)) (ha : c → (tSeq a rest g).sat p) (hb : ¬ c → (rest g).sat p) : (tSeq (tIf t a (tNop)) rest g).sat p := by
  rw [tsat_seq]
  refine ifT c h (fun hc => ?_) (fun hc => ?_)
  · have := ha hc
    rw [tsat_seq] at this
    exact this
  · rw [show tNop g = .nx g from rfl]
    exact hb hc
theorem ifRS {t : Vw → R Bool} {a rest : S} {g : Ce} {p : Po} (c : Prop) [Decidable c] (h : (t (va g)).sat (fun k => k = decide c) (fun _ _ => False)) (ha : c → (sSeq a rest g).sat p) (hb : ¬ c → (rest g).sat p) : (sSeq (sIf t a (sNop)) rest g).sat p := by
  rw [osat_seq]
  refine ifS c h (fun hc => ?_) (fun hc => ?_)
  · have := ha hc
    rw [osat_seq] at this
    exact this
  · rw [show sNop g = .nx g from rfl]
    exact hb hc
theorem frzT {i : Nat} {m : ST} {g : Ct} {p : PoT} (g' : Ct) (x : T) (h : g[i]? = some (.t x)) (e : (kil i g).set i (.t (.dat (fz x))) = g') (k : (m g').sat p) : (tFrz i m g).sat p := by
  unfold tFrz
  rw [h]
  dsimp only
  rw [e]
  exact k
theorem lens_max {ls : List (List Nat)} (h : ls ≠ []) : fMaxL [.list ((lens ls).map .int)] = some (.int (lg ls)) := by
  cases ls with
  | nil => exact absurd rfl h
  | cons w ls =>
    unfold fMaxL
    dsimp only
    rw [Ax.ints_map]
    show some (PyData.int (maxI (w.length : Int) (lens ls))) = some (.int (maxI 0 ((w.length : Int) :: lens ls)))
    congr 2
    show _ = maxI (if 0 < (w.length : Int) then (w.length : Int) else 0) (lens ls)
    congr 1
    split <;> omega
theorem str_i (i : Int) : Str.ofString (toString i) = S ((if i < 0 then [45] else []) ++ dg i.natAbs) := by
  rcases i with n | n
  · rw [if_neg (by simp)]
    exact str_nat n
  · rw [if_pos (Int.negSucc_lt_zero n), Str.ofString_eq_toList]
    show Str.mk ((("-" ++ Nat.repr (n + 1)).toList.map Char.toNat).toArray) = _
    have e : (Nat.repr (n + 1)).toList = Nat.toDigits 10 (n + 1) := by
      unfold Nat.repr
      rw [String.toList_ofList]
    rw [String.toList_append, e]
    rfl
/-- a whole number as it is written -/
def iw (i : Int) : List Nat := (if i < 0 then [45] else []) ++ dg i.natAbs
theorem iw_len {i : Int} (h : i.natAbs < 2 ^ 900) : (iw i).length ≤ 300 ∧ ∀ c ∈ iw i, c < 1114112 := by
  have l := dg_len (n := i.natAbs) (k := 270) (Nat.lt_of_lt_of_le h (by decide +kernel))
  unfold iw
  refine ⟨?_, fun c hc => ?_⟩
  · rw [List.length_append]
    split <;> simp <;> omega
  · rcases List.mem_append.mp hc with hc | hc
    · split at hc
      · rw [List.mem_singleton.mp hc]; decide
      · cases hc
    · exact dg_dig c hc
theorem f_str_i {i : Int} (h : i.natAbs < 2 ^ 900) : fStr [.int i] = some (.str (S (iw i))) := by
  show (if i.natAbs.log2 < 1920 then some (PyData.str (Str.ofString (toString i))) else none) = _
  have : i.natAbs.log2 < 900 := MI.log2_lt h (by decide)
  rw [if_pos (by omega), str_i]
  rfl
theorem show_gen (fu : Nat) {r : Rat} (h : Bd 900 r) : ∃ w : List Nat, Pg.f_p_show_number fu [nm r] = .ok (.str (S w)) ∧ w.length ≤ 1000 ∧ ∀ c ∈ w, c < 1114112 := by
  have M : most = 16777216 := rfl
  have s1 := f_str_i h.1
  have s2 := f_str_i (i := (r.den : Int)) h.2
  obtain ⟨l1, q1⟩ := iw_len h.1
  obtain ⟨l2, q2⟩ := iw_len (i := (r.den : Int)) h.2
  have i0 := nm0 r
  have i1 := nm1 r
  generalize nm r = D at *
  generalize iw r.num = a at *
  generalize iw (r.den : Int) = b at *
  have a1 := add_ss (a := a) (b := [47]) (by rw [M]; simp; omega)
  have a2 := add_ss (a := a ++ [47]) (b := b) (by rw [M]; simp; omega)
  by_cases c : (r.den : Int) = 1
  · refine ⟨a, ?_, by omega, q1⟩
    rw [Pg.f_p_show_number, Pg.s_p_show_number]
    have c' : r.den = 1 := by omega
    simp [run_eq, i0, i1, s1, c, c']
  · refine ⟨a ++ [47] ++ b, ?_, by simp; omega, ?_⟩
    · rw [Pg.f_p_show_number, Pg.s_p_show_number]
      have c' : ¬ r.den = 1 := by omega
      simp [-List.append_assoc, run_eq, i0, i1, s1, s2, c, c', a1, a2]
    · intro x hx
      simp at hx
      rcases hx with hx | rfl | hx
      · exact q1 x hx
      · decide
      · exact q2 x hx
open Classical in
noncomputable def shw (fu : Nat) (r : Rat) : List Nat := if h : ∃ w : List Nat, Pg.f_p_show_number fu [nm r] = .ok (.str (S w)) ∧ w.length ≤ 1000 ∧ ∀ c ∈ w, c < 1114112 then h.choose else []
theorem shw_ok (fu : Nat) {r : Rat} (h : Bd 900 r) : Pg.f_p_show_number fu [nm r] = .ok (.str (S (shw fu r))) ∧ (shw fu r).length ≤ 1000 ∧ ∀ c ∈ shw fu r, c < 1114112 := by
  have e := show_gen fu h
  unfold shw
  rw [dif_pos e]
  exact e.choose_spec
theorem fdvB {n : Nat} {i j : Int} (h : 0 < j) (hj : j.natAbs < 2 ^ n) (n0 : 0 < n) (hn : n ≤ 9000) : fFdv (.int i) (.int j) = some (.int (i / j)) :=
  fFdv_pos h (Nat.lt_of_lt_of_le (MI.log2_lt hj n0) (by omega))
def flo (r : Rat) : Int := r.num / (r.den : Int)
theorem floor_ok (fu : Nat) {n : Nat} {r : Rat} (h : Bd n r) (hn : n ≤ 9000) : Pg.f_p_floor_of fu [nm r] = .ok (.int (flo r)) := by
  have f := fdvB (i := r.num) (j := (r.den : Int)) (by have := r.den_pos; omega) h.2 (bd_pos h) hn
  rw [Pg.f_p_floor_of, Pg.s_p_floor_of]
  simp [run_eq, nm0, nm1, f]
  rfl
theorem flo_div {a b : Int} (hb : 0 < b) {r : Rat} (h : r = Rat.divInt a b) : a / b = flo r := by
  obtain ⟨k, kp, ea, eb⟩ := Fd.low_k hb h
  unfold flo
  rw [ea, eb, Int.mul_ediv_mul_of_pos_left _ _ kp]
structure Sp (st lo hi : Rat) : Prop where
  s0 : 0 < st
  sb : Bd 250 st
  lb : Bd 90 lo
  hb : Bd 90 hi
  lt : lo < hi
def fi (st lo : Rat) : Int := flo (lo / st)
def la (st hi : Rat) : Int := 0 - flo ((((0 : Int) : Rat) - hi) / st)
def gs (st lo hi : Rat) : Nat := (la st hi - fi st lo).toNat
section
end
def cq (st lo : Rat) (k : Nat) : Rat := st * ((fi st lo + (k : Int) : Int) : Rat)
def ssc (a b : Rat) (L : Int) : MI.D := .tuple [.str "straight", nm a, nm b, .int L]
section
end
end Ax
set_option Elab.async false
set_option linter.all false
set_option maxRecDepth 100000
set_option maxHeartbeats 4000000
namespace MI
open PySem PySem.Spec PyProof.Rows L2
section
end
end MI
set_option Elab.async false
set_option linter.all false
set_option maxRecDepth 100000
set_option maxHeartbeats 4000000
namespace MI
open PySem
end MI
set_option Elab.async false
set_option linter.all false
set_option maxRecDepth 100000
set_option maxHeartbeats 4000000
namespace MI
open PySem PySem.Spec PyProof.Rows L2
end MI
set_option Elab.async false
set_option linter.all false
set_option maxRecDepth 100000
set_option maxHeartbeats 4000000
namespace MI
open PySem PySem.Spec PyProof.Rows L2
section
end
section
end
section
end
end MI
set_option Elab.async false
set_option linter.all false
set_option maxRecDepth 100000
set_option maxHeartbeats 4000000
namespace MI
open PySem PySem.Spec PyProof.Rows L2
section
end
section
end
end MI
set_option Elab.async false
set_option linter.all false
set_option maxRecDepth 100000
set_option maxHeartbeats 4000000
namespace MI
open PySem PySem.Spec PyProof.Rows L2
def KeyAt (b : Bool) (H : Hp) (y : V) (d : D) : Prop := match b with
  | false => ∃ k, keyD d = some k ∧ y = kV k
  | true => ∃ k p, keyT d = some k ∧ y = .ref p ∧ H p = some (.tup (k.map kV))
section
end
def KidAt (σ : L2.St) (H : Hp) (j : Nat) (b : Bool) (ks : List D) (i : Nat) (l : Addr) : Prop := ∃ a o vs, σ[j]? = some (some (.ref a)) ∧ H a = some o ∧ dicO b ks vs = some o ∧ vs[i]? = some (.ref l)
section
variable {K : PySem.W.Frag} {V0 : Nat → Option V} {F0 H0 F H : Hp} {B : Addr → Prop} {σ : L2.St} {g : Ct}
theorem KidAt.mono {H' : Hp} {j : Nat} {b : Bool} {ks : List D} {i : Nat} {l : Addr} (h : KidAt σ H j b ks i l) (s : Same H H') : KidAt σ H' j b ks i l := by
  obtain ⟨a, o, vs, h1, h2, h3, h4⟩ := h
  exact ⟨a, o, vs, h1, s _ _ h2, h3, h4⟩
end
end MI
set_option Elab.async false
set_option linter.all false
set_option maxRecDepth 100000
set_option maxHeartbeats 4000000
namespace MI
open PySem PySem.Spec PyProof.Rows L2
theorem KeyAt.mono {b : Bool} {H H' : Hp} {y : V} {d : D} (h : KeyAt b H y d) (s : Same H H') : KeyAt b H' y d := by
  cases b with
  | false => exact h
  | true =>
    obtain ⟨k, p, h1, h2, h3⟩ := h
    exact ⟨k, p, h1, h2, s _ _ h3⟩
section
end
section
end
end MI
set_option Elab.async false
set_option linter.all false
set_option maxRecDepth 100000
set_option maxHeartbeats 4000000
namespace MI
open PySem PySem.Spec PyProof.Rows L2
def xDic (b : Bool) : XM := fun g => .ok (.dic b [] []) g
section
end
end MI
set_option Elab.async false
set_option linter.all false
set_option maxRecDepth 100000
set_option maxHeartbeats 4000000
namespace MI
open PySem PySem.Spec PyProof.Rows L2
section
end
end MI
set_option Elab.async false
set_option linter.all false
set_option maxRecDepth 100000
set_option maxHeartbeats 4000000
namespace MI
open PySem PySem.Spec PyProof.Rows L2
section
end
def tAppT (j : Nat) (m : XM) : ST := fun g => match locT g j [] with
  | some _ => (m g).to fun t g1 => (match locT g1 j [] with
    | some ts => if ts.length < most then .nx (putL g1 j [] (ts ++ [t])) else .bad
    | none => .bad)
  | none => .bad
section
end
end MI
set_option Elab.async false
set_option linter.all false
set_option maxRecDepth 100000
set_option maxHeartbeats 4000000
namespace MI
open PySem PySem.Spec PyProof.Rows L2
section
end
end MI
set_option Elab.async false
set_option linter.all false
set_option maxRecDepth 100000
set_option maxHeartbeats 4000000
namespace MI
open PySem PySem.Spec PyProof.Rows L2
section
end
end MI
set_option Elab.async false
set_option linter.all false
set_option maxRecDepth 100000
set_option maxHeartbeats 4000000
namespace MI
open PySem PySem.Spec PyProof.Rows L2
def xSortI (m : XM) : XM := fun g => (m g).bind fun t g1 => match fz t with
  | .list ds => (match intsD ds with
    | some ns => .ok (.lst (((sortI ns).map PyData.int).map T.dat)) g1
    | none => .bad)
  | _ => .bad
end MI
set_option Elab.async false
set_option linter.all false
set_option maxRecDepth 100000
set_option maxHeartbeats 4000000
namespace MI
open PySem PySem.Spec PyProof.Rows L2
section
variable {g : Ct} {p : PoT} {Q : T → Ct → Prop} {E : Str → Option D → Ct → Prop}
@[simp ↓] theorem tsat_appT (j : Nat) (m : XM) : (tAppT j m g).sat p = os (locT g j []) fun _ => (m g).sat (fun t g1 => os (locT g1 j []) fun ts => ts.length < most ∧ p.nx (putL g1 j [] (ts ++ [t]))) p.ex := by
  unfold tAppT
  cases locT g j [] with
  | none => rfl
  | some ts =>
    dsimp only
    simp only [tsat_to, os_some]
    congr
    funext t g1
    cases locT g1 j [] with
    | none => rfl
    | some ts =>
      dsimp only
      simp only [os_some, tsat_ite_bad, tsat_nx]
@[simp ↓] theorem gsat_ts (m : XA) : (xTs m g).sat Q E = (m g).sat (fun ts g1 => ts.length ≤ most ∧ Q (.tup ts) g1) E := by
  unfold xTs
  simp only [gsat_bind, gsat_ite_bad, gsat_ok]
def intsO : D → Option (List Int)
  | .list ds => intsD ds
  | _ => none
@[simp ↓] theorem gsat_sortI (m : XM) : (xSortI m g).sat Q E = (m g).sat (fun t g1 => os (intsO (fz t)) fun ns => Q (.lst (((sortI ns).map PyData.int).map T.dat)) g1) E := by
  unfold xSortI
  simp only [gsat_bind]
  congr
  funext t g1
  cases fz t with
  | list ds =>
    show RG.sat _ _ _ = os (intsD ds) _
    dsimp only
    cases intsD ds <;> rfl
  | _ => rfl
@[simp ↓] theorem gsat_dic (b : Bool) : (xDic b g).sat Q E = Q (.dic b [] []) g := Eq.trans rfl rfl
@[simp] theorem vd_dic (g : Ct) (b : Bool) (ks : List D) (ts : List T) : Cl.vd g (.t (.dic b ks ts)) = none := Eq.trans rfl rfl
end
end MI
set_option Elab.async false
set_option linter.all false
set_option maxRecDepth 100000
set_option maxHeartbeats 4000000
namespace MI
open PySem
theorem loopC_mapG {α : Type} {enc val : α → D} {t : VTg} {te : M} {δ0 : Vw} : ∀ {xs : List α} {acc : List D}, (∀ x ∈ xs, ∃ δ, t (enc x) δ0 = some δ ∧ te δ = .ok (val x)) → acc.length + xs.length ≤ most → loopC t mYes te δ0 (xs.map enc) acc = .ok (acc ++ xs.map val)
  | [], acc, _, _ => by rw [List.map_nil, loopC]; simp
  | x :: xs, acc, h, hl => by
    obtain ⟨δ, e1, e2⟩ := h x (List.mem_cons_self ..)
    rw [List.length_cons] at hl
    rw [List.map_cons, loopC, e1]
    dsimp only [mYes]
    rw [e2]
    dsimp only
    rw [if_pos (by omega), loopC_mapG (fun y hy => h y (List.mem_cons_of_mem _ hy)) (by rw [List.length_append, List.length_singleton]; omega)]
    simp
theorem nLc_mapG {α : Type} {enc val : α → D} {xs : List α} {it : Vw → R (List D)} {vs : List Nat} {t : VTg} {te : M} {δ : Vw} (hi : it δ = .ok (xs.map enc)) (h : ∀ x ∈ xs, ∃ δ1, t (enc x) (wipeV δ vs) = some δ1 ∧ te δ1 = .ok (val x)) (hl : xs.length ≤ most) : nLc it vs t mYes te δ = .ok (xs.map val) := by
  unfold nLc
  rw [hi, R.bind_ok, loopC_mapG h (by rw [List.length_nil]; omega), List.nil_append]
theorem sSet_mL {i : Nat} {nl : Vw → R (List D)} {g : Ce} {ds : List D} {p : Po} (h : nl (vd g) = .ok ds) (k : p.nx (g.set i (.dat (.list ds)))) : (sSet i (mL nl) g).sat p := by
  rw [osat_set]
  unfold mL
  rw [h, R.bind_ok]
  exact k
theorem sOwn_nl {i : Nat} {nl : Vw → R (List D)} {g : Ce} {ds : List D} {p : Po} (h : nl (vd g) = .ok ds) (k : p.nx (g.set i (.own ds))) : (sOwn i nl g).sat p := by
  rw [osat_own, h]
  exact k
/-- a loop of the data layer over things told one by one -/
theorem loopF_G {α : Type} {enc : α → D} {t : Tg} {b : S} (G : List α → Ce → Prop) {full : List α} (st : ∀ ys x zs g, full = ys ++ x :: zs → G ys g → ∃ g1 g2, t (enc x) g = some g1 ∧ b g1 = .nx g2 ∧ G (ys ++ [x]) g2) : ∀ {xs : List α} (ys : List α) {g : Ce}, full = ys ++ xs → G ys g → ∃ g', loopF t b (xs.map enc) g = .nx g' ∧ G full g'
  | [], ys, g, e, h => ⟨g, rfl, by rw [e, List.append_nil]; exact h⟩
  | x :: xs, ys, g, e, h => by
    obtain ⟨g1, g2, e1, e2, h2⟩ := st ys x xs g e h
    obtain ⟨g', e3, h3⟩ := loopF_G G st (xs := xs) (ys ++ [x]) (by rw [e, List.append_assoc]; rfl) h2
    exact ⟨g', by rw [List.map_cons, loopF_cons e1 e2, e3], h3⟩
/-- the same in the tree layer -/
theorem loopT_G {α : Type} {enc : α → D} {t : TgT} {b : ST} (G : List α → Ct → Prop) {full : List α} (st : ∀ ys x zs g, full = ys ++ x :: zs → G ys g → ∃ g1 g2, t (enc x) g = some g1 ∧ b g1 = .nx g2 ∧ G (ys ++ [x]) g2) : ∀ {xs : List α} (ys : List α) {g : Ct}, full = ys ++ xs → G ys g → ∃ g', loopT t b (xs.map enc) g = .nx g' ∧ G full g'
  | [], ys, g, e, h => ⟨g, rfl, by rw [e, List.append_nil]; exact h⟩
  | x :: xs, ys, g, e, h => by
    obtain ⟨g1, g2, e1, e2, h2⟩ := st ys x xs g e h
    obtain ⟨g', e3, h3⟩ := loopT_G G st (xs := xs) (ys ++ [x]) (by rw [e, List.append_assoc]; rfl) h2
    exact ⟨g', by rw [List.map_cons, loopT_cons e1 e2, e3], h3⟩
theorem nxT_of {o : OutT} {I : Ct → Prop} (h : o.sat ⟨I, fun _ => False, fun _ => False, fun _ _ => False, fun _ _ _ => False⟩) : ∃ g, o = .nx g ∧ I g := by
  cases o with
  | nx g => exact ⟨g, rfl, h⟩
  | rt d g => exact h.elim
  | bk g => exact h.elim
  | ct g => exact h.elim
  | ex c q g => exact h.elim
  | bad => exact h.elim
theorem osat_nx_of {o : Out} {g : Ce} {p : Po} (e : o = .nx g) (h : p.nx g) : o.sat p := by rw [e]; exact h
theorem tsat_nx_of {o : OutT} {g : Ct} {p : PoT} (e : o = .nx g) (h : p.nx g) : o.sat p := by rw [e]; exact h
theorem cutLast (ds : List D) : fSl (.list ds) none (some (-1)) = some (.list ds.dropLast) := by
  have : cutD ds none (some (-1)) = ds.dropLast := by
    unfold cutD
    rw [List.dropLast_eq_take, HT.sIx_none, List.drop_zero]
    congr 1
    show (if (-1 : Int) < 0 then ((-1 : Int) + (ds.length : Int)).toNat else min (-1 : Int).toNat ds.length) - 0 = _
    rw [if_pos (by decide)]
    omega
  show some (PyData.list (cutD ds none (some (-1)))) = _
  rw [this]
theorem intsD_map : ∀ ns : List Int, intsD (ns.map PyData.int) = some ns
  | [] => rfl
  | n :: ns => by
    rw [List.map_cons]
    unfold intsD
    rw [intsD_map ns]
    rfl
theorem fSum_ints (l : List Int) : fSum [.list (l.map PyData.int)] = some (.int l.sum) := by
  show (intsD (l.map PyData.int)).map _ = _
  rw [intsD_map]
  rfl
theorem fMinL_ints {l : List Int} (h : l ≠ []) : ∃ m, fMinL [.list (l.map PyData.int)] = some (.int m) := by
  cases l with
  | nil => exact absurd rfl h
  | cons a r =>
    refine ⟨minI a r, ?_⟩
    unfold fMinL
    dsimp only
    rw [intsD_map]
@[simp ↓] theorem gsat_xNV (m : Vw → R (List D)) (g : Ct) (Q : T → Ct → Prop) (E : Str → Option D → Ct → Prop) : (xNV m g).sat Q E = (m (tva g)).sat (fun ds => ds.all flat = true ∧ Q (.lst (ds.map T.dat)) g) (fun c p => flatO p = true ∧ E c p g) := by
  unfold xNV
  cases m (tva g) with
  | ok ds => simp
  | exc c p => simp
  | bad => rfl
end MI
set_option Elab.async false
set_option linter.all false
set_option maxRecDepth 100000
set_option maxHeartbeats 4000000
namespace K28
open PySem MI Num Tx Fg Dr Ord Ax
/-- pieces: tops by twos, their one bottom -/
structure Tp (ts : List (Int × Int)) (b : Int) : Prop where
  l : 2 ≤ ts.length ∧ ts.length ≤ 4
  b : 1 ≤ b ∧ b ≤ 60
  t : ∀ t ∈ ts, t.1 < t.2 ∧ t.1.natAbs < 2 ^ 60 ∧ t.2.natAbs < 2 ^ 60
def qn (b x : Int) : Rat := Rat.divInt x b
def pr (b : Int) (t : Int × Int) : MI.D := .tuple [nm (qn b t.1), nm (qn b t.2)]
def df (t : Int × Int) : Int := t.2 - t.1
def sm (ts : List (Int × Int)) : Int := (ts.map df).sum
def lns0 (ts : List (Int × Int)) (room : Int) : List Int := ts.dropLast.map fun t => room * df t / sm ts
def lns (ts : List (Int × Int)) (room : Int) : List Int := lns0 ts room ++ [room - (lns0 ts room).sum]
theorem divInt_bd {t b : Int} {n : Nat} (hb : 1 ≤ b ∧ b ≤ 60) (ht : t.natAbs < 2 ^ n) (hn : 6 ≤ n) : Bd n (Rat.divInt t b) := by
  obtain ⟨_, l1, l2⟩ := lowest_q FU (Nat.le_refl _) (top := t) (bottom := b) (by omega) (sm_of (show b.natAbs < 2 ^ 6 by omega) (by decide))
  have P : (2 : Nat) ^ 6 ≤ 2 ^ n := Nat.pow_le_pow_right (by decide) hn
  exact ⟨by omega, by omega⟩
theorem sub_q {b x y : Int} : qn b y - qn b x = qn b (y - x) := by
  unfold qn
  rw [Rat.divInt_eq_div, Rat.divInt_eq_div, Rat.divInt_eq_div, Rat.intCast_sub]
  grind
theorem add_q {b x y : Int} : qn b x + qn b y = qn b (x + y) := by
  unfold qn
  rw [Rat.divInt_eq_div, Rat.divInt_eq_div, Rat.divInt_eq_div, Rat.intCast_add]
  grind
section
variable {ts : List (Int × Int)} {b : Int} (ok : Tp ts b)
include ok
theorem df_b {t : Int × Int} (h : t ∈ ts) : 0 < df t ∧ (df t).natAbs < 2 ^ 61 := by
  obtain ⟨h1, h2, h3⟩ := ok.t t h
  unfold df
  omega
theorem sm_b' : ∀ rs : List (Int × Int), (∀ t ∈ rs, t ∈ ts) → (rs.length : Int) ≤ sm rs ∧ sm rs ≤ rs.length * 2 ^ 61
  | [], _ => by unfold sm; simp
  | t :: rs, h => by
    obtain ⟨a, c⟩ := sm_b' rs fun x hx => h x (List.mem_cons_of_mem _ hx)
    obtain ⟨d, e⟩ := df_b ok (h t (List.mem_cons_self ..))
    have s : sm (t :: rs) = df t + sm rs := by unfold sm; rw [List.map_cons, List.sum_cons]
    rw [s, List.length_cons]
    generalize sm rs = S at *
    generalize df t = D at *
    have P : (2 : Int) ^ 61 = 2305843009213693952 := by decide
    have P2 : (2 : Nat) ^ 61 = 2305843009213693952 := by decide
    rw [P] at *
    rw [P2] at e
    generalize rs.length = n at *
    constructor
    · omega
    · omega
theorem sm_b {rs : List (Int × Int)} (h : ∀ t ∈ rs, t ∈ ts) (hl : rs.length ≤ 4) : 0 ≤ sm rs ∧ (sm rs).natAbs < 2 ^ 64 ∧ (rs ≠ [] → 0 < sm rs) := by
  obtain ⟨a, c⟩ := sm_b' ok rs h
  have P : (2 : Int) ^ 61 = 2305843009213693952 := by decide
  have P2 : (2 : Nat) ^ 64 = 18446744073709551616 := by decide
  rw [P] at c
  rw [P2]
  refine ⟨by omega, by omega, fun ne => ?_⟩
  have : 0 < rs.length := List.length_pos_iff.mpr ne
  omega
section
variable {fu : Nat} (hfu : FU ≤ fu)
include hfu
theorem minus_p {t : Int × Int} (h : t ∈ ts) : Pg.f_p_minus fu [nm (qn b t.2), nm (qn b t.1)] = .ok (nm (qn b (df t))) := by
  obtain ⟨h1, h2, h3⟩ := ok.t t h
  have := (minus_q hfu (divInt_bd (n := 61) ok.b (Nat.lt_trans h3 (by decide)) (by decide)) (divInt_bd (n := 61) ok.b (Nat.lt_trans h2 (by decide)) (by decide)) (by decide)).1
  rw [show Rat.divInt t.2 b - Rat.divInt t.1 b = qn b (df t) from sub_q] at this
  exact this
theorem plus_p {x y : Int} (hx : x.natAbs < 2 ^ 64) (hy : y.natAbs < 2 ^ 64) : Pg.f_p_plus fu [nm (qn b x), nm (qn b y)] = .ok (nm (qn b (x + y))) := by
  have := (plus_q hfu (divInt_bd (n := 64) ok.b hx (by decide)) (divInt_bd (n := 64) ok.b hy (by decide)) (by decide)).1
  rw [show Rat.divInt x b + Rat.divInt y b = qn b (x + y) from add_q] at this
  exact this
theorem floor_p {room : Int} (hr : room.natAbs < 2 ^ 12) {t : Int × Int} (h : t ∈ ts) : ∃ d1 d2, Pg.f_p_times fu [nm (qn b (df t)), .tuple [.int room, .int 1]] = .ok d1 ∧ Pg.f_p_over fu [d1, nm (qn b (sm ts))] = .ok d2 ∧ Pg.f_p_floor_of fu [d2] = .ok (.int (room * df t / sm ts)) := by
  obtain ⟨d0, db⟩ := df_b ok h
  have nn : ts ≠ [] := fun e => by have := ok.l; rw [e] at this; simp at this
  obtain ⟨s0, sb, sp⟩ := sm_b ok (rs := ts) (fun t h => h) (by have := ok.l; omega)
  have sp := sp nn
  have b1 : Bd 61 (qn b (df t)) := divInt_bd ok.b db (by decide)
  have b2 : Bd 64 (qn b (sm ts)) := divInt_bd ok.b sb (by decide)
  obtain ⟨a1, c1⟩ := times_q hfu b1 (bd_int hr (by decide)) (by decide)
  have bR : ((b : Int) : Rat) ≠ 0 := fun e => by have := Rat.intCast_eq_zero_iff.mp e; have := ok.b; omega
  have sR : ((sm ts : Int) : Rat) ≠ 0 := fun e => by have := Rat.intCast_eq_zero_iff.mp e; omega
  have ne : qn b (sm ts) ≠ 0 := fun e => by
    unfold qn at e
    rw [Rat.divInt_eq_div] at e
    exact sR (by grind)
  obtain ⟨a2, c2⟩ := over_q hfu c1 b2 ne (by decide)
  have a3 := floor_ok fu c2 (by decide)
  rw [nm_int] at a1
  refine ⟨_, _, a1, a2, a3.trans ?_⟩
  congr 2
  refine (flo_div sp ?_).symm
  unfold qn
  rw [Rat.divInt_eq_div, Rat.divInt_eq_div, Rat.divInt_eq_div, Rat.intCast_mul]
  generalize ((b : Int) : Rat) = B at *
  generalize ((sm ts : Int) : Rat) = S at *
  generalize ((df t : Int) : Rat) = D at *
  generalize ((room : Int) : Rat) = R at *
  grind
theorem piece_lengths {room : Int} (hr : room.natAbs < 2 ^ 12) : f_p_piece_lengths fu [.tuple (ts.map (pr b)), .int room] = .ok (.list ((lns ts room).map .int)) := by
  have M : most = 16777216 := rfl
  have hl := ok.l
  have mi := fun {t} h => minus_p ok hfu (t := t) h
  have fl := fun {t} h => floor_p ok hfu hr (t := t) h
  have pl := fun {x y} hx hy => plus_p ok hfu (x := x) (y := y) hx hy
  have go : (f_p_piece_lengths fu [.tuple (ts.map (pr b)), .int room]).sat (fun d => d = .list ((lns ts room).map .int)) fun _ _ => False := by
    refine run_sat rfl [.dat (.tuple (ts.map (pr b))), .dat (.int room), .un, .un, .un, .un, .un, .un] rfl ?_
    rw [s_p_piece_lengths]
    refine seqS1 [.dat (.tuple (ts.map (pr b))), .dat (.int room), .dat (.list (ts.map fun t => nm (qn b (df t)))), .un, .un, .un, .un, .un] ?_ ?_
    · refine sSet_mL (nLc_mapG (enc := pr b) (val := fun t => nm (qn b (df t))) rfl (fun t ht => ⟨[some (.tuple (ts.map (pr b))), some (.int room), none, none, none, none, some (nm (qn b t.1)), some (nm (qn b t.2))], rfl, ?_⟩) (by omega)) rfl
      have := mi ht
      simp [this]
    refine seqS1 [.dat (.tuple (ts.map (pr b))), .dat (.int room), .dat (.list (ts.map fun t => nm (qn b (df t)))), .dat (.tuple [.int 0, .int 1]), .un, .un, .un, .un] (by simp) ?_
    refine seqS (fun g => ∃ c4, g = [.dat (.tuple (ts.map (pr b))), .dat (.int room), .dat (.list (ts.map fun t => nm (qn b (df t)))), .dat (nm (qn b (sm ts))), c4, .un, .un, .un]) ?_ ?_
    · have e : mItems (mVar 2) (vd [.dat (.tuple (ts.map (pr b))), .dat (.int room), .dat (.list (ts.map fun t => nm (qn b (df t)))), .dat (.tuple [.int 0, .int 1]), .un, .un, .un, .un]) = .ok (ts.map fun t => nm (qn b (df t))) := rfl
      rw [osat_for, e, sat_ok]
      have z : PyData.tuple [.int 0, .int 1] = nm (qn b (sm [])) := by
        unfold qn sm
        rw [Rat.divInt_eq_div]
        have : (((([] : List (Int × Int)).map df).sum : Int) : Rat) / (b : Rat) = ((0 : Int) : Rat) := by
          show ((0 : Int) : Rat) / (b : Rat) = _
          have e0 : ((0 : Int) : Rat) = 0 := rfl
          rw [e0]
          grind
        rw [this, nm_int]
      rw [z]
      generalize PyData.tuple (ts.map (pr b)) = E at *
      generalize PyData.list (ts.map fun t => nm (qn b (df t))) = P at *
      obtain ⟨g', e2, _, c4, rfl⟩ := loopF_G (α := Int × Int) (enc := fun t => nm (qn b (df t))) (t := gN 4) (b := b_p_piece_lengths_1 fu) (fun ys g => (∀ t ∈ ys, t ∈ ts) ∧ ∃ c4, g = [.dat E, .dat (.int room), .dat P, .dat (nm (qn b (sm ys))), c4, .un, .un, .un]) (full := ts) (fun ys x zs g ef hg => by
        obtain ⟨h1, c4, rfl⟩ := hg
        have xm : x ∈ ts := by rw [ef]; simp
        have yl : ys.length ≤ 4 := by
          have := congrArg List.length ef
          rw [List.length_append] at this
          omega
        have s1 := sm_b ok h1 yl
        have s2 := df_b ok xm
        have ep := pl s1.2.1 (Nat.lt_trans s2.2 (by decide))
        have es : sm (ys ++ [x]) = sm ys + df x := by unfold sm; simp
        rw [← es] at ep
        refine ⟨_, [.dat E, .dat (.int room), .dat P, .dat (nm (qn b (sm (ys ++ [x])))), .dat (nm (qn b (df x))), .un, .un, .un], rfl, ?_, fun t ht => ?_, _, rfl⟩
        · generalize nm (qn b (sm (ys ++ [x]))) = R at *
          generalize nm (qn b (sm ys)) = R0 at *
          generalize nm (qn b (df x)) = R1 at *
          rw [b_p_piece_lengths_1]
          simp [ep]
        · rcases List.mem_append.mp ht with ht | ht
          · exact h1 t ht
          · rw [List.mem_singleton.mp ht]; exact xm) (xs := ts) [] (g := [.dat E, .dat (.int room), .dat P, .dat (nm (qn b (sm []))), .un, .un, .un, .un]) rfl ⟨all0, _, rfl⟩
      exact osat_nx_of e2 ⟨_, rfl⟩
    · rintro _ ⟨c4, rfl⟩
      refine seqS1 [.dat (.tuple (ts.map (pr b))), .dat (.int room), .dat (.list (ts.map fun t => nm (qn b (df t)))), .dat (nm (qn b (sm ts))), c4, .dat (.list ((lns0 ts room).map .int)), .un, .un] ?_ ?_
      · have dl : (ts.map fun t => nm (qn b (df t))).dropLast = ts.dropLast.map fun t => nm (qn b (df t)) := by rw [List.map_dropLast]
        have lv : (lns0 ts room).map PyData.int = ts.dropLast.map fun t => PyData.int (room * df t / sm ts) := by unfold lns0; rw [List.map_map]; rfl
        rw [lv]
        have hi : mItems (mSl (mVar 2) (mNoPart) (mPart (mUn fNeg (mC (.int 1))))) (vd [.dat (.tuple (ts.map (pr b))), .dat (.int room), .dat (.list (ts.map fun t => nm (qn b (df t)))), .dat (nm (qn b (sm ts))), c4, .un, .un, .un]) = .ok (ts.dropLast.map fun t => nm (qn b (df t))) := by
          have cl := cutLast (ts.map fun t => nm (qn b (df t)))
          rw [dl] at cl
          generalize ts.map (fun t => nm (qn b (df t))) = P at *
          generalize ts.dropLast.map (fun t => nm (qn b (df t))) = P2 at *
          show (mItems (mSl (mVar 2) (mNoPart) (mPart (mUn fNeg (mC (.int 1))))) [_, _, some (.list P), _, _, _, _, _]) = _
          simp [cl]
        refine sSet_mL (nLc_mapG (enc := fun t => nm (qn b (df t))) (val := fun t => .int (room * df t / sm ts)) hi (fun t ht => ?_) (by rw [List.length_dropLast]; omega)) rfl
        obtain ⟨d1, d2, e1, e2, e3⟩ := fl (List.dropLast_subset _ ht)
        refine ⟨[some (.tuple (ts.map (pr b))), some (.int room), some (.list (ts.map fun t => nm (qn b (df t)))), some (nm (qn b (sm ts))), some (nm (qn b (df t))), none, none, none], by cases c4 <;> rfl, ?_⟩
        generalize nm (qn b (df t)) = R1 at *
        generalize nm (qn b (sm ts)) = R0 at *
        generalize ts.map (fun t => nm (qn b (df t))) = P at *
        simp [e1, e2, e3]
      · have fs := fSum_ints (lns0 ts room)
        have ll : (lns0 ts room).length ≤ 4 := by unfold lns0; rw [List.length_map, List.length_dropLast]; omega
        have ll2 : ((lns0 ts room).map PyData.int).length ≤ 4 := by rw [List.length_map]; exact ll
        have e : (lns ts room).map PyData.int = (lns0 ts room).map PyData.int ++ [.int (room - (lns0 ts room).sum)] := by unfold lns; rw [List.map_append]; rfl
        rw [e]
        generalize (lns0 ts room).map PyData.int = L0 at *
        generalize (lns0 ts room).sum = S0 at *
        generalize ts.map (fun t => nm (qn b (df t))) = P at *
        generalize nm (qn b (sm ts)) = R0 at *
        simp [fs]
        omega
  obtain ⟨x, h1, rfl⟩ := go.eq
  exact h1
end
end
end K28
set_option Elab.async false
set_option linter.all false
set_option maxRecDepth 100000
set_option maxHeartbeats 4000000
namespace K28
open PySem MI Num Tx Fg Dr Ord Ax
noncomputable def lbs (fu : Nat) (b : Int) (ts : List (Int × Int)) : List (List Nat) := ts.flatMap fun t => [shw fu (qn b t.1), shw fu (qn b t.2)]
def pcs (b : Int) : Int → List ((Int × Int) × Int) → List MI.D
  | _, [] => []
  | z, t :: r => .tuple [nm (qn b t.1.1), nm (qn b t.1.2), .int z, .int (z + t.2)] :: pcs b (z + t.2 + 6) r
def pls : Int → List ((Int × Int) × Int) → List Int
  | _, [] => []
  | z, t :: r => z :: (z + t.2) :: pls (z + t.2 + 6) r
def bg (z : Int) : List ((Int × Int) × Int) → Int
  | [] => z
  | t :: r => bg (z + t.2 + 6) r
theorem bg_app : ∀ (ys : List ((Int × Int) × Int)) (x : (Int × Int) × Int) (z : Int), bg z (ys ++ [x]) = bg z ys + x.2 + 6
  | [], x, z => rfl
  | y :: ys, x, z => bg_app ys x (z + y.2 + 6)
theorem pcs_app (b : Int) : ∀ (ys : List ((Int × Int) × Int)) (x : (Int × Int) × Int) (z : Int), pcs b z (ys ++ [x]) = pcs b z ys ++ [.tuple [nm (qn b x.1.1), nm (qn b x.1.2), .int (bg z ys), .int (bg z ys + x.2)]]
  | [], x, z => rfl
  | y :: ys, x, z => congrArg (List.cons _) (pcs_app b ys x (z + y.2 + 6))
theorem pcs_len (b : Int) : ∀ (ys : List ((Int × Int) × Int)) (z : Int), (pcs b z ys).length = ys.length
  | [], z => rfl
  | y :: ys, z => congrArg Nat.succ (pcs_len b ys _)
theorem pls_app : ∀ (ys : List ((Int × Int) × Int)) (x : (Int × Int) × Int) (z : Int), pls z (ys ++ [x]) = pls z ys ++ [bg z ys, bg z ys + x.2]
  | [], x, z => rfl
  | y :: ys, x, z => congrArg (fun l => z :: (z + y.2) :: l) (pls_app ys x (z + y.2 + 6))
theorem pls_len : ∀ (ys : List ((Int × Int) × Int)) (z : Int), (pls z ys).length = 2 * ys.length
  | [], z => rfl
  | y :: ys, z => by
    show (pls _ ys).length + 1 + 1 = 2 * (ys.length + 1)
    rw [pls_len ys]
    omega
theorem lbs_len (fu : Nat) (b : Int) : ∀ ts : List (Int × Int), (lbs fu b ts).length = 2 * ts.length
  | [] => rfl
  | t :: ts => by
    show (lbs fu b ts).length + 1 + 1 = 2 * (ts.length + 1)
    rw [lbs_len fu b ts]
    omega
theorem lbs_app (fu : Nat) (b : Int) (ys : List (Int × Int)) (x : Int × Int) : lbs fu b (ys ++ [x]) = lbs fu b ys ++ [shw fu (qn b x.1), shw fu (qn b x.2)] := by
  unfold lbs
  rw [List.flatMap_append]
  simp
def zs (ts : List (Int × Int)) (room : Int) : List ((Int × Int) × Int) := ts.zip (lns ts room)
theorem lns_len {ts : List (Int × Int)} (h : ts ≠ []) (room : Int) : (lns ts room).length = ts.length := by
  unfold lns lns0
  rw [List.length_append, List.length_map, List.length_dropLast, List.length_singleton]
  have := List.length_pos_iff.mpr h
  omega
theorem zs_len {ts : List (Int × Int)} (h : ts ≠ []) (room : Int) : (zs ts room).length = ts.length := by
  unfold zs
  rw [List.length_zip, lns_len h, Nat.min_self]
def zd (b : Int) (t : (Int × Int) × Int) : MI.D := .tuple [pr b t.1, .int t.2]
theorem zip_enc (b : Int) : ∀ (ts : List (Int × Int)) (ls : List Int), zipD (ts.map (pr b)) (ls.map .int) = (ts.zip ls).map (zd b)
  | [], ls => by simp [zipD]
  | t :: ts, [] => by simp [zipD]
  | t :: ts, l :: ls => congrArg (List.cons _) (zip_enc b ts ls)
theorem zip_ticks : ∀ (ps : List Int) (ws : List (List Nat)), zipD (ps.map .int) (wsd ws) = ticks ps ws
  | [], ws => by cases ws <;> rfl
  | p :: ps, [] => by rfl
  | p :: ps, w :: ws => congrArg (List.cons _) (zip_ticks ps ws)
/-- whether it is told -/
def fits (m : Int) (g : Int) (lv : Bool) : Bool := !(decide (m < (if lv = true then 12 + 6 * g else 12)) || (lv && decide (10 < g)))
def wy : Bool → Str
  | true => "level"
  | false => "upright"
section
variable {ts : List (Int × Int)} {b : Int} (ok : Tp ts b)
include ok
theorem shw_p {fu : Nat} {x : Int} (h : x.natAbs < 2 ^ 60) : Pg.f_p_show_number fu [nm (qn b x)] = .ok (.str (S (shw fu (qn b x)))) ∧ (shw fu (qn b x)).length ≤ 1000 ∧ ∀ c ∈ shw fu (qn b x), c < 1114112 :=
  shw_ok fu (bd_mono (divInt_bd (n := 60) ok.b h (by decide)) (by decide))
theorem lbs_lw (fu : Nat) : ∀ w ∈ lbs fu b ts, w.length ≤ 1000 ∧ ∀ c ∈ w, c < 1114112 := by
  intro w hw
  unfold lbs at hw
  obtain ⟨t, ht, h⟩ := List.mem_flatMap.mp hw
  obtain ⟨_, h2, h3⟩ := ok.t t ht
  simp only [List.mem_cons, List.not_mem_nil, or_false] at h
  rcases h with rfl | rfl
  · exact (shw_p ok (fu := fu) h2).2
  · exact (shw_p ok (fu := fu) h3).2
end
end K28
set_option Elab.async false
set_option linter.all false
set_option maxRecDepth 100000
set_option maxHeartbeats 4000000
namespace K28
open PySem MI Num Tx Fg Dr Ord Ax
noncomputable def bT (fu : Nat) (b : Int) (ts : List (Int × Int)) (L room : Int) : T := .tup [.tup [.dat (.str "broken"), .lst ((pcs b 0 (zs ts room)).map T.dat), .dat (.int L)], .lst ((ticks (pls 0 (zs ts room)) (lbs fu b ts)).map T.dat)]
def gA (E : MI.D) (L : Int) (W : Str) (room : Int) (c4 c5 c6 c7 c8 c9 c10 c11 c12 c13 c14 c15 : Cl) : Ct := [.t (.dat E), .t (.dat (.int L)), .t (.dat (.str W)), .t (.dat (.int room)), c4, c5, c6, c7, c8, c9, c10, c11, c12, c13, c14, c15]
section
variable {ts : List (Int × Int)} {b : Int} (ok : Tp ts b) {fu : Nat} (hfu : FU ≤ fu)
include ok
theorem labels_loop {E : MI.D} {L room : Int} {W : Str} : ∃ c5 : Cl, Fr c5 ∧ loopT (uN 5) (b_p_broken_axis_1 fu) (ts.map (pr b)) (gA E L W room (.t (.lst [])) .un .un .un .un .un .un .un .un .un .un .un) = .nx (gA E L W room (.t (.lst ((wsd (lbs fu b ts)).map T.dat))) c5 .un .un .un .un .un .un .un .un .un .un) := by
  have M : most = 16777216 := rfl
  have hl := ok.l
  obtain ⟨g', e, c5, f5, rfl⟩ := loopT_G (α := Int × Int) (enc := pr b) (t := uN 5) (b := b_p_broken_axis_1 fu) (fun ys g => ∃ c5 : Cl, Fr c5 ∧ g = gA E L W room (.t (.lst ((wsd (lbs fu b ys)).map T.dat))) c5 .un .un .un .un .un .un .un .un .un .un) (full := ts) (fun ys x zs g ef hg => by
    obtain ⟨c5, f5, rfl⟩ := hg
    have xm : x ∈ ts := by rw [ef]; simp
    have yl : ys.length ≤ 4 := by
      have := congrArg List.length ef
      rw [List.length_append] at this
      omega
    obtain ⟨_, h2, h3⟩ := ok.t x xm
    have e1 := (shw_p ok (fu := fu) h2).1
    have e2 := (shw_p ok (fu := fu) h3).1
    have ll : ((wsd (lbs fu b ys)).map T.dat).length ≤ 8 := by
      unfold wsd
      rw [List.length_map, List.length_map, lbs_len]
      omega
    have ea : (wsd (lbs fu b (ys ++ [x]))).map T.dat = (wsd (lbs fu b ys)).map T.dat ++ [.dat (.str (S (shw fu (qn b x.1)))), .dat (.str (S (shw fu (qn b x.2))))] := by
      rw [lbs_app]
      unfold wsd
      rw [List.map_append, List.map_append]
      rfl
    refine ⟨gA E L W room (.t (.lst ((wsd (lbs fu b ys)).map T.dat))) (.t (.dat (pr b x))) .un .un .un .un .un .un .un .un .un .un, gA E L W room (.t (.lst ((wsd (lbs fu b (ys ++ [x]))).map T.dat))) (.t (.dat (pr b x))) .un .un .un .un .un .un .un .un .un .un, ?_, ?_, _, fr_t _, rfl⟩
    · generalize (wsd (lbs fu b ys)).map T.dat = WS at *
      unfold gA
      simp [f5]
    · rw [ea]
      generalize (wsd (lbs fu b ys)).map T.dat = WS at *
      unfold pr
      generalize nm (qn b x.1) = N1 at *
      generalize nm (qn b x.2) = N2 at *
      generalize S (shw fu (qn b x.1)) = S1 at *
      generalize S (shw fu (qn b x.2)) = S2 at *
      obtain ⟨g, h1, rfl⟩ := nxT_of (I := fun g => g = gA E L W room (.t (.lst (WS ++ [.dat (.str S1), .dat (.str S2)]))) (.t (.dat (.tuple [N1, N2]))) .un .un .un .un .un .un .un .un .un .un) (show (b_p_broken_axis_1 fu (gA E L W room (.t (.lst WS)) (.t (.dat (.tuple [N1, N2]))) .un .un .un .un .un .un .un .un .un .un)).sat _ from by
        rw [b_p_broken_axis_1]
        unfold gA
        simp [e1, e2]
        omega)
      exact h1) (xs := ts) [] (g := gA E L W room (.t (.lst [])) .un .un .un .un .un .un .un .un .un .un .un) rfl ⟨.un, fr_un, rfl⟩
  exact ⟨c5, f5, e⟩
theorem pieces_loop {E : MI.D} {L room : Int} {W : Str} {LS R6 L7 : MI.D} {c5 : Cl} (f5 : Fr c5) {zs : List ((Int × Int) × Int)} (zl : zs.length ≤ 4) : ∃ d5 c9 c10 : Cl, Fr d5 ∧ Fr c9 ∧ Fr c10 ∧ loopT (uT (usCons (uN 5) (usCons (uN 10) (usNil)))) (b_p_broken_axis_2 fu) (zs.map (zd b)) (gA E L W room (.t (.dat LS)) c5 (.t (.dat R6)) (.t (.dat L7)) (.t (.lst [])) (.t (.dat (.int 0))) .un .un .un .un .un .un) = .nx (gA E L W room (.t (.dat LS)) d5 (.t (.dat R6)) (.t (.dat L7)) (.t (.lst ((pcs b 0 zs).map T.dat))) c9 c10 .un .un .un .un .un) := by
  have M : most = 16777216 := rfl
  obtain ⟨g', e, c5, c10, f5, f10, rfl⟩ := loopT_G (α := (Int × Int) × Int) (enc := zd b) (t := uT (usCons (uN 5) (usCons (uN 10) (usNil)))) (b := b_p_broken_axis_2 fu) (fun ys g => ∃ c5 c10 : Cl, Fr c5 ∧ Fr c10 ∧ g = gA E L W room (.t (.dat LS)) c5 (.t (.dat R6)) (.t (.dat L7)) (.t (.lst ((pcs b 0 ys).map T.dat))) (.t (.dat (.int (bg 0 ys)))) c10 .un .un .un .un .un) (full := zs) (fun ys x _ g ef hg => by
    obtain ⟨c5, c10, f5, f10, rfl⟩ := hg
    have yl : ys.length ≤ 4 := by
      have := congrArg List.length ef
      rw [List.length_append] at this
      omega
    have ll : ((pcs b 0 ys).map T.dat).length ≤ 4 := by
      rw [List.length_map, pcs_len]
      omega
    have ea : (pcs b 0 (ys ++ [x])).map T.dat = (pcs b 0 ys).map T.dat ++ [.dat (.tuple [nm (qn b x.1.1), nm (qn b x.1.2), .int (bg 0 ys), .int (bg 0 ys + x.2)])] := by
      rw [pcs_app, List.map_append]
      rfl
    rw [ea, bg_app]
    refine ⟨gA E L W room (.t (.dat LS)) (.t (.dat (pr b x.1))) (.t (.dat R6)) (.t (.dat L7)) (.t (.lst ((pcs b 0 ys).map T.dat))) (.t (.dat (.int (bg 0 ys)))) (.t (.dat (.int x.2))) .un .un .un .un .un, _, ?_, ?_, .t (.dat (pr b x.1)), .t (.dat (.int x.2)), fr_t _, fr_t _, rfl⟩
    · generalize (pcs b 0 ys).map T.dat = WS at *
      generalize bg 0 ys = B0 at *
      unfold gA zd
      generalize pr b x.1 = PR at *
      simp [f5, f10]
    · generalize (pcs b 0 ys).map T.dat = WS at *
      generalize bg 0 ys = B0 at *
      unfold pr
      generalize nm (qn b x.1.1) = N1 at *
      generalize nm (qn b x.1.2) = N2 at *
      generalize x.2 = X2 at *
      obtain ⟨g, h1, rfl⟩ := nxT_of (I := fun g => g = gA E L W room (.t (.dat LS)) (.t (.dat (.tuple [N1, N2]))) (.t (.dat R6)) (.t (.dat L7)) (.t (.lst (WS ++ [.dat (.tuple [N1, N2, .int B0, .int (B0 + X2)])]))) (.t (.dat (.int (B0 + X2 + 6)))) (.t (.dat (.int X2))) .un .un .un .un .un) (show (b_p_broken_axis_2 fu (gA E L W room (.t (.dat LS)) (.t (.dat (.tuple [N1, N2]))) (.t (.dat R6)) (.t (.dat L7)) (.t (.lst WS)) (.t (.dat (.int B0))) (.t (.dat (.int X2))) .un .un .un .un .un)).sat _ from by
        rw [b_p_broken_axis_2]
        unfold gA
        simp
        omega)
      exact h1) (xs := zs) [] (g := gA E L W room (.t (.dat LS)) c5 (.t (.dat R6)) (.t (.dat L7)) (.t (.lst [])) (.t (.dat (.int 0))) .un .un .un .un .un .un) rfl ⟨c5, .un, f5, fr_un, rfl⟩
  exact ⟨c5, _, c10, f5, fr_t _, f10, e⟩
/-- what is walked for the places -/
theorem pls_of : ∀ (zs : List ((Int × Int) × Int)) (z : Int) (k : Nat) (d : MI.D), (pcs b z zs)[k]? = some d → ∃ (x : (Int × Int) × Int) (s : Int), d = .tuple [nm (qn b x.1.1), nm (qn b x.1.2), .int s, .int (s + x.2)] ∧ pls z (zs.take (k + 1)) = pls z (zs.take k) ++ [s, s + x.2]
  | [], z, k, d, h => by simp [pcs] at h
  | y :: ys, z, 0, d, h => by
    cases h
    exact ⟨y, z, rfl, rfl⟩
  | y :: ys, z, k + 1, d, h => by
    obtain ⟨x, s, h1, h2⟩ := pls_of ys _ k d h
    exact ⟨x, s, h1, congrArg (fun l => z :: (z + y.2) :: l) h2⟩
theorem places_loop {E : MI.D} {L room : Int} {W : Str} {LS R6 L7 : MI.D} {c5 c9 c10 : Cl} (f5 : Fr c5) (f9 : Fr c9) (f10 : Fr c10) {zs : List ((Int × Int) × Int)} (zl : zs.length ≤ 4) {p : PoT}
    (q : ∀ c12 c13 c14 c15 : Cl, Fr c12 → Fr c13 → Fr c14 → Fr c15 → p.nx (gA E L W room (.t (.dat LS)) c5 (.t (.dat R6)) (.t (.dat L7)) (.t (.lst ((pcs b 0 zs).map T.dat))) c9 c10 (.t (.lst (((pls 0 zs).map PyData.int).map T.dat))) c12 c13 c14 c15)) :
    (tForN 8 (uT (usCons (uN 12) (usCons (uN 13) (usCons (uN 14) (usCons (uN 15) (usNil)))))) (b_p_broken_axis_3 fu) (gA E L W room (.t (.dat LS)) c5 (.t (.dat R6)) (.t (.dat L7)) (.t (.lst ((pcs b 0 zs).map T.dat))) c9 c10 (.t (.lst [])) .un .un .un .un)).sat p := by
  have M : most = 16777216 := rfl
  have po := pls_of ok zs 0
  have pl := pcs_len b zs 0
  have kl := fun k => pls_len (zs.take k) 0
  generalize pcs b 0 zs = PC at *
  apply Exists.elim (⟨_, fun _ _ => Iff.rfl⟩ : ∃ I : Nat → Ct → Prop, ∀ k g, I k g ↔ ∃ c12 c13 c14 c15 : Cl, Fr c12 ∧ Fr c13 ∧ Fr c14 ∧ Fr c15 ∧ g = gA E L W room (.t (.dat LS)) c5 (.t (.dat R6)) (.t (.dat L7)) (.b (.lst (PC.map T.dat))) c9 c10 (.t (.lst (((pls 0 (zs.take k)).map PyData.int).map T.dat))) c12 c13 c14 c15)
  intro I hI
  refine forN_satT (ds := PC) rfl I ?_ ?_ ?_ ?_
  · intro k g hg
    obtain ⟨c12, c13, c14, c15, _, _, _, _, rfl⟩ := (hI _ _).mp hg
    rfl
  · exact (hI _ _).mpr ⟨.un, .un, .un, .un, fr_un, fr_un, fr_un, fr_un, rfl⟩
  · intro k d g hd hg
    apply Exists.elim ((hI _ _).mp hg)
    rintro c12 ⟨c13, c14, c15, f12, f13, f14, f15, rfl⟩
    apply Exists.elim (po k d hd)
    rintro x ⟨s, rfl, ep⟩
    have hk : k < zs.length := by rw [← pl]; exact (List.getElem?_eq_some_iff.mp hd).1
    have ll : (((pls 0 (zs.take k)).map PyData.int).map T.dat).length ≤ 8 := by
      rw [List.length_map, List.length_map, kl, List.length_take]
      omega
    have q2 := fun c12 c13 c14 c15 f12 f13 f14 f15 => (hI (k + 1) _).mpr ⟨c12, c13, c14, c15, f12, f13, f14, f15, rfl⟩
    rw [ep] at q2
    have ea : (((pls 0 (zs.take k)) ++ [s, s + x.2]).map PyData.int).map T.dat = ((pls 0 (zs.take k)).map PyData.int).map T.dat ++ [.dat (.int s), .dat (.int (s + x.2))] := by
      rw [List.map_append, List.map_append]
      rfl
    rw [ea] at q2
    clear po ep ea hI hg hd
    generalize ((pls 0 (zs.take k)).map PyData.int).map T.dat = WS at *
    generalize PC.map T.dat = PT at *
    generalize nm (qn b x.1.1) = N1 at *
    generalize nm (qn b x.1.2) = N2 at *
    generalize x.2 = X2 at *
    have q2 := q2 (.t (.dat N1)) (.t (.dat N2)) (.t (.dat (.int s))) (.t (.dat (.int (s + X2)))) (fr_t _) (fr_t _) (fr_t _) (fr_t _)
    rw [b_p_broken_axis_3]
    unfold gA at q2 ⊢
    simp [f5, f9, f10, f12, f13, f14, f15]
    exact ⟨by omega, q2⟩
  · intro g hg
    apply Exists.elim ((hI _ _).mp hg)
    rintro c12 ⟨c13, c14, c15, f12, f13, f14, f15, rfl⟩
    rw [pl, List.take_length]
    exact q c12 c13 c14 c15 f12 f13 f14 f15
end
end K28
set_option Elab.async false
set_option linter.all false
set_option maxRecDepth 100000
set_option maxHeartbeats 4000000
namespace K28
open PySem MI Num Tx Fg Dr Ord Ax
theorem nLz_eq {δ : Vw} {i j : Nat} {ds es zs : List MI.D} (z : zipD ds es = zs) (h1 : δ[i]? = some (some (.list ds))) (h2 : δ[j]? = some (some (.list es))) (l : ds.length < most) : nLz (mCons (mVar i) (mCons (mVar j) mNil)) δ = .ok zs := by
  unfold nLz mCons mVar
  rw [h1, h2]
  show (if ds.length < most then R.ok (zipD ds es) else .bad) = _
  rw [if_pos l, z]
section
variable {ts : List (Int × Int)} {b : Int} (ok : Tp ts b) {fu : Nat} (hfu : FU ≤ fu)
include ok hfu
theorem broken_axis {L : Int} (hL : 24 ≤ L ∧ L ≤ 2000) (lv : Bool) {room : Int} (hr : room = L - 6 * (((ts.length : Nat) : Int) - 1)) {m : Int} (hm : fMinL [.list ((lns ts room).map .int)] = some (.int m)) {Q : T → Ct → Prop} {E : Str → Option MI.D → Ct → Prop}
    (q1 : fits m (lg (lbs fu b ts)) lv = true → Q (bT fu b ts L room) [.un, .un, .un]) (q2 : fits m (lg (lbs fu b ts)) lv = false → E "NoSpace" none [.un, .un, .un]) :
    (f_p_broken_axis fu [(false, .dat (.tuple (ts.map (pr b)))), (false, .dat (.int L)), (false, .dat (.str (wy lv)))]).sat Q E := by
  have M : most = 16777216 := rfl
  have hl := ok.l
  have tn : ts ≠ [] := fun e => by rw [e] at hl; simp at hl
  have lw := lbs_lw ok fu
  have wd := widest fu (ls := lbs fu b ts) (fun w hw => (lw w hw).1) (by rw [lbs_len]; omega)
  have pl := piece_lengths ok hfu (room := room) (by omega)
  have ll := labels_loop ok (fu := fu) (E := .tuple (ts.map (pr b))) (L := L) (room := room) (W := wy lv)
  have pil := fun {LS R6 L7 c5} f5 => pieces_loop ok (fu := fu) (E := .tuple (ts.map (pr b))) (L := L) (room := room) (W := wy lv) (LS := LS) (R6 := R6) (L7 := L7) (c5 := c5) f5 (zs := zs ts room) (by rw [zs_len tn]; omega)
  have pll := fun {LS R6 L7 c5 c9 c10} f5 f9 f10 {p} => places_loop ok (fu := fu) (E := .tuple (ts.map (pr b))) (L := L) (room := room) (W := wy lv) (LS := LS) (R6 := R6) (L7 := L7) (c5 := c5) (c9 := c9) (c10 := c10) f5 f9 f10 (zs := zs ts room) (by rw [zs_len tn]; omega) (p := p)
  have ze := zip_enc b ts (lns ts room)
  have zt := zip_ticks (pls 0 (zs ts room)) (lbs fu b ts)
  have zlen : ((pls 0 (zs ts room)).map PyData.int).length < most := by rw [List.length_map, pls_len, zs_len tn]; omega
  have tl : ((ticks (pls 0 (zs ts room)) (lbs fu b ts))).length ≤ most := by
    rw [← zt, zipD_len]
    have := Nat.min_le_left ((pls 0 (zs ts room)).map PyData.int).length (wsd (lbs fu b ts)).length
    omega
  have fls : (ticks (pls 0 (zs ts room)) (lbs fu b ts)).all flat = true := by
    rw [List.all_eq_true]
    intro d hd
    obtain ⟨p, w, rfl⟩ := ticks_mem hd
    rfl
  have le : fLen [.tuple (ts.map (pr b))] = some (.int ((ts.length : Nat) : Int)) := by
    show some (PyData.int ((ts.map (pr b)).length : Nat)) = _
    rw [List.length_map]
  have mu : fMul (.int 6) (.int (((ts.length : Nat) : Int) - 1)) = some (.int (6 * (((ts.length : Nat) : Int) - 1))) := fMul_ii okM
  have lev : (wy lv = "level") = (lv = true) := by
    cases lv with
    | true => simp [wy]
    | false =>
      have : ¬ ("upright" : Str) = "level" := by decide +kernel
      simp [wy, this]
  have lfz := fzL_dats (wsd (lbs fu b ts))
  have pfz := fzL_dats ((pls 0 (zs ts room)).map PyData.int)
  unfold bT at q1
  generalize hg : lg (lbs fu b ts) = g at *
  generalize ((ts.length : Nat) : Int) = N at *
  refine runT_sat rfl [.t (.dat (.tuple (ts.map (pr b)))), .t (.dat (.int L)), .t (.dat (.str (wy lv))), .un, .un, .un, .un, .un, .un, .un, .un, .un, .un, .un, .un, .un] rfl ?_
  rw [s_p_broken_axis]
  refine seqT1 (gA (.tuple (ts.map (pr b))) L (wy lv) room .un .un .un .un .un .un .un .un .un .un .un .un) ?_ ?_
  · rw [hr]
    generalize ts.map (pr b) = TS at *
    unfold gA
    simp [le, mu]
  refine seqT1 (gA (.tuple (ts.map (pr b))) L (wy lv) room (.t (.lst [])) .un .un .un .un .un .un .un .un .un .un .un) ?_ ?_
  · generalize ts.map (pr b) = TS at *
    unfold gA
    simp
  apply Exists.elim ll
  rintro c5 ⟨f5, e1⟩
  refine seqT1 (gA (.tuple (ts.map (pr b))) L (wy lv) room (.t (.lst ((wsd (lbs fu b ts)).map T.dat))) c5 .un .un .un .un .un .un .un .un .un .un) ?_ ?_
  · rw [tsat_for]
    exact tsat_nx_of e1 rfl
  refine frzT (gA (.tuple (ts.map (pr b))) L (wy lv) room (.t (.dat (.list (wsd (lbs fu b ts))))) c5 .un .un .un .un .un .un .un .un .un .un) (.lst ((wsd (lbs fu b ts)).map T.dat)) rfl ?_ ?_
  · have fzw : fz (.lst ((wsd (lbs fu b ts)).map T.dat)) = .list (wsd (lbs fu b ts)) := by rw [fz_lst, lfz]
    generalize ts.map (pr b) = TS at *
    generalize (wsd (lbs fu b ts)).map T.dat = WT at *
    unfold gA
    simp [f5, ← fzw]
  refine seqT1 (gA (.tuple (ts.map (pr b))) L (wy lv) room (.t (.dat (.list (wsd (lbs fu b ts))))) c5 (.t (.dat (.int 12))) .un .un .un .un .un .un .un .un .un) ?_ ?_
  · generalize ts.map (pr b) = TS at *
    generalize wsd (lbs fu b ts) = WD at *
    unfold gA
    simp [f5]
  apply Exists.elim (⟨_, rfl⟩ : ∃ R6 : Int, R6 = if lv = true then 12 + 6 * g else 12)
  intro R6 hR6
  refine seqT1 (gA (.tuple (ts.map (pr b))) L (wy lv) room (.t (.dat (.list (wsd (lbs fu b ts))))) c5 (.t (.dat (.int R6))) .un .un .un .un .un .un .un .un .un) ?_ ?_
  · generalize ts.map (pr b) = TS at *
    generalize wsd (lbs fu b ts) = WD at *
    generalize wy lv = W at *
    refine ifT (lv = true) ?_ (fun h => ?_) (fun h => ?_)
    · unfold gA
      simp [lev]
    · rw [hR6, if_pos h]
      unfold gA
      simp [f5, wd]
    · rw [hR6, if_neg h]
      simp
  refine seqT1 (gA (.tuple (ts.map (pr b))) L (wy lv) room (.t (.dat (.list (wsd (lbs fu b ts))))) c5 (.t (.dat (.int R6))) (.t (.dat (.list ((lns ts room).map .int)))) .un .un .un .un .un .un .un .un) ?_ ?_
  · generalize ts.map (pr b) = TS at *
    generalize wsd (lbs fu b ts) = WD at *
    generalize (lns ts room).map PyData.int = LN at *
    unfold gA
    simp [f5, pl]
  refine ifRT (fits m g lv = false) ?_ (fun h => ?_) (fun h => ?_)
  · have ef : fits m g lv = !(decide (m < R6) || (lv && decide (10 < g))) := by rw [hR6]; rfl
    have g60 : (60 < 6 * g) = (10 < g) := propext ⟨fun h => by omega, fun h => by omega⟩
    rw [ef]
    generalize ts.map (pr b) = TS at *
    generalize wsd (lbs fu b ts) = WD at *
    generalize (lns ts room).map PyData.int = LN at *
    generalize wy lv = W at *
    unfold gA
    cases lv
    · simp [hm, lev]
    · simp [hm, lev, wd]
      by_cases c1 : R6 ≤ m
      · simp [c1, g60]
        exact fun h => .inl h
      · simp [c1]
        exact fun h => .inl h
  · generalize ts.map (pr b) = TS at *
    generalize wsd (lbs fu b ts) = WD at *
    generalize (lns ts room).map PyData.int = LN at *
    unfold gA
    simp
    exact q2 h
  have q1 := q1 (by simpa using h)
  refine seqT1 (gA (.tuple (ts.map (pr b))) L (wy lv) room (.t (.dat (.list (wsd (lbs fu b ts))))) c5 (.t (.dat (.int R6))) (.t (.dat (.list ((lns ts room).map .int)))) (.t (.lst [])) .un .un .un .un .un .un .un) ?_ ?_
  · generalize ts.map (pr b) = TS at *
    generalize wsd (lbs fu b ts) = WD at *
    generalize (lns ts room).map PyData.int = LN at *
    unfold gA
    simp [f5]
  refine seqT1 (gA (.tuple (ts.map (pr b))) L (wy lv) room (.t (.dat (.list (wsd (lbs fu b ts))))) c5 (.t (.dat (.int R6))) (.t (.dat (.list ((lns ts room).map .int)))) (.t (.lst [])) (.t (.dat (.int 0))) .un .un .un .un .un .un) ?_ ?_
  · generalize ts.map (pr b) = TS at *
    generalize wsd (lbs fu b ts) = WD at *
    generalize (lns ts room).map PyData.int = LN at *
    unfold gA
    simp [f5]
  apply Exists.elim (pil (LS := .list (wsd (lbs fu b ts))) (R6 := .int R6) (L7 := .list ((lns ts room).map .int)) f5)
  rintro d5 ⟨c9, c10, f5', f9, f10, e2⟩
  refine seqT1 (gA (.tuple (ts.map (pr b))) L (wy lv) room (.t (.dat (.list (wsd (lbs fu b ts))))) d5 (.t (.dat (.int R6))) (.t (.dat (.list ((lns ts room).map .int)))) (.t (.lst ((pcs b 0 (zs ts room)).map T.dat))) c9 c10 .un .un .un .un .un) ?_ ?_
  · have ez : xiP (mRng fZipM (mCons (mVar 0) (mCons (mVar 7) (mNil)))) (gA (.tuple (ts.map (pr b))) L (wy lv) room (.t (.dat (.list (wsd (lbs fu b ts))))) c5 (.t (.dat (.int R6))) (.t (.dat (.list ((lns ts room).map .int)))) (.t (.lst [])) (.t (.dat (.int 0))) .un .un .un .un .un .un) = .ok ((zs ts room).map (zd b)) (gA (.tuple (ts.map (pr b))) L (wy lv) room (.t (.dat (.list (wsd (lbs fu b ts))))) c5 (.t (.dat (.int R6))) (.t (.dat (.list ((lns ts room).map .int)))) (.t (.lst [])) (.t (.dat (.int 0))) .un .un .un .un .un .un) := by
      rw [show (zs ts room).map (zd b) = zipD (ts.map (pr b)) ((lns ts room).map PyData.int) from ze.symm]
      rfl
    rw [tsat_for, ez, gsat_ok]
    exact tsat_nx_of e2 rfl
  clear e2
  refine seqT1 (gA (.tuple (ts.map (pr b))) L (wy lv) room (.t (.dat (.list (wsd (lbs fu b ts))))) d5 (.t (.dat (.int R6))) (.t (.dat (.list ((lns ts room).map .int)))) (.t (.lst ((pcs b 0 (zs ts room)).map T.dat))) c9 c10 (.t (.lst [])) .un .un .un .un) ?_ ?_
  · generalize ts.map (pr b) = TS at *
    generalize wsd (lbs fu b ts) = WD at *
    generalize (lns ts room).map PyData.int = LN at *
    generalize (pcs b 0 (zs ts room)).map T.dat = PC at *
    unfold gA
    simp [f5', f9, f10]
  rw [tsat_seq]
  refine pll f5' f9 f10 fun c12 c13 c14 c15 f12 f13 f14 f15 => ?_
  have pz : fz (.lst (((pls 0 (zs ts room)).map PyData.int).map T.dat)) = .list ((pls 0 (zs ts room)).map .int) := by rw [fz_lst, pfz]
  refine frzT (gA (.tuple (ts.map (pr b))) L (wy lv) room (.t (.dat (.list (wsd (lbs fu b ts))))) d5 (.t (.dat (.int R6))) (.t (.dat (.list ((lns ts room).map .int)))) (.t (.lst ((pcs b 0 (zs ts room)).map T.dat))) c9 c10 (.t (.dat (.list ((pls 0 (zs ts room)).map .int)))) c12 c13 c14 c15) (.lst (((pls 0 (zs ts room)).map PyData.int).map T.dat)) rfl ?_ ?_
  · generalize ts.map (pr b) = TS at *
    generalize wsd (lbs fu b ts) = WD at *
    generalize (lns ts room).map PyData.int = LN at *
    generalize (pcs b 0 (zs ts room)).map T.dat = PC at *
    generalize ((pls 0 (zs ts room)).map PyData.int).map T.dat = PT at *
    unfold gA
    simp [f5', f9, f10, f12, f13, f14, f15, ← pz]
  clear pll pil pl ll ze
  generalize ticks (pls 0 (zs ts room)) (lbs fu b ts) = TK at *
  generalize ts.map (pr b) = TS at *
  generalize wsd (lbs fu b ts) = WD at *
  generalize (lns ts room).map PyData.int = LN at *
  generalize (pcs b 0 (zs ts room)).map T.dat = PC at *
  generalize (pls 0 (zs ts room)).map PyData.int = PL at *
  have en := fun (δ : Vw) h1 h2 => nLz_eq (δ := δ) (i := 11) (j := 4) zt h1 h2 zlen
  unfold gA
  simp [f5', f9, f10, f12, f13, f14, f15, en, fls]
  exact ⟨List.all_eq_true.mp fls, q1⟩
end
end K28
set_option Elab.async false
set_option linter.all false
set_option maxRecDepth 100000
set_option maxHeartbeats 4000000
namespace Ax
open PySem MI Num Tx Fg Cal Dr Ord
/-- how what was told is changed -/
def sSpoil : ST := tSeq (tMut 7 (pIx 7 (pNm 7) (mC (.int 1))) uApp (mCons (mDs dTup (mCons (mVar 2) (mCons (mC (.str "more")) (mNil)))) (mNil))) (tIf (xTP (mTru (mIsi "list" (mBin fIx (mBin fIx (mVar 7) (mC (.int 0))) (mC (.int 1)))))) (tMut 7 (pIx 7 (pIx 7 (pNm 7) (mC (.int 0))) (mC (.int 1))) uApp (mCons (mC (.str "more")) (mNil))) (tNop))
structure AxG (t : T) : Prop where
  e : ∃ sc ps ls, fz t = .tuple [sc, .list (ticks ps ls)]
  s : Sh 5 (fz t)
  c : ∀ (d0 d1 d3 d4 d5 d6 : MI.D) (L : Int), ∃ t', sSpoil [.t (.dat d0), .t (.dat d1), .t (.dat (.int L)), .t (.dat d3), .t (.dat d4), .t (.dat d5), .t (.dat d6), .t t] = .nx [.t (.dat d0), .t (.dat d1), .t (.dat (.int L)), .t (.dat d3), .t (.dat d4), .t (.dat d5), .t (.dat d6), .t t']
theorem right_okG {fu : Nat} {A : Us → RF} {wish cells : MI.D} {cs : List MI.D} (hc : cells = .list cs) (sh : Sh 5 cells) {L : Int} {way : Str} {n : Bool} {r : Option T} (h : A (ags wish cells L way n) = .ok (oT r) un5) (ht : ∀ t, r = some t → AxG t) {Q : T → Ct → Prop} {E : Str → Option MI.D → Ct → Prop} (q : Q (.dat (.bool true)) [.un, .un, .un, .un, .un, .un]) :
    (right fu A (ags wish cells L way n ++ [(false, .dat (due r))])).sat Q E := by
  have lf : fListOf [cells] = some cells := by rw [hc]; rfl
  have nc := ne_self sh (by decide)
  have hs : sRight fu A = tSeq (tSet 6 (xP (mDs fListOf (mCons (mVar 1) (mNil))))) (tSeq (tSet 7 (xFn A 5 [] (rVal (xP (mVar 0)) (rVal (xP (mVar 6)) (rVal (xP (mVar 2)) (rVal (xP (mVar 3)) (rVal (xP (mVar 4)) (rNil)))))))) (tSeq (tIf (xTP (mOrT (mNot (mTru (mCall 2 (Pg.f_ax_is_axis fu) [] (mCons (mVar 7) (mCons (mVar 5) (mNil)))))) (mTru (mBin fNe (mVar 6) (mVar 1))))) (tRet (xP (mC (.bool false)))) (tNop)) (tSeq (tIf (xTP (mTru (mBin fIsN (mVar 5) (mC .none)))) sSpoil (tNop)) (tRet (xCall 2 (Pg.f_ax_is_axis fu) [] (xCons (xFn A 5 [] (rVal (xP (mVar 0)) (rVal (xP (mVar 6)) (rVal (xP (mVar 2)) (rVal (xP (mVar 3)) (rVal (xP (mVar 4)) (rNil))))))) (xCons (xP (mVar 5)) (xNil)))))))) := rfl
  refine runT_sat rfl [.t (.dat wish), .t (.dat cells), .t (.dat (.int L)), .t (.dat (.str way)), .t (.dat (.bool n)), .t (.dat (due r)), .un, .un] rfl ?_
  rw [hs]
  have h' : A [(false, .dat wish), (false, .dat cells), (false, .dat (.int L)), (false, .dat (.str way)), (false, .dat (.bool n))] = .ok (oT r) un5 := h
  clear hs h
  cases r with
  | none =>
    have no := none_ok fu
    generalize sSpoil = SP at *
    simp [lf, ags, h', oT, due, un5, no, nc]
    exact q
  | some t =>
    obtain ⟨⟨sc, ps, ls, e⟩, st, ch⟩ := ht t rfl
    rw [e] at st
    have ok := tick_ok fu sc ps ls st
    have nn : fIsN (.tuple [sc, .list (ticks ps ls)]) .none = some (.bool true) := rfl
    simp only [due, oT, e] at h' ⊢
    generalize PyData.tuple [sc, .list (ticks ps ls)] = D at *
    obtain ⟨t', ct⟩ := ch wish cells (.str way) (.bool n) D cells L
    generalize sSpoil = SP at *
    simp [-fIsN_n, lf, ags, h', un5, e, ok, nc, nn, ct]
    exact q
theorem axG_s {a x : MI.D} {r : List MI.D} {ps : List Int} {ls : List (List Nat)} (hx : isT "list" x = some false) (hs : Sh 5 (fz (.tup [.dat (.tuple (a :: x :: r)), .lst ((ticks ps ls).map T.dat)]))) (tl : (ticks ps ls).length ≤ 10000) : AxG (.tup [.dat (.tuple (a :: x :: r)), .lst ((ticks ps ls).map T.dat)]) := by
  refine ⟨⟨.tuple (a :: x :: r), ps, ls, ?_⟩, hs, fun d0 d1 d3 d4 d5 d6 L => ?_⟩
  · show PyData.tuple [_, .list (fzL _)] = _
    rw [fzL_dats]
    rfl
  · have bl : (ticks ps ls).length < 16777216 := by omega
    generalize ticks ps ls = TK at *
    have e1 : tMut 7 (pIx 7 (pNm 7) (mC (.int 1))) uApp (mCons (mDs dTup (mCons (mVar 2) (mCons (mC (.str "more")) (mNil)))) (mNil)) [.t (.dat d0), .t (.dat d1), .t (.dat (.int L)), .t (.dat d3), .t (.dat d4), .t (.dat d5), .t (.dat d6), .t (.tup [.dat (.tuple (a :: x :: r)), .lst (TK.map T.dat)])] = .nx [.t (.dat d0), .t (.dat d1), .t (.dat (.int L)), .t (.dat d3), .t (.dat d4), .t (.dat d5), .t (.dat d6), .t (.tup [.dat (.tuple (a :: x :: r)), .lst (TK.map T.dat ++ [.dat (.tuple [.int L, .str "more"])])])] := by
      simp [tMut, pIx, pNm, locU, locS, nt, kidsT, uApp, bl, locT, putL, setT, repl, nm_t]
    refine ⟨.tup [.dat (.tuple (a :: x :: r)), .lst (TK.map T.dat ++ [.dat (.tuple [.int L, .str "more"])])], ?_⟩
    generalize TK.map T.dat ++ [.dat (.tuple [.int L, .str "more"])] = TK2 at *
    have i1 : ∀ z, fIx (.tuple [.tuple (a :: x :: r), z]) (.int 0) = some (.tuple (a :: x :: r)) := fun z => fIx_t0 _ _
    have i2 : fIx (.tuple (a :: x :: r)) (.int 1) = some x := fIx_t1 _ _ _
    unfold sSpoil tSeq
    rw [e1]
    dsimp only
    have hz : fz (.tup [.dat (.tuple (a :: x :: r)), .lst TK2]) = .tuple [.tuple (a :: x :: r), .list (fzL TK2)] := rfl
    simp [hz, i1, i2, hx]
theorem axG_b {a l : MI.D} {pc : List MI.D} {ps : List Int} {ls : List (List Nat)} (hs : Sh 5 (.tuple [.tuple [a, .list pc, l], .list (ticks ps ls)])) (pl : pc.length ≤ 10000) (tl : (ticks ps ls).length ≤ 10000) : AxG (.tup [.tup [.dat a, .lst (pc.map T.dat), .dat l], .lst ((ticks ps ls).map T.dat)]) := by
  have ee : fz (.tup [.tup [.dat a, .lst (pc.map T.dat), .dat l], .lst ((ticks ps ls).map T.dat)]) = .tuple [.tuple [a, .list pc, l], .list (ticks ps ls)] := by
    show PyData.tuple [.tuple [_, .list (fzL _), _], .list (fzL _)] = _
    rw [fzL_dats, fzL_dats]
    rfl
  refine ⟨⟨_, ps, ls, ee⟩, by rw [ee]; exact hs, fun d0 d1 d3 d4 d5 d6 L => ?_⟩
  have bl : (ticks ps ls).length < 16777216 := by omega
  have bp : pc.length < 16777216 := by omega
  generalize ticks ps ls = TK at *
  have e1 : tMut 7 (pIx 7 (pNm 7) (mC (.int 1))) uApp (mCons (mDs dTup (mCons (mVar 2) (mCons (mC (.str "more")) (mNil)))) (mNil)) [.t (.dat d0), .t (.dat d1), .t (.dat (.int L)), .t (.dat d3), .t (.dat d4), .t (.dat d5), .t (.dat d6), .t (.tup [.tup [.dat a, .lst (pc.map T.dat), .dat l], .lst (TK.map T.dat)])] = .nx [.t (.dat d0), .t (.dat d1), .t (.dat (.int L)), .t (.dat d3), .t (.dat d4), .t (.dat d5), .t (.dat d6), .t (.tup [.tup [.dat a, .lst (pc.map T.dat), .dat l], .lst (TK.map T.dat ++ [.dat (.tuple [.int L, .str "more"])])])] := by
    simp [tMut, pIx, pNm, locU, locS, nt, kidsT, uApp, bl, locT, putL, setT, repl, nm_t]
  have e2 : ∀ TK2, tMut 7 (pIx 7 (pIx 7 (pNm 7) (mC (.int 0))) (mC (.int 1))) uApp (mCons (mC (.str "more")) (mNil)) [.t (.dat d0), .t (.dat d1), .t (.dat (.int L)), .t (.dat d3), .t (.dat d4), .t (.dat d5), .t (.dat d6), .t (.tup [.tup [.dat a, .lst (pc.map T.dat), .dat l], .lst TK2])] = .nx [.t (.dat d0), .t (.dat d1), .t (.dat (.int L)), .t (.dat d3), .t (.dat d4), .t (.dat d5), .t (.dat d6), .t (.tup [.tup [.dat a, .lst (pc.map T.dat ++ [.dat (.str "more")]), .dat l], .lst TK2])] := fun TK2 => by
    simp [tMut, pIx, pNm, locU, locS, nt, kidsT, uApp, bp, locT, putL, setT, repl, nm_t]
  refine ⟨.tup [.tup [.dat a, .lst (pc.map T.dat ++ [.dat (.str "more")]), .dat l], .lst (TK.map T.dat ++ [.dat (.tuple [.int L, .str "more"])])], ?_⟩
  have e2 := e2 (TK.map T.dat ++ [.dat (.tuple [.int L, .str "more"])])
  generalize TK.map T.dat ++ [.dat (.tuple [.int L, .str "more"])] = TK2 at *
  unfold sSpoil tSeq
  rw [e1]
  dsimp only
  have hz : fz (.tup [.tup [.dat a, .lst (pc.map T.dat), .dat l], .lst TK2]) = .tuple [.tuple [a, .list pc, l], .list (fzL TK2)] := by
    show PyData.tuple [.tuple [_, .list (fzL _), _], _] = _
    rw [fzL_dats]
    rfl
  have i1 : ∀ z, fIx (.tuple [.tuple [a, .list pc, l], z]) (.int 0) = some (.tuple [a, .list pc, l]) := fun z => fIx_t0 _ _
  have i2 : fIx (.tuple [a, .list pc, l]) (.int 1) = some (.list pc) := fIx_t1 _ _ _
  have it : isT "list" (.list pc) = some true := rfl
  have et : xTP (mTru (mIsi "list" (mBin fIx (mBin fIx (mVar 7) (mC (.int 0))) (mC (.int 1))))) [.t (.dat d0), .t (.dat d1), .t (.dat (.int L)), .t (.dat d3), .t (.dat d4), .t (.dat d5), .t (.dat d6), .t (.tup [.tup [.dat a, .lst (pc.map T.dat), .dat l], .lst TK2])] = .ok true [.t (.dat d0), .t (.dat d1), .t (.dat (.int L)), .t (.dat d3), .t (.dat d4), .t (.dat d5), .t (.dat d6), .t (.tup [.tup [.dat a, .lst (pc.map T.dat), .dat l], .lst TK2])] := by
    simp [hz, i1, i2, it]
  unfold tIf
  rw [et]
  exact e2
end Ax
set_option Elab.async false
set_option linter.all false
set_option maxRecDepth 100000
set_option maxHeartbeats 4000000
namespace K28
open PySem MI Num Tx Fg Dr Ord Ax
theorem place_st {fu : Nat} (hfu : FU ≤ fu) {lo hi c v : Rat} {L : Int} (hl : Bd 61 lo) (hh : Bd 61 hi) (hc : Bd 61 c) (hL : L.natAbs < 2 ^ 13) (lt : lo < hi) (h1 : lo ≤ c) (h2 : c ≤ hi) (pv : (c - lo) * (L : Rat) / (hi - lo) = v) : Pg.f_p_place_on fu [ssc lo hi L, nm c] = .ok (nm v) := by
  obtain ⟨al, bl⟩ := along_q hfu hl hh hc hL lt (by decide)
  rw [if_neg (by
    rintro (q | q)
    · exact absurd q (Rat.not_lt.mpr h1)
    · exact absurd q (Rat.not_lt.mpr h2)), pv] at al
  unfold ssc
  have so := s_so
  have sb := s_sb
  have sr := s_sr
  have sd := s_sd
  rw [Pg.f_p_place_on, Pg.s_p_place_on]
  simp [-fIs_n, run_eq, nm_none, s_so, s_sb, s_sr, s_sd, ix4, isT_nm]
  rw [al]
  simp [-fIs_n, nm_none]
theorem rounded_i {fu : Nat} {i : Int} (hi : i.natAbs < 2 ^ 13) : Pg.f_p_rounded fu [nm (i : Rat)] = .ok (.int i) := by
  rw [Fd.rounded_n (bd_int (n := 1100) (Nat.lt_of_lt_of_le hi (Nat.pow_le_pow_right (by decide) (by decide))) (by decide))]
  unfold Fd.rnd
  rw [Rat.num_intCast, Rat.den_intCast]
  congr 2
  omega
noncomputable def sT (fu : Nat) (b lo hi L : Int) : T := .tup [.dat (ssc (qn b lo) (qn b hi) L), .lst ((ticks [0, L] [shw fu (qn b lo), shw fu (qn b hi)]).map T.dat)]
theorem q_lt {b lo hi : Int} (hb : 1 ≤ b) (h : lo < hi) : qn b lo < qn b hi := by
  unfold qn
  rw [Rat.divInt_eq_div, Rat.divInt_eq_div]
  have b0 : (0 : Rat) < (b : Rat) := Rat.intCast_pos.mpr (by omega)
  have l : ((lo : Int) : Rat) < ((hi : Int) : Rat) := Rat.intCast_lt_intCast.mpr h
  rw [Rat.div_def, Rat.div_def]
  exact Rat.mul_lt_mul_of_pos_right l (Rat.inv_pos.mpr b0)
section
variable {fu : Nat} (hfu : FU ≤ fu) {b lo hi L : Int} (hb : 1 ≤ b ∧ b ≤ 60) (lt : lo < hi) (l1 : lo.natAbs < 2 ^ 60) (l2 : hi.natAbs < 2 ^ 60) (hL : 24 ≤ L ∧ L ≤ 2001)
include hfu hb lt l1 l2 hL
theorem numbers_sat {Q : T → Ct → Prop} {E : Str → Option MI.D → Ct → Prop} (q : Q (sT fu b lo hi L) [.un, .un]) : (f_p_numbers_axis fu [(false, .dat (ssc (qn b lo) (qn b hi) L)), (false, .dat (.list [nm (qn b lo), nm (qn b hi)]))]).sat Q E := by
  have M : most = 16777216 := rfl
  have b1 : Bd 61 (qn b lo) := divInt_bd hb (Nat.lt_trans l1 (by decide)) (by decide)
  have b2 : Bd 61 (qn b hi) := divInt_bd hb (Nat.lt_trans l2 (by decide)) (by decide)
  have ql := q_lt hb.1 lt
  have s1 := shw_ok fu (bd_mono b1 (show 61 ≤ 900 by decide))
  have s2 := shw_ok fu (bd_mono b2 (show 61 ≤ 900 by decide))
  have z0 : (qn b lo - qn b lo) * (L : Rat) / (qn b hi - qn b lo) = ((0 : Int) : Rat) := by
    have : ((0 : Int) : Rat) = 0 := rfl
    rw [this]
    grind
  have z1 : (qn b hi - qn b lo) * (L : Rat) / (qn b hi - qn b lo) = ((L : Int) : Rat) := by
    have : qn b hi - qn b lo ≠ 0 := rat_sub_ne ql
    grind
  have p0 := place_st hfu b1 b2 b1 (L := L) (by omega) ql (Rat.le_refl) (Rat.le_of_lt ql) z0
  have p1 := place_st hfu b1 b2 b2 (L := L) (by omega) ql (Rat.le_of_lt ql) (Rat.le_refl) z1
  have r0 := rounded_i (fu := fu) (i := 0) (by decide)
  have r1 := rounded_i (fu := fu) (i := L) (by omega)
  have wt := fun {Q E} q => with_ticks (fu := fu) (sc := ssc (qn b lo) (qn b hi) L) (cs := [nm (qn b lo), nm (qn b hi)]) (ls := [shw fu (qn b lo), shw fu (qn b hi)]) (ps := [0, L]) (by simp) rfl rfl (fun k c h => by
    rcases k with _ | _ | k
    · cases h
      exact ⟨_, 0, rfl, p0, r0⟩
    · cases h
      exact ⟨_, L, rfl, p1, r1⟩
    · simp at h) (Q := Q) (E := E) q
  have nl : nLc (mItems (mVar 1)) [2] (vN 2) (mYes) (mCall 1 (Pg.f_p_show_number fu) [] (mCons (mVar 2) (mNil))) [some (ssc (qn b lo) (qn b hi) L), some (.list [nm (qn b lo), nm (qn b hi)]), none] = .ok (wsd [shw fu (qn b lo), shw fu (qn b hi)]) := by
    refine nLc_mapG (α := MI.D × List Nat) (enc := fun x => x.1) (val := fun x => .str (S x.2)) (xs := [(nm (qn b lo), shw fu (qn b lo)), (nm (qn b hi), shw fu (qn b hi))]) rfl (fun x hx => ?_) (by simp [most])
    refine ⟨[some (ssc (qn b lo) (qn b hi) L), some (.list [nm (qn b lo), nm (qn b hi)]), some x.1], rfl, ?_⟩
    simp only [List.mem_cons, List.not_mem_nil, or_false] at hx
    rcases hx with rfl | rfl
    · generalize ssc (qn b lo) (qn b hi) L = SC at *
      generalize nm (qn b lo) = N1 at *
      generalize nm (qn b hi) = N2 at *
      simp [s1.1]
    · generalize ssc (qn b lo) (qn b hi) L = SC at *
      generalize nm (qn b lo) = N1 at *
      generalize nm (qn b hi) = N2 at *
      simp [s2.1]
  unfold sT at q
  generalize ticks [0, L] [shw fu (qn b lo), shw fu (qn b hi)] = TK at *
  generalize ssc (qn b lo) (qn b hi) L = SC at *
  generalize nm (qn b lo) = N1 at *
  generalize nm (qn b hi) = N2 at *
  generalize wsd [shw fu (qn b lo), shw fu (qn b hi)] = WD at *
  refine runT_sat rfl [.t (.dat SC), .t (.dat (.list [N1, N2])), .un] rfl ?_
  rw [s_p_numbers_axis]
  generalize nLc (mItems (mVar 1)) [2] (vN 2) (mYes) (mCall 1 (Pg.f_p_show_number fu) [] (mCons (mVar 2) (mNil))) = NL at *
  simp [nl]
  refine wt ?_
  simp
  exact q
/-- two told ends -/
theorem gives_s {cells : MI.D} {way : Str} {n : Bool} : Ax.Gives (f_p_axis_for fu) (ags (.tuple [.str "straight", nm (qn b lo), nm (qn b hi)]) cells L way n) (some (sT fu b lo hi L)) := by
  have ns := fun {Q E} q => numbers_sat hfu hb lt l1 l2 hL (Q := Q) (E := E) q
  have e1 : ¬ ("straight" : Str) = "turns" := by decide +kernel
  have e2 : ¬ ("straight" : Str) = "broken" := by decide +kernel
  have e3 : ¬ ("straight" : Str) = "days" := by decide +kernel
  have e4 : ¬ ("straight" : Str) = "order" := by decide +kernel
  unfold Ax.Gives ags
  unfold ssc at ns
  generalize sT fu b lo hi L = ST at *
  generalize nm (qn b lo) = N1 at *
  generalize nm (qn b hi) = N2 at *
  refine runT_sat rfl [.t (.dat (.tuple [.str "straight", N1, N2])), .t (.dat cells), .t (.dat (.int L)), .t (.dat (.str way)), .t (.dat (.bool n))] rfl ?_
  rw [s_p_axis_for]
  simp [e1, e2, e3, e4]
  refine ns ?_
  simp [un5]
end
section
variable {fu : Nat} (hfu : FU ≤ fu) {ts : List (Int × Int)} {b : Int} (ok : Tp ts b) {L : Int} (hL : 24 ≤ L ∧ L ≤ 2000)
include hfu ok hL
/-- told pieces -/
theorem gives_b {cells : MI.D} (lv : Bool) {n : Bool} {room : Int} (hr : room = L - 6 * (((ts.length : Nat) : Int) - 1)) {m : Int} (hm : fMinL [.list ((lns ts room).map .int)] = some (.int m)) : Ax.Gives (f_p_axis_for fu) (ags (.tuple [.str "broken", .tuple (ts.map (pr b))]) cells L (wy lv) n) (if fits m (lg (lbs fu b ts)) lv = true then some (bT fu b ts L room) else none) := by
  have br := fun {Q E} q1 q2 => broken_axis ok hfu hL lv hr hm (Q := Q) (E := E) q1 q2
  have e1 : ¬ ("broken" : Str) = "turns" := by decide +kernel
  unfold Ax.Gives ags
  generalize bT fu b ts L room = BT at *
  generalize fits m (lg (lbs fu b ts)) lv = FI at *
  generalize PyData.tuple (ts.map (pr b)) = TS at *
  generalize wy lv = W at *
  refine runT_sat rfl [.t (.dat (.tuple [.str "broken", TS])), .t (.dat cells), .t (.dat (.int L)), .t (.dat (.str W)), .t (.dat (.bool n))] rfl ?_
  rw [s_p_axis_for]
  simp [e1]
  refine br (fun h => ?_) (fun h => ?_)
  · simp [h, un5]
  · simp [h, un5]
end
end K28
set_option Elab.async false
set_option linter.all false
set_option maxRecDepth 100000
set_option maxHeartbeats 4000000
namespace K28
open PySem MI Num Tx Fg Dr Ord Ax
def fd (ts : List (Int × Int)) : List MI.D := ts.flatMap fun t => [.int t.1, .int t.2]
theorem fd_len : ∀ ts : List (Int × Int), (fd ts).length = 2 * ts.length
  | [] => rfl
  | t :: ts => by
    show (fd ts).length + 1 + 1 = 2 * (ts.length + 1)
    rw [fd_len ts]
    omega
theorem fd_0 : ∀ (ts : List (Int × Int)) (k : Nat), (fd ts)[2 * k]? = (ts[k]?).map fun t => .int t.1
  | [], k => by simp [fd]
  | t :: ts, 0 => rfl
  | t :: ts, k + 1 => by
    show (PyData.int t.1 :: .int t.2 :: fd ts)[2 * (k + 1)]? = _
    rw [show 2 * (k + 1) = 2 * k + 1 + 1 by omega, List.getElem?_cons_succ, List.getElem?_cons_succ, fd_0 ts k, List.getElem?_cons_succ]
theorem fd_1 : ∀ (ts : List (Int × Int)) (k : Nat), (fd ts)[2 * k + 1]? = (ts[k]?).map fun t => .int t.2
  | [], k => by simp [fd]
  | t :: ts, 0 => rfl
  | t :: ts, k + 1 => by
    show (PyData.int t.1 :: .int t.2 :: fd ts)[2 * (k + 1) + 1]? = _
    rw [show 2 * (k + 1) + 1 = 2 * k + 1 + 1 + 1 by omega, List.getElem?_cons_succ, List.getElem?_cons_succ, fd_1 ts k, List.getElem?_cons_succ]
theorem ix_0 {ts : List (Int × Int)} {k : Nat} {t : Int × Int} (h : ts[k]? = some t) : fIx (.list (fd ts)) (.int (2 * (k : Int))) = some (.int t.1) := by
  have : (2 * (k : Int)) = ((2 * k : Nat) : Int) := by omega
  rw [this, fIx_lN, fd_0, h]
  rfl
theorem ix_1 {ts : List (Int × Int)} {k : Nat} {t : Int × Int} (h : ts[k]? = some t) : fIx (.list (fd ts)) (.int (2 * (k : Int) + 1)) = some (.int t.2) := by
  have : (2 * (k : Int) + 1) = ((2 * k + 1 : Nat) : Int) := by omega
  rw [this, fIx_lN, fd_1, h]
  rfl
theorem ticks_app : ∀ {as : List Int} {bs : List (List Nat)} {cs : List Int} {ds : List (List Nat)}, as.length = bs.length → ticks (as ++ cs) (bs ++ ds) = ticks as bs ++ ticks cs ds
  | [], [], cs, ds, _ => rfl
  | a :: as, b :: bs, cs, ds, h => congrArg (List.cons _) (ticks_app (by simpa using h))
noncomputable def tks (fu : Nat) (b : Int) (zs : List ((Int × Int) × Int)) : List MI.D := ticks (pls 0 zs) (lbs fu b (zs.map (·.1)))
theorem tks_app (fu : Nat) (b : Int) (ys : List ((Int × Int) × Int)) (x : (Int × Int) × Int) : tks fu b (ys ++ [x]) = tks fu b ys ++ [tick (bg 0 ys) (shw fu (qn b x.1.1)), tick (bg 0 ys + x.2) (shw fu (qn b x.1.2))] := by
  unfold tks
  rw [pls_app, List.map_append, List.map_cons, List.map_nil, lbs_app, ticks_app (by rw [pls_len, lbs_len, List.length_map])]
  rfl
theorem tks_len (fu : Nat) (b : Int) (zs : List ((Int × Int) × Int)) : (tks fu b zs).length = 2 * zs.length := by
  unfold tks
  rw [ticks_len (by rw [pls_len, lbs_len, List.length_map]), pls_len]
section
variable {fu : Nat} (hfu : FU ≤ fu) {ts : List (Int × Int)} {b : Int} (ok : Tp ts b)
include hfu ok
theorem low_p {x : Int} (h : x.natAbs < 2 ^ 60) : Pg.f_sr_low fu [.int x, .int b] = .ok (nm (qn b x)) := (low_q fu hfu (by have := ok.b; omega) (sm_of (show b.natAbs < 2 ^ 6 by have := ok.b; omega) (by decide))).1
theorem law_pieces {ls : List Int} (hl : ls.length = ts.length) : f_law_pieces fu [.list (fd ts), .int b, .list (ls.map .int)] = .ok (.tuple [.list (pcs b 0 (ts.zip ls)), .list (tks fu b (ts.zip ls))]) := by
  have M : most = 16777216 := rfl
  have tl := ok.l
  have lo := fun {x} h => low_p hfu ok (x := x) h
  have okt := ok.t
  have sh := fun {x} h => (shw_p ok (fu := fu) (x := x) h).1
  have lll : (ls.map PyData.int).length = ts.length := by rw [List.length_map, hl]
  have zl : (ts.zip ls).length = ts.length := by rw [List.length_zip, hl, Nat.min_self]
  have ixs : ∀ k t, ts[k]? = some t → ∃ l, ls[k]? = some l ∧ (ts.zip ls).take (k + 1) = (ts.zip ls).take k ++ [(t, l)] ∧ fIx (.list (ls.map .int)) (.int (k : Nat)) = some (.int l) := fun k t h => by
    have kl := (List.getElem?_eq_some_iff.mp h).1
    have e : ls[k]? = some ls[k] := List.getElem?_eq_getElem (by omega)
    refine ⟨_, e, ?_, ?_⟩
    · rw [List.take_add_one]
      have : (ts.zip ls)[k]? = some (t, ls[k]) := by
        rw [List.getElem?_zip_eq_some]
        exact ⟨h, e⟩
      rw [this]
      rfl
    · rw [fIx_lN, List.getElem?_map, e]
      rfl
  have ii0 := fun {k t} h => ix_0 (ts := ts) (k := k) (t := t) h
  have ii1 := fun {k t} h => ix_1 (ts := ts) (k := k) (t := t) h
  have rg : rng1 [.int ((ts.length : Nat) : Int)] = some (rngL 0 1 ts.length) := by
    have l2 : lim62 ((ts.length : Nat) : Int) = true := lim
    show (if lim62 ((ts.length : Nat) : Int) = true then some (rngL 0 1 ((ts.length : Nat) : Int).toNat) else none) = _
    rw [l2, Int.toNat_natCast]
    rfl
  have fl : fLen [.list (ls.map PyData.int)] = some (.int ((ts.length : Nat) : Int)) := by
    rw [← lll]
    rfl
  have go : (f_law_pieces fu [.list (fd ts), .int b, .list (ls.map .int)]).sat (fun d => d = .tuple [.list (pcs b 0 (ts.zip ls)), .list (tks fu b (ts.zip ls))]) fun _ _ => False := by
    have pa := fun ys x => pcs_app b ys x 0
    have pn := fun ys => pcs_len b ys 0
    generalize hZ : ts.zip ls = ZS at *
    generalize fd ts = FD at *
    generalize ls.map PyData.int = LS at *
    apply Exists.elim (⟨_, rfl⟩ : ∃ lp : S, lp = sFor (mRng rng1 (mCons (mDs fLen (mCons (mVar 2) (mNil))) (mNil))) (gN 6) (b_law_pieces_1 fu))
    intro lp hlp
    have hs : s_law_pieces fu = sSeq (sOwn 3 (nLst (mNil))) (sSeq (sSet 4 (mDs dLst (mNil))) (sSeq (sSet 5 (mC (.int 0))) (sSeq lp (sFz (sRet (mDs dTup (mCons (mVar 3) (mCons (mVar 4) (mNil))))))))) := by rw [hlp]; rfl
    rw [f_law_pieces, hs]
    refine run_sat rfl [.dat (.list FD), .dat (.int b), .dat (.list LS), .un, .un, .un, .un, .un, .un, .un] rfl ?_
    refine seqS1 [.dat (.list FD), .dat (.int b), .dat (.list LS), .own [], .un, .un, .un, .un, .un, .un] (by simp) ?_
    refine seqS1 [.dat (.list FD), .dat (.int b), .dat (.list LS), .own [], .dat (.list []), .un, .un, .un, .un, .un] (by simp) ?_
    refine seqS1 [.dat (.list FD), .dat (.int b), .dat (.list LS), .own [], .dat (.list []), .dat (.int 0), .un, .un, .un, .un] (by simp) ?_
    apply Exists.elim (⟨_, fun _ _ => Iff.rfl⟩ : ∃ I : Nat → MI.Ce → Prop, ∀ k g, I k g ↔ ∃ c6 c7 c8 c9 : Cell, g = [.dat (.list FD), .dat (.int b), .dat (.list LS), .own (pcs b 0 (ZS.take k)), .dat (.list (tks fu b (ZS.take k))), .dat (.int (bg 0 (ZS.take k))), c6, c7, c8, c9])
    intro I hI
    refine seqS (I ts.length) ?_ ?_
    · have e : mRng rng1 (mCons (mDs fLen (mCons (mVar 2) (mNil))) (mNil)) (vd [.dat (.list FD), .dat (.int b), .dat (.list LS), .own [], .dat (.list []), .dat (.int 0), .un, .un, .un, .un]) = .ok (rngL 0 1 ts.length) := by
        generalize ((ts.length : Nat) : Int) = N at *
        have st : (mRng rng1 (mCons (mDs fLen (mCons (mVar 2) (mNil))) (mNil)) (vd [.dat (.list FD), .dat (.int b), .dat (.list LS), .own [], .dat (.list []), .dat (.int 0), .un, .un, .un, .un])).sat (fun ds => ds = rngL 0 1 ts.length) fun _ _ => False := by
          simp [fl, rg]
        apply Exists.elim st.eq
        rintro x ⟨hx, rfl⟩
        exact hx
      rw [hlp, osat_for, e, sat_ok]
      refine loopF_sat I ((hI _ _).mpr ⟨.un, .un, .un, .un, rfl⟩) ?_ ?_
      · intro k d g hd hg
        apply Exists.elim ((hI _ _).mp hg)
        rintro c6 ⟨c7, c8, c9, rfl⟩
        rw [rngL_get?] at hd
        split at hd
        · rename_i hk
          have hd : PyData.int (0 + (k : Int) * 1) = d := Option.some.inj hd
          have ej : (0 : Int) + (k : Int) * 1 = ((k : Nat) : Int) := by omega
          rw [ej] at hd
          subst hd
          have ht : ts[k]? = some ts[k] := List.getElem?_eq_getElem hk
          obtain ⟨_, t1, t2⟩ := okt _ (List.mem_of_getElem? ht)
          apply Exists.elim (ixs k _ ht)
          rintro l ⟨_, et, el⟩
          have i0 := ii0 ht
          have i1 := ii1 ht
          have l0 := lo t1
          have l1 := lo t2
          have s0 := sh t1
          have s1 := sh t2
          have mu : okMul 2 ((k : Nat) : Int) = true := okM
          have q2 := fun c6 c7 c8 c9 => (hI (k + 1) _).mpr ⟨c6, c7, c8, c9, rfl⟩
          rw [et, pa, tks_app, bg_app] at q2
          have pl4 : (pcs b 0 (ZS.take k)).length ≤ 4 := by rw [pn, List.length_take]; omega
          have tl8 : (tks fu b (ZS.take k)).length ≤ 8 := by rw [tks_len, List.length_take]; omega
          unfold tick at q2
          clear hI ii0 ii1 lo sh ixs hg et
          generalize tks fu b (ZS.take k) = TK at *
          generalize pcs b 0 (ZS.take k) = PC at *
          generalize bg 0 (ZS.take k) = B0 at *
          generalize ts[k] = t at *
          generalize ((k : Nat) : Int) = K at *
          generalize nm (qn b t.1) = N1 at *
          generalize nm (qn b t.2) = N2 at *
          have g6 : gN 6 (.int K) [.dat (.list FD), .dat (.int b), .dat (.list LS), .own PC, .dat (.list TK), .dat (.int B0), c6, c7, c8, c9] = some [.dat (.list FD), .dat (.int b), .dat (.list LS), .own PC, .dat (.list TK), .dat (.int B0), .dat (.int K), c7, c8, c9] := rfl
          rw [g6, os_some, b_law_pieces_1]
          refine seqS1 [.dat (.list FD), .dat (.int b), .dat (.list LS), .own PC, .dat (.list TK), .dat (.int B0), .dat (.int K), .dat N1, c8, c9] (by simp [mu, i0, l0]) ?_
          refine seqS1 [.dat (.list FD), .dat (.int b), .dat (.list LS), .own PC, .dat (.list TK), .dat (.int B0), .dat (.int K), .dat N1, .dat N2, c9] (by simp [mu, i1, l1]) ?_
          refine seqS1 [.dat (.list FD), .dat (.int b), .dat (.list LS), .own PC, .dat (.list TK), .dat (.int B0), .dat (.int K), .dat N1, .dat N2, .dat (.int (B0 + l))] (by simp [el]) ?_
          refine seqS1 [.dat (.list FD), .dat (.int b), .dat (.list LS), .own (PC ++ [.tuple [N1, N2, .int B0, .int (B0 + l)]]), .dat (.list TK), .dat (.int B0), .dat (.int K), .dat N1, .dat N2, .dat (.int (B0 + l))] (by simp; omega) ?_
          refine seqS1 [.dat (.list FD), .dat (.int b), .dat (.list LS), .own (PC ++ [.tuple [N1, N2, .int B0, .int (B0 + l)]]), .dat (.list (TK ++ [.tuple [.int B0, .str (S (shw fu (qn b t.1)))], .tuple [.int (B0 + l), .str (S (shw fu (qn b t.2)))]])), .dat (.int B0), .dat (.int K), .dat N1, .dat N2, .dat (.int (B0 + l))] (by simp [s0, s1]; omega) ?_
          simp
          exact q2 _ _ _ _
        · cases hd
      · intro g hg
        rw [rngL_len] at hg
        exact hg
    · intro g hg
      apply Exists.elim ((hI _ _).mp hg)
      rintro c6 ⟨c7, c8, c9, rfl⟩
      rw [← zl, List.take_length]
      generalize tks fu b ZS = TK at *
      generalize pcs b 0 ZS = PC at *
      generalize bg 0 ZS = B0 at *
      clear hI
      simp [frzA]
  obtain ⟨x, h1, rfl⟩ := go.eq
  exact h1
end
end K28
set_option Elab.async false
set_option linter.all false
set_option maxRecDepth 100000
set_option maxHeartbeats 4000000
namespace K28
open PySem MI Num Tx Fg Dr Ord Ax
theorem range_map {β : Type} (f : Int × Int → β) (ts : List (Int × Int)) : (List.range ts.length).map (fun j => f (ts.getD j (0, 0))) = ts.map f := by
  apply List.ext_getElem?
  intro k
  rw [List.getElem?_map, List.getElem?_map]
  by_cases h : k < ts.length
  · rw [List.getElem?_range h, List.getElem?_eq_getElem h]
    show some (f (ts.getD k (0, 0))) = _
    rw [List.getD_eq_getElem?_getD, List.getElem?_eq_getElem h]
    rfl
  · rw [List.getElem?_eq_none (by simpa using h), List.getElem?_eq_none (by omega)]
    rfl
section
variable {fu : Nat} (hfu : FU ≤ fu) {ts : List (Int × Int)} {b : Int} (ok : Tp ts b)
include hfu ok
theorem law_broken {L : Int} (hL : 24 ≤ L ∧ L ≤ 2000) (lv : Bool) {room : Int} (hr : room = L - 6 * (((ts.length : Nat) : Int) - 1)) {m : Int} (hm : fMinL [.list ((lns ts room).map .int)] = some (.int m)) :
    f_law_broken fu [.list (fd ts), .int b, .int L, .str (wy lv)] = .ok (if fits m (lg (lbs fu b ts)) lv = true then .tuple [.tuple [.str "broken", .list (pcs b 0 (zs ts room)), .int L], .list (ticks (pls 0 (zs ts room)) (lbs fu b ts))] else .none) := by
  have M : most = 16777216 := rfl
  have hl := ok.l
  have tn : ts ≠ [] := fun e => by rw [e] at hl; simp at hl
  have lp := law_pieces hfu ok (ls := lns ts room) (lns_len tn room)
  have tk : tks fu b (ts.zip (lns ts room)) = ticks (pls 0 (zs ts room)) (lbs fu b ts) := by
    unfold tks
    rw [List.map_fst_zip (by rw [lns_len tn]; exact Nat.le_refl _)]
    rfl
  rw [tk] at lp
  have zz : ts.zip (lns ts room) = zs ts room := rfl
  rw [zz] at lp
  have ls_ne : lbs fu b ts ≠ [] := fun e => by
    have := lbs_len fu b ts
    rw [e] at this
    simp at this
    omega
  have lmx := lens_max ls_ne
  have lw := lbs_lw ok fu
  have lwb := lg_b (ls := lbs fu b ts) fun w hw => (lw w hw).1
  have pll := pls_len (zs ts room) 0
  have lbl := lbs_len fu b ts
  have zsl := zs_len tn room
  have sumS := fSum_ints (ts.map df)
  have sS : (ts.map df).sum = sm ts := rfl
  rw [sS] at sumS
  obtain ⟨_, sb, sp⟩ := sm_b ok (rs := ts) (fun t h => h) (by omega)
  have sp := sp tn
  have sum0 := fSum_ints (lns0 ts room)
  have l0l : ((lns0 ts room).map PyData.int).length ≤ 4 := by unfold lns0; rw [List.length_map, List.length_map, List.length_dropLast]; omega
  have ldf : (ts.map fun t => PyData.int (df t)).length = ts.length := List.length_map ..
  have go : (f_law_broken fu [.list (fd ts), .int b, .int L, .str (wy lv)]).sat (fun d => d = if fits m (lg (lbs fu b ts)) lv = true then .tuple [.tuple [.str "broken", .list (pcs b 0 (zs ts room)), .int L], .list (ticks (pls 0 (zs ts room)) (lbs fu b ts))] else .none) fun _ _ => False := by
    apply Exists.elim (⟨_, rfl⟩ : ∃ s4 : S, s4 = sSet 4 (mL (nLc (mRng rng3 (mCons (mC (.int 0)) (mCons (mDs fLen (mCons (mVar 0) (mNil))) (mCons (mC (.int 2)) (mNil))))) [11] (vN 11) (mYes) (mBin fSub (mBin fIx (mVar 0) (mBin fAddL (mVar 11) (mC (.int 1)))) (mBin fIx (mVar 0) (mVar 11))))))
    intro s4 hs4
    have hs : s_law_broken fu = sSeq s4 (sSeq (sSet 5 (mBin fSub (mVar 2) (mBin fMul (mC (.int 6)) (mBin fSub (mDs fLen (mCons (mVar 4) (mNil))) (mC (.int 1)))))) (sSeq (sOwn 6 (nLc (mItems (mSl (mVar 4) (mNoPart) (mPart (mUn fNeg (mC (.int 1)))))) [12] (vN 12) (mYes) (mBin fFdv (mBin fMul (mVar 5) (mVar 12)) (mDs fSum (mCons (mVar 4) (mNil)))))) (sSeq (sAppF 6 (mBin fSub (mVar 5) (mDs fSum (mCons (mVar 6) (mNil))))) (sFz (sSeq (sAsg (gT (gsCons (gN 7) (gsCons (gN 8) (gsNil)))) (mCall 3 (f_law_pieces fu) [] (mCons (mVar 0) (mCons (mVar 1) (mCons (mVar 6) (mNil)))))) (sSeq (sSet 9 (mDs fMaxL (mCons (mL (nLc (mItems (mVar 8)) [13, 14] (vT (vsCons (vN 13) (vsCons (vN 14) (vsNil)))) (mYes) (mDs fLen (mCons (mVar 14) (mNil))))) (mNil)))) (sSeq (sSet 10 (mBin fIx (mDs dLst (mCons (mC (.int 12)) (mCons (mBin fAddL (mC (.int 12)) (mBin fMul (mC (.int 6)) (mVar 9))) (mNil)))) (mDs fIntT (mCons (mBin fEq (mVar 3) (mC (.str "level"))) (mNil))))) (sSeq (sIf (mOrT (mTru (mBin fLt (mDs fMinL (mCons (mVar 6) (mNil))) (mVar 10))) (mAndT (mTru (mBin fEq (mVar 3) (mC (.str "level")))) (mTru (mBin fGt (mVar 9) (mC (.int 10)))))) (sRet (mC .none)) (sNop)) (sRet (mDs dTup (mCons (mDs dTup (mCons (mC (.str "broken")) (mCons (mVar 7) (mCons (mVar 2) (mNil))))) (mCons (mVar 8) (mNil))))))))))))) := by rw [hs4]; rfl
    rw [f_law_broken, hs]
    refine run_sat rfl [.dat (.list (fd ts)), .dat (.int b), .dat (.int L), .dat (.str (wy lv)), .un, .un, .un, .un, .un, .un, .un, .un, .un, .un, .un] rfl ?_
    refine seqS1 [.dat (.list (fd ts)), .dat (.int b), .dat (.int L), .dat (.str (wy lv)), .dat (.list (ts.map fun t => .int (df t))), .un, .un, .un, .un, .un, .un, .un, .un, .un, .un] ?_ ?_
    · rw [hs4]
      apply Exists.elim (⟨_, rfl⟩ : ∃ IT : Vw → R (List MI.D), IT = mRng rng3 (mCons (mC (.int 0)) (mCons (mDs fLen (mCons (mVar 0) (mNil))) (mCons (mC (.int 2)) (mNil)))))
      intro IT hIT
      rw [← hIT]
      have hi : mRng rng3 (mCons (mC (.int 0)) (mCons (mDs fLen (mCons (mVar 0) (mNil))) (mCons (mC (.int 2)) (mNil)))) (vd [.dat (.list (fd ts)), .dat (.int b), .dat (.int L), .dat (.str (wy lv)), .un, .un, .un, .un, .un, .un, .un, .un, .un, .un, .un]) = .ok ((List.range ts.length).map fun (j : Nat) => PyData.int ((j : Int) * 2)) := by
        have fl : fLen [.list (fd ts)] = some (.int ((2 * ts.length : Nat) : Int)) := by
          rw [← fd_len]
          rfl
        have r3 : rng3 [.int 0, .int ((2 * ts.length : Nat) : Int), .int 2] = some ((List.range ts.length).map fun (j : Nat) => PyData.int ((j : Int) * 2)) := by
          have h4 : ts.length = 2 ∨ ts.length = 3 ∨ ts.length = 4 := by omega
          rcases h4 with h | h | h <;> rw [h] <;> rfl
        generalize ((2 * ts.length : Nat) : Int) = N2 at *
        generalize (List.range ts.length).map (fun (j : Nat) => PyData.int ((j : Int) * 2)) = RL at *
        generalize fd ts = FD at *
        generalize wy lv = W at *
        have st : (mRng rng3 (mCons (mC (.int 0)) (mCons (mDs fLen (mCons (mVar 0) (mNil))) (mCons (mC (.int 2)) (mNil)))) (vd [.dat (.list FD), .dat (.int b), .dat (.int L), .dat (.str W), .un, .un, .un, .un, .un, .un, .un, .un, .un, .un, .un])).sat (fun ds => ds = RL) fun _ _ => False := by
          simp [fl, r3]
        apply Exists.elim st.eq
        rintro x ⟨hx, rfl⟩
        exact hx
      rw [← hIT] at hi
      clear hIT hs4 hs
      have em : ts.map (fun t => PyData.int (df t)) = (List.range ts.length).map fun j => PyData.int (df (ts.getD j (0, 0))) := (range_map (fun t => PyData.int (df t)) ts).symm
      rw [em]
      refine sSet_mL (nLc_mapG (α := Nat) (enc := fun j => .int ((j : Int) * 2)) (val := fun j => .int (df (ts.getD j (0, 0)))) hi (fun j hj => ?_) (by rw [List.length_range]; omega)) rfl
      have hj := List.mem_range.mp hj
      have ht : ts[j]? = some (ts.getD j (0, 0)) := by rw [List.getD_eq_getElem?_getD, List.getElem?_eq_getElem hj]; rfl
      have i0 := ix_0 ht
      have i1 := ix_1 ht
      rw [Int.mul_comm] at i0 i1
      refine ⟨[some (.list (fd ts)), some (.int b), some (.int L), some (.str (wy lv)), none, none, none, none, none, none, none, some (.int ((j : Int) * 2)), none, none, none], rfl, ?_⟩
      generalize ((j : Int) * 2) = J at *
      generalize fd ts = FD at *
      generalize wy lv = W at *
      unfold df
      generalize ts.getD j (0, 0) = t at *
      simp [i0, i1]
    clear hs hs4
    have en : ((ts.length : Nat) : Int) = ((ts.map fun t => PyData.int (df t)).length : Nat) := by rw [ldf]
    have mu : fMul (.int 6) (.int (((ts.length : Nat) : Int) - 1)) = some (.int (6 * (((ts.length : Nat) : Int) - 1))) := fMul_ii okM
    have le : fLen [.list (ts.map fun t => PyData.int (df t))] = some (.int ((ts.length : Nat) : Int)) := by
      rw [en]
      rfl
    refine seqS1 [.dat (.list (fd ts)), .dat (.int b), .dat (.int L), .dat (.str (wy lv)), .dat (.list (ts.map fun t => .int (df t))), .dat (.int room), .un, .un, .un, .un, .un, .un, .un, .un, .un] ?_ ?_
    · rw [hr]
      generalize ((ts.length : Nat) : Int) = N at *
      generalize ts.map (fun t => PyData.int (df t)) = P at *
      generalize fd ts = FD at *
      generalize wy lv = W at *
      simp [le, mu]
    refine seqS1 [.dat (.list (fd ts)), .dat (.int b), .dat (.int L), .dat (.str (wy lv)), .dat (.list (ts.map fun t => .int (df t))), .dat (.int room), .own ((lns0 ts room).map .int), .un, .un, .un, .un, .un, .un, .un, .un] ?_ ?_
    · have dl : (ts.map fun t => PyData.int (df t)).dropLast = ts.dropLast.map fun t => PyData.int (df t) := by rw [List.map_dropLast]
      have lv' : (lns0 ts room).map PyData.int = ts.dropLast.map fun t => PyData.int (room * df t / sm ts) := by unfold lns0; rw [List.map_map]; rfl
      rw [lv']
      have hi : mItems (mSl (mVar 4) (mNoPart) (mPart (mUn fNeg (mC (.int 1))))) (vd [.dat (.list (fd ts)), .dat (.int b), .dat (.int L), .dat (.str (wy lv)), .dat (.list (ts.map fun t => .int (df t))), .dat (.int room), .un, .un, .un, .un, .un, .un, .un, .un, .un]) = .ok (ts.dropLast.map fun t => .int (df t)) := by
        have cl := cutLast (ts.map fun t => PyData.int (df t))
        rw [dl] at cl
        generalize ts.map (fun t => PyData.int (df t)) = P at *
        generalize ts.dropLast.map (fun t => PyData.int (df t)) = P2 at *
        show (mItems (mSl (mVar 4) (mNoPart) (mPart (mUn fNeg (mC (.int 1))))) [_, _, _, _, some (.list P), _, _, _, _, _, _, _, _, _, _]) = _
        simp [cl]
      refine sOwn_nl (nLc_mapG (enc := fun t => .int (df t)) (val := fun t => .int (room * df t / sm ts)) hi (fun t ht => ?_) (by rw [List.length_dropLast]; omega)) rfl
      have tm := List.dropLast_subset _ ht
      obtain ⟨d0, db⟩ := df_b ok tm
      have mo : okMul room (df t) = true := okM
      have fdv : fFdv (.int (room * df t)) (.int (sm ts)) = some (.int (room * df t / sm ts)) := fFdv_pos sp (Nat.lt_trans (MI.log2_lt sb (by decide)) (by decide))
      have sumS' : fSum [.list (ts.map fun t => PyData.int (df t))] = some (.int (sm ts)) := by
        rw [← sumS, List.map_map]
        rfl
      refine ⟨[some (.list (fd ts)), some (.int b), some (.int L), some (.str (wy lv)), some (.list (ts.map fun t => .int (df t))), some (.int room), none, none, none, none, none, none, some (.int (df t)), none, none], rfl, ?_⟩
      generalize ts.map (fun t => PyData.int (df t)) = P at *
      generalize fd ts = FD at *
      generalize wy lv = W at *
      have fm : fMul (.int room) (.int (df t)) = some (.int (room * df t)) := fMul_ii mo
      generalize room * df t / sm ts = V at *
      generalize room * df t = V2 at *
      simp [fm, fdv, sumS']
    have el : (lns ts room).map PyData.int = (lns0 ts room).map PyData.int ++ [.int (room - (lns0 ts room).sum)] := by unfold lns; rw [List.map_append]; rfl
    refine seqS1 [.dat (.list (fd ts)), .dat (.int b), .dat (.int L), .dat (.str (wy lv)), .dat (.list (ts.map fun t => .int (df t))), .dat (.int room), .own ((lns ts room).map .int), .un, .un, .un, .un, .un, .un, .un, .un] ?_ ?_
    · rw [el]
      generalize (lns0 ts room).map PyData.int = L0 at *
      generalize (lns0 ts room).sum = S0 at *
      generalize ts.map (fun t => PyData.int (df t)) = P at *
      generalize fd ts = FD at *
      generalize wy lv = W at *
      simp [sum0]
      omega
    have lev : (wy lv = "level") = (lv = true) := by
      cases lv with
      | true => simp [wy]
      | false =>
        have : ¬ ("upright" : Str) = "level" := by decide +kernel
        simp [wy, this]
    have tke : ∃ xs : List (Int × List Nat), ticks (pls 0 (zs ts room)) (lbs fu b ts) = (xs.map fun x => tick x.1 x.2) ∧ xs.map (·.2) = lbs fu b ts ∧ xs.length ≤ 8 := by
      have gen : ∀ (ps : List Int) (ws : List (List Nat)), ps.length = ws.length → ∃ xs : List (Int × List Nat), ticks ps ws = (xs.map fun x => tick x.1 x.2) ∧ xs.map (·.2) = ws := by
        intro ps
        induction ps with
        | nil =>
          intro ws h
          cases ws with
          | nil => exact ⟨[], rfl, rfl⟩
          | cons w ws => simp at h
        | cons p ps ih =>
          intro ws h
          cases ws with
          | nil => simp at h
          | cons w ws =>
            obtain ⟨xs, h1, h2⟩ := ih ws (by simpa using h)
            exact ⟨(p, w) :: xs, congrArg (List.cons _) h1, congrArg (List.cons w) h2⟩
      obtain ⟨xs, h1, h2⟩ := gen (pls 0 (zs ts room)) (lbs fu b ts) (by rw [pll, lbl, zsl])
      refine ⟨xs, h1, h2, ?_⟩
      have := congrArg List.length h2
      rw [List.length_map, lbl] at this
      omega
    apply Exists.elim tke
    intro xs hxs
    have hx1 := hxs.1
    have hx2 := hxs.2.1
    have hx3 := hxs.2.2
    clear hxs tke
    generalize hTK : ticks (pls 0 (zs ts room)) (lbs fu b ts) = TK at *
    generalize pcs b 0 (zs ts room) = PC at *
    generalize f_law_pieces fu = LPF at *
    show (sSeq _ _ [.dat (.list (fd ts)), .dat (.int b), .dat (.int L), .dat (.str (wy lv)), .dat (.list (ts.map fun t => .int (df t))), .dat (.int room), .dat (.list ((lns ts room).map .int)), .un, .un, .un, .un, .un, .un, .un, .un]).sat _
    refine seqS1 [.dat (.list (fd ts)), .dat (.int b), .dat (.int L), .dat (.str (wy lv)), .dat (.list (ts.map fun t => .int (df t))), .dat (.int room), .dat (.list ((lns ts room).map .int)), .dat (.list PC), .dat (.list TK), .un, .un, .un, .un, .un, .un] ?_ ?_
    · generalize (lns ts room).map PyData.int = LN at *
      generalize ts.map (fun t => PyData.int (df t)) = P at *
      generalize fd ts = FD at *
      generalize wy lv = W at *
      simp [lp]
    have lwl : ∀ x ∈ xs, x.2.length ≤ 1000 := fun x hx => (lw x.2 (by rw [← hx2]; exact List.mem_map.mpr ⟨x, hx, rfl⟩)).1
    refine seqS1 [.dat (.list (fd ts)), .dat (.int b), .dat (.int L), .dat (.str (wy lv)), .dat (.list (ts.map fun t => .int (df t))), .dat (.int room), .dat (.list ((lns ts room).map .int)), .dat (.list PC), .dat (.list TK), .dat (.int (lg (lbs fu b ts))), .un, .un, .un, .un, .un] ?_ ?_
    · have nl : nLc (mItems (mVar 8)) [13, 14] (vT (vsCons (vN 13) (vsCons (vN 14) (vsNil)))) (mYes) (mDs fLen (mCons (mVar 14) (mNil))) (vd [.dat (.list (fd ts)), .dat (.int b), .dat (.int L), .dat (.str (wy lv)), .dat (.list (ts.map fun t => .int (df t))), .dat (.int room), .dat (.list ((lns ts room).map .int)), .dat (.list PC), .dat (.list TK), .un, .un, .un, .un, .un, .un]) = .ok ((lens (lbs fu b ts)).map .int) := by
        have ev : (lens (lbs fu b ts)).map PyData.int = xs.map fun x => PyData.int (x.2.length : Nat) := by
          unfold Ax.lens
          rw [← hx2, List.map_map, List.map_map]
          rfl
        rw [ev]
        refine nLc_mapG (α := Int × List Nat) (enc := fun x => tick x.1 x.2) (val := fun x => .int (x.2.length : Nat)) (by rw [← hx1]; rfl) (fun x hx => ?_) (by omega)
        have ln := len_s (a := x.2) (by have := lwl x hx; omega)
        refine ⟨[some (.list (fd ts)), some (.int b), some (.int L), some (.str (wy lv)), some (.list (ts.map fun t => .int (df t))), some (.int room), some (.list ((lns ts room).map .int)), some (.list PC), some (.list TK), none, none, none, none, some (.int x.1), some (.str (S x.2))], rfl, ?_⟩
        generalize (lns ts room).map PyData.int = LN at *
        generalize ts.map (fun t => PyData.int (df t)) = P at *
        generalize fd ts = FD at *
        generalize wy lv = W at *
        simp [ln]
      generalize nLc (mItems (mVar 8)) [13, 14] (vT (vsCons (vN 13) (vsCons (vN 14) (vsNil)))) (mYes) (mDs fLen (mCons (mVar 14) (mNil))) = NL at *
      generalize (lns ts room).map PyData.int = LN at *
      generalize ts.map (fun t => PyData.int (df t)) = P at *
      generalize fd ts = FD at *
      generalize wy lv = W at *
      generalize lg (lbs fu b ts) = G at *
      generalize (lens (lbs fu b ts)).map PyData.int = LE at *
      simp at nl
      simp [nl, lmx]
    generalize lg (lbs fu b ts) = G at *
    have g0 := lwb
    have mo : okMul 6 G = true := okM
    have nT : fIntT [.bool true] = some (.int 1) := rfl
    have nF : fIntT [.bool false] = some (.int 0) := rfl
    apply Exists.elim (⟨_, rfl⟩ : ∃ R6 : Int, R6 = if lv = true then 12 + 6 * G else 12)
    intro R6 hR6
    have ef : fits m G lv = !(decide (m < R6) || (lv && decide (10 < G))) := by rw [hR6]; rfl
    refine seqS1 [.dat (.list (fd ts)), .dat (.int b), .dat (.int L), .dat (.str (wy lv)), .dat (.list (ts.map fun t => .int (df t))), .dat (.int room), .dat (.list ((lns ts room).map .int)), .dat (.list PC), .dat (.list TK), .dat (.int G), .dat (.int R6), .un, .un, .un, .un] ?_ ?_
    · rw [hR6]
      generalize (lns ts room).map PyData.int = LN at *
      generalize ts.map (fun t => PyData.int (df t)) = P at *
      generalize fd ts = FD at *
      generalize wy lv = W at *
      cases lv
      · simp [lev, mo, nF]
      · simp [lev, mo, nT]
    generalize (lns ts room).map PyData.int = LN at *
    generalize ts.map (fun t => PyData.int (df t)) = P at *
    generalize fd ts = FD at *
    generalize wy lv = W at *
    refine ifRS (fits m G lv = false) ?_ (fun h => ?_) (fun h => ?_)
    · rw [ef]
      cases lv
      · simp [hm, lev]
      · simp [hm, lev]
        by_cases c1 : R6 ≤ m
        · simp [c1]
          omega
        · simp [c1]
          omega
    · rw [h]
      simp
    · have h : fits m G lv = true := by simpa using h
      rw [h]
      simp
  obtain ⟨x, h1, rfl⟩ := go.eq
  exact h1
end
end K28
set_option Elab.async false
set_option linter.all false
set_option maxRecDepth 100000
set_option maxHeartbeats 4000000
namespace K28
open PySem MI Num Tx Fg Dr Ord Ax
theorem sh_S {w : List Nat} (h : ∀ c ∈ w, c < 1114112) (n : Nat) : Sh n (.str (S w)) := sh_str (by
  show (S w).cps.all (· < 1114112) = true
  rw [← Array.all_toList, S_cps, List.all_eq_true]
  intro c hc
  exact decide_eq_true (h c hc)) n
theorem sh_ticks : ∀ (ps : List Int) (ws : List (List Nat)), (∀ w ∈ ws, ∀ c ∈ w, c < 1114112) → ∀ d ∈ ticks ps ws, Sh 1 d
  | [], ws, _, d, h => by cases ws <;> cases h
  | p :: ps, [], _, d, h => by cases h
  | p :: ps, w :: ws, hw, d, h => by
    rcases List.mem_cons.mp (show d ∈ tick p w :: ticks ps ws from h) with rfl | h
    · exact sh_tuple (n := 0) (allC (sh_int _ _) (allC (sh_S (hw w (List.mem_cons_self ..)) _) all0))
    · exact sh_ticks ps ws (fun x hx => hw x (List.mem_cons_of_mem _ hx)) d h
section
variable {fu : Nat} (hfu : FU ≤ fu) {cells : MI.D} {cs : List MI.D} (hc : cells = .list cs) (shc : Sh 5 cells)
include hfu hc shc
theorem right_s {b lo hi L : Int} (hb : 1 ≤ b ∧ b ≤ 60) (lt : lo < hi) (l1 : lo.natAbs < 2 ^ 60) (l2 : hi.natAbs < 2 ^ 60) (hL : 24 ≤ L ∧ L ≤ 2001) {way : Str} {n : Bool} {Q : T → Ct → Prop} {E : Str → Option MI.D → Ct → Prop} (q : Q (.dat (.bool true)) [.un, .un, .un, .un, .un, .un]) :
    (f_law_right fu [(false, .dat (.tuple [.str "straight", nm (qn b lo), nm (qn b hi)])), (false, .dat cells), (false, .dat (.int L)), (false, .dat (.str way)), (false, .dat (.bool n)), (false, .dat (.tuple [ssc (qn b lo) (qn b hi) L, .list [.tuple [.int 0, .str (S (shw fu (qn b lo)))], .tuple [.int L, .str (S (shw fu (qn b hi)))]]]))]).sat Q E := by
  have g := gives_s hfu hb lt l1 l2 hL (cells := cells) (way := way) (n := n)
  have ao : f_law_asked fu (ags (.tuple [.str "straight", nm (qn b lo), nm (qn b hi)]) cells L way n) = .ok (oT (some (sT fu b lo hi L))) un5 := asked_ok (sub := subT [("NoSpace", true), ("NoNumber", false), ("NoDay", false)]) rfl g
  have re : f_law_right fu = right fu (f_law_asked fu) := rfl
  rw [re]
  have ed : PyData.tuple [ssc (qn b lo) (qn b hi) L, .list [.tuple [.int 0, .str (S (shw fu (qn b lo)))], .tuple [.int L, .str (S (shw fu (qn b hi)))]]] = due (some (sT fu b lo hi L)) := by
    show _ = PyData.tuple [_, .list (fzL ((ticks [0, L] [shw fu (qn b lo), shw fu (qn b hi)]).map T.dat))]
    rw [fzL_dats]
    rfl
  rw [ed]
  refine right_okG hc shc ao (fun t ht => ?_) q
  cases ht
  have s1 := shw_ok fu (bd_mono (divInt_bd (n := 60) hb l1 (by decide)) (show 60 ≤ 900 by decide))
  have s2 := shw_ok fu (bd_mono (divInt_bd (n := 60) hb l2 (by decide)) (show 60 ≤ 900 by decide))
  refine axG_s (a := .str "straight") (x := nm (qn b lo)) (r := [nm (qn b hi), .int L]) rfl ?_ (by simp [ticks])
  show Sh 5 (PyData.tuple [_, .list (fzL ((ticks [0, L] [shw fu (qn b lo), shw fu (qn b hi)]).map T.dat))])
  rw [fzL_dats]
  refine sh_tuple (n := 4) (allC (sh_tuple (n := 3) (allC (sh_str (by decide +kernel) _) (allC (sh_mono (Ax.sh_nm _) (by decide)) (allC (sh_mono (Ax.sh_nm _) (by decide)) (allC (sh_int _ _) all0))))) (allC (sh_list (n := 3) fun d hd => sh_mono (sh_ticks _ _ (fun w hw => ?_) d hd) (by decide)) all0))
  simp only [List.mem_cons, List.not_mem_nil, or_false] at hw
  rcases hw with rfl | rfl
  · exact s1.2.2
  · exact s2.2.2
theorem right_b {ts : List (Int × Int)} {b : Int} (ok : Tp ts b) {L : Int} (hL : 24 ≤ L ∧ L ≤ 2000) (lv : Bool) {n : Bool} : ∃ du, f_law_broken fu [.list (fd ts), .int b, .int L, .str (wy lv)] = .ok du ∧ ∀ {Q : T → Ct → Prop} {E : Str → Option MI.D → Ct → Prop}, Q (.dat (.bool true)) [.un, .un, .un, .un, .un, .un] →
    (f_law_right fu [(false, .dat (.tuple [.str "broken", .tuple (ts.map (pr b))])), (false, .dat cells), (false, .dat (.int L)), (false, .dat (.str (wy lv))), (false, .dat (.bool n)), (false, .dat du)]).sat Q E := by
  have hl := ok.l
  have tn : ts ≠ [] := fun e => by rw [e] at hl; simp at hl
  obtain ⟨m, hm⟩ := fMinL_ints (l := lns ts (L - 6 * (((ts.length : Nat) : Int) - 1))) (by unfold lns; simp)
  have g := gives_b hfu ok hL lv rfl hm (cells := cells) (n := n)
  have lb := law_broken hfu ok hL lv rfl hm
  have ao := asked_ok (sub := subT [("NoSpace", true), ("NoNumber", false), ("NoDay", false)]) rfl g
  have re : f_law_right fu = right fu (f_law_asked fu) := rfl
  refine ⟨_, lb, fun {Q E} q => ?_⟩
  rw [re]
  have ed : (if fits m (lg (lbs fu b ts)) lv = true then PyData.tuple [.tuple [.str "broken", .list (pcs b 0 (zs ts (L - 6 * (((ts.length : Nat) : Int) - 1)))), .int L], .list (ticks (pls 0 (zs ts (L - 6 * (((ts.length : Nat) : Int) - 1)))) (lbs fu b ts))] else .none) = due (if fits m (lg (lbs fu b ts)) lv = true then some (bT fu b ts L (L - 6 * (((ts.length : Nat) : Int) - 1))) else none) := by
    split
    · show _ = PyData.tuple [.tuple [_, .list (fzL _), _], .list (fzL _)]
      rw [fzL_dats, fzL_dats]
      rfl
    · rfl
  rw [ed]
  refine right_okG hc shc ao (fun t ht => ?_) q
  split at ht
  · cases ht
    have zl := zs_len tn (L - 6 * (((ts.length : Nat) : Int) - 1))
    refine axG_b ?_ (by rw [pcs_len]; omega) (by rw [ticks_len (by rw [pls_len, lbs_len, zl]), pls_len]; omega)
    refine sh_tuple (n := 4) (allC (sh_tuple (n := 3) (allC (sh_str (by decide +kernel) _) (allC (sh_list (n := 2) fun d hd => ?_) (allC (sh_int _ _) all0)))) (allC (sh_list (n := 3) fun d hd => sh_mono (sh_ticks _ _ (fun w hw => (lbs_lw ok fu w hw).2) d hd) (by decide)) all0))
    obtain ⟨k, hk, e⟩ := List.mem_iff_getElem.mp hd
    obtain ⟨x, s, rfl, _⟩ := pls_of ok _ _ k d (by rw [List.getElem?_eq_getElem hk, e])
    exact sh_tuple (n := 1) (allC (Ax.sh_nm _) (allC (Ax.sh_nm _) (allC (sh_int _ _) (allC (sh_int _ _) all0))))
  · cases ht
end
end K28
set_option Elab.async false
set_option linter.all false
set_option maxRecDepth 100000
set_option maxHeartbeats 4000000
namespace K28
open PySem MI Num Tx Fg Dr Ord Ax
structure Rs (xs : List Int) : Prop where
  p : xs.Pairwise (· < ·)
  b : ∀ x ∈ xs, x.natAbs < 2 ^ 60
theorem rising_sat {fu : Nat} {s : T} (h : IsSrc s) {n : Nat} (hn : n ≤ 8) {Q : T → Ct → Prop} {E : Str → Option MI.D → Ct → Prop} (q : ∀ xs s', IsSrc s' → xs.length = n → Rs xs → Q (.lst ((xs.map PyData.int).map T.dat)) [.t s', .un]) : (f_law_rising fu [(true, s), (false, .dat (.int (n : Nat)))]).sat Q E := by
  have MM : most = 16777216 := rfl
  have p16 := fPow10_16
  have rg : rng1 [.int ((n : Nat) : Int)] = some (rngL 0 1 n) := by
    have l2 : lim62 ((n : Nat) : Int) = true := lim
    show (if lim62 ((n : Nat) : Int) = true then some (rngL 0 1 ((n : Nat) : Int).toNat) else none) = _
    rw [l2, Int.toNat_natCast]
    rfl
  apply Exists.elim (⟨_, rfl⟩ : ∃ lp : ST, lp = tFor (xiP (mRng rng1 (mCons (mVar 1) (mNil)))) (uN 5) (b_law_rising_1 fu))
  intro lp hlp
  have hs : s_law_rising fu = tSeq (tSetD 2 (xBin fIx (xP (mDs dLst (mCons (mC (.int 20)) (mCons (mBin fPow (mC (.int 10)) (mC (.int 16))) (mNil))))) (xFn (Pg.f_sr_draw fu) 2 [] (rBor 0 (rVal (xP (mC (.int 2))) (rNil)))))) (tSeq (tSetD 3 (xBin fSub (xFn (Pg.f_sr_great fu) 2 [] (rBor 0 (rVal (xP (mBin fMul (mC (.int 90)) (mVar 2))) (rNil)))) (xP (mBin fMul (mC (.int 45)) (mVar 2))))) (tSeq (tSet 4 (xLs (xNil))) (tSeq lp (tRet (xMv 4))))) := by rw [hlp]; rfl
  rw [f_law_rising, hs]
  generalize hN : ((n : Nat) : Int) = N at *
  refine runT_sat rfl [.b s, .t (.dat (.int N)), .un, .un, .un, .un] rfl ?_
  refine seqT (fun g => ∃ (s : T) (M : Int), IsSrc s ∧ (20 ≤ M ∧ M ≤ 10000000000000000) ∧ g = [.b s, .t (.dat (.int N)), .t (.dat (.int M)), .un, .un, .un]) ?_ ?_
  · simp [p16]
    refine draw_sat h (by decide) (by decide) fun r s1 h1 r0 r1 => ?_
    simp
    refine sat_pick r0 (by simp; omega) fun d hd => ?_
    simp at hd
    rcases hd with rfl | rfl
    · exact ⟨s1, h1, 20, by omega, rfl, rfl⟩
    · exact ⟨s1, h1, 10000000000000000, by omega, rfl, rfl⟩
  rintro _ ⟨s1, M, h1, hM, rfl⟩
  have P60 : (2 : Nat) ^ 60 = 1152921504606846976 := by decide
  have P200 : (2 : Nat) ^ 100 < 2 ^ 200 := Nat.pow_lt_pow_right (by decide) (by decide)
  have P100 : (2 : Nat) ^ 100 = 1267650600228229401496703205376 := by decide
  have m1 : okMul 90 M = true := okM
  have m2 : okMul 45 M = true := okM
  refine seqT (fun g => ∃ (s : T) (t : Int), IsSrc s ∧ (-(45 * M) ≤ t ∧ t ≤ 45 * M) ∧ g = [.b s, .t (.dat (.int N)), .t (.dat (.int M)), .t (.dat (.int t)), .un, .un]) ?_ ?_
  · simp [m1]
    refine great_sat h1 (by omega) (by omega) fun r s2 h2 r0 r1 => ?_
    simp [m2]
    exact ⟨h2, by omega, by omega⟩
  rintro _ ⟨s2, t, h2, ht, rfl⟩
  refine seqT1 [.b s2, .t (.dat (.int N)), .t (.dat (.int M)), .t (.dat (.int t)), .t (.lst []), .un] (by simp) ?_
  apply Exists.elim (⟨_, fun _ _ => Iff.rfl⟩ : ∃ I : Nat → Ct → Prop, ∀ k g, I k g ↔ ∃ (s : T) (t : Int) (xs : List Int) (c5 : Cl), Fr c5 ∧ IsSrc s ∧ k ≤ 8 ∧ xs.length = k ∧ (-(45 * M) ≤ t ∧ t ≤ 45 * M + k * (M + 1)) ∧ xs.Pairwise (· < ·) ∧ (∀ x ∈ xs, -(45 * M) ≤ x ∧ x < t) ∧ g = [.b s, .t (.dat (.int N)), .t (.dat (.int M)), .t (.dat (.int t)), .t (.lst ((xs.map PyData.int).map T.dat)), c5])
  intro I hI
  refine seqT (I n) ?_ ?_
  · rw [hlp, tsat_for]
    have e : xiP (mRng rng1 (mCons (mVar 1) (mNil))) [.b s2, .t (.dat (.int N)), .t (.dat (.int M)), .t (.dat (.int t)), .t (.lst []), .un] = .ok (rngL 0 1 n) [.b s2, .t (.dat (.int N)), .t (.dat (.int M)), .t (.dat (.int t)), .t (.lst []), .un] := by
      have st : (mRng rng1 (mCons (mVar 1) (mNil)) (tvd [.b s2, .t (.dat (.int N)), .t (.dat (.int M)), .t (.dat (.int t)), .t (.lst []), .un])).sat (fun ds => ds = rngL 0 1 n) fun _ _ => False := by
        simp [rg]
      apply Exists.elim st.eq
      rintro x ⟨hx, rfl⟩
      show (RG.of (mRng rng1 _ _) _) = _
      rw [hx]
      rfl
    rw [e, gsat_ok]
    refine loopT_sat I ((hI _ _).mpr ⟨s2, t, [], .un, fr_un, h2, by omega, rfl, by omega, .nil, all0, rfl⟩) ?_ ?_
    · intro k d g hd hg
      apply Exists.elim ((hI _ _).mp hg)
      rintro s3 ⟨t, xs, c5, f5, h3, k8, xl, htt, hp, hb, rfl⟩
      rw [rngL_get?] at hd
      split at hd
      · rename_i hk
        have hd : PyData.int (0 + (k : Int) * 1) = d := Option.some.inj hd
        subst hd
        have ll : ((xs.map PyData.int).map T.dat).length ≤ 8 := by rw [List.length_map, List.length_map]; omega
        have mk : ((k + 1 : Nat) : Int) * (M + 1) = (k : Int) * (M + 1) + (M + 1) := by rw [Int.natCast_add, Int.add_mul]; simp
        have q2 := fun s t' hs (lt : t < t') (le : t' ≤ t + 1 + M) => (hI (k + 1) _).mpr ⟨s, t', xs ++ [t], .t (.dat (.int (0 + (k : Int) * 1))), fr_t _, hs, by omega, by simp [xl], ⟨by omega, by rw [mk]; omega⟩, List.pairwise_append.mpr ⟨hp, List.pairwise_singleton .., fun a ha b hb' => by rw [List.mem_singleton.mp hb']; exact (hb a ha).2⟩, fun x hx => by
          rcases List.mem_append.mp hx with hx | hx
          · exact ⟨(hb x hx).1, Int.lt_trans (hb x hx).2 lt⟩
          · rw [List.mem_singleton.mp hx]; exact ⟨htt.1, lt⟩, rfl⟩
        have ea : ((xs ++ [t]).map PyData.int).map T.dat = (xs.map PyData.int).map T.dat ++ [.dat (.int t)] := by rw [List.map_append, List.map_append]; rfl
        rw [ea] at q2
        clear ea hI mk
        generalize (xs.map PyData.int).map T.dat = XS at *
        generalize (0 + (k : Int) * 1) = K at *
        have et : uN 5 (.int K) [.b s3, .t (.dat (.int N)), .t (.dat (.int M)), .t (.dat (.int t)), .t (.lst XS), c5] = some [.b s3, .t (.dat (.int N)), .t (.dat (.int M)), .t (.dat (.int t)), .t (.lst XS), .t (.dat (.int K))] := by simp [f5]
        rw [et, os_some, b_law_rising_1]
        simp
        refine ⟨by omega, ?_⟩
        refine great_sat h3 (by omega) (by omega) fun r s4 h4 r0 r1 => ?_
        simp
        exact q2 s4 _ h4 (by omega) (by omega)
      · cases hd
    · intro g hg
      rw [rngL_len] at hg
      exact hg
  · intro g hg
    apply Exists.elim ((hI _ _).mp hg)
    rintro s3 ⟨t, xs, c5, f5, h3, k8, xl, htt, hp, hb, rfl⟩
    have n8 : (n : Int) * (M + 1) ≤ 8 * (M + 1) := Int.mul_le_mul_of_nonneg_right (by omega) (by omega)
    have q := q xs s3 h3 xl ⟨hp, fun x hx => by have := hb x hx; omega⟩
    rw [tsat_ret]
    generalize (xs.map PyData.int).map T.dat = XS at *
    clear hI
    simp [f5]
    exact q
theorem pairs : ∀ (n : Nat) (xs : List Int), xs.length = 2 * n → xs.Pairwise (· < ·) → (∀ x ∈ xs, x.natAbs < 2 ^ 60) → ∃ ts : List (Int × Int), ts.length = n ∧ xs = ts.flatMap (fun t => [t.1, t.2]) ∧ ∀ t ∈ ts, t.1 < t.2 ∧ t.1.natAbs < 2 ^ 60 ∧ t.2.natAbs < 2 ^ 60
  | 0, [], _, _, _ => ⟨[], rfl, rfl, all0⟩
  | n + 1, a :: b :: xs, h, p, hb => by
    obtain ⟨ts, h1, h2, h3⟩ := pairs n xs (by simp at h; omega) (List.pairwise_cons.mp (List.pairwise_cons.mp p).2).2 fun x hx => hb x (List.mem_cons_of_mem _ (List.mem_cons_of_mem _ hx))
    refine ⟨(a, b) :: ts, by simp [h1], by rw [List.flatMap_cons, h2]; rfl, allC ⟨(List.pairwise_cons.mp p).1 b (List.mem_cons_self ..), hb a (List.mem_cons_self ..), hb b (List.mem_cons_of_mem _ (List.mem_cons_self ..))⟩ h3⟩
  | n + 1, [], h, _, _ => by simp at h
  | n + 1, [a], h, _, _ => by simp at h; omega
  | 0, a :: xs, h, _, _ => by simp at h
def kd (c : Int) : MI.D := .tuple [.int c, .int 1]
noncomputable def tkd (fu : Nat) (b lo hi L : Int) : MI.D := .list [.tuple [.int 0, .str (S (shw fu (qn b lo)))], .tuple [.int L, .str (S (shw fu (qn b hi)))]]
noncomputable def fq (b : Int) (ts : List (Int × Int)) : List MI.D := ts.flatMap fun t => [nm (qn b t.1), nm (qn b t.2)]
def gL (nd : List MI.D) (K L : Int) (cells nt bd lo hi ends ticks tops some wish : MI.D) (c2 c14 c15 c16 c17 : Cl) : Ct := [.t (.dat (.list nd)), .t (.dat (.int K)), c2, .t (.dat (.int L)), .t (.dat cells), .t (.dat nt), .t (.dat bd), .t (.dat lo), .t (.dat hi), .t (.dat ends), .t (.dat ticks), .t (.dat tops), .t (.dat some), .t (.dat wish), c14, c15, c16, c17]
section
variable {fu : Nat} {ts : List (Int × Int)} {b : Int}
theorem fq_0 (b : Int) : ∀ (ts : List (Int × Int)) (k : Nat), (fq b ts)[2 * k]? = (ts[k]?).map fun t => nm (qn b t.1)
  | [], k => by simp [fq]
  | t :: ts, 0 => rfl
  | t :: ts, k + 1 => by
    show (nm (qn b t.1) :: nm (qn b t.2) :: fq b ts)[2 * (k + 1)]? = _
    rw [show 2 * (k + 1) = 2 * k + 1 + 1 by omega, List.getElem?_cons_succ, List.getElem?_cons_succ, fq_0 b ts k, List.getElem?_cons_succ]
theorem fq_1 (b : Int) : ∀ (ts : List (Int × Int)) (k : Nat), (fq b ts)[2 * k + 1]? = (ts[k]?).map fun t => nm (qn b t.2)
  | [], k => by simp [fq]
  | t :: ts, 0 => rfl
  | t :: ts, k + 1 => by
    show (nm (qn b t.1) :: nm (qn b t.2) :: fq b ts)[2 * (k + 1) + 1]? = _
    rw [show 2 * (k + 1) + 1 = 2 * k + 1 + 1 + 1 by omega, List.getElem?_cons_succ, List.getElem?_cons_succ, fq_1 b ts k, List.getElem?_cons_succ]
theorem fq_len (b : Int) : ∀ ts : List (Int × Int), (fq b ts).length = 2 * ts.length
  | [] => rfl
  | t :: ts => by
    show (fq b ts).length + 1 + 1 = 2 * (ts.length + 1)
    rw [fq_len b ts]
    omega
theorem fd_map (b : Int) : ∀ ts : List (Int × Int), (ts.flatMap fun t => [t.1, t.2]).map PyData.int = fd ts ∧ (ts.flatMap fun t => [t.1, t.2]).map (fun x => nm (qn b x)) = fq b ts
  | [] => ⟨rfl, rfl⟩
  | t :: ts => ⟨congrArg (fun l => PyData.int t.1 :: .int t.2 :: l) (fd_map b ts).1, congrArg (fun l => nm (qn b t.1) :: nm (qn b t.2) :: l) (fd_map b ts).2⟩
theorem some_eq (hfu : FU ≤ fu) (tp : Tp ts b) {a0 : Vw} {x0 x1 x2 x3 x4 x5 x7 x8 x9 x10 x12 x13 x14 x15 x16 x17 : Option MI.D} (ha : a0 = [x0, x1, x2, x3, x4, x5, some (.int b), x7, x8, x9, x10, some (.list (fd ts)), x12, x13, x14, x15, x16, x17]) : nLc (mItems (mVar 11)) [17] (vN 17) (mYes) (mCall 2 (Pg.f_sr_low fu) [] (mCons (mVar 17) (mCons (mVar 6) (mNil)))) a0 = .ok (fq b ts) := by
  subst ha
  have tl := tp.l
  obtain ⟨e1, e2⟩ := fd_map b ts
  rw [← e1, ← e2]
  refine nLc_mapG (enc := fun x => PyData.int x) (val := fun x => nm (qn b x)) (by rfl) (fun x hx => ?_) ?_
  · obtain ⟨t, ht, hx⟩ := List.mem_flatMap.mp hx
    obtain ⟨_, t1, t2⟩ := tp.t t ht
    have lo : Pg.f_sr_low fu [.int x, .int b] = .ok (nm (qn b x)) := by
      simp only [List.mem_cons, List.not_mem_nil, or_false] at hx
      rcases hx with rfl | rfl
      · exact low_p hfu tp t1
      · exact low_p hfu tp t2
    refine ⟨[x0, x1, x2, x3, x4, x5, some (.int b), x7, x8, x9, x10, some (.list ((ts.flatMap fun t => [t.1, t.2]).map PyData.int)), x12, x13, x14, x15, x16, some (.int x)], rfl, ?_⟩
    generalize (ts.flatMap fun t => [t.1, t.2]).map PyData.int = FD at *
    generalize nm (qn b x) = R at *
    simp [lo]
  · have := congrArg List.length e1
    rw [List.length_map, fd_len] at this
    rw [this]
    simp [most]
    omega
theorem wish_eq (tp : Tp ts b) {a0 : Vw} {x0 x1 x2 x3 x4 x5 x6 x7 x8 x9 x10 x11 x13 x14 x15 x16 x17 : Option MI.D} (ha : a0 = [x0, x1, x2, x3, x4, x5, x6, x7, x8, x9, x10, x11, some (.list (fq b ts)), x13, x14, x15, x16, x17]) : nLc (mRng rng3 (mCons (mC (.int 0)) (mCons (mDs fLen (mCons (mVar 12) (mNil))) (mCons (mC (.int 2)) (mNil))))) [16] (vN 16) (mYes) (mDs dTup (mCons (mBin fIx (mVar 12) (mVar 16)) (mCons (mBin fIx (mVar 12) (mBin fAddL (mVar 16) (mC (.int 1)))) (mNil)))) a0 = .ok (ts.map (pr b)) := by
  subst ha
  have hl := tp.l
  have hi : mRng rng3 (mCons (mC (.int 0)) (mCons (mDs fLen (mCons (mVar 12) (mNil))) (mCons (mC (.int 2)) (mNil)))) [x0, x1, x2, x3, x4, x5, x6, x7, x8, x9, x10, x11, some (.list (fq b ts)), x13, x14, x15, x16, x17] = .ok ((List.range ts.length).map fun (j : Nat) => PyData.int ((j : Int) * 2)) := by
    have fl : fLen [.list (fq b ts)] = some (.int ((2 * ts.length : Nat) : Int)) := by
      rw [← fq_len b ts]
      rfl
    have r3 : rng3 [.int 0, .int ((2 * ts.length : Nat) : Int), .int 2] = some ((List.range ts.length).map fun (j : Nat) => PyData.int ((j : Int) * 2)) := by
      have h4 : ts.length = 2 ∨ ts.length = 3 ∨ ts.length = 4 := by omega
      rcases h4 with h | h | h <;> rw [h] <;> rfl
    generalize ((2 * ts.length : Nat) : Int) = N2 at *
    generalize (List.range ts.length).map (fun (j : Nat) => PyData.int ((j : Int) * 2)) = RL at *
    generalize fq b ts = FD at *
    have st : (mRng rng3 (mCons (mC (.int 0)) (mCons (mDs fLen (mCons (mVar 12) (mNil))) (mCons (mC (.int 2)) (mNil)))) [x0, x1, x2, x3, x4, x5, x6, x7, x8, x9, x10, x11, some (.list FD), x13, x14, x15, x16, x17]).sat (fun ds => ds = RL) fun _ _ => False := by
      simp [fl, r3]
    apply Exists.elim st.eq
    rintro x ⟨hx, rfl⟩
    exact hx
  generalize mRng rng3 (mCons (mC (.int 0)) (mCons (mDs fLen (mCons (mVar 12) (mNil))) (mCons (mC (.int 2)) (mNil)))) = IT at *
  have em : ts.map (pr b) = (List.range ts.length).map fun j => pr b (ts.getD j (0, 0)) := (range_map (pr b) ts).symm
  rw [em]
  refine nLc_mapG (α := Nat) (enc := fun j => .int ((j : Int) * 2)) (val := fun j => pr b (ts.getD j (0, 0))) hi (fun j hj => ?_) (by rw [List.length_range]; simp [most]; omega)
  have hj := List.mem_range.mp hj
  have ht : ts[j]? = some (ts.getD j (0, 0)) := by rw [List.getD_eq_getElem?_getD, List.getElem?_eq_getElem hj]; rfl
  have i0 : fIx (.list (fq b ts)) (.int ((j : Int) * 2)) = some (nm (qn b (ts.getD j (0, 0)).1)) := by
    rw [show ((j : Int) * 2) = ((2 * j : Nat) : Int) by omega, fIx_lN, fq_0, ht]
    rfl
  have i1 : fIx (.list (fq b ts)) (.int ((j : Int) * 2 + 1)) = some (nm (qn b (ts.getD j (0, 0)).2)) := by
    rw [show ((j : Int) * 2 + 1) = ((2 * j + 1 : Nat) : Int) by omega, fIx_lN, fq_1, ht]
    rfl
  refine ⟨[x0, x1, x2, x3, x4, x5, x6, x7, x8, x9, x10, x11, some (.list (fq b ts)), x13, x14, x15, some (.int ((j : Int) * 2)), x17], rfl, ?_⟩
  generalize ((j : Int) * 2) = J at *
  unfold pr
  generalize ts.getD j (0, 0) = t at *
  generalize fq b ts = FD at *
  generalize nm (qn b t.1) = N1 at *
  generalize nm (qn b t.2) = N2 at *
  simp [i0, i1]
end
section
variable {fu : Nat} (hfu : FU ≤ fu) {nd : List MI.D}
include hfu
theorem turn_sat {K : Int} (src : ∀ {Q : T → Ct → Prop} {E : Str → Option MI.D → Ct → Prop}, (∀ s, IsSrc s → Q s [.un, .un]) → (Pg.f_sr_source fu [(false, .dat (.list nd)), (false, .dat (.int K))]).sat Q E) {c2 c3 c4 c5 c6 c7 c8 c9 c10 c11 c12 c13 c14 c15 c16 c17 : Cl} (f2 : Fr c2) (f3 : Fr c3) (f4 : Fr c4) (f5 : Fr c5) (f6 : Fr c6) (f7 : Fr c7) (f8 : Fr c8) (f9 : Fr c9) (f10 : Fr c10) (f11 : Fr c11) (f12 : Fr c12) (f13 : Fr c13) (f14 : Fr c14) (f15 : Fr c15) (f16 : Fr c16) (f17 : Fr c17) {p : PoT}
    (q : ∀ (L : Int) (cs : List Int) (n : Bool) (b lo hi : Int) (ts : List (Int × Int)) (c2 c16 : Cl), Fr c2 → Fr c16 → (24 ≤ L ∧ L ≤ 2001 ∧ L ≤ 2000) → cs.length ≤ 3 → (1 ≤ b ∧ b ≤ 60) → (lo < hi ∧ lo.natAbs < 2 ^ 60 ∧ hi.natAbs < 2 ^ 60) → Tp ts b → (tFor (xiP (mItems (mDs dLst (mCons (mC (.str "upright")) (mCons (mC (.str "level")) (mNil)))))) (uN 14) (b_p_law_1 fu) (gL nd K L (.list (cs.map kd)) (.bool n) (.int b) (.int lo) (.int hi) (.list [nm (qn b lo), nm (qn b hi)]) (tkd fu b lo hi L) (.list (fd ts)) (.list (fq b ts)) (.tuple [.str "broken", .tuple (ts.map (pr b))]) c2 c14 c15 c16 c17)).sat p) :
    (b_p_law_2 fu [.t (.dat (.list nd)), .t (.dat (.int K)), c2, c3, c4, c5, c6, c7, c8, c9, c10, c11, c12, c13, c14, c15, c16, c17]).sat p := by
  have MM : most = 16777216 := rfl
  have P60 : (2 : Nat) ^ 60 = 1152921504606846976 := by decide
  rw [b_p_law_2]
  refine seqT (fun g => ∃ s, IsSrc s ∧ g = [.t (.dat (.list nd)), .t (.dat (.int K)), .t s, c3, c4, c5, c6, c7, c8, c9, c10, c11, c12, c13, c14, c15, c16, c17]) ?_ ?_
  · simp
    refine src fun s hs => ?_
    simp [f2, f3, f4, f5, f6, f7, f8, f9, f10, f11, f12, f13, f14, f15, f16, f17]
    exact hs
  rintro _ ⟨s, hs, rfl⟩
  refine seqT (fun g => ∃ (s : T) (L : Int), IsSrc s ∧ (24 ≤ L ∧ L ≤ 2000) ∧ g = [.t (.dat (.list nd)), .t (.dat (.int K)), .t s, .t (.dat (.int L)), c4, c5, c6, c7, c8, c9, c10, c11, c12, c13, c14, c15, c16, c17]) ?_ ?_
  · simp [f2, f3, f4, f5, f6, f7, f8, f9, f10, f11, f12, f13, f14, f15, f16, f17]
    refine draw_sat hs (by decide) (by decide) fun r s1 h1 r0 r1 => ?_
    simp [f2, f3, f4, f5, f6, f7, f8, f9, f10, f11, f12, f13, f14, f15, f16, f17]
    refine sat_pick r0 (by simp; omega) fun d hd => ?_
    have hd : d = .int 100 ∨ d = .int 1977 := by simpa using hd
    obtain ⟨D, rfl, D0, D1⟩ : ∃ D : Int, d = .int D ∧ 0 < D ∧ D ≤ 1977 := by
      rcases hd with rfl | rfl
      · exact ⟨_, rfl, by omega, by omega⟩
      · exact ⟨_, rfl, by omega, by omega⟩
    refine great_sat h1 D0 (by omega) fun r s2 h2 r0 r1 => ?_
    simp [f2, f3, f4, f5, f6, f7, f8, f9, f10, f11, f12, f13, f14, f15, f16, f17]
    exact ⟨h2, by omega, by omega⟩
  rintro _ ⟨s, L, hs, hL, rfl⟩
  refine seqT (fun g => ∃ (s : T) (cs : List Int) (c16 : Cl), Fr c16 ∧ IsSrc s ∧ cs.length ≤ 3 ∧ g = [.t (.dat (.list nd)), .t (.dat (.int K)), .t s, .t (.dat (.int L)), .t (.lst ((cs.map kd).map T.dat)), c5, c6, c7, c8, c9, c10, c11, c12, c13, c14, c15, c16, c17]) ?_ ?_
  · simp [f2, f3, f4, f5, f6, f7, f8, f9, f10, f11, f12, f13, f14, f15, f16, f17]
    refine draw_sat hs (by decide) (by decide) fun r s1 h1 r0 r1 => ?_
    simp [f2, f3, f4, f5, f6, f7, f8, f9, f10, f11, f12, f13, f14, f15, f16, f17]
    refine ⟨lim, ?_⟩
    refine loopCT_sat (fun k acc g => ∃ (s : T) (cs : List Int), IsSrc s ∧ cs.length = k ∧ k ≤ 3 ∧ acc = (cs.map kd).map T.dat ∧ g = [.t (.dat (.list nd)), .t (.dat (.int K)), .t s, .t (.dat (.int L)), c4, c5, c6, c7, c8, c9, c10, c11, c12, c13, c14, c15, .un, c17]) ⟨s1, [], h1, rfl, by omega, rfl, by simp [wipeG, f2, f3, f4, f5, f6, f7, f8, f9, f10, f11, f12, f13, f14, f15, f16, f17]⟩ ?_ ?_
    · rintro k d acc _ hd ⟨s2, cs, h2, cl, k3, rfl, rfl⟩
      simp at hd
      obtain ⟨hk, rfl⟩ := hd
      simp [uV, f2, f3, f4, f5, f6, f7, f8, f9, f10, f11, f12, f13, f14, f15, f16, f17]
      refine draw_sat h2 (by decide) (by decide) fun r s3 h3 r0 r1 => ?_
      simp [f2, f3, f4, f5, f6, f7, f8, f9, f10, f11, f12, f13, f14, f15, f16, f17]
      refine ⟨by omega, s3, h3, cs ++ [r], by simp [cl], by omega, by simp [kd], by simp [wipeG, f2, f3, f4, f5, f6, f7, f8, f9, f10, f11, f12, f13, f14, f15, f16, f17]⟩
    · rintro acc _ ⟨s2, cs, h2, cl, k3, rfl, rfl⟩
      simp [f2, f3, f4, f5, f6, f7, f8, f9, f10, f11, f12, f13, f14, f15, f16, f17]
      exact ⟨s2, cs, .un, fr_un, h2, by omega, by simp⟩
  rintro _ ⟨s, cs, c16, f16, hs, csl, rfl⟩
  have fzc : fz (.lst ((cs.map kd).map T.dat)) = .list (cs.map kd) := by rw [fz_lst, fzL_dats]
  refine frzT [.t (.dat (.list nd)), .t (.dat (.int K)), .t s, .t (.dat (.int L)), .t (.dat (.list (cs.map kd))), c5, c6, c7, c8, c9, c10, c11, c12, c13, c14, c15, c16, c17] (.lst ((cs.map kd).map T.dat)) rfl ?_ ?_
  · generalize (cs.map kd).map T.dat = CT at *
    simp [f2, f3, f4, f5, f6, f7, f8, f9, f10, f11, f12, f13, f14, f15, f16, f17, ← fzc]
  clear fzc
  refine seqT (fun g => ∃ (s : T) (n : Bool), IsSrc s ∧ g = [.t (.dat (.list nd)), .t (.dat (.int K)), .t s, .t (.dat (.int L)), .t (.dat (.list (cs.map kd))), .t (.dat (.bool n)), c6, c7, c8, c9, c10, c11, c12, c13, c14, c15, c16, c17]) ?_ ?_
  · generalize cs.map kd = CD at *
    simp [f2, f3, f4, f5, f6, f7, f8, f9, f10, f11, f12, f13, f14, f15, f16, f17]
    refine draw_sat hs (by decide) (by decide) fun r s1 h1 r0 r1 => ?_
    simp [f2, f3, f4, f5, f6, f7, f8, f9, f10, f11, f12, f13, f14, f15, f16, f17]
    by_cases c : r = 1
    · exact ⟨s1, h1, .inr ⟨rfl, c⟩⟩
    · exact ⟨s1, h1, .inl ⟨rfl, c⟩⟩
  rintro _ ⟨s, n, hs, rfl⟩
  refine seqT (fun g => ∃ (s : T) (b : Int), IsSrc s ∧ (1 ≤ b ∧ b ≤ 60) ∧ g = [.t (.dat (.list nd)), .t (.dat (.int K)), .t s, .t (.dat (.int L)), .t (.dat (.list (cs.map kd))), .t (.dat (.bool n)), .t (.dat (.int b)), c7, c8, c9, c10, c11, c12, c13, c14, c15, c16, c17]) ?_ ?_
  · generalize cs.map kd = CD at *
    simp [f2, f3, f4, f5, f6, f7, f8, f9, f10, f11, f12, f13, f14, f15, f16, f17]
    refine draw_sat hs (by decide) (by decide) fun r s1 h1 r0 r1 => ?_
    simp [f2, f3, f4, f5, f6, f7, f8, f9, f10, f11, f12, f13, f14, f15, f16, f17]
    refine draw_sat h1 (by decide) (by decide) fun r2 s2 h2 r20 r21 => ?_
    simp [f2, f3, f4, f5, f6, f7, f8, f9, f10, f11, f12, f13, f14, f15, f16, f17]
    refine sat_pick r20 (by simp; omega) fun d hd => ?_
    have hd : d = .int 1 ∨ d = .int (1 + r) := by simpa using hd
    rcases hd with rfl | rfl
    · simp [f2, f3, f4, f5, f6, f7, f8, f9, f10, f11, f12, f13, f14, f15, f16, f17]
      exact h2
    · simp [f2, f3, f4, f5, f6, f7, f8, f9, f10, f11, f12, f13, f14, f15, f16, f17]
      exact ⟨h2, by omega, by omega⟩
  rintro _ ⟨s, b, hs, hb, rfl⟩
  apply Exists.elim (⟨_, fun _ => Iff.rfl⟩ : ∃ J : Ct → Prop, ∀ g, J g ↔ ∃ (s : T) (lo hi : Int), IsSrc s ∧ (lo < hi ∧ lo.natAbs < 2 ^ 60 ∧ hi.natAbs < 2 ^ 60) ∧ g = [.t (.dat (.list nd)), .t (.dat (.int K)), .t s, .t (.dat (.int L)), .t (.dat (.list (cs.map kd))), .t (.dat (.bool n)), .t (.dat (.int b)), .t (.dat (.int lo)), .t (.dat (.int hi)), c9, c10, c11, c12, c13, c14, c15, c16, c17])
  intro J hJ
  refine seqT J ?_ ?_
  · generalize cs.map kd = CD at *
    have rs := fun {Q E} q => rising_sat (fu := fu) hs (n := 2) (by decide) (Q := Q) (E := E) q
    simp [f2, f3, f4, f5, f6, f7, f8, f9, f10, f11, f12, f13, f14, f15, f16, f17]
    refine rs fun xs s1 h1 xl hx => ?_
    match xs, xl, hx with
    | [x, y], _, hx =>
      have hp := hx.p
      have hb := hx.b
      simp [f2, f3, f4, f5, f6, f7, f8, f9, f10, f11, f12, f13, f14, f15, f16, f17]
      exact (hJ _).mpr ⟨s1, x, y, h1, ⟨by simpa using hp, hb x (by simp), hb y (by simp)⟩, rfl⟩
  intro g hg
  apply Exists.elim ((hJ _).mp hg)
  rintro s ⟨lo, hi, hs, hlh, rfl⟩
  clear hJ hg
  have low := fun {x : Int} (h : x.natAbs < 2 ^ 60) => (low_q fu hfu (top := x) (bottom := b) (by omega) (sm_of (show b.natAbs < 2 ^ 6 by omega) (by decide))).1
  have lo1 : Pg.f_sr_low fu [.int lo, .int b] = .ok (nm (qn b lo)) := low hlh.2.1
  have lo2 : Pg.f_sr_low fu [.int hi, .int b] = .ok (nm (qn b hi)) := low hlh.2.2
  refine seqT1 [.t (.dat (.list nd)), .t (.dat (.int K)), .t s, .t (.dat (.int L)), .t (.dat (.list (cs.map kd))), .t (.dat (.bool n)), .t (.dat (.int b)), .t (.dat (.int lo)), .t (.dat (.int hi)), .t (.dat (.list [nm (qn b lo), nm (qn b hi)])), c10, c11, c12, c13, c14, c15, c16, c17] ?_ ?_
  · generalize cs.map kd = CD at *
    simp [f2, f3, f4, f5, f6, f7, f8, f9, f10, f11, f12, f13, f14, f15, f16, f17, lo1, lo2]
  have sh1 := (shw_ok fu (bd_mono (divInt_bd (n := 60) hb hlh.2.1 (by decide)) (show 60 ≤ 900 by decide))).1
  have sh2 := (shw_ok fu (bd_mono (divInt_bd (n := 60) hb hlh.2.2 (by decide)) (show 60 ≤ 900 by decide))).1
  refine seqT1 [.t (.dat (.list nd)), .t (.dat (.int K)), .t s, .t (.dat (.int L)), .t (.dat (.list (cs.map kd))), .t (.dat (.bool n)), .t (.dat (.int b)), .t (.dat (.int lo)), .t (.dat (.int hi)), .t (.dat (.list [nm (qn b lo), nm (qn b hi)])), .t (.dat (tkd fu b lo hi L)), c11, c12, c13, c14, c15, c16, c17] ?_ ?_
  · generalize cs.map kd = CD at *
    unfold tkd
    have sh1 : Pg.f_p_show_number fu [nm (qn b lo)] = .ok (.str (S (shw fu (qn b lo)))) := sh1
    have sh2 : Pg.f_p_show_number fu [nm (qn b hi)] = .ok (.str (S (shw fu (qn b hi)))) := sh2
    generalize nm (qn b lo) = N1 at *
    generalize nm (qn b hi) = N2 at *
    simp [f2, f3, f4, f5, f6, f7, f8, f9, f10, f11, f12, f13, f14, f15, f16, f17, sh1, sh2]
  apply Exists.elim (⟨_, fun _ => Iff.rfl⟩ : ∃ J : Ct → Prop, ∀ g, J g ↔ ∃ (s : T) (ts : List (Int × Int)), IsSrc s ∧ Tp ts b ∧ g = [.t (.dat (.list nd)), .t (.dat (.int K)), .t s, .t (.dat (.int L)), .t (.dat (.list (cs.map kd))), .t (.dat (.bool n)), .t (.dat (.int b)), .t (.dat (.int lo)), .t (.dat (.int hi)), .t (.dat (.list [nm (qn b lo), nm (qn b hi)])), .t (.dat (tkd fu b lo hi L)), .t (.dat (.list (fd ts))), c12, c13, c14, c15, c16, c17])
  intro J2 hJ
  refine seqT J2 ?_ ?_
  · generalize cs.map kd = CD at *
    generalize tkd fu b lo hi L = TK at *
    generalize nm (qn b lo) = N1 at *
    generalize nm (qn b hi) = N2 at *
    simp [f2, f3, f4, f5, f6, f7, f8, f9, f10, f11, f12, f13, f14, f15, f16, f17]
    refine draw_sat hs (by decide) (by decide) fun r s1 h1 r0 r1 => ?_
    have mo : okMul 2 (2 + r) = true := okM
    simp [f2, f3, f4, f5, f6, f7, f8, f9, f10, f11, f12, f13, f14, f15, f16, f17, mo]
    obtain ⟨m, rfl⟩ := Int.eq_ofNat_of_zero_le r0
    have e2 : 2 * (2 + (m : Int)) = ((2 * (2 + m) : Nat) : Int) := by omega
    rw [e2]
    refine rising_sat (fu := fu) h1 (n := 2 * (2 + m)) (by omega) fun xs s2 h2 xl hx => ?_
    obtain ⟨ts, tl, te, tt⟩ := pairs (2 + m) xs xl hx.p hx.b
    have xe : xs.map PyData.int = fd ts := by
      rw [te]
      unfold fd
      rw [List.map_flatMap]
      rfl
    have fzx : fzL ((xs.map PyData.int).map T.dat) = fd ts := by rw [fzL_dats, xe]
    generalize (xs.map PyData.int).map T.dat = XT at *
    simp [f2, f3, f4, f5, f6, f7, f8, f9, f10, f11, f12, f13, f14, f15, f16, f17, fzx]
    exact (hJ _).mpr ⟨s2, ts, h2, ⟨by omega, hb, tt⟩, rfl⟩
  intro g hg
  apply Exists.elim ((hJ _).mp hg)
  rintro s ⟨ts, hs, tp, rfl⟩
  clear hJ hg
  have tl := tp.l
  refine seqT1 [.t (.dat (.list nd)), .t (.dat (.int K)), .t s, .t (.dat (.int L)), .t (.dat (.list (cs.map kd))), .t (.dat (.bool n)), .t (.dat (.int b)), .t (.dat (.int lo)), .t (.dat (.int hi)), .t (.dat (.list [nm (qn b lo), nm (qn b hi)])), .t (.dat (tkd fu b lo hi L)), .t (.dat (.list (fd ts))), .t (.dat (.list (fq b ts))), c13, c14, c15, c16, c17] ?_ ?_
  · have nl := some_eq hfu tp (a0 := (tvd [.t (.dat (.list nd)), .t (.dat (.int K)), .t s, .t (.dat (.int L)), .t (.dat (.list (cs.map kd))), .t (.dat (.bool n)), .t (.dat (.int b)), .t (.dat (.int lo)), .t (.dat (.int hi)), .t (.dat (.list [nm (qn b lo), nm (qn b hi)])), .t (.dat (tkd fu b lo hi L)), .t (.dat (.list (fd ts))), c12, c13, c14, c15, c16, c17])) rfl
    generalize nLc (mItems (mVar 11)) [17] (vN 17) (mYes) (mCall 2 (Pg.f_sr_low fu) [] (mCons (mVar 17) (mCons (mVar 6) (mNil)))) = NL at *
    generalize cs.map kd = CD at *
    generalize tkd fu b lo hi L = TK at *
    generalize nm (qn b lo) = N1 at *
    generalize nm (qn b hi) = N2 at *
    generalize fd ts = FD at *
    generalize fq b ts = FQ at *
    simp at nl
    simp [f2, f3, f4, f5, f6, f7, f8, f9, f10, f11, f12, f13, f14, f15, f16, f17, nl]
  have nl := wish_eq tp (a0 := (tvd [.t (.dat (.list nd)), .t (.dat (.int K)), .t s, .t (.dat (.int L)), .t (.dat (.list (cs.map kd))), .t (.dat (.bool n)), .t (.dat (.int b)), .t (.dat (.int lo)), .t (.dat (.int hi)), .t (.dat (.list [nm (qn b lo), nm (qn b hi)])), .t (.dat (tkd fu b lo hi L)), .t (.dat (.list (fd ts))), .t (.dat (.list (fq b ts))), c13, c14, c15, c16, c17])) rfl
  generalize nLc (mRng rng3 (mCons (mC (.int 0)) (mCons (mDs fLen (mCons (mVar 12) (mNil))) (mCons (mC (.int 2)) (mNil))))) [16] (vN 16) (mYes) (mDs dTup (mCons (mBin fIx (mVar 12) (mVar 16)) (mCons (mBin fIx (mVar 12) (mBin fAddL (mVar 16) (mC (.int 1)))) (mNil)))) = NL at *
  refine seqT1 [.t (.dat (.list nd)), .t (.dat (.int K)), .t s, .t (.dat (.int L)), .t (.dat (.list (cs.map kd))), .t (.dat (.bool n)), .t (.dat (.int b)), .t (.dat (.int lo)), .t (.dat (.int hi)), .t (.dat (.list [nm (qn b lo), nm (qn b hi)])), .t (.dat (tkd fu b lo hi L)), .t (.dat (.list (fd ts))), .t (.dat (.list (fq b ts))), .t (.dat (.tuple [.str "broken", .tuple (ts.map (pr b))])), c14, c15, c16, c17] ?_ ?_
  · generalize cs.map kd = CD at *
    generalize tkd fu b lo hi L = TK at *
    generalize nm (qn b lo) = N1 at *
    generalize nm (qn b hi) = N2 at *
    generalize fd ts = FD at *
    generalize fq b ts = FQ at *
    generalize ts.map (pr b) = PR at *
    simp at nl
    simp [f2, f3, f4, f5, f6, f7, f8, f9, f10, f11, f12, f13, f14, f15, f16, f17, nl]
  exact q L cs n b lo hi ts (.t s) c16 (fr_t _) f16 (by omega) csl hb hlh tp
end
section
variable {fu : Nat} (hfu : FU ≤ fu) {nd : List MI.D}
include hfu
theorem way_sat {K L : Int} {cs : List Int} {n : Bool} {b lo hi : Int} {ts : List (Int × Int)} (hL : 24 ≤ L ∧ L ≤ 2001 ∧ L ≤ 2000) (hb : 1 ≤ b ∧ b ≤ 60) (hlh : lo < hi ∧ lo.natAbs < 2 ^ 60 ∧ hi.natAbs < 2 ^ 60) (tp : Tp ts b) (lv : Bool) {c2 c15 c16 c17 : Cl} (f2 : Fr c2) (f15 : Fr c15) (f16 : Fr c16) (f17 : Fr c17) {p : PoT}
    (q : ∀ c15 : Cl, Fr c15 → p.nx (gL nd K L (.list (cs.map kd)) (.bool n) (.int b) (.int lo) (.int hi) (.list [nm (qn b lo), nm (qn b hi)]) (tkd fu b lo hi L) (.list (fd ts)) (.list (fq b ts)) (.tuple [.str "broken", .tuple (ts.map (pr b))]) c2 (.t (.dat (.str (wy lv)))) c15 c16 c17)) :
    (b_p_law_1 fu (gL nd K L (.list (cs.map kd)) (.bool n) (.int b) (.int lo) (.int hi) (.list [nm (qn b lo), nm (qn b hi)]) (tkd fu b lo hi L) (.list (fd ts)) (.list (fq b ts)) (.tuple [.str "broken", .tuple (ts.map (pr b))]) c2 (.t (.dat (.str (wy lv)))) c15 c16 c17)).sat p := by
  have shc : Sh 5 (.list (cs.map kd)) := sh_list (n := 4) fun d hd => by
    obtain ⟨c, _, rfl⟩ := List.mem_map.mp hd
    exact sh_tuple (n := 3) (allC (sh_int _ _) (allC (sh_int _ _) all0))
  have rs := fun {Q E} q => right_s hfu rfl shc hb hlh.1 hlh.2.1 hlh.2.2 (L := L) (by omega) (way := wy lv) (n := n) (Q := Q) (E := E) q
  obtain ⟨du, e1, rb⟩ := right_b hfu rfl shc tp (L := L) (by omega) lv (n := n)
  have ed : PyData.list [.tuple [.int 0, .str (S (shw fu (qn b lo)))], .tuple [.int L, .str (S (shw fu (qn b hi)))]] = tkd fu b lo hi L := rfl
  unfold ssc at rs
  rw [ed] at rs
  clear ed shc
  rw [b_p_law_1]
  generalize tkd fu b lo hi L = TK at *
  generalize f_law_right fu = RF at *
  generalize f_law_broken fu = LB at *
  generalize PyData.tuple (ts.map (pr b)) = TW at *
  generalize fd ts = FD at *
  generalize fq b ts = FQ at *
  generalize PyData.list (cs.map kd) = CD at *
  generalize nm (qn b lo) = N1 at *
  generalize nm (qn b hi) = N2 at *
  generalize wy lv = W at *
  have q := q (.t (.dat (.tuple [.tuple [.str "straight", N1, N2, .int L], TK]))) (fr_t _)
  unfold gL at q ⊢
  refine seqT1 [.t (.dat (.list nd)), .t (.dat (.int K)), c2, .t (.dat (.int L)), .t (.dat CD), .t (.dat (.bool n)), .t (.dat (.int b)), .t (.dat (.int lo)), .t (.dat (.int hi)), .t (.dat (.list [N1, N2])), .t (.dat TK), .t (.dat (.list FD)), .t (.dat (.list FQ)), .t (.dat (.tuple [.str "broken", TW])), .t (.dat (.str W)), .t (.dat (.tuple [.tuple [.str "straight", N1, N2, .int L], TK])), c16, c17] (by simp [f2, f15, f16, f17]) ?_
  refine seqT1 [.t (.dat (.list nd)), .t (.dat (.int K)), c2, .t (.dat (.int L)), .t (.dat CD), .t (.dat (.bool n)), .t (.dat (.int b)), .t (.dat (.int lo)), .t (.dat (.int hi)), .t (.dat (.list [N1, N2])), .t (.dat TK), .t (.dat (.list FD)), .t (.dat (.list FQ)), .t (.dat (.tuple [.str "broken", TW])), .t (.dat (.str W)), .t (.dat (.tuple [.tuple [.str "straight", N1, N2, .int L], TK])), c16, c17] ?_ ?_
  · simp
    refine rs ?_
    simp
  · simp [e1]
    refine rb ?_
    simp
    exact q
end
theorem law_sat (fu : Nat) (hfu : FU ≤ fu) (ns : List Int) (hl : ns.length ≤ 63) (hz : ∀ k, (ns.getD k 0).natAbs.log2 ≤ 1048576) : (f_p_law fu [(false, .dat (.list (ns.map .int)))]).sat (fun t _ => t = .dat (.bool true)) (fun _ _ _ => False) := by
  apply Exists.elim (⟨_, rfl⟩ : ∃ nd, nd = ns.map PyData.int)
  intro nd hnd
  have src := fun (k : Nat) hk {Q} {E} q => source_sat (Q := Q) (E := E) (fu := fu) hz (k := k) hk q
  have ndl : nd.length = ns.length := by rw [hnd, List.length_map]
  rw [← hnd] at src ⊢
  clear hnd
  have ts := fun {K} src {c2 c3 c4 c5 c6 c7 c8 c9 c10 c11 c12 c13 c14 c15 c16 c17} f2 f3 f4 f5 f6 f7 f8 f9 f10 f11 f12 f13 f14 f15 f16 f17 {p} q => turn_sat hfu (nd := nd) (K := K) src (c2 := c2) (c3 := c3) (c4 := c4) (c5 := c5) (c6 := c6) (c7 := c7) (c8 := c8) (c9 := c9) (c10 := c10) (c11 := c11) (c12 := c12) (c13 := c13) (c14 := c14) (c15 := c15) (c16 := c16) (c17 := c17) f2 f3 f4 f5 f6 f7 f8 f9 f10 f11 f12 f13 f14 f15 f16 f17 (p := p) q
  have ws := fun {K L cs n b lo hi ts} hL hb hlh tp lv {c2 c15 c16 c17} f2 f15 f16 f17 {p} q => way_sat hfu (nd := nd) (K := K) (L := L) (cs := cs) (n := n) (b := b) (lo := lo) (hi := hi) (ts := ts) hL hb hlh tp lv (c2 := c2) (c15 := c15) (c16 := c16) (c17 := c17) f2 f15 f16 f17 (p := p) q
  have mb : ∀ n : Int, 0 ≤ n → 0 ≤ (if 1 < if 8 < n then 8 else n then if 8 < n then 8 else n else 1) ∧ (if 1 < if 8 < n then 8 else n then if 8 < n then 8 else n else 1) ≤ 8 := fun n _ => by split <;> split <;> omega
  have m01 := mb nd.length (by omega)
  have m0 := m01.1
  have m1 := m01.2
  clear m01
  apply Exists.elim (⟨_, rfl⟩ : ∃ lp : ST, lp = tFor (xiP (mRng rng1 (mCons (mDs fMax (mCons (mC (.int 1)) (mCons (mDs fMin (mCons (mDs fLen (mCons (mVar 0) (mNil))) (mCons (mC (.int 8)) (mNil)))) (mNil)))) (mNil)))) (uN 1) (b_p_law_2 fu))
  intro lp hlp
  have hs : s_p_law fu = tSeq lp (tRet (xP (mC (.bool true)))) := by rw [hlp]; rfl
  rw [f_p_law, hs]
  refine runT_sat rfl [.t (.dat (.list nd)), .un, .un, .un, .un, .un, .un, .un, .un, .un, .un, .un, .un, .un, .un, .un, .un, .un] rfl ?_
  rw [tsat_seq, hlp]
  simp
  generalize (if 1 < if 8 < (nd.length : Int) then 8 else (nd.length : Int) then if 8 < (nd.length : Int) then 8 else (nd.length : Int) else 1) = mm at m0 m1
  refine ⟨lim, ?_⟩
  apply Exists.elim (⟨_, fun _ _ => Iff.rfl⟩ : ∃ I : Nat → Ct → Prop, ∀ k g, I k g ↔ ∃ c : Ct, AF 17 c ∧ g = .t (.dat (.list nd)) :: c)
  intro I hI
  refine loopT_sat I ((hI _ _).mpr ⟨_, by simp, rfl⟩) ?_ ?_
  · intro k d g hd hg
    apply Exists.elim ((hI _ _).mp hg)
    rintro c ⟨hc, rfl⟩
    rw [rngL_get?] at hd
    split at hd
    · rename_i hk
      have hd : PyData.int (0 + (k : Int) * 1) = d := Option.some.inj hd
      have ek : (0 : Int) + (k : Int) * 1 = (k : Int) := by omega
      rw [ek] at hd
      subst hd
      have kb : k ≤ 100 := by omega
      have src := fun {Q} {E} q => src k kb (Q := Q) (E := E) q
      generalize ((k : Nat) : Int) = K at *
      obtain ⟨c1, c2, c3, c4, c5, c6, c7, c8, c9, c10, c11, c12, c13, c14, c15, c16, c17, rfl, f1, f2, f3, f4, f5, f6, f7, f8, f9, f10, f11, f12, f13, f14, f15, f16, f17⟩ : ∃ c1 c2 c3 c4 c5 c6 c7 c8 c9 c10 c11 c12 c13 c14 c15 c16 c17, c = [c1, c2, c3, c4, c5, c6, c7, c8, c9, c10, c11, c12, c13, c14, c15, c16, c17] ∧ Fr c1 ∧ Fr c2 ∧ Fr c3 ∧ Fr c4 ∧ Fr c5 ∧ Fr c6 ∧ Fr c7 ∧ Fr c8 ∧ Fr c9 ∧ Fr c10 ∧ Fr c11 ∧ Fr c12 ∧ Fr c13 ∧ Fr c14 ∧ Fr c15 ∧ Fr c16 ∧ Fr c17 := by
        match c, hc with
        | [c1, c2, c3, c4, c5, c6, c7, c8, c9, c10, c11, c12, c13, c14, c15, c16, c17], hc =>
          simp at hc
          obtain ⟨f1, f2, f3, f4, f5, f6, f7, f8, f9, f10, f11, f12, f13, f14, f15, f16, f17⟩ := hc
          exact ⟨_, _, _, _, _, _, _, _, _, _, _, _, _, _, _, _, _, rfl, f1, f2, f3, f4, f5, f6, f7, f8, f9, f10, f11, f12, f13, f14, f15, f16, f17⟩
      have et : uN 1 (.int K) [.t (.dat (.list nd)), c1, c2, c3, c4, c5, c6, c7, c8, c9, c10, c11, c12, c13, c14, c15, c16, c17] = some [.t (.dat (.list nd)), .t (.dat (.int K)), c2, c3, c4, c5, c6, c7, c8, c9, c10, c11, c12, c13, c14, c15, c16, c17] := by simp [f1, f2, f3, f4, f5, f6, f7, f8, f9, f10, f11, f12, f13, f14, f15, f16, f17]
      rw [et, os_some]
      refine ts src f2 f3 f4 f5 f6 f7 f8 f9 f10 f11 f12 f13 f14 f15 f16 f17 fun L cs n b lo hi tp c2 c16 f2 f16 hL csl hb hlh tok => ?_
      apply Exists.elim (⟨_, fun _ _ => Iff.rfl⟩ : ∃ J : Nat → Ct → Prop, ∀ j g, J j g ↔ ∃ c14 c15 : Cl, Fr c14 ∧ Fr c15 ∧ g = gL nd K L (.list (cs.map kd)) (.bool n) (.int b) (.int lo) (.int hi) (.list [nm (qn b lo), nm (qn b hi)]) (tkd fu b lo hi L) (.list (fd tp)) (.list (fq b tp)) (.tuple [.str "broken", .tuple (tp.map (pr b))]) c2 c14 c15 c16 c17)
      intro J hJ
      rw [tsat_for]
      show (loopT _ _ [.str "upright", .str "level"] _).sat _
      refine loopT_sat J ((hJ _ _).mpr ⟨_, _, f14, f15, rfl⟩) ?_ ?_
      · intro j d g hd hg
        apply Exists.elim ((hJ _ _).mp hg)
        rintro c14 ⟨c15, f14, f15, rfl⟩
        have hw : ∃ lv, d = .str (wy lv) := by
          rcases j with _ | _ | j
          · cases hd; exact ⟨false, rfl⟩
          · cases hd; exact ⟨true, rfl⟩
          · simp at hd
        apply Exists.elim hw
        rintro lv rfl
        have et : uN 14 (.str (wy lv)) (gL nd K L (.list (cs.map kd)) (.bool n) (.int b) (.int lo) (.int hi) (.list [nm (qn b lo), nm (qn b hi)]) (tkd fu b lo hi L) (.list (fd tp)) (.list (fq b tp)) (.tuple [.str "broken", .tuple (tp.map (pr b))]) c2 c14 c15 c16 c17) = some (gL nd K L (.list (cs.map kd)) (.bool n) (.int b) (.int lo) (.int hi) (.list [nm (qn b lo), nm (qn b hi)]) (tkd fu b lo hi L) (.list (fd tp)) (.list (fq b tp)) (.tuple [.str "broken", .tuple (tp.map (pr b))]) c2 (.t (.dat (.str (wy lv)))) c15 c16 c17) := by
          unfold gL
          simp [f2, f14, f15, f16, f17]
        rw [et, os_some]
        exact ws hL hb hlh tok lv f2 f15 f16 f17 fun c15 f15 => (hJ _ _).mpr ⟨_, c15, fr_t _, f15, rfl⟩
      · intro g hg
        apply Exists.elim ((hJ _ _).mp hg)
        rintro c14 ⟨c15, f14, f15, rfl⟩
        exact (hI _ _).mpr ⟨_, by simp [f2, f14, f15, f16, f17], rfl⟩
    · cases hd
  · intro g hg
    apply Exists.elim ((hI _ _).mp hg)
    rintro c ⟨hc, rfl⟩
    simp
theorem law (fu : Nat) (hfu : FU ≤ fu) (ns : List Int) (hl : ns.length ≤ 63) (hb : ∀ z ∈ ns, Builtin.Int.intBits z ≤ 1048576) : ∃ bs, f_p_law fu [(false, .dat (.list (ns.map .int)))] = .ok (.dat (.bool true)) bs := by
  obtain ⟨t, bs, e, rfl⟩ := (law_sat fu hfu ns hl (bits hb)).eq
  exact ⟨bs, e⟩
end K28
set_option maxRecDepth 100000 in
set_option maxHeartbeats 8000000 in
theorem PySem.Challenge.cw_markscale_k28_told_ends_and_pieces_holds : PySem.Challenge.rw_markscale_k28_told_ends_and_pieces.Holds :=
  K28.holds_of Num.FU fun ns hn hb => K28.law Num.FU (Nat.le_refl _) ns hn hb
