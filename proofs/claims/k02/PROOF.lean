import PyProof.Rows.All
import Wide.All
import OpenK.AllK
import Wide.FinOn
import HandS.ForMost
import HandS.Exc
import HandS.TryOnly
import HandS.ExcOwn
import HandS.WordsExc
import HandS.Flow
import HandS.Style
import HandS.FStr
import HandS.TupAny
import HandS.TupMul
import HandS.IsInst
import HandS.Deep
import HandS.Walk
import PyProof.SeqIndex
import KE.GoesEnum
import KE.GoesNew
import PyProof.EnumMake
import HandS.Conv
import HandS.TupSets
import HandS.SetFor
import HandS.Strs
import KE.GoesMore
import HandS.ExcIs
import HandS.Dict
import HandS.Text
import PySem.Challenge.RW_knavehall_k02_whole_texts
set_option Elab.async false
set_option linter.all false
set_option maxRecDepth 100000
set_option maxHeartbeats 4000000
namespace Pu
open PySem PySem.Spec PyProof.Rows L2

/-! ### results: undefined, a value, a refusal by its number -/
inductive R (α : Type) where
  | no | ok (a : α) | ex (c : Nat)
namespace R
def bind {α β : Type} (x : R α) (f : α → R β) : R β := match x with
  | .no => .no
  | .ok a => f a
  | .ex c => .ex c
@[simp] theorem bind_no {α β : Type} (f : α → R β) : R.bind .no f = .no := rfl
@[simp] theorem bind_ok {α β : Type} (a : α) (f : α → R β) : R.bind (.ok a) f = f a := rfl
@[simp] theorem bind_ex {α β : Type} (c : Nat) (f : α → R β) : R.bind (.ex c) f = .ex c := rfl
def wp {α : Type} (r : R α) (P : α → Prop) (E : Nat → Prop) : Prop := match r with
  | .no => False
  | .ok a => P a
  | .ex c => E c
theorem wp_bind {α β : Type} {r : R α} {f : α → R β} {P : β → Prop} {E : Nat → Prop} (h : (r.bind f).wp P E) : r.wp (fun a => (f a).wp P E) E := by
  cases r <;> exact h
theorem wp_mono {α : Type} {r : R α} {P P' : α → Prop} {E E' : Nat → Prop} (h : r.wp P E) (hp : ∀ a, P a → P' a) (he : ∀ c, E c → E' c) : r.wp P' E' := by
  cases r with
  | no => exact h
  | ok a => exact hp _ h
  | ex c => exact he _ h
end R
def lift {α : Type} : Option α → R α
  | some a => .ok a
  | none => .no
@[simp] theorem lift_some {α : Type} (a : α) : lift (some a) = .ok a := rfl
@[simp] theorem lift_none {α : Type} : lift (none : Option α) = .no := rfl
theorem lift_wp {α : Type} {o : Option α} {P : α → Prop} {E : Nat → Prop} (h : (lift o).wp P E) : ∃ a, o = some a ∧ P a := by
  cases o with
  | none => exact h.elim
  | some a => exact ⟨a, rfl, h⟩

/-! ### data in the heap -/
mutual
/-- v is the datum d in H; a tuple is known to the object -/
inductive Du (K : PySem.W.Frag) (H : Hp) : V → PyData → Prop
  | non : Du K H .non .none
  | bl (b : Bool) : Du K H (.bl b) (.bool b)
  | int (i : Int) : Du K H (.int i) (.int i)
  | str (x : Str) : Du K H (.str x) (.str x)
  | lst {a : Addr} {xs : List V} {ds : List PyData} : SqL K H a xs → DuAll K H xs ds → Du K H (.ref a) (.list ds)
  | tup {a : Addr} {xs : List V} {ds : List PyData} {o : Obj} : H a = some (.frz o (.tup xs)) → o.dict = none → DuAll K H xs ds → Du K H (.ref a) (.tuple ds)
inductive DuAll (K : PySem.W.Frag) (H : Hp) : List V → List PyData → Prop
  | nil : DuAll K H [] []
  | cons {v : V} {vs : List V} {d : PyData} {ds : List PyData} : Du K H v d → DuAll K H vs ds → DuAll K H (v :: vs) (d :: ds)
end
theorem Same.sqt {K : PySem.W.Frag} {H H' : Hp} {a : Addr} {xs : List V} (e : Same H H') (h : SqT K H a xs) : SqT K H' a xs := by
  rcases h with (h | ⟨o, h⟩) | h
  · exact .inl (.inl (e _ _ h))
  · exact .inl (.inr ⟨o, e _ _ h⟩)
  · exact .inr h
theorem SqT.frz {K : PySem.W.Frag} {H : Hp} {a : Addr} {xs : List V} {o : Obj} (h : H a = some (.frz o (.tup xs))) : SqT K H a xs := .inl (.inr ⟨o, h⟩)
mutual
theorem Du.mono {K : PySem.W.Frag} {H H' : Hp} (e : Same H H') : ∀ (d : PyData) (v : V), Du K H v d → Du K H' v d
  | .none, _, h => by cases h; exact .non
  | .bool b, _, h => by cases h; exact .bl b
  | .int i, _, h => by cases h; exact .int i
  | .str x, _, h => by cases h; exact .str x
  | .list ds, _, h => by
    cases h with
    | lst hs ha => exact .lst (e.seq hs) (DuAll.mono e ds _ ha)
  | .tuple ds, _, h => by
    cases h with
    | tup hs hd ha => exact .tup (e _ _ hs) hd (DuAll.mono e ds _ ha)
  | .dict _, _, h => by cases h
theorem DuAll.mono {K : PySem.W.Frag} {H H' : Hp} (e : Same H H') : ∀ (ds : List PyData) (vs : List V), DuAll K H vs ds → DuAll K H' vs ds
  | [], _, h => by cases h; exact .nil
  | d :: ds, _, h => by
    cases h with
    | cons h1 h2 => exact .cons (Du.mono e d _ h1) (DuAll.mono e ds _ h2)
end
mutual
theorem Du.dp {K : PySem.W.Frag} {H : Hp} : ∀ (d : PyData) (v : V), Du K H v d → Dp K H v d
  | .none, _, h => by cases h; exact .non
  | .bool b, _, h => by cases h; exact .bl b
  | .int i, _, h => by cases h; exact .int i
  | .str x, _, h => by cases h; exact .str x
  | .list ds, _, h => by
    cases h with
    | lst hs ha => exact .lst hs (DuAll.dp ds _ ha)
  | .tuple ds, _, h => by
    cases h with
    | tup hs hd ha => exact .tup (.inl (.inr ⟨_, hs⟩)) (DuAll.dp ds _ ha)
  | .dict _, _, h => by cases h
theorem DuAll.dp {K : PySem.W.Frag} {H : Hp} : ∀ (ds : List PyData) (vs : List V), DuAll K H vs ds → DpAll K H vs ds
  | [], _, h => by cases h; exact .nil
  | d :: ds, _, h => by
    cases h with
    | cons h1 h2 => exact .cons (Du.dp d _ h1) (DuAll.dp ds _ h2)
end
section
variable {K : PySem.W.Frag} {H : Hp}
theorem DuAll.length {vs : List V} {ds : List PyData} (h : DuAll K H vs ds) : vs.length = ds.length := by
  induction ds generalizing vs with
  | nil => cases h; rfl
  | cons d ds ih =>
    cases h with
    | cons h1 h2 => simp [ih h2]
theorem DuAll.get {vs : List V} {ds : List PyData} (h : DuAll K H vs ds) {i : Nat} {d : PyData} (e : ds[i]? = some d) : ∃ v, vs[i]? = some v ∧ Du K H v d := by
  induction ds generalizing vs i with
  | nil => simp at e
  | cons d' ds ih =>
    cases h with
    | cons h1 h2 =>
      cases i with
      | zero =>
        have e' : d' = d := by simpa using e
        subst e'
        exact ⟨_, rfl, h1⟩
      | succ i => exact ih h2 (by simpa using e)
theorem DuAll.get' {vs : List V} {ds : List PyData} (h : DuAll K H vs ds) {i : Nat} {v : V} (e : vs[i]? = some v) : ∃ d, ds[i]? = some d ∧ Du K H v d := by
  induction ds generalizing vs i with
  | nil => cases h; simp at e
  | cons d' ds ih =>
    cases h with
    | cons h1 h2 =>
      cases i with
      | zero =>
        rw [List.getElem?_cons_zero] at e
        cases e
        exact ⟨_, rfl, h1⟩
      | succ i =>
        obtain ⟨d, q1, q2⟩ := ih h2 (by simpa using e)
        exact ⟨d, by simpa using q1, q2⟩
theorem DuAll.append {vs ws : List V} {ds es : List PyData} (h : DuAll K H vs ds) (h' : DuAll K H ws es) : DuAll K H (vs ++ ws) (ds ++ es) := by
  induction ds generalizing vs with
  | nil => cases h; exact h'
  | cons d ds ih =>
    cases h with
    | cons h1 h2 => exact .cons h1 (ih h2)
theorem DuAll.one {v : V} {d : PyData} (h : Du K H v d) : DuAll K H [v] [d] := .cons h .nil
theorem DuAll.drop {vs : List V} {ds : List PyData} (n : Nat) (h : DuAll K H vs ds) : DuAll K H (vs.drop n) (ds.drop n) := by
  induction n generalizing vs ds with
  | zero => exact h
  | succ n ih =>
    cases ds with
    | nil => cases h; simpa using DuAll.nil
    | cons d ds =>
      cases h with
      | cons h1 h2 => exact ih h2
theorem DuAll.take {vs : List V} {ds : List PyData} (n : Nat) (h : DuAll K H vs ds) : DuAll K H (vs.take n) (ds.take n) := by
  induction n generalizing vs ds with
  | zero => simpa using DuAll.nil
  | succ n ih =>
    cases ds with
    | nil => cases h; simpa using DuAll.nil
    | cons d ds =>
      cases h with
      | cons h1 h2 => exact .cons h1 (ih h2)
theorem DuAll.ints {ns : List Int} {vs : List V} (h : DuAll K H vs (ns.map .int)) : vs = ns.map V.int := by
  induction ns generalizing vs with
  | nil => cases h; rfl
  | cons n ns ih =>
    cases h with
    | cons h1 h2 =>
      cases h1
      rw [ih h2]
      rfl
theorem DuAll.bools {ns : List Bool} {vs : List V} (h : DuAll K H vs (ns.map .bool)) : vs = ns.map V.bl := by
  induction ns generalizing vs with
  | nil => cases h; rfl
  | cons n ns ih =>
    cases h with
    | cons h1 h2 =>
      cases h1
      rw [ih h2]
      rfl
theorem DuAll.strs {ns : List Str} {vs : List V} (h : DuAll K H vs (ns.map .str)) : vs = ns.map V.str := by
  induction ns generalizing vs with
  | nil => cases h; rfl
  | cons n ns ih =>
    cases h with
    | cons h1 h2 =>
      cases h1
      rw [ih h2]
      rfl
theorem DuAll.ofInts (ns : List Int) : DuAll K H (ns.map V.int) (ns.map .int) := by
  induction ns with
  | nil => exact .nil
  | cons n ns ih => exact .cons (.int n) ih
theorem DuAll.ofStrs (ns : List Str) : DuAll K H (ns.map V.str) (ns.map .str) := by
  induction ns with
  | nil => exact .nil
  | cons n ns ih => exact .cons (.str n) ih
end

/-! ### the heap grows: H0 is the part that is never written again -/
structure Ext (H0 H H0' H' : Hp) : Prop where
  s : Same H H'
  s0 : Same H0 H0'
  sub : Same H0' H'
  old : ∀ a, H a ≠ none → H0' a = H0 a
theorem Ext.refl {H0 H : Hp} (h : Same H0 H) : Ext H0 H H0 H := ⟨Same.refl _, Same.refl _, h, fun _ _ => rfl⟩
theorem Ext.trans {H0 H H1 H' H2 H'' : Hp} (a : Ext H0 H H1 H') (b : Ext H1 H' H2 H'') : Ext H0 H H2 H'' := by
  refine ⟨a.s.trans b.s, a.s0.trans b.s0, b.sub, fun p hp => ?_⟩
  have h1 : H' p ≠ none := by
    cases q : H p with
    | none => exact absurd q hp
    | some o => rw [a.s p o q]; simp
  rw [b.old p h1, a.old p hp]
theorem same_upd {H : Hp} {p : Addr} {o : HO} (h : H p = none) : Same H (upd H p o) := fun b x e => by
  rw [upd_ne (ne_of_none e h)]
  exact e
theorem Ext.new {H0 H : Hp} {p : Addr} {o : HO} (h : Same H0 H) (hp : H p = none) : Ext H0 H (upd H0 p o) (upd H p o) := by
  have hp0 : H0 p = none := h.free hp
  refine ⟨same_upd hp, same_upd hp0, fun b x e => ?_, fun a ha => ?_⟩
  · by_cases hb : b = p
    · subst hb
      rw [upd_same] at e ⊢
      exact e
    · rw [upd_ne hb] at e ⊢
      exact h b x e
  · have : a ≠ p := fun z => ha (by rw [z]; exact hp)
    rw [upd_ne this]
/-- all that came is kept -/
def fz (H0 H H' : Hp) : Hp := fun a => match H a with
  | none => H' a
  | some _ => H0 a
theorem Ext.all {H0 H H' : Hp} (h : Same H0 H) (s : Same H H') : Ext H0 H (fz H0 H H') H' := by
  refine ⟨s, fun b x e => ?_, fun b x e => ?_, fun a ha => ?_⟩
  · show (match H b with | none => H' b | some _ => H0 b) = some x
    rw [h b x e]
    exact e
  · have e : (match H b with | none => H' b | some _ => H0 b) = some x := e
    cases q : H b with
    | none => rw [q] at e; exact e
    | some o =>
      rw [q] at e
      exact s b x (h b x e)
  · show (match H a with | none => H' a | some _ => H0 a) = H0 a
    cases q : H a with
    | none => exact absurd q ha
    | some o => rfl
theorem fz_new {H0 H H' : Hp} {a : Addr} (h : H a = none) : fz H0 H H' a = H' a := by
  show (match H a with | none => H' a | some _ => H0 a) = H' a
  rw [h]

/-! ### the slots -/
inductive Slot where
  | un | d (x : PyData) | own (xs : List PyData)
abbrev Rho := List Slot
structure EnvR (K : PySem.W.Frag) (H0 : Hp) (σ : L2.St) (ρ : Rho) : Prop where
  at' : ∀ (i : Nat) (x : PyData), ρ[i]? = some (.d x) → ∃ v, σ[i]? = some (some v) ∧ Du K H0 v x
  len : ρ.length = σ.length
theorem EnvR.mono {K : PySem.W.Frag} {H H' : Hp} {σ : L2.St} {ρ : Rho} (h : EnvR K H σ ρ) (e : Same H H') : EnvR K H' σ ρ := ⟨fun i x q => by
  obtain ⟨v, q1, q2⟩ := h.at' i x q
  exact ⟨v, q1, Du.mono e _ _ q2⟩, h.len⟩

/-! ### expressions -/
abbrev Wish := Nat → L2.St → Hp → Prop
def tD (K : PySem.W.Frag) (W : Wish) (f : Rho → R PyData) : TE := fun σ H Q => ∃ H0 ρ, Same H0 H ∧ EnvR K H0 σ ρ ∧
  (f ρ).wp (fun d => ∀ v H' H0', Ext H0 H H0' H' → Du K H0' v d → Q v H') (fun c => ∀ H', Same H H' → W c σ H')
def tDs (K : PySem.W.Frag) (W : Wish) (f : Rho → R (List PyData)) : TA := fun σ H Q => ∃ H0 ρ, Same H0 H ∧ EnvR K H0 σ ρ ∧
  (f ρ).wp (fun ds => ∀ vs H' H0', Ext H0 H H0' H' → DuAll K H0' vs ds → Q vs H') (fun c => ∀ H', Same H H' → W c σ H')
/-- a new list: not yet among what is kept -/
def tDf (K : PySem.W.Frag) (W : Wish) (f : Rho → R (List PyData)) : TE := fun σ H Q => ∃ H0 ρ, Same H0 H ∧ EnvR K H0 σ ρ ∧
  (f ρ).wp (fun ds => ∀ p vs H' H0', Ext H0 H H0' H' → H p = none → H0' p = none → H' p = some (.lst vs) → DuAll K H0' vs ds → Q (.ref p) H') (fun c => ∀ H', Same H H' → W c σ H')
def tDt (K : PySem.W.Frag) (W : Wish) (f : Rho → R Bool) : TT := fun σ H Q => ∃ H0 ρ, Same H0 H ∧ EnvR K H0 σ ρ ∧
  (f ρ).wp (fun b => ∀ H' H0', Ext H0 H H0' H' → Q b H') (fun c => ∀ H', Same H H' → W c σ H')
abbrev ED (X : Cx) (W : Wish) (e : Expr) (f : Rho → R PyData) : Prop := PE X e (tD X.K W f)
abbrev EDs (X : Cx) (W : Wish) (es : List Expr) (f : Rho → R (List PyData)) : Prop := PA X es (tDs X.K W f)
abbrev EF (X : Cx) (W : Wish) (e : Expr) (f : Rho → R (List PyData)) : Prop := PE X e (tDf X.K W f)
abbrev TD (X : Cx) (W : Wish) (e : Expr) (f : Rho → R Bool) : Prop := PT X e (tDt X.K W f)
theorem PE_imp {X : Cx} {e : Expr} {t t' : TE} (h : PE X e t) (hi : ∀ σ H Q, t' σ H Q → t σ H Q) : PE X e t' := ⟨fun pins s σ H Q I q => h.run pins s σ H Q I (hi _ _ _ q)⟩
theorem PT_imp {X : Cx} {e : Expr} {t t' : TT} (h : PT X e t) (hi : ∀ σ H Q, t' σ H Q → t σ H Q) : PT X e t' := ⟨fun pins s σ H Q I q => h.run pins s σ H Q I (hi _ _ _ q)⟩
theorem PW_imp {X : Cx} {e : Expr} {t t' : TT} (h : PW X e t) (hi : ∀ σ H Q, t' σ H Q → t σ H Q) : PW X e t' := ⟨fun w pins s σ H Q I q => h.run w pins s σ H Q I (hi _ _ _ q)⟩
theorem PA_imp {X : Cx} {es : List Expr} {t t' : TA} (h : PA X es t) (hi : ∀ σ H Q, t' σ H Q → t σ H Q) : PA X es t' := ⟨fun pos pins s σ H Q I q => h.run pos pins s σ H Q I (hi _ _ _ q)⟩
theorem PS_imp {X : Cx} {e : Stmt} {t t' : TS} (h : PS X e t) (hi : ∀ D σ H, t' D σ H → t D σ H) : PS X e t' := ⟨fun pins s σ H D I q => h.run pins s σ H D I (hi _ _ _ q)⟩
theorem PSs_imp {X : Cx} {e : List Stmt} {t t' : TS} (h : PSs X e t) (hi : ∀ D σ H, t' D σ H → t D σ H) : PSs X e t' := ⟨fun pins s σ H D I q => h.run pins s σ H D I (hi _ _ _ q)⟩

section
variable {K : PySem.W.Frag} {W : Wish} {σ : L2.St} {H : Hp} {f : Rho → R PyData}
/-- the reading of a part, for a whole that binds it -/
theorem tD_of {H0 : Hp} {ρ : Rho} {Q : VK} (s : Same H0 H) (en : EnvR K H0 σ ρ)
    (h : (f ρ).wp (fun d => ∀ v H' H0', Ext H0 H H0' H' → Du K H0' v d → Q v H') (fun c => ∀ H', Same H H' → W c σ H')) : tD K W f σ H Q := ⟨H0, ρ, s, en, h⟩
/-- .. bound: what follows is shown for each value -/
theorem tD_bind {α : Type} {H0 : Hp} {ρ : Rho} {Q : VK} {g : PyData → R α} {P : α → Prop} {E : Nat → Prop} (s : Same H0 H) (en : EnvR K H0 σ ρ) (hw : ((f ρ).bind g).wp P E)
    (hE : ∀ c, E c → ∀ H', Same H H' → W c σ H')
    (h : ∀ d, (g d).wp P E → ∀ v H' H0', Ext H0 H H0' H' → Du K H0' v d → Q v H') : tD K W f σ H Q :=
  ⟨H0, ρ, s, en, R.wp_mono (R.wp_bind hw) (fun d q => h d q) hE⟩
theorem tDs_bind {α : Type} {fs : Rho → R (List PyData)} {H0 : Hp} {ρ : Rho} {Q : List V → Hp → Prop} {g : List PyData → R α} {P : α → Prop} {E : Nat → Prop} (s : Same H0 H) (en : EnvR K H0 σ ρ) (hw : ((fs ρ).bind g).wp P E)
    (hE : ∀ c, E c → ∀ H', Same H H' → W c σ H')
    (h : ∀ ds, (g ds).wp P E → ∀ vs H' H0', Ext H0 H H0' H' → DuAll K H0' vs ds → Q vs H') : tDs K W fs σ H Q :=
  ⟨H0, ρ, s, en, R.wp_mono (R.wp_bind hw) (fun d q => h d q) hE⟩
theorem tDt_bind {α : Type} {fs : Rho → R Bool} {H0 : Hp} {ρ : Rho} {Q : Bool → Hp → Prop} {g : Bool → R α} {P : α → Prop} {E : Nat → Prop} (s : Same H0 H) (en : EnvR K H0 σ ρ) (hw : ((fs ρ).bind g).wp P E)
    (hE : ∀ c, E c → ∀ H', Same H H' → W c σ H')
    (h : ∀ ds, (g ds).wp P E → ∀ H' H0', Ext H0 H H0' H' → Q ds H') : tDt K W fs σ H Q :=
  ⟨H0, ρ, s, en, R.wp_mono (R.wp_bind hw) (fun d q => h d q) hE⟩
end

/-! ### names, constants -/
def eVar (i : Nat) : Rho → R PyData := fun ρ => match ρ[i]? with
  | some (.d x) => .ok x
  | _ => .no
def eK (d : PyData) : Rho → R PyData := fun _ => .ok d
section
variable {X : Cx} {W : Wish} {pos : Pos}
theorem ed_var (i : Nat) {x : Str} (hN : X.N[i]? = some x := by rfl) (hv : Vis X.env.scope x := by first | exact Or.inl rfl | exact Or.inr (Or.inl rfl) | exact Or.inr (Or.inr rfl)) (hd : (x == ("__debug__" : Str)) = false := by decide)
    (hcd : (x == ("__classdict__" : Str)) = false := by decide) : ED X W (.Name x pos) (eVar i) := by
  refine PE_imp (pe_var hN hv hd hcd) fun σ H Q ⟨H0, ρ, s, en, h⟩ => ?_
  unfold eVar at h
  cases e : ρ[i]? with
  | none => rw [e] at h; exact h.elim
  | some z =>
    rw [e] at h
    cases z with
    | un => exact h.elim
    | own xs => exact h.elim
    | d x =>
      obtain ⟨v, q1, q2⟩ := en.at' i x e
      exact ⟨v, q1, h v H H0 (Ext.refl s) q2⟩
theorem ed_int {i : Int} {j : Nat} : ED X W (.Constant (.int i) j pos) (eK (.int i)) := PE_imp pe_int fun _ H _ ⟨H0, _, s, _, h⟩ => h _ H H0 (Ext.refl s) (.int i)
theorem ed_bl {i : Bool} {j : Nat} : ED X W (.Constant (.bool i) j pos) (eK (.bool i)) := PE_imp pe_bl fun _ H _ ⟨H0, _, s, _, h⟩ => h _ H H0 (Ext.refl s) (.bl i)
theorem ed_str {i : Str} {j : Nat} : ED X W (.Constant (.str i) j pos) (eK (.str i)) := PE_imp pe_str fun _ H _ ⟨H0, _, s, _, h⟩ => h _ H H0 (Ext.refl s) (.str i)
theorem ed_non {j : Nat} : ED X W (.Constant .none j pos) (eK .none) := PE_imp pe_non fun _ H _ ⟨H0, _, s, _, h⟩ => h _ H H0 (Ext.refl s) .non
end

/-! ### two-place operations by values -/
def rD2 (K : PySem.W.Frag) (o : PyData → PyData → Option PyData) : R2 := fun x y H Q => ∃ H0 a b d, Same H0 H ∧ Du K H0 x a ∧ Du K H0 y b ∧ o a b = some d ∧ ∀ v H' H0', Ext H0 H H0' H' → Du K H0' v d → Q v H'
abbrev OpD (X : Cx) (fn : Value → Value → Sem Value) (o : PyData → PyData → Option PyData) : Prop := OpR X fn (rD2 X.K o)
def eOp (o : PyData → PyData → Option PyData) (f g : Rho → R PyData) : Rho → R PyData := fun ρ => (f ρ).bind fun x => (g ρ).bind fun y => lift (o x y)
section
variable {X : Cx} {W : Wish} {pos : Pos} {a b : Expr} {f g : Rho → R PyData} {o : PyData → PyData → Option PyData}
theorem ed_two {r : R2} {Q : VK} {σ : L2.St} {H : Hp} {K : PySem.W.Frag} (hr : ∀ x y H Q, rD2 K o x y H Q → r x y H Q) (h : tD K W (eOp o f g) σ H Q) : tOp r (tD K W f) (tD K W g) σ H Q := by
  obtain ⟨H0, ρ, s, en, h⟩ := h
  refine tD_bind s en h (fun c q => q) fun x h1 v H1 H01 e1 d1 => ?_
  refine tD_bind e1.sub (en.mono e1.s0) h1 (fun c q H' hs => q H' (e1.s.trans hs)) fun y h2 u H2 H02 e2 d2 => ?_
  obtain ⟨d, ho, hq⟩ := lift_wp h2
  exact hr _ _ _ _ ⟨H02, x, y, d, e2.sub, Du.mono e2.s0 _ _ d1, d2, ho, fun v H' H0' e3 d3 => hq v H' H0' (e1.trans (e2.trans e3)) d3⟩
theorem ed_op {op : Operator} (ho : OpD X (binaryOp op) o) (ha : ED X W a f) (hb : ED X W b g) : ED X W (.BinOp a op b pos) (eOp o f g) :=
  PE_imp (pe_op ho ha hb) fun _ _ _ h => ed_two (fun _ _ _ _ q => q) h
theorem ed_cmp {op : CmpOp} (ho : OpD X (compareOp op) o) (ha : ED X W a f) (hb : ED X W b g) (hm : behindInMarks op b = false := by first | exact nomark _ | rfl | with_unfolding_all rfl) : ED X W (.Compare a [op] [b] pos) (eOp o f g) :=
  PE_imp (pe_cmpR ho ha hb hm) fun _ _ _ h => ed_two (fun _ _ _ _ q => q) h
/-- a subscript -/
theorem ed_ix (ho : IxR X (rD2 X.K o)) (ha : ED X W a f) (hb : ED X W b g) (hs : PlainIx b := by exact fun _ _ => rfl) : ED X W (.Subscript a b pos) (eOp o f g) :=
  PE_imp (pe_ix ho ha hb hs) fun _ _ _ h => ed_two (fun _ _ _ _ q => q) h
end

/-! ### tests -/
def asB : PyData → Option Bool
  | .bool b => some b
  | _ => none
def truth : PyData → Option Bool
  | .none => some false
  | .bool b => some b
  | .int i => some (i != 0)
  | .str x => if x.length ≤ 1000000 then some ((x.length : Int) != 0) else none
  | .list xs => some (!xs.isEmpty)
  | .tuple xs => some (!xs.isEmpty)
  | .dict _ => none
def tB (f : Rho → R PyData) : Rho → R Bool := fun ρ => (f ρ).bind fun x => lift (asB x)
def tTr (f : Rho → R PyData) : Rho → R Bool := fun ρ => (f ρ).bind fun x => lift (truth x)
def tNo (f : Rho → R Bool) : Rho → R Bool := fun ρ => (f ρ).bind fun b => .ok (!b)
def tAn (f g : Rho → R Bool) : Rho → R Bool := fun ρ => (f ρ).bind fun b => if b = true then g ρ else .ok false
def tOr (f g : Rho → R Bool) : Rho → R Bool := fun ρ => (f ρ).bind fun b => if b = true then .ok true else g ρ
/-- a and b, a or b as values, by truth -/
def eAn (f g : Rho → R PyData) : Rho → R PyData := fun ρ => (f ρ).bind fun x => (lift (truth x)).bind fun b => if b = true then g ρ else .ok x
def eOr (f g : Rho → R PyData) : Rho → R PyData := fun ρ => (f ρ).bind fun x => (lift (truth x)).bind fun b => if b = true then .ok x else g ρ
def eNo (f : Rho → R PyData) : Rho → R PyData := fun ρ => (f ρ).bind fun x => (lift (truth x)).bind fun b => .ok (.bool (!b))
def eIf (c : Rho → R Bool) (f g : Rho → R PyData) : Rho → R PyData := fun ρ => (c ρ).bind fun b => if b = true then f ρ else g ρ
theorem small6 {n : Nat} (h : n ≤ 1000000) : n ≤ sizeLine := by rw [sizeLine_eq]; omega
theorem small6' {n : Nat} (h : n ≤ 1000000) : n < sizeLine := by rw [sizeLine_eq]; omega
theorem DuAll.isEmpty {K : PySem.W.Frag} {H : Hp} {vs : List V} {ds : List PyData} (h : DuAll K H vs ds) : vs.isEmpty = ds.isEmpty := by
  cases ds with
  | nil => cases h; rfl
  | cons d ds =>
    cases h with
    | cons h1 h2 => rfl
theorem truV_of {K : PySem.W.Frag} {H H0 : Hp} {v : V} {d : PyData} {k : Bool} (s : Same H0 H) (h : Du K H0 v d) (e : truth d = some k) : TruV K v H k := by
  cases h with
  | non => exact (Option.some.inj e).symm
  | bl b => exact (Option.some.inj e).symm
  | int i => exact (Option.some.inj e).symm
  | str x =>
    have e : (if x.length ≤ 1000000 then some ((x.length : Int) != 0) else none) = some k := e
    by_cases hl : x.length ≤ 1000000
    · rw [if_pos hl] at e
      exact ⟨small6 hl, (Option.some.inj e).symm⟩
    · rw [if_neg hl] at e
      cases e
  | lst hs ha => exact .inl ⟨_, s.seq hs, by rw [ha.isEmpty]; exact (Option.some.inj e).symm⟩
  | tup hs hd ha => exact .inr (.inl ⟨_, SqT.frz (s _ _ hs), by rw [ha.isEmpty]; exact (Option.some.inj e).symm⟩)
section
variable {X : Cx} {W : Wish} {pos : Pos} {a b c : Expr} {rest : List Expr} {f g : Rho → R PyData} {p q : Rho → R Bool} {o : PyData → PyData → Option PyData}
theorem td_cmp {op : CmpOp} (ho : OpD X (compareOp op) o) (ha : ED X W a f) (hb : ED X W b g) (hm : behindInMarks op b = false := by first | exact nomark _ | rfl | with_unfolding_all rfl) : TD X W (.Compare a [op] [b] pos) (tB (eOp o f g)) := by
  refine PT_imp (pt_cmpR ho ha hb hm) fun σ H Q h => ?_
  obtain ⟨H0, ρ, s, en, h⟩ := h
  refine ed_two (o := o) (fun _ _ _ _ q => q) (W := W) ?_
  refine ⟨H0, ρ, s, en, R.wp_mono (R.wp_bind h) (fun d q v H' H0' e hd => ?_) (fun _ q => q)⟩
  obtain ⟨k, ek, hq⟩ := lift_wp q
  cases d with
  | bool k' =>
    cases ek
    cases hd
    exact ⟨k, rfl, hq H' H0' e⟩
  | _ => cases ek
theorem td_val {e : Expr} (h : ED X W e f) (he : ∀ whole, isTrue e X.env whole = (do let v ← whole; standAt e.pos; holding [v] (truthy v)) := by intro _; rfl) : TD X W e (tTr f) := by
  refine PT_imp (pt_truth h he) fun σ H Q ⟨H0, ρ, s, en, h⟩ => ?_
  refine ⟨H0, ρ, s, en, R.wp_mono (R.wp_bind h) (fun d q v H' H0' e hd => ?_) (fun _ q => q)⟩
  obtain ⟨k, ek, hq⟩ := lift_wp q
  exact ⟨k, truV_of e.sub hd ek, hq H' H0' e⟩
theorem td_not (h : TD X W a p) : TD X W (.UnaryOp .Not a pos) (tNo p) := by
  refine PT_imp (pt_not h) fun σ H Q ⟨H0, ρ, s, en, h⟩ => ?_
  exact tDt_bind s en h (fun c q => q) fun b q H' H0' e => q H' H0' e
theorem tw_and1 (h : TD X W a p) : PW X (.BoolOp .And [a] pos) (tDt X.K W p) := pw_and1 h
theorem tw_or1 (h : TD X W a p) : PW X (.BoolOp .Or [a] pos) (tDt X.K W p) := pw_or1 h
theorem tw_and (h : TD X W a p) (h' : PW X (.BoolOp .And (b :: rest) pos) (tDt X.K W q)) : PW X (.BoolOp .And (a :: b :: rest) pos) (tDt X.K W (tAn p q)) := by
  refine PW_imp (pw_and h h') fun σ H Q ⟨H0, ρ, s, en, h⟩ => ?_
  refine tDt_bind s en h (fun c q => q) fun b hb H' H0' e => ?_
  cases b with
  | true => exact ⟨H0', ρ, e.sub, en.mono e.s0, R.wp_mono hb (fun k z H2 H02 e2 => z H2 H02 (e.trans e2)) fun c z H2 hs => z H2 (e.s.trans hs)⟩
  | false => exact hb H' H0' e
theorem tw_or (h : TD X W a p) (h' : PW X (.BoolOp .Or (b :: rest) pos) (tDt X.K W q)) : PW X (.BoolOp .Or (a :: b :: rest) pos) (tDt X.K W (tOr p q)) := by
  refine PW_imp (pw_or h h') fun σ H Q ⟨H0, ρ, s, en, h⟩ => ?_
  refine tDt_bind s en h (fun c q => q) fun b hb H' H0' e => ?_
  cases b with
  | false => exact ⟨H0', ρ, e.sub, en.mono e.s0, R.wp_mono hb (fun k z H2 H02 e2 => z H2 H02 (e.trans e2)) fun c z H2 hs => z H2 (e.s.trans hs)⟩
  | true => exact hb H' H0' e
theorem td_pw {e : Expr} (h : PW X e (tDt X.K W p)) : TD X W e p := h.pt
theorem ed_one {op : BoolOp} (h : ED X W a f) : ED X W (.BoolOp op [a] pos) f := pe_one h
theorem ed_and (h : ED X W a f) (h' : ED X W (.BoolOp .And (b :: rest) pos) g) : ED X W (.BoolOp .And (a :: b :: rest) pos) (eAn f g) := by
  refine PE_imp (pe_andT h h') fun σ H Q ⟨H0, ρ, s, en, h⟩ => ?_
  refine tD_bind s en h (fun c q => q) fun x hb v H' H0' e hd => ?_
  obtain ⟨k, ek, hq⟩ := lift_wp (R.wp_bind hb)
  refine ⟨k, truV_of e.sub hd ek, ?_⟩
  cases k with
  | true => exact ⟨H0', ρ, e.sub, en.mono e.s0, R.wp_mono hq (fun k z v2 H2 H02 e2 => z v2 H2 H02 (e.trans e2)) fun c z H2 hs => z H2 (e.s.trans hs)⟩
  | false => exact hq v H' H0' e hd
theorem ed_or (h : ED X W a f) (h' : ED X W (.BoolOp .Or (b :: rest) pos) g) : ED X W (.BoolOp .Or (a :: b :: rest) pos) (eOr f g) := by
  refine PE_imp (pe_orT h h') fun σ H Q ⟨H0, ρ, s, en, h⟩ => ?_
  refine tD_bind s en h (fun c q => q) fun x hb v H' H0' e hd => ?_
  obtain ⟨k, ek, hq⟩ := lift_wp (R.wp_bind hb)
  refine ⟨k, truV_of e.sub hd ek, ?_⟩
  cases k with
  | false => exact ⟨H0', ρ, e.sub, en.mono e.s0, R.wp_mono hq (fun k z v2 H2 H02 e2 => z v2 H2 H02 (e.trans e2)) fun c z H2 hs => z H2 (e.s.trans hs)⟩
  | true => exact hq v H' H0' e hd
theorem ed_not (h : ED X W a f) : ED X W (.UnaryOp .Not a pos) (eNo f) := by
  refine PE_imp (pe_notT h) fun σ H Q ⟨H0, ρ, s, en, h⟩ => ?_
  refine tD_bind s en h (fun c q => q) fun x hb v H' H0' e hd => ?_
  obtain ⟨k, ek, hq⟩ := lift_wp (R.wp_bind hb)
  exact ⟨k, truV_of e.sub hd ek, hq _ H' H0' e (.bl _)⟩
theorem ed_if (hc : TD X W c p) (h : ED X W a f) (h' : ED X W b g) : ED X W (.IfExp c a b pos) (eIf p f g) := by
  refine PE_imp (pe_ifExp hc h h') fun σ H Q ⟨H0, ρ, s, en, h⟩ => ?_
  refine tDt_bind s en h (fun c q => q) fun b hb H' H0' e => ?_
  cases b with
  | true => exact ⟨H0', ρ, e.sub, en.mono e.s0, R.wp_mono hb (fun k z v2 H2 H02 e2 => z v2 H2 H02 (e.trans e2)) fun c z H2 hs => z H2 (e.s.trans hs)⟩
  | false => exact ⟨H0', ρ, e.sub, en.mono e.s0, R.wp_mono hb (fun k z v2 H2 H02 e2 => z v2 H2 H02 (e.trans e2)) fun c z H2 hs => z H2 (e.s.trans hs)⟩
end
end Pu

namespace Pu
open PySem PySem.Spec PyProof.Rows L2

/-! ### new tuples, known to the object -/
section
variable {X : Cx} {pins : List (Addr × Obj)} {σ : L2.St} {H : Hp} {s : Shared}
abbrev tupO (its : List Value) : Obj := { cls := .type "tuple", data := .seq its.toArray }
theorem inv_ntup {its : List Value} {xs : List V} {t' : Nat} (I : Inv X pins σ H s) (r : Vals xs its) (hz : xs.length ≤ sizeLine) :
    Inv X pins σ (upd H s.heap.objs.size (.frz (tupO its) (.tup xs))) { s with heap := s.heap.push (tupO its), toks := t' } :=
  I.laid (fun b u e => Heap.get?_push_of_some _ e) (Nat.le_refl _) (show ObjOk X.prog X.w _ _ _ (.frz (tupO its) (.tup xs)) from ⟨Heap.get?_push_size _ rfl, hz, its, r, ⟨_, Heap.get?_push_size _ rfl, rfl, _, rfl⟩⟩)
/-- what is wanted of a new tuple -/
def NewT (xs : List V) (Q : VK) (H : Hp) : Prop := ∀ p o, H p = none → o.dict = none → Q (.ref p) (upd H p (.frz o (.tup xs)))
theorem ep_ntup {its : List Value} {xs : List V} {t' : Nat} {Q : VK} (I : Inv X pins σ H s) (r : Vals xs its) (hz : xs.length ≤ sizeLine) (q : NewT xs Q H) :
    EP X pins σ Q (.ref s.heap.objs.size) { s with heap := s.heap.push (tupO its), toks := t' } :=
  ⟨.ref s.heap.objs.size, _, inv_ntup (t' := t') I r hz, rfl, q _ _ I.fresh rfl⟩
theorem newT_du {K : PySem.W.Frag} {H0 H : Hp} {xs : List V} {ds : List PyData} {Q : VK} (s : Same H0 H) (h : DuAll K H0 xs ds) (q : ∀ v H' H0', Ext H0 H H0' H' → Du K H0' v (.tuple ds) → Q v H') : NewT xs Q H := fun p o hp ho =>
  q _ _ _ (Ext.new s hp) (.tup upd_same ho (DuAll.mono (same_upd (s.free hp)) _ _ h))
def NewL (xs : List V) (Q : VK) (H : Hp) : Prop := ∀ p, H p = none → Q (.ref p) (upd H p (.lst xs))
theorem newL_du {K : PySem.W.Frag} {H0 H : Hp} {xs : List V} {ds : List PyData} {Q : VK} (s : Same H0 H) (h : DuAll K H0 xs ds) (q : ∀ v H' H0', Ext H0 H H0' H' → Du K H0' v (.list ds) → Q v H') : NewL xs Q H := fun p hp =>
  q _ _ _ (Ext.new s hp) (.lst (SqL.of upd_same) (DuAll.mono (same_upd (s.free hp)) _ _ h))
theorem newL_f {K : PySem.W.Frag} {H0 H : Hp} {xs : List V} {ds : List PyData} {Q : VK} (s : Same H0 H) (h : DuAll K H0 xs ds)
    (q : ∀ p vs H' H0', Ext H0 H H0' H' → H p = none → H0' p = none → H' p = some (.lst vs) → DuAll K H0' vs ds → Q (.ref p) H') : NewL xs Q H := fun p hp =>
  q p xs (upd H p (.lst xs)) H0 ⟨same_upd hp, Same.refl _, fun b x e => same_upd hp _ _ (s b x e), fun _ _ => rfl⟩ hp (s.free hp) upd_same h
end

/-! ### argument lists, displays -/
def aNil : Rho → R (List PyData) := fun _ => .ok []
def aCons (f : Rho → R PyData) (fs : Rho → R (List PyData)) : Rho → R (List PyData) := fun ρ => (f ρ).bind fun x => (fs ρ).bind fun xs => .ok (x :: xs)
def eTup (fs : Rho → R (List PyData)) : Rho → R PyData := fun ρ => (fs ρ).bind fun ds => if ds.length ≤ 1000 then .ok (.tuple ds) else .no
def fLst (fs : Rho → R (List PyData)) : Rho → R (List PyData) := fun ρ => (fs ρ).bind fun ds => if ds.length ≤ 1000 then .ok ds else .no
/-- a new list as a value -/
def eL (fs : Rho → R (List PyData)) : Rho → R PyData := fun ρ => (fs ρ).bind fun ds => .ok (.list ds)
section
variable {X : Cx} {W : Wish} {pos : Pos} {e : Expr} {es : List Expr} {f : Rho → R PyData} {fs : Rho → R (List PyData)}
theorem ad_nil : EDs X W [] aNil := PA_imp pa_nil fun _ H _ ⟨H0, _, s, _, h⟩ => h _ H H0 (Ext.refl s) .nil
theorem ad_cons (h : ED X W e f) (h' : EDs X W es fs) (hs : starEach (e :: es) X.env = (false, eval e X.env) :: starEach es X.env := by rfl) : EDs X W (e :: es) (aCons f fs) := by
  refine PA_imp (pa_cons h h' hs) fun σ H Q ⟨H0, ρ, s, en, h⟩ => ?_
  refine tD_bind s en h (fun c q => q) fun x h1 v H1 H01 e1 d1 => ?_
  exact tDs_bind e1.sub (en.mono e1.s0) h1 (fun c q H' hs => q H' (e1.s.trans hs)) fun xs h2 vs H2 H02 e2 d2 => h2 _ H2 H02 (e1.trans e2) (.cons (Du.mono e2.s0 _ _ d1) d2)
theorem ite_wp {α : Type} {c : Prop} [Decidable c] {a : α} {P : α → Prop} {E : Nat → Prop} (h : (if c then R.ok a else R.no).wp P E) : c ∧ P a := by
  by_cases hc : c
  · rw [if_pos hc] at h
    exact ⟨hc, h⟩
  · rw [if_neg hc] at h
    exact h.elim
theorem pe_tupN {x1 : Nat} {t : TA} (h : PA X es t) : PE X (.Tuple es x1 pos) (fun σ H Q => t σ H fun xs H1 => xs.length ≤ sizeLine ∧ NewT xs Q H1) := by
  refine ⟨fun pins s σ H Q I hq => ?_⟩
  exact wpAny_Tuple_spliced (thn (h.run pos pins s σ H _ I hq) fun us s1 ⟨xs, H1, I1, r, z, q⟩ => ⟨by rw [← r.length]; exact z, ep_ntup (t' := s1.toks) I1 r z q⟩)
theorem ed_tup {x1 : Nat} (h : EDs X W es fs) : ED X W (.Tuple es x1 pos) (eTup fs) := by
  refine PE_imp (pe_tupN h) fun σ H Q ⟨H0, ρ, s, en, h⟩ => ?_
  refine tDs_bind s en h (fun c q => q) fun ds h1 vs H1 H01 e1 d1 => ?_
  obtain ⟨hl, q⟩ := ite_wp h1
  exact ⟨by rw [d1.length]; exact Nat.le_of_lt (small1000 hl), newT_du e1.sub d1 fun v H' H0' e2 => q v H' H0' (e1.trans e2)⟩
theorem ef_lst (h : EDs X W es fs) : EF X W (.List es pos) (fLst fs) := by
  refine PE_imp (pe_lst h) fun σ H Q ⟨H0, ρ, s, en, h⟩ => ?_
  refine tDs_bind s en h (fun c q => q) fun ds h1 vs H1 H01 e1 d1 => ?_
  obtain ⟨hl, q⟩ := ite_wp h1
  refine ⟨by rw [d1.length]; exact Nat.le_of_lt (small1000 hl), fun p hp => ?_⟩
  refine newL_f e1.sub d1 (fun p vs H' H0' e2 n1 n2 n3 n4 => q p vs H' H0' (e1.trans e2) ?_ n2 n3 n4) p hp
  exact e1.s.free n1
theorem ed_ef (h : EF X W e fs) : ED X W e (eL fs) := by
  refine PE_imp h fun σ H Q ⟨H0, ρ, s, en, h⟩ => ⟨H0, ρ, s, en, R.wp_mono (R.wp_bind h) (fun ds q p vs H' H0' e n1 n2 n3 n4 => ?_) fun c q => q⟩
  refine q _ H' (upd H0' p (.lst vs)) ⟨e.s, e.s0.trans (same_upd n2), fun b x q => ?_, fun a ha => ?_⟩ (.lst (SqL.of upd_same) (DuAll.mono (same_upd n2) _ _ n4))
  · by_cases hb : b = p
    · subst hb
      rw [upd_same] at q
      rw [n3, ← q]
    · rw [upd_ne hb] at q
      exact e.sub b x q
  · have : a ≠ p := fun z => ha (by rw [z]; exact n1)
    rw [upd_ne this]
    exact e.old a ha
end

/-! ### ops -/
def inW (i : Int) : Bool := decide (-(2 ^ 64) < i) && decide (i < 2 ^ 64)
def oAdd : PyData → PyData → Option PyData
  | .int i, .int j => some (.int (i + j))
  | .str x, .str y => if x.length + y.length ≤ 1000000 then some (.str (x ++ y)) else none
  | .tuple xs, .tuple ys => if xs.length + ys.length ≤ 1000000 then some (.tuple (xs ++ ys)) else none
  | .list xs, .list ys => if xs.length + ys.length ≤ 1000000 then some (.list (xs ++ ys)) else none
  | _, _ => none
def oSub : PyData → PyData → Option PyData
  | .int i, .int j => some (.int (i - j))
  | _, _ => none
def oMul : PyData → PyData → Option PyData
  | .int i, .int j => if (inW i || inW j) = true then some (.int (i * j)) else none
  | .tuple xs, .int k => if xs ≠ [] ∧ 2 ≤ k ∧ k ≤ 1000 ∧ xs.length ≤ 1000 then some (.tuple (List.replicate k.toNat xs).flatten) else none
  | _, _ => none
def oMod : PyData → PyData → Option PyData
  | .int i, .int j => if 0 < j then some (.int (i % j)) else none
  | _, _ => none
def oFdiv : PyData → PyData → Option PyData
  | .int i, .int j => if 0 < j ∧ j < 1073741824 then some (.int (i / j)) else none
  | _, _ => none
def oShl : PyData → PyData → Option PyData
  | .int i, .int j => if 0 ≤ j ∧ j ≤ 1000 ∧ inW i = true then some (.int (i * 2 ^ j.toNat)) else none
  | _, _ => none
def oShr : PyData → PyData → Option PyData
  | .int i, .int j => if 0 ≤ j then some (.int (i / 2 ^ j.toNat)) else none
  | _, _ => none
def oAnd : PyData → PyData → Option PyData
  | .int i, .int j => some (.int (Builtin.bitAnd i j))
  | _, _ => none
theorem inW_ok {i : Int} (h : inW i = true) : -(2 ^ 64) < i ∧ i < 2 ^ 64 := by
  unfold inW at h
  rw [Bool.and_eq_true, decide_eq_true_eq, decide_eq_true_eq] at h
  exact h
theorem ite_some {α : Type} {c : Prop} [Decidable c] {a d : α} (h : (if c then some a else none) = some d) : c ∧ a = d := by
  by_cases hc : c
  · rw [if_pos hc] at h
    exact ⟨hc, Option.some.inj h⟩
  · rw [if_neg hc] at h
    cases h
theorem DuAll.nil_iff {K : PySem.W.Frag} {H : Hp} {vs : List V} {ds : List PyData} (h : DuAll K H vs ds) : vs = [] ↔ ds = [] := by
  cases ds with
  | nil => cases h; simp
  | cons d ds =>
    cases h with
    | cons h1 h2 => simp
theorem DuAll.rep {K : PySem.W.Frag} {H : Hp} {vs : List V} {ds : List PyData} (h : DuAll K H vs ds) : ∀ n : Nat, DuAll K H (List.replicate n vs).flatten (List.replicate n ds).flatten
  | 0 => .nil
  | n + 1 => by
    rw [List.replicate_succ, List.replicate_succ, List.flatten_cons, List.flatten_cons]
    exact h.append (DuAll.rep h n)
section
variable {X : Cx}
def rCatN (K : PySem.W.Frag) : R2 := fun x y H Q => ∃ a b xs ys, x = .ref a ∧ y = .ref b ∧ SqT K H a xs ∧ SqT K H b ys ∧ xs.length + ys.length ≤ sizeLine ∧
  (xs = [] → Q (.ref b) H) ∧ (xs ≠ [] → ys = [] → Q (.ref a) H) ∧ (xs ≠ [] → ys ≠ [] → NewT (xs ++ ys) Q H)
theorem op_catN : OpR X (binaryOp .Add) (rCatN X.K) := by
  intro pins s σ H x y v u Q I rx ry h
  obtain ⟨a, b, xs, ys, rfl, rfl, ha, hb, hz, q0, q1, q2⟩ := h
  cases rx
  cases ry
  obtain ⟨its, r1, p1, _⟩ := I.tuple ha
  obtain ⟨its2, r2, p2, _⟩ := I.tuple hb
  by_cases hx : xs = []
  · subst hx
    cases r1
    exact cat_tup0 p1 p2 ⟨.ref b, H, I, rfl, q0 rfl⟩
  · refine HT.cat_tup p1 p2 (fun z => hx (r1.nil_iff.mp z)) (fun z => ⟨.ref a, H, I, rfl, q1 hx (r2.nil_iff.mp z)⟩) (fun z => ?_) (by rw [← r1.length, ← r2.length]; exact hz)
    exact ep_ntup (t' := s.toks) I (r1.append r2) (by rw [List.length_append]; exact hz) (q2 hx fun w => z (r2.nil_iff.mpr w))
def rCatLN (K : PySem.W.Frag) : R2 := fun x y H Q => ∃ a b xs ys, x = .ref a ∧ y = .ref b ∧ SqL K H a xs ∧ SqL K H b ys ∧ xs.length + ys.length ≤ sizeLine ∧ NewL (xs ++ ys) Q H
theorem op_catLN : OpR X (binaryOp .Add) (rCatLN X.K) := by
  intro pins s σ H x y v u Q I rx ry h
  obtain ⟨a, b, xs, ys, rfl, rfl, ha, hb, hz, q⟩ := h
  cases rx
  cases ry
  obtain ⟨its, r1, pl1, _⟩ := I.list ha
  obtain ⟨its2, r2, pl2, _⟩ := I.list hb
  obtain ⟨⟨cls, dd, data, sl⟩, n, ho, hc, hd0, hd⟩ := pl1
  obtain ⟨⟨cls2, dd2, data2, sl2⟩, n2, ho2, hc2, hd02, hd2⟩ := pl2
  simp only at hc hd hc2 hd2
  subst hc hd hc2 hd2
  have hl1 := r1.length
  have hl2 := r2.length
  have e : its.toArray ++ its2.toArray = (its ++ its2).toArray := by simp
  refine concat_meets ⟨_, ho, rfl⟩ ⟨_, ho2, rfl⟩ noFill_list_add seq_list_add PySem.F.slot_list_add PySem.F.entry_list_add (PySem.F.args_list_add_2 _ _)
    (list_addW a b its.toArray its2.toArray n n2 dd dd2 sl sl2 (by rw [List.size_toArray, List.size_toArray]; omega)) ⟨ho, ho2, ?_⟩
  rw [e]
  exact ⟨.ref _, _, I.lnew (t' := s.toks) (r1.append r2) (by rw [List.length_append]; exact hz), rfl, q _ I.fresh⟩
theorem od_add : OpD X (binaryOp .Add) oAdd := by
  intro pins s σ H x y v u Q I rx ry ⟨H0, a, b, d, sm, da, db, ho, q⟩
  cases da with
  | int i =>
    cases db with
    | int j =>
      cases ho
      exact op_add pins s σ H _ _ v u Q I rx ry ⟨i, j, rfl, rfl, q _ H H0 (Ext.refl sm) (.int _)⟩
    | _ => cases ho
  | str i =>
    cases db with
    | str j =>
      obtain ⟨hl, rfl⟩ := ite_some ho
      exact op_add_str pins s σ H _ _ v u Q I rx ry ⟨i, j, rfl, rfl, small6 hl, q _ H H0 (Ext.refl sm) (.str _)⟩
    | _ => cases ho
  | tup h1 h2 h3 =>
    cases db with
    | tup k1 k2 k3 =>
      obtain ⟨hl, rfl⟩ := ite_some ho
      refine op_catN pins s σ H _ _ v u Q I rx ry ⟨_, _, _, _, rfl, rfl, SqT.frz (sm _ _ h1), SqT.frz (sm _ _ k1), by rw [h3.length, k3.length]; exact small6 hl, fun z => ?_, fun z1 z => ?_, fun _ _ => newT_du sm (h3.append k3) q⟩
      · rw [h3.nil_iff] at z
        rw [z] at q
        exact q _ H H0 (Ext.refl sm) (.tup k1 k2 k3)
      · rw [k3.nil_iff] at z
        rw [z, List.append_nil] at q
        exact q _ H H0 (Ext.refl sm) (.tup h1 h2 h3)
    | _ => cases ho
  | lst h1 h3 =>
    cases db with
    | lst k1 k3 =>
      obtain ⟨hl, rfl⟩ := ite_some ho
      exact op_catLN pins s σ H _ _ v u Q I rx ry ⟨_, _, _, _, rfl, rfl, sm.seq h1, sm.seq k1, by rw [h3.length, k3.length]; exact small6 hl, newL_du sm (h3.append k3) q⟩
    | _ => cases ho
  | _ => cases ho
theorem od_int {fn : Value → Value → Sem Value} {r : R2} {o : PyData → PyData → Option PyData} (h : OpR X fn r)
    (hr : ∀ x y d, o x y = some d → ∃ i j, x = .int i ∧ y = .int j ∧ ∀ H Q v, Du X.K H v d → Q v H → r (.int i) (.int j) H Q)
    (hd : ∀ x y d, o x y = some d → ∃ v, ∀ H, Du X.K H v d) : OpD X fn o := by
  intro pins s σ H x y v u Q I rx ry ⟨H0, a, b, d, sm, da, db, ho, q⟩
  obtain ⟨i, j, rfl, rfl, h'⟩ := hr _ _ _ ho
  obtain ⟨w, hw⟩ := hd _ _ _ ho
  cases da
  cases db
  exact h pins s σ H _ _ v u Q I rx ry (h' H Q w (hw H) (q w H H0 (Ext.refl sm) (hw H0)))
theorem o2i {o : PyData → PyData → Option PyData} {c : Int → Int → Prop} {g : Int → Int → PyData} (h0 : ∀ x y d, o x y = some d → ∃ i j, x = .int i ∧ y = .int j ∧ c i j ∧ d = g i j) : True := trivial
end
theorem oSub_e {x y d : PyData} (h : oSub x y = some d) : ∃ i j, x = .int i ∧ y = .int j ∧ d = .int (i - j) := by
  unfold oSub at h
  split at h
  · cases h; exact ⟨_, _, rfl, rfl, rfl⟩
  · cases h
theorem oMod_e {x y d : PyData} (h : oMod x y = some d) : ∃ i j, x = .int i ∧ y = .int j ∧ 0 < j ∧ d = .int (i % j) := by
  unfold oMod at h
  split at h
  · obtain ⟨h1, h2⟩ := ite_some h
    exact ⟨_, _, rfl, rfl, h1, h2.symm⟩
  · cases h
theorem oFdiv_e {x y d : PyData} (h : oFdiv x y = some d) : ∃ i j, x = .int i ∧ y = .int j ∧ (0 < j ∧ j < 1073741824) ∧ d = .int (i / j) := by
  unfold oFdiv at h
  split at h
  · obtain ⟨h1, h2⟩ := ite_some h
    exact ⟨_, _, rfl, rfl, h1, h2.symm⟩
  · cases h
theorem oShl_e {x y d : PyData} (h : oShl x y = some d) : ∃ i j, x = .int i ∧ y = .int j ∧ (0 ≤ j ∧ j ≤ 1000 ∧ inW i = true) ∧ d = .int (i * 2 ^ j.toNat) := by
  unfold oShl at h
  split at h
  · obtain ⟨h1, h2⟩ := ite_some h
    exact ⟨_, _, rfl, rfl, h1, h2.symm⟩
  · cases h
theorem oShr_e {x y d : PyData} (h : oShr x y = some d) : ∃ i j, x = .int i ∧ y = .int j ∧ 0 ≤ j ∧ d = .int (i / 2 ^ j.toNat) := by
  unfold oShr at h
  split at h
  · obtain ⟨h1, h2⟩ := ite_some h
    exact ⟨_, _, rfl, rfl, h1, h2.symm⟩
  · cases h
theorem oAnd_e {x y d : PyData} (h : oAnd x y = some d) : ∃ i j, x = .int i ∧ y = .int j ∧ d = .int (Builtin.bitAnd i j) := by
  unfold oAnd at h
  split at h
  · cases h; exact ⟨_, _, rfl, rfl, rfl⟩
  · cases h
section
variable {X : Cx}
theorem od_sub : OpD X (binaryOp .Sub) oSub := by
  intro pins s σ H x y v u Q I rx ry ⟨H0, a, b, d, sm, da, db, ho, q⟩
  obtain ⟨i, j, rfl, rfl, rfl⟩ := oSub_e ho
  cases da
  cases db
  exact op_sub pins s σ H _ _ v u Q I rx ry ⟨i, j, rfl, rfl, q _ H H0 (Ext.refl sm) (.int _)⟩
theorem od_mod : OpD X (binaryOp .Mod) oMod := by
  intro pins s σ H x y v u Q I rx ry ⟨H0, a, b, d, sm, da, db, ho, q⟩
  obtain ⟨i, j, rfl, rfl, hc, rfl⟩ := oMod_e ho
  cases da
  cases db
  exact op_mod pins s σ H _ _ v u Q I rx ry ⟨i, j, rfl, rfl, hc, q _ H H0 (Ext.refl sm) (.int _)⟩
theorem od_fdiv : OpD X (binaryOp .FloorDiv) oFdiv := by
  intro pins s σ H x y v u Q I rx ry ⟨H0, a, b, d, sm, da, db, ho, q⟩
  obtain ⟨i, j, rfl, rfl, hc, rfl⟩ := oFdiv_e ho
  cases da
  cases db
  exact op_fdiv pins s σ H _ _ v u Q I rx ry ⟨i, j, rfl, rfl, hc, q _ H H0 (Ext.refl sm) (.int _)⟩
theorem od_shl : OpD X (binaryOp .LShift) oShl := by
  intro pins s σ H x y v u Q I rx ry ⟨H0, a, b, d, sm, da, db, ho, q⟩
  obtain ⟨i, j, rfl, rfl, ⟨h1, h2, h3⟩, rfl⟩ := oShl_e ho
  cases da
  cases db
  have h4 := inW_ok h3
  exact op_shl pins s σ H _ _ v u Q I rx ry ⟨i, j, rfl, rfl, ⟨h1, by omega, by omega⟩, q _ H H0 (Ext.refl sm) (.int _)⟩
theorem od_shr : OpD X (binaryOp .RShift) oShr := by
  intro pins s σ H x y v u Q I rx ry ⟨H0, a, b, d, sm, da, db, ho, q⟩
  obtain ⟨i, j, rfl, rfl, hc, rfl⟩ := oShr_e ho
  cases da
  cases db
  exact op_shr pins s σ H _ _ v u Q I rx ry ⟨i, j, rfl, rfl, hc, q _ H H0 (Ext.refl sm) (.int _)⟩
theorem od_and : OpD X (binaryOp .BitAnd) oAnd := by
  intro pins s σ H x y v u Q I rx ry ⟨H0, a, b, d, sm, da, db, ho, q⟩
  obtain ⟨i, j, rfl, rfl, rfl⟩ := oAnd_e ho
  cases da
  cases db
  exact op_and pins s σ H _ _ v u Q I rx ry ⟨i, j, rfl, rfl, q _ H H0 (Ext.refl sm) (.int _)⟩
def rRepN (K : PySem.W.Frag) : R2 := fun x y H Q => ∃ l k xs, x = .ref l ∧ y = .int k ∧ SqT K H l xs ∧ xs ≠ [] ∧ 2 ≤ k ∧ k ≤ 1000 ∧ xs.length ≤ 1000 ∧ NewT (List.replicate k.toNat xs).flatten Q H
theorem op_repN : OpR X (binaryOp .Mult) (rRepN X.K) := by
  intro pins s σ H x y v u Q I rx ry h
  obtain ⟨l, k, xs, rfl, rfl, hT, hne, h1, h2, hz, q⟩ := h
  cases rx
  obtain ⟨t, rfl⟩ := ry
  obtain ⟨its, r, ⟨⟨cls, dd, data, sl⟩, ho, hc, n, hd⟩, hs⟩ := I.tuple hT
  simp only at hc hd
  subst hc hd
  have hle : its.length = xs.length := r.length.symm
  have hn : its ≠ [] := fun e => hne (by
    rw [e] at hle
    exact List.eq_nil_of_length_eq_zero hle.symm)
  have hi : its.toArray.isEmpty = false := by
    cases its with
    | nil => exact absurd rfl hn
    | cons a b => rfl
  have hsz0 : its.toArray.size = xs.length := by rw [List.size_toArray, hle]
  have hm : ((its.toArray.size : Nat) : Int) * k ≤ 1000000 := by
    rw [hsz0]
    have a1 : ((xs.length : Nat) : Int) * k ≤ 1000 * k := Int.mul_le_mul_of_nonneg_right (by omega) (by omega)
    omega
  have flen : (List.replicate k.toNat its).flatten.length ≤ sizeLine := by
    rw [PyProof.Rows.lm_len_rep_flat, hle, sizeLine_eq]
    have a1 : k.toNat * xs.length ≤ 1000 * 1000 := Nat.mul_le_mul (by omega) hz
    omega
  have c0 : (decide (k < -(2 ^ 63)) || decide (k ≥ 2 ^ 63)) = false := by
    rw [decide_eq_false (by omega), decide_eq_false (by omega)] <;> rfl
  have c1 : (its.toArray.isEmpty || k == 1) = false := by
    rw [hi, Bool.false_or]
    exact beq_eq_false_iff_ne.mpr (by omega)
  have c2 : (decide (k ≤ 0) || its.toArray.isEmpty) = false := by
    rw [hi, Bool.or_false]
    exact decide_eq_false (by omega)
  have c4 : Builtin.Tuple.tupleTooMany (((its.toArray.size : Nat) : Int) * k) = false := by
    unfold Builtin.Tuple.tupleTooMany
    rw [sizeLine_eq]
    exact decide_eq_false (by omega)
  refine wpAny_binaryOp_repeat_ref (T := "tuple") (U := "int") (by decide) ⟨_, ho, rfl⟩ (fun s' => typeIs_int s' k t) noFill_tuple_mul F.fills_int_mul F.slot_int_rmul repeat_tuple F.slot_int_index.lookup
    (call_meets F.slot_int_rmul (typeIs_int s k t) F.entry_int_rmul (F.args_int_rmul_2 _ _) (int_rmul_tuple k t l its.toArray n dd sl)
      ⟨ho, rfl, ⟨_, ho, rfl⟩, call_meets F.slot_tuple_mul ⟨_, ho, rfl⟩ F.entry_tuple_mul (F.args_tuple_mul_2 _ _) (tuple_mulW l its.toArray n dd sl k t c0 c1 c2 (by omega) c4 (by rw [size_rep, List.size_toArray]; exact flen)) ⟨ho, ?_⟩⟩)
  rw [size_rep]
  exact ep_ntup (t' := s.toks) I (r.rep k.toNat) (by rw [PyProof.Rows.lm_len_rep_flat, ← hle, ← PyProof.Rows.lm_len_rep_flat]; exact flen) q
theorem od_mul : OpD X (binaryOp .Mult) oMul := by
  intro pins s σ H x y v u Q I rx ry ⟨H0, a, b, d, sm, da, db, ho, q⟩
  cases da with
  | int i =>
    cases db with
    | int j =>
      obtain ⟨hl, rfl⟩ := ite_some ho
      rw [Bool.or_eq_true] at hl
      exact op_mul pins s σ H _ _ v u Q I rx ry ⟨i, j, rfl, rfl, hl.imp inW_ok inW_ok, q _ H H0 (Ext.refl sm) (.int _)⟩
    | _ => cases ho
  | tup h1 h2 h3 =>
    cases db with
    | int k =>
      obtain ⟨⟨c1, c2, c3, c4⟩, rfl⟩ := ite_some ho
      exact op_repN pins s σ H _ _ v u Q I rx ry ⟨_, k, _, rfl, rfl, SqT.frz (sm _ _ h1), fun z => c1 (h3.nil_iff.mp z), c2, c3, by rw [h3.length]; exact c4, newT_du sm (h3.rep _) q⟩
    | _ => cases ho
  | _ => cases ho
end

/-! ### comparisons -/
def oCmp (p : Int → Int → Bool) : PyData → PyData → Option PyData
  | .int i, .int j => some (.bool (p i j))
  | _, _ => none
def oLt := oCmp fun i j => decide (i < j)
def oLe := oCmp fun i j => decide (i ≤ j)
def oGt := oCmp fun i j => decide (j < i)
def oGe := oCmp fun i j => decide (j ≤ i)
/-- texts and what is told apart from them at once -/
def scalD : PyData → PyData → Bool
  | .str _, .str _ => true | .str _, .int _ => true | .str _, .none => true | .str _, .bool _ => true
  | .int _, .str _ => true | .none, .str _ => true | .bool _, .str _ => true
  | _, _ => false
def eqOk (x y : PyData) : Bool := scalD x y || (SeqAt.shaped x && SeqAt.shaped y)
def oEq (x y : PyData) : Option PyData := if eqOk x y = true then some (.bool (PyData.eqv x y)) else none
def oNe (x y : PyData) : Option PyData := if eqOk x y = true then some (.bool (!PyData.eqv x y)) else none
def isNoneD : PyData → Bool
  | .none => true
  | _ => false
def oIs : PyData → PyData → Option PyData
  | x, .none => some (.bool (isNoneD x))
  | .bool a, .bool b => some (.bool (a == b))
  | _, _ => none
def oIsN : PyData → PyData → Option PyData
  | x, .none => some (.bool (!isNoneD x))
  | .bool a, .bool b => some (.bool (!(a == b)))
  | _, _ => none
def flatD : PyData → Bool
  | .none => true | .bool _ => true | .int _ => true | .str _ => true
  | _ => false
def inD (x : PyData) (c : PyData) (ds : List PyData) : Option Bool := if ((flatD x && ds.all flatD) || (SeqAt.shaped x && SeqAt.shaped c)) = true then some (ds.any fun z => PyData.eqv z x) else none
def oIn (x : PyData) : PyData → Option PyData
  | .list ds => (inD x (.list ds) ds).map .bool
  | .tuple ds => (inD x (.tuple ds) ds).map .bool
  | _ => none
def oNotIn (x : PyData) : PyData → Option PyData
  | .list ds => (inD x (.list ds) ds).map fun b => .bool (!b)
  | .tuple ds => (inD x (.tuple ds) ds).map fun b => .bool (!b)
  | _ => none
theorem eqv_flat {K : PySem.W.Frag} {H : Hp} {v w : V} {x y : PyData} (h : Du K H v x) (h' : Du K H w y) (f : flatD x = true) (f' : flatD y = true) : eqV v w = PyData.eqv x y ∧ flatV v = true ∧ flatV w = true := by
  cases h <;> cases h' <;> first | exact ⟨rfl, rfl, rfl⟩ | exact absurd (show false = true from f) Bool.false_ne_true | exact absurd (show false = true from f') Bool.false_ne_true
theorem any_flat {K : PySem.W.Frag} {H : Hp} {w : V} {y : PyData} (h' : Du K H w y) (f' : flatD y = true) {vs : List V} {ds : List PyData} (h : DuAll K H vs ds) (f : ds.all flatD = true) :
    inV w vs = (ds.any fun z => PyData.eqv z y) ∧ vs.all flatV = true := by
  induction ds generalizing vs with
  | nil => cases h; exact ⟨rfl, rfl⟩
  | cons d ds ih =>
    cases h with
    | cons h1 h2 =>
      rw [List.all_cons, Bool.and_eq_true] at f
      obtain ⟨e1, e2, _⟩ := eqv_flat h1 h' f.1 f'
      obtain ⟨i1, i2⟩ := ih h2 f.2
      refine ⟨?_, by rw [List.all_cons, e2, i2]; rfl⟩
      unfold inV at i1 ⊢
      rw [List.any_cons, List.any_cons, e1, i1]
theorem flat_v {K : PySem.W.Frag} {H : Hp} {w : V} {y : PyData} (h' : Du K H w y) (f' : flatD y = true) : flatV w = true := by
  cases h' <;> first | rfl | exact absurd (show false = true from f') Bool.false_ne_true
section
variable {X : Cx}
theorem od_cmp {op : CmpOp} {p : Int → Int → Bool} (h : OpR X (compareOp op) (rI0 fun i j => .bl (p i j))) : OpD X (compareOp op) (oCmp p) := by
  intro pins s σ H x y v u Q I rx ry ⟨H0, a, b, d, sm, da, db, ho, q⟩
  unfold oCmp at ho
  split at ho
  · cases ho
    cases da
    cases db
    exact h pins s σ H _ _ v u Q I rx ry ⟨_, _, rfl, rfl, q _ H H0 (Ext.refl sm) (.bl _)⟩
  · cases ho
theorem od_lt : OpD X (compareOp .Lt) oLt := od_cmp op_lt
theorem od_le : OpD X (compareOp .LtE) oLe := od_cmp op_le
theorem od_gt : OpD X (compareOp .Gt) oGt := od_cmp op_gt
theorem od_ge : OpD X (compareOp .GtE) oGe := od_cmp op_ge
theorem scal_of {K : PySem.W.Frag} {H : Hp} {v w : V} {x y : PyData} (h : Du K H v x) (h' : Du K H w y) (f : scalD x y = true) : scal v w = true ∧ decide (v = w) = PyData.eqv x y := by
  cases h with
  | str a =>
    cases h' with
    | str b => exact ⟨rfl, by rw [dec_str]; rfl⟩
    | int b => exact ⟨rfl, by simp [PyData.eqv]⟩
    | non => exact ⟨rfl, by simp [PyData.eqv]⟩
    | bl b => exact ⟨rfl, by simp [PyData.eqv]⟩
    | _ => cases f
  | int a =>
    cases h' with
    | str b => exact ⟨rfl, by simp [PyData.eqv]⟩
    | _ => cases f
  | non =>
    cases h' with
    | str b => exact ⟨rfl, by simp [PyData.eqv]⟩
    | _ => cases f
  | bl a =>
    cases h' with
    | str b => exact ⟨rfl, by simp [PyData.eqv]⟩
    | _ => cases f
  | _ => cases f
theorem od_eq (hu : X.A.units + 64 < cLine) : OpD X (compareOp .Eq) oEq := by
  intro pins s σ H x y v u Q I rx ry ⟨H0, a, b, d, sm, da, db, ho, q⟩
  obtain ⟨hc, rfl⟩ := ite_some ho
  unfold eqOk at hc
  rw [Bool.or_eq_true, Bool.and_eq_true] at hc
  rcases hc with hc | ⟨h1, h2⟩
  · obtain ⟨e1, e2⟩ := scal_of da db hc
    refine op_eq pins s σ H _ _ v u Q I rx ry ⟨e1, ?_⟩
    rw [e2]
    exact q _ H H0 (Ext.refl sm) (.bl _)
  · exact op_eqD hu pins s σ H _ _ v u Q I rx ry ⟨a, b, Du.dp _ _ (Du.mono sm _ _ da), Du.dp _ _ (Du.mono sm _ _ db), h1, h2, q _ H H0 (Ext.refl sm) (.bl _)⟩
theorem od_ne (hu : X.A.units + 64 < cLine) : OpD X (compareOp .NotEq) oNe := by
  intro pins s σ H x y v u Q I rx ry ⟨H0, a, b, d, sm, da, db, ho, q⟩
  obtain ⟨hc, rfl⟩ := ite_some ho
  unfold eqOk at hc
  rw [Bool.or_eq_true, Bool.and_eq_true] at hc
  rcases hc with hc | ⟨h1, h2⟩
  · obtain ⟨e1, e2⟩ := scal_of da db hc
    refine op_ne pins s σ H _ _ v u Q I rx ry ⟨e1, ?_⟩
    rw [e2]
    exact q _ H H0 (Ext.refl sm) (.bl _)
  · exact op_neD hu pins s σ H _ _ v u Q I rx ry ⟨a, b, Du.dp _ _ (Du.mono sm _ _ da), Du.dp _ _ (Du.mono sm _ _ db), h1, h2, q _ H H0 (Ext.refl sm) (.bl _)⟩
theorem isNone_of {K : PySem.W.Frag} {H : Hp} {v : V} {x : PyData} (h : Du K H v x) : decide (v = .non) = isNoneD x := by
  cases h <;> first | rfl | simp [isNoneD]
theorem od_is : OpD X (compareOp .Is) oIs := by
  intro pins s σ H x y v u Q I rx ry ⟨H0, a, b, d, sm, da, db, ho, q⟩
  unfold oIs at ho
  split at ho
  · cases ho
    cases db
    refine op_isN pins s σ H _ _ v u Q I rx ry ⟨rfl, ?_⟩
    rw [isNone_of da]
    exact q _ H H0 (Ext.refl sm) (.bl _)
  · cases ho
    cases db
    cases da
    refine op_isBl pins s σ H _ _ v u Q I rx ry ⟨_, _, rfl, rfl, ?_⟩
    rw [← Bool.beq_eq_decide_eq]
    exact q _ H H0 (Ext.refl sm) (.bl _)
  · cases ho
theorem od_isN : OpD X (compareOp .IsNot) oIsN := by
  intro pins s σ H x y v u Q I rx ry ⟨H0, a, b, d, sm, da, db, ho, q⟩
  unfold oIsN at ho
  split at ho
  · cases ho
    cases db
    refine op_notN pins s σ H _ _ v u Q I rx ry ⟨rfl, ?_⟩
    rw [isNone_of da]
    exact q _ H H0 (Ext.refl sm) (.bl _)
  · cases ho
    cases db
    cases da
    refine op_notBl pins s σ H _ _ v u Q I rx ry ⟨_, _, rfl, rfl, ?_⟩
    rw [← Bool.beq_eq_decide_eq]
    exact q _ H H0 (Ext.refl sm) (.bl _)
  · cases ho
theorem inD_e {x c : PyData} {ds : List PyData} {b : Bool} (h : inD x c ds = some b) : ((flatD x = true ∧ ds.all flatD = true) ∨ (SeqAt.shaped x = true ∧ SeqAt.shaped c = true)) ∧ b = ds.any fun z => PyData.eqv z x := by
  obtain ⟨h1, h2⟩ := ite_some h
  rw [Bool.or_eq_true, Bool.and_eq_true, Bool.and_eq_true] at h1
  exact ⟨h1, h2.symm⟩
theorem od_in (hu : X.A.units + 65 < cLine) : OpD X (compareOp .In) oIn := by
  intro pins s σ H x y v u Q I rx ry ⟨H0, a, b, d, sm, da, db, ho, q⟩
  cases db with
  | lst k1 k3 =>
    obtain ⟨r, hr, rfl⟩ := Option.map_eq_some_iff.mp ho
    obtain ⟨hc, rfl⟩ := inD_e hr
    rcases hc with ⟨f1, f2⟩ | ⟨f1, f2⟩
    · obtain ⟨e1, e2⟩ := any_flat da f1 k3 f2
      refine op_in_seq pins s σ H _ _ v u Q I rx ry ⟨_, _, rfl, .inl (sm.seq k1), flat_v da f1, e2, ?_⟩
      show Q (.bl (inV x _)) H
      rw [e1]
      exact q _ H H0 (Ext.refl sm) (.bl _)
    · obtain ⟨as, r1⟩ := Dp.reads I a x v (Du.dp _ _ (Du.mono sm _ _ da)) rx
      obtain ⟨bs, r2⟩ := Dp.reads I (.list _) _ u (Du.dp _ _ (Du.mono sm _ _ (.lst k1 k3))) ry
      exact SeqAt.in_list_reads r2 r1 (SeqAt.canLay_of_shaped f2) (SeqAt.canLay_of_shaped f1) (room_in_shaped f1 hu) ⟨.bl _, H, I, rfl, q _ H H0 (Ext.refl sm) (.bl _)⟩
  | tup k1 k2 k3 =>
    obtain ⟨r, hr, rfl⟩ := Option.map_eq_some_iff.mp ho
    obtain ⟨hc, rfl⟩ := inD_e hr
    rcases hc with ⟨f1, f2⟩ | ⟨f1, f2⟩
    · obtain ⟨e1, e2⟩ := any_flat da f1 k3 f2
      refine op_in_seq pins s σ H _ _ v u Q I rx ry ⟨_, _, rfl, .inr (SqT.frz (sm _ _ k1)), flat_v da f1, e2, ?_⟩
      show Q (.bl (inV x _)) H
      rw [e1]
      exact q _ H H0 (Ext.refl sm) (.bl _)
    · obtain ⟨as, r1⟩ := Dp.reads I a x v (Du.dp _ _ (Du.mono sm _ _ da)) rx
      obtain ⟨bs, r2⟩ := Dp.reads I (.tuple _) _ u (Du.dp _ _ (Du.mono sm _ _ (.tup k1 k2 k3))) ry
      exact SeqAt.in_tuple_reads r2 r1 (SeqAt.canLay_of_shaped f2) (SeqAt.canLay_of_shaped f1) (room_in_shaped f1 hu) ⟨.bl _, H, I, rfl, q _ H H0 (Ext.refl sm) (.bl _)⟩
  | _ => cases ho
theorem od_notIn (hu : X.A.units + 65 < cLine) : OpD X (compareOp .NotIn) oNotIn := by
  intro pins s σ H x y v u Q I rx ry ⟨H0, a, b, d, sm, da, db, ho, q⟩
  cases db with
  | lst k1 k3 =>
    obtain ⟨r, hr, rfl⟩ := Option.map_eq_some_iff.mp ho
    obtain ⟨hc, rfl⟩ := inD_e hr
    rcases hc with ⟨f1, f2⟩ | ⟨f1, f2⟩
    · obtain ⟨e1, e2⟩ := any_flat da f1 k3 f2
      refine op_notIn_seq pins s σ H _ _ v u Q I rx ry ⟨_, _, rfl, .inl (sm.seq k1), flat_v da f1, e2, ?_⟩
      show Q (.bl (!inV x _)) H
      rw [e1]
      exact q _ H H0 (Ext.refl sm) (.bl _)
    · obtain ⟨as, r1⟩ := Dp.reads I a x v (Du.dp _ _ (Du.mono sm _ _ da)) rx
      obtain ⟨bs, r2⟩ := Dp.reads I (.list _) _ u (Du.dp _ _ (Du.mono sm _ _ (.lst k1 k3))) ry
      exact SeqAt.notIn_list_reads r2 r1 (SeqAt.canLay_of_shaped f2) (SeqAt.canLay_of_shaped f1) (room_in_shaped f1 hu) ⟨.bl _, H, I, rfl, q _ H H0 (Ext.refl sm) (.bl _)⟩
  | tup k1 k2 k3 =>
    obtain ⟨r, hr, rfl⟩ := Option.map_eq_some_iff.mp ho
    obtain ⟨hc, rfl⟩ := inD_e hr
    rcases hc with ⟨f1, f2⟩ | ⟨f1, f2⟩
    · obtain ⟨e1, e2⟩ := any_flat da f1 k3 f2
      refine op_notIn_seq pins s σ H _ _ v u Q I rx ry ⟨_, _, rfl, .inr (SqT.frz (sm _ _ k1)), flat_v da f1, e2, ?_⟩
      show Q (.bl (!inV x _)) H
      rw [e1]
      exact q _ H H0 (Ext.refl sm) (.bl _)
    · obtain ⟨as, r1⟩ := Dp.reads I a x v (Du.dp _ _ (Du.mono sm _ _ da)) rx
      obtain ⟨bs, r2⟩ := Dp.reads I (.tuple _) _ u (Du.dp _ _ (Du.mono sm _ _ (.tup k1 k2 k3))) ry
      exact SeqAt.notIn_tuple_reads r2 r1 (SeqAt.canLay_of_shaped f2) (SeqAt.canLay_of_shaped f1) (room_in_shaped f1 hu) ⟨.bl _, H, I, rfl, q _ H H0 (Ext.refl sm) (.bl _)⟩
  | _ => cases ho
end

/-! ### a op b op' c -/
def eChain (o o' : PyData → PyData → Option PyData) (f g k : Rho → R PyData) : Rho → R PyData := fun ρ => (f ρ).bind fun x => (g ρ).bind fun y => (lift ((o x y).bind asB)).bind fun b =>
  if b = true then (k ρ).bind fun z => lift (o' y z) else .ok (.bool false)
section
variable {X : Cx} {W : Wish} {pos : Pos} {a b c : Expr} {f g k : Rho → R PyData} {o o' : PyData → PyData → Option PyData}
theorem ed_chain {op op' : CmpOp} (ho : OpD X (compareOp op) o) (ho' : OpD X (compareOp op') o') (ha : ED X W a f) (hb : ED X W b g) (hc : ED X W c k)
    (hm : lastMarks [op, op'] [b, c] = false := by with_unfolding_all rfl) : ED X W (.Compare a [op, op'] [b, c] pos) (eChain o o' f g k) := by
  refine PE_imp (pe_chain ho ho' ha hb hc hm) fun σ H Q ⟨H0, ρ, s, en, h⟩ => ?_
  refine tD_bind s en h (fun c q => q) fun x h1 v H1 H01 e1 d1 => ?_
  refine tD_bind e1.sub (en.mono e1.s0) h1 (fun c q H' hs => q H' (e1.s.trans hs)) fun y h2 u H2 H02 e2 d2 => ?_
  obtain ⟨bb, hb1, hb2⟩ := lift_wp (R.wp_bind h2)
  obtain ⟨d, hd1, hd2⟩ := Option.bind_eq_some_iff.mp hb1
  cases d with
  | bool b' =>
    cases hd2
    refine ⟨H02, x, y, _, e2.sub, Du.mono e2.s0 _ _ d1, d2, hd1, fun z H3 H03 e3 d3 => ?_⟩
    cases d3
    refine ⟨bb, rfl, ?_⟩
    cases bb with
    | false => exact hb2 _ H3 H03 (e1.trans (e2.trans e3)) (.bl _)
    | true =>
      have e123 := e1.trans (e2.trans e3)
      refine tD_bind e123.sub (en.mono e123.s0) hb2 (fun c q H' hs => q H' (e123.s.trans hs)) fun z h4 w H4 H04 e4 d4 => ?_
      obtain ⟨dd, hdd, hq⟩ := lift_wp h4
      exact ⟨H04, y, z, dd, e4.sub, Du.mono (e3.s0.trans e4.s0) _ _ d2, d4, hdd, fun v' H' H0' e5 d5 => hq v' H' H0' (e123.trans (e4.trans e5)) d5⟩
  | _ => cases hd2
end

/-! ### subscripts, slices -/
def oIx : PyData → PyData → Option PyData
  | .tuple xs, .int i => atI xs i
  | .list xs, .int i => atI xs i
  | _, _ => none
theorem atI_du {K : PySem.W.Frag} {H : Hp} {vs : List V} {ds : List PyData} {i : Int} {d : PyData} (h : DuAll K H vs ds) (e : atI ds i = some d) : ∃ v, atI vs i = some v ∧ Du K H v d := by
  unfold atI at e ⊢
  rw [h.length]
  obtain ⟨j, hj, e2⟩ := Option.bind_eq_some_iff.mp e
  obtain ⟨v, q1, q2⟩ := h.get e2
  exact ⟨v, by rw [hj]; exact q1, q2⟩
section
variable {X : Cx} {W : Wish} {pos : Pos}
theorem ix_du : IxR X (rD2 X.K oIx) := by
  intro value slice pins s σ H x y v u Q I rx ry ⟨H0, a, b, d, sm, da, db, ho, q⟩ hs
  unfold oIx at ho
  split at ho
  · cases da with
    | tup h1 h2 h3 =>
      cases db
      obtain ⟨w, w1, w2⟩ := atI_du h3 ho
      exact ix_tup value slice pins s σ H _ _ v u Q I rx ry ⟨_, _, _, w, rfl, rfl, SqT.frz (sm _ _ h1), w1, q w H H0 (Ext.refl sm) w2⟩ hs
  · cases da with
    | lst h1 h3 =>
      cases db
      obtain ⟨w, w1, w2⟩ := atI_du h3 ho
      exact ix_list value slice pins s σ H _ _ v u Q I rx ry ⟨_, _, _, w, rfl, rfl, sm.seq h1, w1, q w H H0 (Ext.refl sm) w2⟩ hs
  · cases ho
end
def cutL {α : Type} (xs : List α) (lo hi : Option Int) : List α := (xs.drop (HT.sIx xs.length 0 lo)).take (HT.sIx xs.length xs.length hi - HT.sIx xs.length 0 lo)
theorem cutL_whole {α : Type} {xs : List α} {lo hi : Option Int} (h : HT.sIx xs.length 0 lo = 0 ∧ HT.sIx xs.length xs.length hi = xs.length) : cutL xs lo hi = xs := by
  unfold cutL
  rw [h.1, h.2, List.drop_zero, Nat.sub_zero, List.take_length]
theorem cut_du {K : PySem.W.Frag} {H : Hp} {vs : List V} {ds : List PyData} (h : DuAll K H vs ds) (lo hi : Option Int) : DuAll K H (cutV vs lo hi) (cutL ds lo hi) := by
  unfold cutV cutL
  rw [h.length]
  exact (h.drop _).take _
/-- a slice's parts -/
def pN : Rho → R (Option Int) := fun _ => .ok none
def asI : PyData → Option (Option Int)
  | .int i => some (some i)
  | _ => none
def pS (f : Rho → R PyData) : Rho → R (Option Int) := fun ρ => (f ρ).bind fun d => lift (asI d)
def tPo (K : PySem.W.Frag) (W : Wish) (p : Rho → R (Option Int)) : TO := fun σ H Q => ∃ H0 ρ, Same H0 H ∧ EnvR K H0 σ ρ ∧
  (p ρ).wp (fun o => ∀ H' H0', Ext H0 H H0' H' → Q o H') (fun c => ∀ H', Same H H' → W c σ H')
abbrev POD (X : Cx) (W : Wish) (e : Option Expr) (p : Rho → R (Option Int)) : Prop := PO X e (tPo X.K W p)
theorem PO_imp {X : Cx} {e : Option Expr} {t t' : TO} (h : PO X e t) (hi : ∀ σ H Q, t' σ H Q → t σ H Q) : PO X e t' := ⟨fun pins s σ H Q I q => h.run pins s σ H Q I (hi _ _ _ q)⟩
def sliceD : PyData → Option Int → Option Int → Option PyData
  | .tuple xs, lo, hi => some (.tuple (cutL xs lo hi))
  | .list xs, lo, hi => some (.list (cutL xs lo hi))
  | _, _, _ => none
def eSl (f : Rho → R PyData) (p q : Rho → R (Option Int)) : Rho → R PyData := fun ρ => (f ρ).bind fun x => (p ρ).bind fun lo => (q ρ).bind fun hi => lift (sliceD x lo hi)
section
variable {X : Cx} {W : Wish} {pos p2 : Pos} {e : Expr} {lo hi : Option Expr} {f : Rho → R PyData} {p q : Rho → R (Option Int)}
theorem pod_n : POD X W none pN := PO_imp po_none fun _ H _ ⟨H0, _, s, _, h⟩ => h H H0 (Ext.refl s)
theorem pod_s {e : Expr} (h : ED X W e f) : POD X W (some e) (pS f) := by
  refine PO_imp (po_some h) fun σ H Q ⟨H0, ρ, s, en, h⟩ => ?_
  refine tD_bind s en h (fun c q => q) fun x h1 v H1 H01 e1 d1 => ?_
  obtain ⟨o, ho, hq⟩ := lift_wp h1
  cases d1 with
  | int i =>
    cases ho
    exact ⟨i, rfl, hq H1 H01 e1⟩
  | _ => cases ho
def rSlN (K : PySem.W.Frag) : V → Option Int → Option Int → Hp → VK → Prop := fun x lo hi H Q => ∃ a xs, x = .ref a ∧ SqT K H a xs ∧
  (HT.sIx xs.length 0 lo = 0 ∧ HT.sIx xs.length xs.length hi = xs.length → Q (.ref a) H) ∧ (¬ (HT.sIx xs.length 0 lo = 0 ∧ HT.sIx xs.length xs.length hi = xs.length) → NewT (cutV xs lo hi) Q H)
theorem sl_tupN : SlR X (rSlN X.K) := by
  intro pins s σ H x v vl vu lo hi sl Q I rx hs pl pu h
  obtain ⟨a, xs, rfl, hx, q1, q2⟩ := h
  cases rx
  obtain ⟨its, r, ht, hz⟩ := I.tuple hx
  have hlen : its.toArray.size = xs.length := by rw [List.size_toArray]; exact r.length.symm
  refine ⟨"tuple", _, PyProof.Rows.slot_tuple_getitem.lookup, ht.typeIs, ?_⟩
  by_cases hw : HT.sIx xs.length 0 lo = 0 ∧ HT.sIx xs.length xs.length hi = xs.length
  · exact getItem_tuple_whole ht hs pl pu (by rw [hlen]; exact hw) ⟨.ref a, H, I, rfl, q1 hw⟩
  · refine HT.getItem_tuple_cut ht hs pl pu (by rw [hlen]; exact hw) ?_ (by rw [hlen]; exact hz)
    rw [hlen]
    exact ep_ntup (t' := s.toks) I ((r.drop (HT.sIx xs.length 0 lo)).take (HT.sIx xs.length xs.length hi - HT.sIx xs.length 0 lo)) (Nat.le_trans (cutV_length xs lo hi) hz) (q2 hw)
def rSlD (K : PySem.W.Frag) : V → Option Int → Option Int → Hp → VK → Prop := fun x lo hi H Q => ∃ H0 a d, Same H0 H ∧ Du K H0 x a ∧ sliceD a lo hi = some d ∧ ∀ v H' H0', Ext H0 H H0' H' → Du K H0' v d → Q v H'
theorem sl_du : SlR X (rSlD X.K) := by
  intro pins s σ H x v vl vu lo hi sl Q I rx hs pl pu ⟨H0, a, d, sm, da, ho, q⟩
  cases da with
  | tup h1 h2 h3 =>
    cases ho
    refine sl_tupN pins s σ H _ v vl vu lo hi sl Q I rx hs pl pu ⟨_, _, rfl, SqT.frz (sm _ _ h1), fun hw => ?_, fun hw => newT_du sm (cut_du h3 lo hi) q⟩
    rw [cutL_whole (by rw [← h3.length]; exact hw)] at q
    exact q _ H H0 (Ext.refl sm) (.tup h1 h2 h3)
  | lst h1 h3 =>
    cases ho
    exact sl_list pins s σ H _ v vl vu lo hi sl Q I rx hs pl pu ⟨_, _, rfl, sm.seq h1, newL_du sm (cut_du h3 lo hi) q⟩
  | _ => cases ho
theorem ed_slice (he : ED X W e f) (hl : POD X W lo p) (hh : POD X W hi q) : ED X W (.Subscript e (.Slice lo hi none p2) pos) (eSl f p q) := by
  refine PE_imp (pe_slice sl_du he hl hh) fun σ H Q ⟨H0, ρ, s, en, h⟩ => ?_
  refine tD_bind s en h (fun c q => q) fun x h1 v H1 H01 e1 d1 => ?_
  refine ⟨H01, ρ, e1.sub, en.mono e1.s0, R.wp_mono (R.wp_bind h1) (fun o q H2 H02 e2 => ?_) fun c q H' hs => q H' (e1.s.trans hs)⟩
  refine ⟨H02, ρ, e2.sub, en.mono (e1.s0.trans e2.s0), R.wp_mono (R.wp_bind q) (fun o' q' H3 H03 e3 => ?_) fun c q H' hs => q H' (e1.s.trans (e2.s.trans hs))⟩
  obtain ⟨d, hd, hq⟩ := lift_wp q'
  exact ⟨H03, x, d, e3.sub, Du.mono (e2.s0.trans e3.s0) _ _ d1, hd, fun v' H' H0' e4 d4 => hq v' H' H0' (e1.trans (e2.trans (e3.trans e4))) d4⟩
end
end Pu

namespace Pu
open PySem PySem.Spec PyProof.Rows L2

/-! ### built-in calls, by values -/
def rDn (K : PySem.W.Frag) (o : List PyData → Option PyData) : List V → Hp → VK → Prop := fun vs H Q => ∃ H0 ds d, Same H0 H ∧ DuAll K H0 vs ds ∧ o ds = some d ∧ ∀ v H' H0', Ext H0 H H0' H' → Du K H0' v d → Q v H'
abbrev CallD (X : Cx) (f : Value) (o : List PyData → Option PyData) : Prop := CallR X f (rDn X.K o)
/-- .. a new list -/
def rFn (K : PySem.W.Frag) (o : List PyData → Option (List PyData)) : List V → Hp → VK → Prop := fun vs H Q => ∃ H0 ds d, Same H0 H ∧ DuAll K H0 vs ds ∧ o ds = some d ∧
  ∀ p ws H' H0', Ext H0 H H0' H' → H p = none → H0' p = none → H' p = some (.lst ws) → DuAll K H0' ws d → Q (.ref p) H'
abbrev CallF (X : Cx) (f : Value) (o : List PyData → Option (List PyData)) : Prop := CallR X f (rFn X.K o)
def eCB (o : List PyData → Option PyData) (fs : Rho → R (List PyData)) : Rho → R PyData := fun ρ => (fs ρ).bind fun ds => lift (o ds)
def fCB (o : List PyData → Option (List PyData)) (fs : Rho → R (List PyData)) : Rho → R (List PyData) := fun ρ => (fs ρ).bind fun ds => lift (o ds)
section
variable {X : Cx} {W : Wish} {x : Str} {p pos : Pos} {e : Expr} {es : List Expr} {id T : String} {fs : Rho → R (List PyData)} {o : List PyData → Option PyData} {o' : List PyData → Option (List PyData)}
theorem cb_two {Q : VK} {σ : L2.St} {H : Hp} {K : PySem.W.Frag} (h : tD K W (eCB o fs) σ H Q) : tCB (rDn K o) (tDs K W fs) σ H Q := by
  obtain ⟨H0, ρ, s, en, h⟩ := h
  refine tDs_bind s en h (fun c q => q) fun x h1 v H1 H01 e1 d1 => ?_
  obtain ⟨d, ho, hq⟩ := lift_wp h1
  exact ⟨H01, x, d, e1.sub, d1, ho, fun v H' H0' e3 d3 => hq v H' H0' (e1.trans e3) d3⟩
theorem cf_two {Q : VK} {σ : L2.St} {H : Hp} {K : PySem.W.Frag} (h : tDf K W (fCB o' fs) σ H Q) : tCB (rFn K o') (tDs K W fs) σ H Q := by
  obtain ⟨H0, ρ, s, en, h⟩ := h
  refine tDs_bind s en h (fun c q => q) fun x h1 v H1 H01 e1 d1 => ?_
  obtain ⟨d, ho, hq⟩ := lift_wp h1
  exact ⟨H01, x, d, e1.sub, d1, ho, fun p ws H' H0' e3 n1 n2 n3 n4 => hq p ws H' H0' (e1.trans e3) (e1.s.free n1) n2 n3 n4⟩
theorem ed_callB (hc : CallD X (.builtin id) o) (hg : Gl X x) (hm : X.mg x = none) (hv : bootBuiltins x = some (.builtin id)) (ha : EDs X W (e :: es) fs) (hn : x ≠ "__name__" := by decide) (hdb : (x == ("__debug__" : Str)) = false := by decide)
    (he : starEach (e :: es) X.env = (false, eval e X.env) :: starEach es X.env := by rfl) (hpl : (backTo pos (starEach es X.env)).any (·.1) = false := by rfl) : ED X W (.Call (.Name x p) (e :: es) [] pos) (eCB o fs) :=
  PE_imp (pe_callB hc hg hm hv ha hn hdb he hpl) fun _ _ _ h => cb_two h
theorem ed_callTy (hc : CallD X (.type T) o) (hg : Gl X x) (hm : X.mg x = none) (hv : bootBuiltins x = some (.type T)) (ha : EDs X W (e :: es) fs) (hn : x ≠ "__name__" := by decide) (hdb : (x == ("__debug__" : Str)) = false := by decide)
    (he : starEach (e :: es) X.env = (false, eval e X.env) :: starEach es X.env := by rfl) (hpl : (backTo pos (starEach es X.env)).any (·.1) = false := by rfl) : ED X W (.Call (.Name x p) (e :: es) [] pos) (eCB o fs) :=
  PE_imp (pe_callTy hc hg hm hv ha hn hdb he hpl) fun _ _ _ h => cb_two h
theorem ef_callB (hc : CallF X (.builtin id) o') (hg : Gl X x) (hm : X.mg x = none) (hv : bootBuiltins x = some (.builtin id)) (ha : EDs X W (e :: es) fs) (hn : x ≠ "__name__" := by decide) (hdb : (x == ("__debug__" : Str)) = false := by decide)
    (he : starEach (e :: es) X.env = (false, eval e X.env) :: starEach es X.env := by rfl) (hpl : (backTo pos (starEach es X.env)).any (·.1) = false := by rfl) : EF X W (.Call (.Name x p) (e :: es) [] pos) (fCB o' fs) :=
  PE_imp (pe_callB hc hg hm hv ha hn hdb he hpl) fun _ _ _ h => cf_two h
theorem ef_callTy (hc : CallF X (.type T) o') (hg : Gl X x) (hm : X.mg x = none) (hv : bootBuiltins x = some (.type T)) (ha : EDs X W (e :: es) fs) (hn : x ≠ "__name__" := by decide) (hdb : (x == ("__debug__" : Str)) = false := by decide)
    (he : starEach (e :: es) X.env = (false, eval e X.env) :: starEach es X.env := by rfl) (hpl : (backTo pos (starEach es X.env)).any (·.1) = false := by rfl) : EF X W (.Call (.Name x p) (e :: es) [] pos) (fCB o' fs) :=
  PE_imp (pe_callTy hc hg hm hv ha hn hdb he hpl) fun _ _ _ h => cf_two h
end

/-! ### which -/
def intsOf : List PyData → Option (List Int)
  | [] => some []
  | .int i :: r => (intsOf r).map (i :: ·)
  | _ :: _ => none
theorem intsOf_map (ns : List Int) : intsOf (ns.map .int) = some ns := by
  induction ns with
  | nil => rfl
  | cons n ns ih => show (intsOf (ns.map .int)).map (n :: ·) = _; rw [ih]; rfl
theorem intsOf_e : ∀ {ds : List PyData} {ns : List Int}, intsOf ds = some ns → ds = ns.map .int
  | [], ns, h => by cases h; rfl
  | .int i :: r, ns, h => by
    obtain ⟨m, h1, rfl⟩ := Option.map_eq_some_iff.mp h
    rw [intsOf_e h1]
    rfl
  | .none :: _, _, h => by cases h
  | .bool _ :: _, _, h => by cases h
  | .str _ :: _, _, h => by cases h
  | .list _ :: _, _, h => by cases h
  | .tuple _ :: _, _, h => by cases h
  | .dict _ :: _, _, h => by cases h
def boolsOf : List PyData → Option (List Bool)
  | [] => some []
  | .bool i :: r => (boolsOf r).map (i :: ·)
  | _ :: _ => none
theorem boolsOf_map (ns : List Bool) : boolsOf (ns.map .bool) = some ns := by
  induction ns with
  | nil => rfl
  | cons n ns ih => show (boolsOf (ns.map .bool)).map (n :: ·) = _; rw [ih]; rfl
theorem boolsOf_e : ∀ {ds : List PyData} {ns : List Bool}, boolsOf ds = some ns → ds = ns.map .bool
  | [], ns, h => by cases h; rfl
  | .bool i :: r, ns, h => by
    obtain ⟨m, h1, rfl⟩ := Option.map_eq_some_iff.mp h
    rw [boolsOf_e h1]
    rfl
  | .none :: _, _, h => by cases h
  | .int _ :: _, _, h => by cases h
  | .str _ :: _, _, h => by cases h
  | .list _ :: _, _, h => by cases h
  | .tuple _ :: _, _, h => by cases h
  | .dict _ :: _, _, h => by cases h
def cInt : List PyData → Option PyData
  | [.int i] => some (.int i)
  | [.bool b] => some (.int (if b then 1 else 0))
  | _ => none
def cLen : List PyData → Option PyData
  | [.list xs] => some (.int xs.length)
  | [.tuple xs] => some (.int xs.length)
  | [.str x] => if x.length ≤ 1000000 then some (.int x.length) else none
  | _ => none
def cSum : List PyData → Option PyData
  | [.list xs] => (intsOf xs).map fun ns => .int ns.sum
  | [.tuple xs] => (intsOf xs).map fun ns => .int ns.sum
  | _ => none
def maxL : List Int → Option Int
  | [] => none
  | n :: ns => some (ns.foldl max n)
def cMax : List PyData → Option PyData
  | [.int i, .int j] => some (.int (max i j))
  | [.list xs] => ((intsOf xs).bind maxL).map .int
  | _ => none
def cAll : List PyData → Option PyData
  | [.list xs] => (boolsOf xs).map fun bs => .bool (bs.all id)
  | _ => none
def cTup : List PyData → Option PyData
  | [.list xs] => some (.tuple xs)
  | [.tuple xs] => some (.tuple xs)
  | _ => none
def cStr : List PyData → Option PyData
  | [.int i] => if i.natAbs < 1000000 then some (.str (toString i)) else none
  | _ => none
/-- list(xs): a new list -/
def cList : List PyData → Option (List PyData)
  | [.list xs] => some xs
  | [.tuple xs] => some xs
  | _ => none
section
variable {X : Cx}
theorem cd_int : CallD X (.type "int") cInt := by
  intro pins s σ H vs us Q I r ⟨H0, ds, d, sm, da, ho, q⟩
  unfold cInt at ho
  split at ho
  · cases ho
    cases da with
    | cons h1 h2 =>
      cases h1
      cases h2
      exact call_int1 pins s σ H _ us Q I r (.inl ⟨_, rfl, q _ H H0 (Ext.refl sm) (.int _)⟩)
  · cases ho
    cases da with
    | cons h1 h2 =>
      cases h1
      cases h2
      exact call_int1 pins s σ H _ us Q I r (.inr ⟨_, rfl, q _ H H0 (Ext.refl sm) (.int _)⟩)
  · cases ho
theorem cd_len : CallD X (.builtin "len") cLen := by
  intro pins s σ H vs us Q I r ⟨H0, ds, d, sm, da, ho, q⟩
  unfold cLen at ho
  split at ho
  · cases ho
    cases da with
    | cons h1 h2 =>
      cases h1 with
      | lst k1 k2 =>
        cases h2
        refine call_len_seq pins s σ H _ us Q I r ⟨_, _, rfl, .inl (sm.seq k1), ?_⟩
        rw [k2.length]
        exact q _ H H0 (Ext.refl sm) (.int _)
  · cases ho
    cases da with
    | cons h1 h2 =>
      cases h1 with
      | tup k1 k2 k3 =>
        cases h2
        refine call_len_seq pins s σ H _ us Q I r ⟨_, _, rfl, .inr (SqT.frz (sm _ _ k1)), ?_⟩
        rw [k3.length]
        exact q _ H H0 (Ext.refl sm) (.int _)
  · obtain ⟨hl, rfl⟩ := ite_some ho
    cases da with
    | cons h1 h2 =>
      cases h1
      cases h2
      exact call_len_str pins s σ H _ us Q I r ⟨_, rfl, small6 hl, q _ H H0 (Ext.refl sm) (.int _)⟩
  · cases ho
theorem sum_rawT {prog : Program} {w : World} {A : Around} {E : Value → Shared → Prop} {s : Shared} {l : Addr} {its : List Value} {ns : List Int} {Q : Value → Shared → Prop} (hh : A.handled = none) (hl : s.heap.IsTuple l its.toArray) (hi : IntsAre its ns)
    (h : ∀ h' tk t', (∀ b o, s.heap.get? b = some o → h'.get? b = some o) → Q (.int ns.sum t') { s with heap := h', toks := tk }) : wpAny (model prog w) A (call (.builtin "sum") [.ref l]) Q E s := by
  obtain ⟨xs, e⟩ := hi.allInts.items
  have hn : numsOf (intItems xs).toList = ns := by rw [← e]; exact hi.numsOf
  rw [nums_intItems] at hn
  rw [e] at hl
  have hlt : l < s.heap.objs.size := by obtain ⟨_, e, _⟩ := hl; exact Heap.lt_size e
  refine call_sum_walkG (wpAny_pyIter_tuple hl ?_)
  refine ⟨_, _, _, _, _, _, numAt xs, rfl, Walks.tuple (A := A.in1) hh _ l (Nat.ne_of_lt hlt) (intItems xs), ⟨⟨_, Heap.get?_push_size _ rfl, rfl, rfl⟩, ?_⟩, fun b hb => ?_, (fun _ _ => intItems_at), fun h' tk t' hk => ?_⟩
  · obtain ⟨o, ho, r⟩ := hl
    exact ⟨o, Heap.get?_push_of_some _ ho, r⟩
  · show b < (s.heap.push _).objs.size
    rw [Heap.size_push]
    rcases List.mem_cons.mp hb with rfl | hb
    · exact Nat.lt_succ_self _
    · rcases List.mem_cons.mp hb with rfl | hb
      · exact Nat.lt_succ_of_lt hlt
      · cases hb
  · have := h h' tk t' fun b o eo => by
      refine hk b o (fun hmem => ?_) (Heap.get?_push_of_some _ eo)
      rcases List.mem_cons.mp hmem with e1 | hmem
      · exact absurd (e1 ▸ Heap.lt_size eo) (Nat.lt_irrefl _)
      · cases hmem
    have e2 : preSum (numAt xs) (intItems xs).size = ns.sum := by
      rw [preSum_eq, List.take_of_length_le (by simp [intItems]), hn]
    rw [e2]
    exact this
theorem cd_sum (hc : X.calm = true) : CallD X (.builtin "sum") cSum := by
  intro pins s σ H vs us Q I r ⟨H0, ds, d, sm, da, ho, q⟩
  unfold cSum at ho
  split at ho
  · obtain ⟨ns, hn, rfl⟩ := Option.map_eq_some_iff.mp ho
    have e := intsOf_e hn
    subst e
    cases da with
    | cons h1 h2 =>
      cases h1 with
      | lst k1 k2 =>
        cases h2
        have e := k2.ints
        subst e
        exact cr_sum hc pins s σ H _ us Q I r ⟨_, _, rfl, sm.seq k1, q _ H H0 (Ext.refl sm) (.int _)⟩
  · obtain ⟨ns, hn, rfl⟩ := Option.map_eq_some_iff.mp ho
    have e := intsOf_e hn
    subst e
    cases da with
    | cons h1 h2 =>
      cases h1 with
      | tup k1 k2 k3 =>
        cases h2
        have e := k3.ints
        subst e
        obtain ⟨its, rv, hl, _⟩ := I.tuple (SqT.frz (sm _ _ k1))
        rw [Vals.ref1 r]
        exact sum_rawT (I.ok.hd hc) hl rv.ints fun h' tk t' hk => ⟨.int _, H, I.kept hk, ⟨_, rfl⟩, q _ H H0 (Ext.refl sm) (.int _)⟩
  · cases ho
theorem foldl_max : ∀ (ns : List Int) (n : Int), (ns.foldl max n = n ∨ ns.foldl max n ∈ ns) ∧ n ≤ ns.foldl max n ∧ ∀ y ∈ ns, y ≤ ns.foldl max n
  | [], n => ⟨.inl rfl, Int.le_refl _, fun _ h => by cases h⟩
  | m :: ns, n => by
    obtain ⟨h1, h2, h3⟩ := foldl_max ns (max n m)
    rw [List.foldl_cons]
    refine ⟨?_, by omega, fun y hy => ?_⟩
    · rcases h1 with h1 | h1
      · rw [h1]
        by_cases h : m ≤ n
        · exact .inl (by omega)
        · exact .inr (by rw [show max n m = m by omega]; exact List.mem_cons_self)
      · exact .inr (List.mem_cons_of_mem _ h1)
    · rcases List.mem_cons.mp hy with rfl | hy
      · omega
      · exact h3 y hy
theorem maxL_of {ns : List Int} {k m : Int} (h : maxL ns = some k) (h1 : m ∈ ns) (h2 : ∀ y, y ∈ ns → y ≤ m) : m = k := by
  cases ns with
  | nil => cases h
  | cons n ns =>
    cases h
    obtain ⟨q1, q2, q3⟩ := foldl_max ns n
    have a1 : m ≤ ns.foldl max n := by
      rcases List.mem_cons.mp h1 with rfl | h1
      · exact q2
      · exact q3 m h1
    have a2 : ns.foldl max n ≤ m := by
      rcases q1 with q1 | q1
      · rw [q1]; exact h2 _ List.mem_cons_self
      · exact h2 _ (List.mem_cons_of_mem _ q1)
    omega
theorem cd_max (hc : X.calm = true) : CallD X (.builtin "max") cMax := by
  intro pins s σ H vs us Q I r ⟨H0, ds, d, sm, da, ho, q⟩
  unfold cMax at ho
  split at ho
  · cases ho
    cases da with
    | cons h1 h2 =>
      cases h1
      cases h2 with
      | cons h3 h4 =>
        cases h3
        cases h4
        rename_i i j
        refine call_max2 hc pins s σ H _ us Q I r ⟨i, j, rfl, ?_⟩
        rw [show (if j > i then j else i) = max i j by omega]
        exact q _ H H0 (Ext.refl sm) (.int _)
  · obtain ⟨k, hk, rfl⟩ := Option.map_eq_some_iff.mp ho
    obtain ⟨ns, hn, hm⟩ := Option.bind_eq_some_iff.mp hk
    have e := intsOf_e hn
    subst e
    cases da with
    | cons h1 h2 =>
      cases h1 with
      | lst k1 k2 =>
        cases h2
        have e := k2.ints
        subst e
        refine cr_max hc pins s σ H _ us Q I r ⟨_, _, rfl, sm.seq k1, ?_, fun m h1 h2 => ?_⟩
        · cases ns with
          | nil => cases hm
          | cons _ _ => simp
        · rw [maxL_of hm h1 h2]
          exact q _ H H0 (Ext.refl sm) (.int _)
  · cases ho
theorem cd_all (hc : X.calm = true) : CallD X (.builtin "all") cAll := by
  intro pins s σ H vs us Q I r ⟨H0, ds, d, sm, da, ho, q⟩
  unfold cAll at ho
  split at ho
  · obtain ⟨ns, hn, rfl⟩ := Option.map_eq_some_iff.mp ho
    have e := boolsOf_e hn
    subst e
    cases da with
    | cons h1 h2 =>
      cases h1 with
      | lst k1 k2 =>
        cases h2
        have e := k2.bools
        subst e
        exact cr_all hc pins s σ H _ us Q I r ⟨_, _, rfl, sm.seq k1, q _ H H0 (Ext.refl sm) (.bl _)⟩
  · cases ho
theorem cd_tup : CallD X (.type "tuple") cTup := by
  intro pins s σ H vs us Q I r ⟨H0, ds, d, sm, da, ho, q⟩
  unfold cTup at ho
  split at ho
  · cases ho
    cases da with
    | cons h1 h2 =>
      cases h1 with
      | lst k1 k2 =>
        cases h2
        obtain ⟨u, rfl, rx⟩ := vals1 r
        cases rx
        obtain ⟨its, r', pl, hz⟩ := I.list (sm.seq k1)
        have hlen := r'.length
        refine call_tuple_list pl.isList (fun h' kp => ?_) (by simp only [List.size_toArray] <;> omega)
        have I1 : Inv X pins σ H { s with heap := h' } := I.kept (t' := s.toks) kp
        exact ep_ntup (t' := s.toks) I1 r' hz (newT_du sm k2 q)
  · cases ho
    cases da with
    | cons h1 h2 =>
      cases h1 with
      | tup k1 k2 k3 =>
        cases h2
        exact call_tupleT pins s σ H _ us Q I r ⟨_, _, rfl, SqT.frz (sm _ _ k1), q _ H H0 (Ext.refl sm) (.tup k1 k2 k3)⟩
  · cases ho
theorem log_small {n : Nat} (h : n < 1000000) : n.log2 < 1920 := by
  by_cases h0 : n = 0
  · subst h0; decide
  · refine Nat.lt_of_lt_of_le ((Nat.log2_lt h0).mpr (Nat.lt_of_lt_of_le h (by decide : 1000000 ≤ 2 ^ 20))) (by decide)
theorem cd_str : CallD X (.type "str") cStr := by
  intro pins s σ H vs us Q I r ⟨H0, ds, d, sm, da, ho, q⟩
  unfold cStr at ho
  split at ho
  · obtain ⟨hl, rfl⟩ := ite_some ho
    cases da with
    | cons h1 h2 =>
      cases h1
      cases h2
      exact call_str_int pins s σ H _ us Q I r ⟨_, rfl, log_small hl, q _ H H0 (Ext.refl sm) (.str _)⟩
  · cases ho
theorem cf_list : CallF X (.type "list") cList := by
  intro pins s σ H vs us Q I r ⟨H0, ds, d, sm, da, ho, q⟩
  unfold cList at ho
  split at ho
  · cases ho
    cases da with
    | cons h1 h2 =>
      cases h1 with
      | lst k1 k2 =>
        cases h2
        exact call_list_of pins s σ H _ us Q I r ⟨_, _, rfl, .inl (sm.seq k1), newL_f sm k2 q⟩
  · cases ho
    cases da with
    | cons h1 h2 =>
      cases h1 with
      | tup k1 k2 k3 =>
        cases h2
        exact call_list_of pins s σ H _ us Q I r ⟨_, _, rfl, .inr (SqT.frz (sm _ _ k1)), newL_f sm k3 q⟩
  · cases ho
end

theorem ite_opt {α : Type} {c : Prop} [Decidable c] {o : Option α} {d : α} (h : (if c then o else none) = some d) : c ∧ o = some d := by
  by_cases hc : c
  · rw [if_pos hc] at h
    exact ⟨hc, h⟩
  · rw [if_neg hc] at h
    cases h
/-! ### isinstance(x, T) -/
def tyN : PyData → String
  | .none => "NoneType" | .bool _ => "bool" | .int _ => "int" | .str _ => "str" | .list _ => "list" | .tuple _ => "tuple" | .dict _ => "dict"
def isiD (T : String) (d : PyData) : Bool := tyN d == T || (T == "int" && tyN d == "bool")
def eIsi (T : String) (f : Rho → R PyData) : Rho → R PyData := fun ρ => (f ρ).bind fun x => .ok (.bool (isiD T x))
theorem tyX_of {K : PySem.W.Frag} {H : Hp} {v : V} {d : PyData} (h : Du K H v d) : TyX K H v (.type (tyN d)) := by
  cases h with
  | non => exact .base .non
  | bl b => exact .base (.bl b)
  | int i => exact .base (.int i)
  | str x => exact .base (.str x)
  | lst h1 h2 =>
    rcases h1 with (h | ⟨o, h⟩) | ⟨o, its, n, hk, hc, _⟩
    · exact .base (.lst h)
    · exact .base (.frz h)
    · exact .kList hk hc
  | tup h1 h2 h3 => exact .fTuple h1
theorem kit_s : ∀ t ∈ ["NoneType", "bool", "int", "str", "list", "tuple"], ∀ T ∈ ["int", "bool", "str", "tuple", "list"], kitB t T = some (t == T || (T == "int" && t == "bool")) := by decide +kernel
theorem kit_d (T : String) (hT : T = "int" ∨ T = "bool" ∨ T = "str" ∨ T = "tuple" ∨ T = "list") (d : PyData) (hd : ∀ kv, d ≠ .dict kv) : kitB (tyN d) T = some (isiD T d) := by
  have h2 : T ∈ ["int", "bool", "str", "tuple", "list"] := by rcases hT with rfl | rfl | rfl | rfl | rfl <;> simp
  refine kit_s (tyN d) ?_ T h2
  cases d with
  | dict kv => exact absurd rfl (hd kv)
  | _ => simp [tyN]
section
variable {X : Cx} {W : Wish} {x T : Str} {p p2 pos : Pos} {e : Expr} {f : Rho → R PyData} {t : String}
theorem ed_isi (hT : t = "int" ∨ t = "bool" ∨ t = "str" ∨ t = "tuple" ∨ t = "list") (hg : Gl X "isinstance") (hm : X.mg "isinstance" = none) (hgT : Gl X T) (hmT : X.mg T = none) (hvT : bootBuiltins T = some (.type t)) (he : ED X W e f)
    (hnT : T ≠ "__name__" := by decide) (hdT : (T == ("__debug__" : Str)) = false := by decide) (hs : starEach [e, .Name T p2] X.env = (false, eval e X.env) :: starEach [.Name T p2] X.env := by rfl) (hs2 : starEach [.Name T p2] X.env = (false, eval (.Name T p2) X.env) :: starEach [] X.env := by rfl)
    (hpl : (backTo pos (starEach [.Name T p2] X.env)).any (·.1) = false := by rfl) : ED X W (.Call (.Name "isinstance" p) [e, .Name T p2] [] pos) (eIsi t f) := by
  refine PE_imp (pe_callB call_isi hg hm (by decide +kernel) (pa_cons he (pa_cons (pe_bltn (v := .ty t) hgT hmT hvT rfl hnT hdT) pa_nil hs2) hs) (by decide) (by decide) hs hpl) fun σ H Q ⟨H0, ρ, s, en, h⟩ => ?_
  refine tD_bind s en h (fun c q => q) fun x h1 v H1 H01 e1 d1 => ?_
  exact ⟨v, .ty t, _, _, isiD t x, rfl, .ty t, tyX_of (Du.mono e1.sub _ _ d1), kit_ty (kit_d t hT x fun kv z => by subst z; cases d1), h1 _ H1 H01 e1 (.bl _)⟩
end

/-! ### methods of built-in things, by values -/
def rDm (K : PySem.W.Frag) (o : PyData → List PyData → Option PyData) : V → List V → Hp → VK → Prop := fun x vs H Q => ∃ H0 a ds d, Same H0 H ∧ Du K H0 x a ∧ DuAll K H0 vs ds ∧ o a ds = some d ∧ ∀ v H' H0', Ext H0 H H0' H' → Du K H0' v d → Q v H'
def isTy (T : String) (o : PyData → List PyData → Option PyData) : PyData → List PyData → Option PyData := fun x ds => if tyN x = T then o x ds else none
def eMt (T : String) (o : PyData → List PyData → Option PyData) (f : Rho → R PyData) (fs : Rho → R (List PyData)) : Rho → R PyData := fun ρ => (f ρ).bind fun x => if tyN x = T then (fs ρ).bind fun ds => lift (o x ds) else .no
theorem tyIs_of {X : Cx} {pins : List (Addr × Obj)} {σ : L2.St} {H H0 : Hp} {s : Shared} {x : V} {v : Value} {d : PyData} {T : String} (I : Inv X pins σ H s) (r : RelV x v) (sm : Same H0 H) (h : Du X.K H0 x d) (hT : tyN d = T) (hT2 : T = "str" ∨ T = "list" ∨ T = "tuple") :
    s.TypeIs v T ∧ ∀ a, v = .ref a → ∃ ob, s.heap.get? a = some ob ∧ ob.dict = none := by
  cases h with
  | str z =>
    obtain ⟨t, rfl⟩ := r
    cases hT
    exact ⟨typeIs_str s z t, fun _ e => nomatch e⟩
  | lst h1 h2 =>
    cases hT
    exact tyV_is I r (.inl ⟨rfl, _, sm.seq h1⟩)
  | @tup a xs ds o h1 h2 h3 =>
    cases hT
    cases r
    obtain ⟨e, _, _, _, o', e', hc, _⟩ := (show ObjOk X.prog X.w H s.heap a (.frz o (.tup xs)) from I.hok a _ (sm _ _ h1))
    rw [e] at e'
    cases e'
    refine ⟨⟨o, e, hc⟩, fun b q => ?_⟩
    cases q
    exact ⟨o, e, h2⟩
  | non => exact absurd hT2 (by rw [← hT]; show ¬ (("NoneType" : String) = "str" ∨ ("NoneType" : String) = "list" ∨ ("NoneType" : String) = "tuple"); decide)
  | bl b => exact absurd hT2 (by rw [← hT]; show ¬ (("bool" : String) = "str" ∨ ("bool" : String) = "list" ∨ ("bool" : String) = "tuple"); decide)
  | int b => exact absurd hT2 (by rw [← hT]; show ¬ (("int" : String) = "str" ∨ ("int" : String) = "list" ∨ ("int" : String) = "tuple"); decide)
section
variable {X : Cx} {W : Wish} {o e : Expr} {es : List Expr} {name : Str} {apos cpos : Pos} {T id : String} {op : PyData → List PyData → Option PyData} {f : Rho → R PyData} {fs : Rho → R (List PyData)}
theorem ed_mt (hT2 : T = "str" ∨ T = "list" ∨ T = "tuple") (pa : PlainAttrs T) (slot : PySem.Slot T name id) (hty : typeOf (.builtin id) = pure (.type "method_descriptor")) (hm : MtR X id (rDm X.K (isTy T op))) (ho : ED X W o f) (ha : EDs X W (e :: es) fs)
    (hbase : attributeBase o name X.env (eval o X.env) = eval o X.env := by rfl)
    (hfew : ((backTo cpos (starEach (e :: es) X.env)).all (fun x => !x.1) && (backToKw cpos (keywordEach [] X.env)).all (fun x => x.1.isSome)
      && decide ((e :: es).length + ([] : List Keyword).length + (if ([] : List Keyword).isEmpty then 0 else 1) < 30)) = true := by rfl)
    (hline : (apos.endLine == cpos.line) = true := by rfl) (hs : starEach (e :: es) X.env = (false, eval e X.env) :: starEach es X.env := by rfl) (hplain : (backTo cpos (starEach es X.env)).any (·.1) = false := by rfl) :
    ED X W (.Call (.Attribute o name apos) (e :: es) [] cpos) (eMt T op f fs) := by
  refine ⟨fun pins s σ H Q I ⟨H0, ρ, sm, en, h⟩ => ?_⟩
  refine wpAny_Call_method_late hbase hfew hline rfl (thn (ho.run pins s σ H _ I (tD_bind (Q := fun x H1 => ∃ H01 a, Ext H0 H H01 H1 ∧ Du X.K H01 x a ∧ (if tyN a = T then (fs ρ).bind fun ds => lift (op a ds) else .no).wp (fun d => ∀ v H' H0', Ext H0 H H0' H' → Du X.K H0' v d → Q v H') (fun c => ∀ H', Same H H' → W c σ H')) sm en h (fun c q => q) fun x h1 v H1 H01 e1 d1 => ⟨H01, x, e1, d1, h1⟩)) fun v s1 ⟨x, H1, I1, r1, H01, a, e1, d1, h1⟩ => ?_)
  by_cases hT : tyN a = T
  · rw [if_pos hT] at h1
    obtain ⟨t1, t2⟩ := tyIs_of I1 r1 e1.sub d1 hT hT2
    refine ⟨T, id, pa, slot, hty, t1, t2, ?_⟩
    have hA := ha.run cpos pins s1 σ H1 (fun vs H2 => rDm X.K (isTy T op) x vs H2 Q) I1 (tDs_bind e1.sub (en.mono e1.s0) h1 (fun c q H' hs => q H' (e1.s.trans hs)) fun ds h2 vs H2 H02 e2 d2 => by
      obtain ⟨d, hd, hq⟩ := lift_wp h2
      exact ⟨H02, a, ds, d, e2.sub, Du.mono e2.s0 _ _ d1, d2, by unfold isTy; rw [if_pos hT]; exact hd, fun v H' H0' e3 d3 => hq v H' H0' (e1.trans (e2.trans e3)) d3⟩)
    rw [hs] at hA ⊢
    refine Calls.callWith_builtin (by show (false || (backTo cpos (starEach es X.env)).any (·.1)) = false; rw [hplain] <;> rfl) (Calls.evalArgs_plain ?_)
    exact thn hA fun us s2 ⟨vs, H2, I2, r2, q2⟩ => hm pins s2 σ H2 x vs v us Q I2 r1 r2 q2
  · rw [if_neg hT] at h1
    exact h1.elim
end
/-- the first place of an equal one -/
def idxD (y : PyData) : List PyData → Option Nat
  | [] => none
  | x :: xs => if PyData.eqv x y = true then some 0 else (idxD y xs).map (· + 1)
theorem idxD_e {y : PyData} : ∀ {xs : List PyData} {j : Nat}, idxD y xs = some j → (∃ z, xs[j]? = some z ∧ PyData.eqv z y = true) ∧ ∀ m z, m < j → xs[m]? = some z → PyData.eqv z y = false
  | [], _, h => by cases h
  | x :: xs, j, h => by
    unfold idxD at h
    by_cases hx : PyData.eqv x y = true
    · rw [if_pos hx] at h
      cases h
      exact ⟨⟨x, rfl, hx⟩, fun m z hm => absurd hm (Nat.not_lt_zero _)⟩
    · rw [if_neg hx] at h
      obtain ⟨k, hk, rfl⟩ := Option.map_eq_some_iff.mp h
      obtain ⟨⟨z, h1, h2⟩, h3⟩ := idxD_e hk
      refine ⟨⟨z, h1, h2⟩, fun m z' hm hz => ?_⟩
      cases m with
      | zero =>
        cases hz
        exact Bool.not_eq_true _ ▸ hx
      | succ m => exact h3 m z' (Nat.lt_of_succ_lt_succ hm) hz
def mIdx : PyData → List PyData → Option PyData
  | .list xs, [y] => if (flatD y && xs.all flatD) = true then (idxD y xs).map fun j => .int (j : Nat) else none
  | .tuple xs, [y] => if (flatD y && xs.all flatD) = true then (idxD y xs).map fun j => .int (j : Nat) else none
  | _, _ => none
def mCnt : PyData → List PyData → Option PyData
  | .tuple xs, [y] => if (flatD y && xs.all flatD) = true then some (.int (xs.countP fun z => PyData.eqv z y : Nat)) else none
  | _, _ => none
def mSplit : PyData → List PyData → Option PyData
  | .str x, [.str y] => if y.length ≠ 0 ∧ x.length ≤ 1000000 then some (.list ((Txt.split x y).map .str)) else none
  | _, _ => none
def strsOf : List PyData → Option (List Str)
  | [] => some []
  | .str i :: r => (strsOf r).map (i :: ·)
  | _ :: _ => none
theorem strsOf_map (ns : List Str) : strsOf (ns.map .str) = some ns := by
  induction ns with
  | nil => rfl
  | cons n ns ih => show (strsOf (ns.map .str)).map (n :: ·) = _; rw [ih]; rfl
theorem strsOf_e : ∀ {ds : List PyData} {ns : List Str}, strsOf ds = some ns → ds = ns.map .str
  | [], ns, h => by cases h; rfl
  | .str i :: r, ns, h => by
    obtain ⟨m, h1, rfl⟩ := Option.map_eq_some_iff.mp h
    rw [strsOf_e h1]
    rfl
  | .none :: _, _, h => by cases h
  | .bool _ :: _, _, h => by cases h
  | .int _ :: _, _, h => by cases h
  | .list _ :: _, _, h => by cases h
  | .tuple _ :: _, _, h => by cases h
  | .dict _ :: _, _, h => by cases h
section
variable {X : Cx}
theorem flat_pair {K : PySem.W.Frag} {H : Hp} {vs : List V} {ds : List PyData} {w : V} {y : PyData} (h : DuAll K H vs ds) (h' : Du K H w y) (f : (flatD y && ds.all flatD) = true) : flatV w = true ∧ vs.all flatV = true ∧ flatD y = true ∧ ds.all flatD = true := by
  rw [Bool.and_eq_true] at f
  exact ⟨flat_v h' f.1, (any_flat h' f.1 h f.2).2, f.1, f.2⟩
theorem all_get {α : Type} {p : α → Bool} {xs : List α} (h : xs.all p = true) {i : Nat} {x : α} (e : xs[i]? = some x) : p x = true := List.all_eq_true.mp h x (List.mem_of_getElem? e)
theorem mt_idxL : MtR X "list.index" (rDm X.K (isTy "list" mIdx)) := by
  intro pins s σ H x vs v us Q I rx rs ⟨H0, a, ds, d, sm, da, db, ho, q⟩
  obtain ⟨hT, ho⟩ : tyN a = "list" ∧ mIdx a ds = some d := ite_opt ho
  unfold mIdx at ho
  split at ho
  · obtain ⟨hf, ho⟩ := ite_opt ho
    obtain ⟨j, hj, rfl⟩ := Option.map_eq_some_iff.mp ho
    cases db with
    | cons h1 h2 =>
      cases h2
      cases da with
      | lst k1 k2 =>
        obtain ⟨f1, f2, f3, f4⟩ := flat_pair k2 h1 hf
        obtain ⟨⟨z, z1, z2⟩, z3⟩ := idxD_e hj
        obtain ⟨zv, w1, w2⟩ := k2.get z1
        refine mt_index pins s σ H _ _ v us Q I rx rs ⟨_, _, _, j, zv, rfl, rfl, sm.seq k1, f1, f2, w1, ?_, fun m z' hm hz => ?_, q _ H H0 (Ext.refl sm) (.int _)⟩
        · rw [(eqv_flat w2 h1 (all_get f4 z1) f3).1]; exact z2
        · obtain ⟨d', e1, e2⟩ := k2.get' hz
          rw [(eqv_flat e2 h1 (all_get f4 e1) f3).1]
          exact z3 m d' hm e1
  · exact absurd (show ("tuple" : String) = "list" from hT) (by decide)
  · cases ho
theorem items_at {K : PySem.W.Frag} {H : Hp} {vs : List V} {its : List Value} {ds : List PyData} (r : Vals vs its) (k : DuAll K H vs ds) (m : Nat) (hm : m < its.length) : ∃ d v, ds[m]? = some d ∧ vs[m]? = some v ∧ RelV v its[m] ∧ Du K H v d := by
  have hl := r.length
  have hm' : m < vs.length := by omega
  have e1 : vs[m]? = some vs[m] := List.getElem?_eq_getElem hm'
  obtain ⟨d, q1, q2⟩ := k.get' e1
  obtain ⟨u, q3, q4⟩ := r.get e1
  rw [List.getElem?_eq_getElem hm] at q3
  cases q3
  exact ⟨d, _, q1, e1, q4, q2⟩
theorem mt_idxT : MtR X "tuple.index" (rDm X.K (isTy "tuple" mIdx)) := by
  intro pins s σ H x vs v us Q I rx rs ⟨H0, a, ds, d, sm, da, db, ho, q⟩
  obtain ⟨hT, ho⟩ : tyN a = "tuple" ∧ mIdx a ds = some d := ite_opt ho
  unfold mIdx at ho
  split at ho
  · exact absurd (show ("list" : String) = "tuple" from hT) (by decide)
  · rename_i xs y _
    obtain ⟨hf, ho⟩ := ite_opt ho
    obtain ⟨j, hj, rfl⟩ := Option.map_eq_some_iff.mp ho
    cases db with
    | @cons w _ _ _ h1 h2 =>
      cases h2
      cases da with
      | @tup aa vs' _ oo k1 k2 k3 =>
        obtain ⟨f1, f2, f3, f4⟩ := flat_pair k3 h1 hf
        obtain ⟨⟨z, z1, z2⟩, z3⟩ := idxD_e hj
        cases rx
        obtain ⟨uy, rfl, ry⟩ := rs.one
        obtain ⟨its, rv, hl, hz⟩ := I.tuple (SqT.frz (sm _ _ k1))
        obtain ⟨⟨cls, dd, data, sl⟩, ho', hc, n, hd⟩ := id hl
        simp only at hc hd
        subst hc hd
        have hlen := rv.length
        have hlen2 := k3.length
        have hjl : j < its.length := by
          have := (List.getElem?_eq_some_iff.mp z1).1
          omega
        refine call_meets F.slot_tuple_index ⟨_, ho', rfl⟩ F.entry_tuple_index (F.args_tuple_index_2 _ _)
          (SeqAt.tuple_index2_found aa its.toArray n dd sl uy (fun m => PyData.eqv (xs.getD m .none) y) j (by simpa using hjl) (Nat.zero_le _) (by simpa using hjl) ?_ ?_) ⟨ho', fun m hm => ?_, ?_⟩
        · show PyData.eqv (xs.getD j .none) y = true
          rw [List.getD_eq_getElem?_getD, z1]
          exact z2
        · intro m hm _ hmj
          have hm' : m < its.length := by simpa using hm
          obtain ⟨dm, vm, e1, e2, e3, e4⟩ := items_at rv k3 m hm'
          show PyData.eqv (xs.getD m .none) y = false
          rw [List.getD_eq_getElem?_getD, e1]
          exact z3 m dm hmj e1
        · have hm' : m < its.length := by simpa using hm
          obtain ⟨dm, vm, e1, e2, e3, e4⟩ := items_at rv k3 m hm'
          have e5 := eqAt_V (A := X.A.in1) (s := s) e3 ry (all_get f2 e2) f1
          rw [(eqv_flat e4 h1 (all_get f4 e1) f3).1] at e5
          show SeqAt.EqAt X.A.in1 s its.toArray[m] uy (PyData.eqv (xs.getD m .none) y)
          rw [List.getD_eq_getElem?_getD, e1]
          simpa using e5
        · exact ⟨.int (j : Nat), H, I.tok _, ⟨_, rfl⟩, q _ H H0 (Ext.refl sm) (.int _)⟩
  · cases ho
theorem countP_flat {K : PySem.W.Frag} {H : Hp} {w : V} {y : PyData} (h' : Du K H w y) (f' : flatD y = true) : ∀ {vs : List V} {ds : List PyData} {its : List Value}, Vals vs its → DuAll K H vs ds → ds.all flatD = true → its.countP (eqU w) = ds.countP fun z => PyData.eqv z y
  | _, [], _, r, h, _ => by
    cases h
    cases r
    rfl
  | _, d :: ds, _, r, h, f => by
    cases h with
    | cons h1 h2 =>
      cases r with
      | cons r1 r2 =>
        rw [List.all_cons, Bool.and_eq_true] at f
        rw [List.countP_cons, List.countP_cons, countP_flat h' f' r2 h2 f.2, eqU_of r1 (flat_v h1 f.1), (eqv_flat h1 h' f.1 f').1]
theorem mt_cntT : MtR X "tuple.count" (rDm X.K (isTy "tuple" mCnt)) := by
  intro pins s σ H x vs v us Q I rx rs ⟨H0, a, ds, d, sm, da, db, ho, q⟩
  obtain ⟨hT, ho⟩ : tyN a = "tuple" ∧ mCnt a ds = some d := ite_opt ho
  unfold mCnt at ho
  split at ho
  · rename_i xs y
    obtain ⟨hf, rfl⟩ := ite_some ho
    cases db with
    | @cons w _ _ _ h1 h2 =>
      cases h2
      cases da with
      | @tup aa vs' _ oo k1 k2 k3 =>
        obtain ⟨f1, f2, f3, f4⟩ := flat_pair k3 h1 hf
        cases rx
        obtain ⟨uy, rfl, ry⟩ := rs.one
        obtain ⟨its, rv, hl, hz⟩ := I.tuple (SqT.frz (sm _ _ k1))
        obtain ⟨⟨cls, dd, data, sl⟩, ho', hc, n, hd⟩ := id hl
        simp only at hc hd
        subst hc hd
        refine call_meets F.slot_tuple_count ⟨_, ho', rfl⟩ F.entry_tuple_count (F.args_tuple_count_2 _ _)
          (SeqAt.tuple_countAt aa its.toArray n dd sl uy (eqU w)) ⟨ho', fun y hy => mem_eqAt ry f1 rv f2 y (by simpa using hy), ?_⟩
        refine ⟨.int _, H, I.tok _, ⟨s.toks, ?_⟩, q _ H H0 (Ext.refl sm) (.int _)⟩
        rw [← countP_flat h1 f3 rv k3 f4]
  · cases ho
theorem mt_splitD : MtR X "str.split" (rDm X.K (isTy "str" mSplit)) := by
  intro pins s σ H x vs v us Q I rx rs ⟨H0, a, ds, d, sm, da, db, ho, q⟩
  obtain ⟨hT, ho⟩ : tyN a = "str" ∧ mSplit a ds = some d := ite_opt ho
  unfold mSplit at ho
  split at ho
  · obtain ⟨⟨hf, hl⟩, rfl⟩ := ite_some ho
    cases da
    cases db with
    | cons h1 h2 =>
      cases h1
      cases h2
      refine mt_split pins s σ H _ _ v us Q I rx rs ⟨_, _, rfl, rfl, by simpa using hf, by rw [sizeLine_eq]; omega, newL_du sm (DuAll.ofStrs _) q⟩
  · cases ho
/-- sep.join(xs) -/
def mJoin : PyData → List PyData → Option PyData
  | .str x, [.list ys] => (strsOf ys).bind fun ss => if ss.length ≤ 1000 ∧ (∀ z ∈ ss, z.length ≤ 1000) ∧ x.length ≤ 10 then some (.str (Txt.join x ss)) else none
  | _, _ => none
theorem mt_joinD : MtR X "str.join" (rDm X.K (isTy "str" mJoin)) := by
  intro pins s σ H x vs v us Q I rx rs ⟨H0, a, ds, d, sm, da, db, ho, q⟩
  obtain ⟨hT, ho⟩ : tyN a = "str" ∧ mJoin a ds = some d := ite_opt ho
  unfold mJoin at ho
  split at ho
  · obtain ⟨ss, hs, ho⟩ := Option.bind_eq_some_iff.mp ho
    obtain ⟨⟨h1, h2, h3⟩, rfl⟩ := ite_some ho
    have e := strsOf_e hs
    subst e
    cases da
    cases db with
    | cons g1 g2 =>
      cases g2
      cases g1 with
      | lst k1 k2 =>
        have e := k2.strs
        subst e
        refine mt_join pins s σ H _ _ v us Q I rx rs ⟨_, _, ss, rfl, rfl, .inl (sm.seq k1), ?_, q _ H H0 (Ext.refl sm) (.str _)⟩
        have sumle : ∀ (l : List Str), (∀ z ∈ l, z.length ≤ 1000) → (l.map (·.length)).sum ≤ 1000 * l.length := by
          intro l
          induction l with
          | nil => intro _; exact Nat.le_refl _
          | cons z l ih =>
            intro h
            rw [List.map_cons, List.sum_cons, List.length_cons]
            have a1 := h z List.mem_cons_self
            have a2 := ih fun y hy => h y (List.mem_cons_of_mem _ hy)
            omega
        have b1 := sumle ss h2
        have b2 : ss.length * _ ≤ 1000 * 10 := Nat.mul_le_mul h1 h3
        omega
  · cases ho
end
end Pu

namespace Pu
open PySem PySem.Spec PyProof.Rows L2

/-! ### defs -/
abbrev Ec := Nat → Value
/-- what a def promises: n arguments, data in, a datum or a refusal out -/
def spD (K : PySem.W.Frag) (ec : Ec) (n : Nat) (F : List PyData → R PyData) : Sp := fun vs H Q E => ∃ H0 ds, vs.length = n ∧ Same H0 H ∧ DuAll K H0 vs ds ∧
  (F ds).wp (fun d => ∀ v H' H0', Ext H0 H H0' H' → Du K H0' v d → Q v H') (fun c => ∀ H', Same H H' → E (ec c) none H')
/-- the wish of a context, by the refusals' numbers -/
def wx (ec : Ec) (W : Wish) : WX := fun cls d σ H => ∃ c, cls = ec c ∧ d = none ∧ W c σ H
structure Ctx (X : Cx) (ec : Ec) (W : Wish) : Prop where
  calm : X.calm = true
  nd : X.N.Nodup
  tk : Takes X (wx ec W)
  po : PassesOwn (model X.prog X.w) X.A X.env X.xe
def W0 : Wish := fun _ _ _ => False
abbrev FnD (P : Program) (w : World) (K : PySem.W.Frag) (mg : Str → Option Value) (base : Heap) (ec : Ec) (k : Nat) (f : Addr) (fd : FuncData) (ps : List Str) (F : List PyData → R PyData) : Prop :=
  FnOk P w K mg base (L2.CX P w) k f fd ps (spD K ec ps.length F)
def eCall (F : List PyData → R PyData) (fs : Rho → R (List PyData)) : Rho → R PyData := fun ρ => (fs ρ).bind F
section
variable {X : Cx} {ec : Ec} {W : Wish} {k : Nat} {f : Addr} {fd : FuncData} {ps : List Str} {F : List PyData → R PyData} {x : Str} {p pos : Pos} {e : Expr} {es : List Expr} {fs : Rho → R (List PyData)}
theorem ed_call (cx : Ctx X ec W) (G : FnD X.prog X.w X.K X.mg X.base ec k f fd ps F) (hr : Room k X.A) (hg : Gl X x) (hm : X.mg x = some (.ref f)) (hk : PySem.W.keepIn X.K (.ref f) = true) (hb : Binds X.K fd ps [])
    (hn : (e :: es).length = ps.length) (ha : EDs X W (e :: es) fs) (hlen : ∀ ρ ds, fs ρ = .ok ds → ds.length = (e :: es).length) (hdb : (x == ("__debug__" : Str)) = false := by decide) (he : starEach (e :: es) X.env = (false, eval e X.env) :: starEach es X.env := by rfl) (hpl : (backTo pos (starEach es X.env)).any (·.1) = false := by rfl) :
    ED X W (.Call (.Name x p) (e :: es) [] pos) (eCall F fs) := by
  refine PE_imp (pe_callS (E := fun σ => WE (wx ec W) σ) G hr hg hm hk hb (fun σ => passAt cx.tk σ) ha hdb he hpl) fun σ H Q ⟨H0, ρ, s, en, h⟩ => ?_
  unfold eCall at h
  cases hf : fs ρ with
  | no => rw [hf] at h; exact h.elim
  | ex c => rw [hf] at h; exact ⟨H0, ρ, s, en, by rw [hf]; exact h⟩
  | ok ds =>
    rw [hf] at h
    refine ⟨H0, ρ, s, en, ?_⟩
    rw [hf]
    exact fun vs H1 H01 e1 d1 => ⟨H01, ds, by rw [d1.length, hlen ρ ds hf, hn], e1.sub, d1, R.wp_mono h (fun d q v H' H0' e2 d2 => q v H' H0' (e1.trans e2) d2) fun c q H' hs => ⟨c, rfl, rfl, q H' (e1.s.trans hs)⟩⟩
theorem len_nil : ∀ ρ ds, aNil ρ = .ok ds → ds.length = 0 := fun ρ ds h => by cases h; rfl
theorem len_cons {g : Rho → R PyData} {n : Nat} (h : ∀ ρ ds, fs ρ = .ok ds → ds.length = n) : ∀ ρ ds, aCons g fs ρ = .ok ds → ds.length = n + 1 := fun ρ ds q => by
  unfold aCons at q
  cases hg : g ρ with
  | no => rw [hg] at q; cases q
  | ex c => rw [hg] at q; cases q
  | ok d =>
    rw [hg] at q
    cases hf : fs ρ with
    | no => rw [R.bind_ok, hf] at q; cases q
    | ex c => rw [R.bind_ok, hf] at q; cases q
    | ok ds' =>
      rw [R.bind_ok, hf] at q
      cases q
      rw [List.length_cons, h ρ ds' hf]
end

/-! ### the state between statements -/
def Owns (K : PySem.W.Frag) (H0 He H : Hp) (σ : L2.St) (ρ : Rho) : Prop := ∀ (i : Nat) (xs : List PyData), ρ[i]? = some (Slot.own xs) → ∃ (p : Addr) (vs : List V), σ[i]? = some (some (V.ref p)) ∧ H p = some (.lst vs) ∧ H0 p = none ∧ He p = none ∧ DuAll K H0 vs xs
def Apart (σ : L2.St) (ρ : Rho) : Prop := ∀ (i j : Nat) (xs ys : List PyData) (p : Addr), i ≠ j → ρ[i]? = some (Slot.own xs) → ρ[j]? = some (Slot.own ys) → σ[i]? = some (some (V.ref p)) → σ[j]? ≠ some (some (V.ref p))
structure StOk (K : PySem.W.Frag) (F H0e He : Hp) (ρ : Rho) (σ : L2.St) (H : Hp) : Prop where
  ex : ∃ H0, Same F H0 ∧ Ext H0e He H0 H ∧ EnvR K H0 σ ρ ∧
    Owns K H0 He H σ ρ ∧
    Apart σ ρ
  len : ρ.length = σ.length
theorem StOk.floor {K : PySem.W.Frag} {F F' H0e He : Hp} {ρ : Rho} {σ : L2.St} {H : Hp} (h : StOk K F H0e He ρ σ H) (s : Same F' F) : StOk K F' H0e He ρ σ H :=
  let ⟨⟨H0, a, b⟩, l⟩ := h
  ⟨⟨H0, s.trans a, b⟩, l⟩
inductive Out where
  | nx (ρ : Rho) | rt (d : PyData) | bk (ρ : Rho) | ct (ρ : Rho)
def EndOk (K : PySem.W.Frag) (F H0e He : Hp) (D : Ends) : Out → Prop
  | .nx ρ => ∀ σ H, StOk K F H0e He ρ σ H → D.nx σ H
  | .rt d => ∀ v H' H0', Ext H0e He H0' H' → Du K H0' v d → D.rt v H'
  | .bk ρ => ∀ σ H, StOk K F H0e He ρ σ H → D.bk σ H
  | .ct ρ => ∀ σ H, StOk K F H0e He ρ σ H → D.ct σ H
def sD (K : PySem.W.Frag) (W : Wish) (g : Rho → R Out) : TS := fun D σ H => ∃ F H0e He ρ, StOk K F H0e He ρ σ H ∧ (g ρ).wp (EndOk K F H0e He D) (fun c => ∀ σ' H', Same He H' → W c σ' H')
abbrev SD (X : Cx) (W : Wish) (st : Stmt) (g : Rho → R Out) : Prop := PS X st (sD X.K W g)
abbrev SDs (X : Cx) (W : Wish) (st : List Stmt) (g : Rho → R Out) : Prop := PSs X st (sD X.K W g)
/-- an expression within a statement -/
theorem st_expr {K : PySem.W.Frag} {W : Wish} {F H0e He H : Hp} {σ : L2.St} {ρ : Rho} {α : Type} {f : Rho → R PyData} {g : PyData → R α} {P : α → Prop} {Q : VK} (h : StOk K F H0e He ρ σ H)
    (hw : ((f ρ).bind g).wp P (fun c => ∀ σ' H', Same He H' → W c σ' H'))
    (hq : ∀ d, (g d).wp P (fun c => ∀ σ' H', Same He H' → W c σ' H') → ∀ v H' H0 H0', Same F H0 → Ext H0e He H0 H → Ext H0 H H0' H' → StOk K F H0e He ρ σ H' → Ext H0e He H0' H' → Du K H0' v d → EnvR K H0' σ ρ →
      Owns K H0' He H' σ ρ →
      Apart σ ρ → Q v H') : tD K W f σ H Q := by
  obtain ⟨⟨H0, a, b, c, d, e⟩, l⟩ := h
  refine tD_bind b.sub c hw (fun c q H' hs => q σ H' (b.s.trans hs)) fun x hx v H' H0' ex dx => ?_
  have own : Owns K H0' He H' σ ρ := fun i xs q => by
    obtain ⟨p, vs, q1, q2, q3, q4, q5⟩ := d i xs q
    exact ⟨p, vs, q1, ex.s _ _ q2, by rw [ex.old p (by rw [q2]; simp)]; exact q3, q4, DuAll.mono ex.s0 _ _ q5⟩
  exact hq x hx v H' H0 H0' a b ex ⟨⟨H0', a.trans ex.s0, b.trans ex, c.mono ex.s0, own, e⟩, l⟩ (b.trans ex) dx (c.mono ex.s0) own e

/-! ### blocks -/
def sNil : Rho → R Out := fun ρ => .ok (.nx ρ)
def sCons (f g : Rho → R Out) : Rho → R Out := fun ρ => (f ρ).bind fun o => match o with
  | .nx ρ' => g ρ'
  | o => .ok o
def sNo : Rho → R Out := fun _ => .no
def sRet (f : Rho → R PyData) : Rho → R Out := fun ρ => (f ρ).bind fun d => .ok (.rt d)
def sIf (c : Rho → R Bool) (f g : Rho → R Out) : Rho → R Out := fun ρ => (c ρ).bind fun b => if b = true then f ρ else g ρ
def sSet (i : Nat) (f : Rho → R PyData) : Rho → R Out := fun ρ => (f ρ).bind fun d => .ok (.nx (ρ.set i (.d d)))
def sBrk : Rho → R Out := fun ρ => .ok (.bk ρ)
def sCnt : Rho → R Out := fun ρ => .ok (.ct ρ)
section
variable {X : Cx} {W : Wish} {st : Stmt} {rest : List Stmt} {f g : Rho → R Out} {pos : Pos}
theorem sd_nil : SDs X W [] sNil := PSs_imp pss_nil fun _ σ H ⟨F, H0e, He, ρ, h, q⟩ => q σ H h
theorem sd_cons (h1 : SD X W st f) (h2 : SDs X W rest g) : SDs X W (st :: rest) (sCons f g) := by
  refine PSs_imp (pss_cons h1 h2) fun D σ H ⟨F, H0e, He, ρ, h, q⟩ => ?_
  refine ⟨F, H0e, He, ρ, h, R.wp_mono (R.wp_bind q) (fun o q => ?_) fun c q => q⟩
  cases o with
  | nx ρ' => exact fun σ' H' h' => ⟨F, H0e, He, ρ', h', q⟩
  | rt d => exact q
  | bk ρ' => exact q
  | ct ρ' => exact q
theorem sd_one (h1 : SD X W st f) : SDs X W [st] f := pss_one h1
theorem sd_no : SD X W st sNo := PS_imp (ps_never (X := X)) fun _ σ H ⟨F, H0e, He, ρ, h, q⟩ => q
theorem sd_brk : SD X W (.Break pos) sBrk := PS_imp ps_break fun _ σ H ⟨F, H0e, He, ρ, h, q⟩ => q σ H h
theorem sd_cnt : SD X W (.Continue pos) sCnt := PS_imp ps_continue fun _ σ H ⟨F, H0e, He, ρ, h, q⟩ => q σ H h
theorem sd_ret {e : Expr} {f : Rho → R PyData} (he : ED X W e f) : SD X W (.Return (some e) pos) (sRet f) := by
  refine PS_imp (ps_ret he) fun D σ H ⟨F, H0e, He, ρ, h, q⟩ => ?_
  exact st_expr h q fun d hd v H' H0 H0' _ _ _ _ ex dx _ _ _ => hd v H' H0' ex dx
theorem sd_if {c : Expr} {a b : List Stmt} {p : Rho → R Bool} (hc : TD X W c p) (ha : SDs X W a f) (hb : SDs X W b g) : SD X W (.If c a b pos) (sIf p f g) := by
  refine PS_imp (ps_if hc ha hb) fun D σ H ⟨F, H0e, He, ρ, h, q⟩ => ?_
  obtain ⟨⟨H0, a1, b1, c1, d1, e1⟩, l⟩ := id h
  refine tDt_bind b1.sub c1 q (fun c q H' hs => q σ H' (b1.s.trans hs)) fun k hk H' H0' ex => ?_
  have h' : StOk X.K F H0e He ρ σ H' := ⟨⟨H0', a1.trans ex.s0, b1.trans ex, c1.mono ex.s0, fun i xs q => by
    obtain ⟨p, vs, q1, q2, q3, q4, q5⟩ := d1 i xs q
    exact ⟨p, vs, q1, ex.s _ _ q2, by rw [ex.old p (by rw [q2]; simp)]; exact q3, q4, DuAll.mono ex.s0 _ _ q5⟩, e1⟩, l⟩
  cases k with
  | true => exact ⟨F, H0e, He, ρ, h', hk⟩
  | false => exact ⟨F, H0e, He, ρ, h', hk⟩
/-- a slot is stored -/
theorem stok_set {K : PySem.W.Frag} {F H0e He H H0' : Hp} {σ : L2.St} {ρ : Rho} {i : Nat} {v : V} {d : PyData} (hF : Same F H0') (hE : Ext H0e He H0' H) (en : EnvR K H0' σ ρ)
    (own : Owns K H0' He H σ ρ)
    (ap : Apart σ ρ) (l : ρ.length = σ.length) (dx : Du K H0' v d) : StOk K F H0e He (ρ.set i (.d d)) (σ.set i (some v)) H := by
  have sp : ∀ {j : Nat} {z : Slot}, (ρ.set i (.d d))[j]? = some z → (j = i ∧ z = .d d ∧ i < σ.length) ∨ (j ≠ i ∧ ρ[j]? = some z) := fun {j z} q => by
    by_cases hj : i = j
    · subst hj
      by_cases hl : i < ρ.length
      · rw [List.getElem?_set_self hl] at q
        cases q
        exact .inl ⟨rfl, rfl, by omega⟩
      · rw [List.getElem?_eq_none (by rw [List.length_set]; omega)] at q
        cases q
    · rw [List.getElem?_set_ne hj] at q
      exact .inr ⟨Ne.symm hj, q⟩
  refine ⟨⟨H0', hF, hE, ⟨fun j x q => ?_, by rw [List.length_set, List.length_set]; exact l⟩, fun j xs q => ?_, fun j k xs ys p hjk q1 q2 q3 => ?_⟩, by rw [List.length_set, List.length_set]; exact l⟩
  · rcases sp q with ⟨rfl, e, hl⟩ | ⟨hj, q⟩
    · cases e
      exact ⟨v, by rw [List.getElem?_set_self hl], dx⟩
    · obtain ⟨u, u1, u2⟩ := en.at' j x q
      exact ⟨u, by rw [List.getElem?_set_ne (Ne.symm hj)]; exact u1, u2⟩
  · rcases sp q with ⟨rfl, e, hl⟩ | ⟨hj, q⟩
    · cases e
    · obtain ⟨p, vs, r1, r⟩ := own j xs q
      exact ⟨p, vs, by rw [List.getElem?_set_ne (Ne.symm hj)]; exact r1, r⟩
  · rcases sp q1 with ⟨_, e, _⟩ | ⟨hj, q1⟩
    · cases e
    · rcases sp q2 with ⟨_, e, _⟩ | ⟨hk, q2⟩
      · cases e
      · rw [List.getElem?_set_ne (Ne.symm hj)] at q3
        rw [List.getElem?_set_ne (Ne.symm hk)]
        exact ap j k xs ys p hjk q1 q2 q3
theorem sd_set {i : Nat} {x : Str} {e : Expr} {pos' : Pos} {f : Rho → R PyData} (hN : X.N.Nodup) (hi : X.N[i]? = some x) (hx : Loc X.env.scope x) (he : ED X W e f) (hs : swapsWith e (some (.Name x pos')) pos.line X.env = pure false := by rfl) (hf : X.fn x = true ∨ X.env.scope.names.lookup x = some .local := by first | exact .inl rfl | exact .inr rfl | assumption) :
    SD X W (.Assign [.Name x pos'] e pos) (sSet i f) := by
  refine PS_imp (ps_set hN hi hx he hs hf) fun D σ H ⟨F, H0e, He, ρ, h, q⟩ => ?_
  exact st_expr h q fun d hd v H' H0 H0' hF hE ex h' hE' dx en own ap => hd _ _ (stok_set (hF.trans ex.s0) hE' en own ap h.len dx)
end

/-! ### targets -/
/-- b: the datum itself (a name takes it); else a tuple may be new (names take its parts) -/
def Took (K : PySem.W.Frag) (H0 H : Hp) (b : Bool) (v : V) (d : PyData) : Prop := Du K H0 v d ∨ (b = false ∧ ∃ T xs es, v = .ref T ∧ SqT K H T xs ∧ DuAll K H0 xs es ∧ d = .tuple es)
abbrev Bnd := PyData → Rho → Option Rho
/-- what a target stores: at the slots is alone -/
def gD (K : PySem.W.Frag) (b : Bool) (is : List Nat) (g : Bnd) : TG := fun v σ H Q => ∃ H0 ρ ρ' d, Same H0 H ∧ EnvR K H0 σ ρ ∧ ρ.length = σ.length ∧ Took K H0 H b v d ∧ g d ρ = some ρ' ∧
  ∀ σ', σ'.length = σ.length → ρ'.length = ρ.length → EnvR K H0 σ' ρ' → (∀ j : Nat, j ∉ is → σ'[j]? = σ[j]? ∧ ρ'[j]? = ρ[j]?) → (∀ (j : Nat) (xs : List PyData), j ∈ is → ρ'[j]? ≠ some (Slot.own xs)) → Q σ' H
abbrev GD (X : Cx) (b : Bool) (tg : Expr) (is : List Nat) (g : Bnd) : Prop := PG X tg (gD X.K b is g)
theorem PG_imp {X : Cx} {e : Expr} {t t' : TG} (h : PG X e t) (hi : ∀ v σ H Q, t' v σ H Q → t v σ H Q) : PG X e t' := ⟨fun pins s σ H v u Q I r q => h.run pins s σ H v u Q I r (hi _ _ _ _ q)⟩
def bN (i : Nat) : Bnd := fun d ρ => some (ρ.set i (.d d))
def bT2 (i j : Nat) : Bnd := fun d ρ => match d with
  | .tuple [a, b] => some ((ρ.set i (.d a)).set j (.d b))
  | _ => none
def bT3 (i j k : Nat) : Bnd := fun d ρ => match d with
  | .tuple [a, b, c] => some (((ρ.set i (.d a)).set j (.d b)).set k (.d c))
  | _ => none
theorem env_set {K : PySem.W.Frag} {H0 : Hp} {σ : L2.St} {ρ : Rho} {i : Nat} {v : V} {d : PyData} (en : EnvR K H0 σ ρ) (l : ρ.length = σ.length) (dx : Du K H0 v d) : EnvR K H0 (σ.set i (some v)) (ρ.set i (.d d)) := ⟨fun j x q => by
  by_cases hj : i = j
  · subst hj
    by_cases hl : i < ρ.length
    · rw [List.getElem?_set_self hl] at q
      cases q
      exact ⟨v, by rw [List.getElem?_set_self (by omega)], dx⟩
    · rw [List.getElem?_eq_none (by rw [List.length_set]; omega)] at q
      cases q
  · rw [List.getElem?_set_ne hj] at q
    obtain ⟨u, u1, u2⟩ := en.at' j x q
    exact ⟨u, by rw [List.getElem?_set_ne hj]; exact u1, u2⟩, by rw [List.length_set, List.length_set]; exact l⟩
theorem set_own {ρ : Rho} {i j : Nat} {d : PyData} {xs : List PyData} (h : i = j ∨ ρ[j]? ≠ some (.own xs)) : (ρ.set i (.d d))[j]? ≠ some (.own xs) := fun q => by
  by_cases hj : i = j
  · subst hj
    by_cases hl : i < ρ.length
    · rw [List.getElem?_set_self hl] at q; cases q
    · rw [List.getElem?_eq_none (by rw [List.length_set]; omega)] at q; cases q
  · rw [List.getElem?_set_ne hj] at q
    exact h.elim hj fun z => z q
section
variable {X : Cx} {pos : Pos}
theorem gd_name {i : Nat} {x : Str} (hN : X.N.Nodup) (hi : X.N[i]? = some x) (hx : Loc X.env.scope x) (hf : X.fn x = true ∨ X.env.scope.names.lookup x = some .local := by first | exact .inl rfl | exact .inr rfl | assumption) : GD X true (.Name x pos) [i] (bN i) := by
  refine PG_imp (pg_name hN hi hx hf) fun v σ H Q ⟨H0, ρ, ρ', d, s, en, l, tk, hg, q⟩ => ?_
  cases hg
  rcases tk with tk | ⟨z, _⟩
  · refine q _ (List.length_set ..) (List.length_set ..) (env_set en l tk) (fun j hj => ?_) fun j xs hj => ?_
    · have : i ≠ j := fun e => hj (by simp [e])
      rw [List.getElem?_set_ne this, List.getElem?_set_ne this]
      exact ⟨rfl, rfl⟩
    · exact set_own (.inl (by simpa using hj : j = i).symm)
  · cases z
theorem took_tup {K : PySem.W.Frag} {H0 H : Hp} {b : Bool} {v : V} {es : List PyData} (s : Same H0 H) (h : Took K H0 H b v (.tuple es)) : ∃ T xs, v = .ref T ∧ SqT K H T xs ∧ DuAll K H0 xs es := by
  rcases h with h | ⟨_, T, xs, es', rfl, h1, h2, h3⟩
  · cases h with
    | tup h1 h2 h3 => exact ⟨_, _, rfl, SqT.frz (s _ _ h1), h3⟩
  · cases h3
    exact ⟨T, xs, rfl, h1, h2⟩
theorem gd_tup2 {b : Bool} {i j : Nat} {x y : Str} {k : Nat} {px py : Pos} (hc : X.calm = true) (hN : X.N.Nodup) (hi : X.N[i]? = some x) (hj : X.N[j]? = some y) (hx : Loc X.env.scope x) (hy : Loc X.env.scope y)
    (hf : X.fn x = true ∨ X.env.scope.names.lookup x = some .local := by first | exact .inl rfl | exact .inr rfl | assumption) (hf2 : X.fn y = true ∨ X.env.scope.names.lookup y = some .local := by first | exact .inl rfl | exact .inr rfl | assumption)
    (hs1 : (assignEach [.Name x px, .Name y py] X.env).map (·.2) = assign (.Name x px) X.env :: (assignEach [.Name y py] X.env).map (·.2) := by rfl) (hs2 : (assignEach [.Name y py] X.env).map (·.2) = assign (.Name y py) X.env :: (assignEach [] X.env).map (·.2) := by rfl)
    (hn : (assignEach [.Name x px, .Name y py] X.env).length = 2 := by rfl) (hst : (assignEach [.Name x px, .Name y py] X.env).findIdx? (·.1) = none := by rfl) : GD X b (.Tuple [.Name x px, .Name y py] k pos) [i, j] (bT2 i j) := by
  refine PG_imp (pg_tup hc (pgs_cons (pg_name hN hi hx hf) (pgs_cons (pg_name hN hj hy hf2) pgs_nil hs2) hs1) hn hst) fun v σ H Q ⟨H0, ρ, ρ', d, s, en, l, tk, hg, q⟩ => ?_
  unfold bT2 at hg
  split at hg
  · cases hg
    obtain ⟨T, xs, rfl, h1, h2⟩ := took_tup s tk
    cases h2 with
    | cons a1 a2 =>
      cases a2 with
      | cons b1 b2 =>
        cases b2
        refine ⟨T, _, rfl, h1, rfl, _, _, rfl, _, _, rfl, rfl, q _ (by rw [List.length_set, List.length_set]) (by rw [List.length_set, List.length_set]) (env_set (env_set en l a1) (by rw [List.length_set, List.length_set]; exact l) b1) (fun m hm => ?_) fun m xs hm => ?_⟩
        · have e1 : i ≠ m := fun e => hm (by simp [e])
          have e2 : j ≠ m := fun e => hm (by simp [e])
          rw [List.getElem?_set_ne e2, List.getElem?_set_ne e1, List.getElem?_set_ne e2, List.getElem?_set_ne e1]
          exact ⟨rfl, rfl⟩
        · by_cases hj : j = m
          · exact set_own (.inl hj)
          · have : i = m := by
              rcases List.mem_cons.mp hm with e | hm
              · exact e.symm
              · exact absurd (by simpa using hm : m = j).symm hj
            exact set_own (.inr (set_own (.inl this)))
  · cases hg
theorem gd_tup3 {b : Bool} {i j l' : Nat} {x y z : Str} {k : Nat} {px py pz : Pos} (hc : X.calm = true) (hN : X.N.Nodup) (hi : X.N[i]? = some x) (hj : X.N[j]? = some y) (hl : X.N[l']? = some z) (hx : Loc X.env.scope x) (hy : Loc X.env.scope y) (hz : Loc X.env.scope z)
    (hf : X.fn x = true ∨ X.env.scope.names.lookup x = some .local := by first | exact .inl rfl | exact .inr rfl | assumption) (hf2 : X.fn y = true ∨ X.env.scope.names.lookup y = some .local := by first | exact .inl rfl | exact .inr rfl | assumption) (hf3 : X.fn z = true ∨ X.env.scope.names.lookup z = some .local := by first | exact .inl rfl | exact .inr rfl | assumption)
    (hs1 : (assignEach [.Name x px, .Name y py, .Name z pz] X.env).map (·.2) = assign (.Name x px) X.env :: (assignEach [.Name y py, .Name z pz] X.env).map (·.2) := by rfl) (hs2 : (assignEach [.Name y py, .Name z pz] X.env).map (·.2) = assign (.Name y py) X.env :: (assignEach [.Name z pz] X.env).map (·.2) := by rfl)
    (hs3 : (assignEach [.Name z pz] X.env).map (·.2) = assign (.Name z pz) X.env :: (assignEach [] X.env).map (·.2) := by rfl)
    (hn : (assignEach [.Name x px, .Name y py, .Name z pz] X.env).length = 3 := by rfl) (hst : (assignEach [.Name x px, .Name y py, .Name z pz] X.env).findIdx? (·.1) = none := by rfl) : GD X b (.Tuple [.Name x px, .Name y py, .Name z pz] k pos) [i, j, l'] (bT3 i j l') := by
  refine PG_imp (pg_tup hc (pgs_cons (pg_name hN hi hx hf) (pgs_cons (pg_name hN hj hy hf2) (pgs_cons (pg_name hN hl hz hf3) pgs_nil hs3) hs2) hs1) hn hst) fun v σ H Q ⟨H0, ρ, ρ', d, s, en, l, tk, hg, q⟩ => ?_
  unfold bT3 at hg
  split at hg
  · cases hg
    obtain ⟨T, xs, rfl, h1, h2⟩ := took_tup s tk
    cases h2 with
    | cons a1 a2 =>
      cases a2 with
      | cons b1 b2 =>
        cases b2 with
        | cons c1 c2 =>
          cases c2
          refine ⟨T, _, rfl, h1, rfl, _, _, rfl, _, _, rfl, _, _, rfl, rfl, q _ (by simp only [List.length_set]) (by simp only [List.length_set]) (env_set (env_set (env_set en l a1) (by simp only [List.length_set]; exact l) b1) (by simp only [List.length_set]; exact l) c1) (fun m hm => ?_) fun m xs hm => ?_⟩
          · have e1 : i ≠ m := fun e => hm (by simp [e])
            have e2 : j ≠ m := fun e => hm (by simp [e])
            have e3 : l' ≠ m := fun e => hm (by simp [e])
            rw [List.getElem?_set_ne e3, List.getElem?_set_ne e2, List.getElem?_set_ne e1, List.getElem?_set_ne e3, List.getElem?_set_ne e2, List.getElem?_set_ne e1]
            exact ⟨rfl, rfl⟩
          · by_cases h3 : l' = m
            · exact set_own (.inl h3)
            · by_cases h2 : j = m
              · exact set_own (.inr (set_own (.inl h2)))
              · have : i = m := by
                  rcases List.mem_cons.mp hm with e | hm
                  · exact e.symm
                  · rcases List.mem_cons.mp hm with e | hm
                    · exact absurd e.symm h2
                    · exact absurd (by simpa using hm : m = l').symm h3
                exact set_own (.inr (set_own (.inr (set_own (.inl this)))))
  · cases hg
end
/-- target = value, the target names of a tuple -/
def sAsg (g : Bnd) (f : Rho → R PyData) : Rho → R Out := fun ρ => (f ρ).bind fun d => (lift (g d ρ)).bind fun ρ' => .ok (.nx ρ')
theorem stok_bind {K : PySem.W.Frag} {F H0e He H H0' : Hp} {σ σ' : L2.St} {ρ ρ' : Rho} {is : List Nat} (hF : Same F H0') (hE : Ext H0e He H0' H)
    (own : Owns K H0' He H σ ρ)
    (ap : Apart σ ρ)
    (l : ρ'.length = σ'.length) (en : EnvR K H0' σ' ρ') (out : ∀ j : Nat, j ∉ is → σ'[j]? = σ[j]? ∧ ρ'[j]? = ρ[j]?) (no : ∀ (j : Nat) (xs : List PyData), j ∈ is → ρ'[j]? ≠ some (Slot.own xs)) : StOk K F H0e He ρ' σ' H := by
  have away : ∀ {j : Nat} {xs : List PyData}, ρ'[j]? = some (.own xs) → j ∉ is := fun {j xs} q hj => no j xs hj q
  refine ⟨⟨H0', hF, hE, en, fun i xs q => ?_, fun i j xs ys p hij q1 q2 q3 => ?_⟩, l⟩
  · obtain ⟨o1, o2⟩ := out i (away q)
    rw [o2] at q
    rw [o1]
    exact own i xs q
  · obtain ⟨o1, o2⟩ := out i (away q1)
    obtain ⟨o3, o4⟩ := out j (away q2)
    rw [o2] at q1
    rw [o4] at q2
    rw [o1] at q3
    rw [o3]
    exact ap i j xs ys p hij q1 q2 q3
section
variable {X : Cx} {W : Wish} {pos : Pos} {tg e : Expr} {f : Rho → R PyData} {is : List Nat} {g : Bnd} {b : Bool}
theorem sd_asg (he : ED X W e f) (hg : GD X b tg is g) (hs : swapsWithSole [tg] e pos.line X.env = pure false := by rfl) (hw : swappedStores [tg] e X.env = pure none := by rfl)
    (h1 : (assignEach [tg] X.env).map (·.2) = [assign tg X.env] := by rfl) : SD X W (.Assign [tg] e pos) (sAsg g f) := by
  refine PS_imp (ps_asg he hg hs hw h1) fun D σ H ⟨F, H0e, He, ρ, h, q⟩ => ?_
  refine st_expr h q fun d hd v H' H0 H0' hF hE ex h' hE' dx en own ap => ?_
  obtain ⟨ρ', hρ, hq⟩ := lift_wp (R.wp_bind hd)
  exact ⟨H0', ρ, ρ', d, hE'.sub, en, h.len, .inl dx, hρ, fun σ' l1 l2 en' out no => hq _ _ (stok_bind (hF.trans ex.s0) hE' own ap (by rw [l2, l1]; exact h.len) en' out no)⟩
end

/-! ### what a loop walks -/
def YD (K : PySem.W.Frag) (H0 : Hp) (b : Bool) (ds : List PyData) : Nat → Hp → V → Hp → Prop := fun i H x H' => ∃ d, ds[i]? = some d ∧
  ((H' = H ∧ Du K H0 x d) ∨ (b = false ∧ ∃ T xs es, x = .ref T ∧ H T = none ∧ H' = upd H T (.tup xs) ∧ d = .tuple es ∧ DuAll K H0 xs es))
def iD (K : PySem.W.Frag) (W : Wish) (b : Bool) (f : Rho → R (List PyData)) : TI := fun σ H Rk => ∃ H0 ρ, Same H0 H ∧ EnvR K H0 σ ρ ∧
  (f ρ).wp (fun ds => ∀ J H' H0', Ext H0 H H0' H' → Walk J ds.length (fun H => Same H0' H) (YD K H0' b ds) → Rk J H') (fun c => ∀ H', Same H H' → W c σ H')
abbrev ID (X : Cx) (W : Wish) (tg iter : Expr) (b : Bool) (f : Rho → R (List PyData)) : Prop := PI X tg iter (iD X.K W b f)
def seqD : PyData → Option (List PyData)
  | .list xs => some xs
  | .tuple xs => some xs
  | _ => none
def iSeq (f : Rho → R PyData) : Rho → R (List PyData) := fun ρ => (f ρ).bind fun d => lift (seqD d)
def rangeD : PyData → Option (List PyData)
  | .int n => if -1000000 ≤ n ∧ n ≤ 1000000 then some ((List.range n.toNat).map fun (i : Nat) => .int i) else none
  | _ => none
def iRange (f : Rho → R PyData) : Rho → R (List PyData) := fun ρ => (f ρ).bind fun d => lift (rangeD d)
def enumL : Nat → List PyData → List PyData
  | _, [] => []
  | n, d :: ds => .tuple [.int (n : Nat), d] :: enumL (n + 1) ds
def iEnumD (f : Rho → R PyData) : Rho → R (List PyData) := fun ρ => (f ρ).bind fun d => (lift (seqD d)).bind fun ds => .ok (enumL 0 ds)
theorem enumL_length : ∀ (n : Nat) (ds : List PyData), (enumL n ds).length = ds.length
  | _, [] => rfl
  | n, d :: ds => by
    show (enumL (n + 1) ds).length + 1 = ds.length + 1
    rw [enumL_length (n + 1) ds]
theorem enumL_get : ∀ (n : Nat) (ds : List PyData) (i : Nat), (enumL n ds)[i]? = ds[i]?.map fun d => .tuple [.int ((n + i : Nat) : Int), d]
  | _, [], _ => by simp [enumL]
  | n, d :: ds, 0 => rfl
  | n, d :: ds, i + 1 => by
    show (enumL (n + 1) ds)[i]? = _
    rw [enumL_get (n + 1) ds i, List.getElem?_cons_succ, show n + 1 + i = n + (i + 1) by omega]
theorem PI_imp {X : Cx} {tg e : Expr} {t t' : TI} (h : PI X tg e t) (hi : ∀ σ H Q, t' σ H Q → t σ H Q) : PI X tg e t' := ⟨fun pins s σ H Q I q => h.run pins s σ H Q I (hi _ _ _ q)⟩
section
variable {X : Cx} {W : Wish} {tg l : Expr} {f : Rho → R PyData} {p pos : Pos}
theorem walk_d {K : PySem.W.Frag} {H0 : Hp} {v : V} {ds : List PyData} {d : PyData} {b : Bool} (h : Du K H0 v d) (hs : seqD d = some ds) :
    (∃ a, v = .ref a ∧ d = .list ds ∧ (∃ xs, SqL K H0 a xs) ∧ Walk (Itl K a) ds.length (fun H => Same H0 H) (YD K H0 b ds)) ∨ (∃ a, v = .ref a ∧ d = .tuple ds ∧ (∃ xs, SqT K H0 a xs) ∧ Walk (Itt K a) ds.length (fun H => Same H0 H) (YD K H0 b ds)) := by
  cases h with
  | @lst a xs ds' h1 h2 =>
    cases hs
    refine .inl ⟨_, rfl, rfl, ⟨_, h1⟩, ?_⟩
    have w := walk_list (K := K) (a := a) (xs := xs)
    rw [h2.length] at w
    exact w.mono (fun H s => s.seq h1) fun i H x H' hi s ⟨e, hx⟩ => by
      obtain ⟨d, e1, e2⟩ := h2.get' hx
      exact ⟨d, e1, .inl ⟨e, e2⟩⟩
  | @tup a xs ds' o h1 h2 h3 =>
    cases hs
    refine .inr ⟨_, rfl, rfl, ⟨_, SqT.frz h1⟩, ?_⟩
    have w := walk_tup (K := K) (a := a) (xs := xs)
    rw [h3.length] at w
    exact w.mono (fun H s => SqT.frz (s _ _ h1)) fun i H x H' hi s ⟨e, hx⟩ => by
      obtain ⟨d, e1, e2⟩ := h3.get' hx
      exact ⟨d, e1, .inl ⟨e, e2⟩⟩
  | _ => cases hs
theorem id_seq (b : Bool) (hl : ED X W l f) : ID X W tg l b (iSeq f) := by
  refine ⟨fun pins s σ H Rk I ⟨H0, ρ, sm, en, h⟩ => ?_⟩
  refine thn (hl.run pins s σ H _ I (tD_bind (Q := fun v H1 => (∃ a, v = .ref a ∧ (∃ xs, SqL X.K H1 a xs) ∧ Rk (Itl X.K a) H1) ∨ (∃ a, v = .ref a ∧ (∃ xs, SqT X.K H1 a xs) ∧ Rk (Itt X.K a) H1)) sm en h (fun c q => q) fun d hd v H1 H01 e1 d1 => ?_)) fun v s1 ⟨x, H1, I1, r1, q1⟩ => ?_
  · obtain ⟨ds, hs, q⟩ := lift_wp hd
    rcases walk_d (b := b) d1 hs with ⟨a, rfl, _, ⟨xs, hx⟩, w⟩ | ⟨a, rfl, _, ⟨xs, hx⟩, w⟩
    · exact .inl ⟨a, rfl, ⟨xs, e1.sub.seq hx⟩, q _ H1 H01 e1 w⟩
    · exact .inr ⟨a, rfl, ⟨xs, Same.sqt e1.sub hx⟩, q _ H1 H01 e1 w⟩
  · rcases q1 with ⟨a, rfl, ⟨xs, hq⟩, q⟩ | ⟨a, rfl, ⟨xs, hq⟩, q⟩
    · cases r1
      obtain ⟨its, rv, p, hz⟩ := I1.list hq
      refine wpAny_pyIter_list p.isList ?_
      refine ⟨s1.heap.objs.size, [s1.heap.objs.size], _, _, H1, rfl, I1.kept (t' := s1.toks) fun b o e => Heap.get?_push_of_some _ e, turn_list a _, ⟨_, Heap.get?_push_size _ rfl, rfl, rfl⟩, fun b hb => ?_, q⟩
      have e : b = s1.heap.objs.size := by simpa using hb
      subst e
      exact I1.fpOk (Nat.le_refl _) (I1.hok.fresh (Nat.le_refl _))
    · cases r1
      obtain ⟨its, rv, p, hz⟩ := I1.tuple hq
      refine wpAny_pyIter_tuple (show s1.heap.IsTuple a its.toArray from p) ?_
      refine ⟨s1.heap.objs.size, [s1.heap.objs.size], _, _, H1, rfl, I1.kept (t' := s1.toks) fun b o e => Heap.get?_push_of_some _ e, turn_tuple a _, ⟨_, Heap.get?_push_size _ rfl, rfl, rfl⟩, fun b hb => ?_, q⟩
      have e : b = s1.heap.objs.size := by simpa using hb
      subst e
      exact I1.fpOk (Nat.le_refl _) (I1.hok.fresh (Nat.le_refl _))
theorem id_range (b : Bool) {a : Expr} (hg : Gl X "range") (hm : X.mg "range" = none) (ha : ED X W a f) (hs : starEach [a] X.env = [(false, eval a X.env)] := by rfl) (hs' : starEach [a] X.env = (false, eval a X.env) :: starEach [] X.env := by rfl) : ID X W tg (.Call (.Name "range" p) [a] [] pos) b (iRange f) := by
  refine PI_imp (pi_range1 hg hm (pa_cons ha pa_nil hs') hs) fun σ H Rk ⟨H0, ρ, sm, en, h⟩ => ?_
  refine tD_bind sm en h (fun c q => q) fun d hd v H1 H01 e1 d1 => ?_
  obtain ⟨ds, hds, q⟩ := lift_wp hd
  cases d1 with
  | int n =>
    obtain ⟨⟨h1, h2⟩, rfl⟩ := ite_some hds
    refine ⟨n, rfl, by omega, by omega, q _ H1 H01 e1 ?_⟩
    have w := walk_range (lo := 0) (n := n.toNat)
    rw [List.length_map, List.length_range]
    exact w.mono (fun _ _ => trivial) fun i H x H' hi _ ⟨e, hx⟩ => ⟨.int (i : Nat), by rw [List.getElem?_map, List.getElem?_range hi]; rfl, .inl ⟨e, by rw [hx]; show Du X.K H01 (V.int (0 + (i : Int))) _; rw [Int.zero_add]; exact .int _⟩⟩
  | _ => cases hds
/-- enumerate(t) of a tuple -/
def IteT (K : PySem.W.Frag) (a : Addr) : It :=
  ⟨fun i H => ∃ (xs : List V) (x : V), SqT K H a xs ∧ xs[i]? = some x, fun i H v H' => ∃ T x, v = .ref T ∧ H T = none ∧ H' = upd H T (.tup [.int (i : Nat), x]) ∧ ∀ xs, SqT K H a xs → xs[i]? = some x, fun i H => ∃ xs : List V, SqT K H a xs ∧ xs.length = i⟩
theorem turn_enumT {P : Program} {w : World} {K : PySem.W.Frag} {elts : List Expr} {kk : Nat} {tpos : Pos} (a e it : Addr) (hae : a ≠ e) (hai : a ≠ it) :
    Turn P w K (.Tuple elts kk tpos) (IteT K a) [e, it] e (fun i h => (∃ old, IsEnum h e it ((i : Nat) : Int) old) ∧ h.IsTupleIter it a i ∧ e ≠ it) where
  mem := by simp
  obj := fun i h st b hb => by
    obtain ⟨⟨old, he⟩, ⟨o, ho, hc, hd⟩, _⟩ := st
    have e' : b = e ∨ b = it := by simpa using hb
    rcases e' with z | z
    · rw [z]; exact ⟨_, he, fun v q => nomatch q⟩
    · rw [z]; exact ⟨o, ho, fun v q => by rw [hd] at q; cases q⟩
  keep := fun i h h' st k => let ⟨⟨old, he⟩, hi, hne⟩ := st; ⟨⟨old, k e (by simp) _ he⟩, hi.at fun o q => k it (by simp) o q, hne⟩
  item := by
    intro X hP hw hK hc i pins s σ H E I hf st hg
    subst hP hw hK
    obtain ⟨⟨old, he⟩, hit, hne⟩ := st
    obtain ⟨xs, x, hq, hx⟩ := hg
    obtain ⟨its, rv, p, hz⟩ := I.tuple hq
    obtain ⟨u, hu, ru⟩ := rv.get hx
    have hel : e < s.heap.objs.size := Heap.lt_size he
    have hil : it < s.heap.objs.size := by obtain ⟨_, q, _⟩ := hit; exact Heap.lt_size q
    have hlt : i < its.toArray.size := by
      have := (List.getElem?_eq_some_iff.mp hu).1
      simpa using this
    have D := Draws.tuple (prog := X.prog) (w := X.w) (A := X.A.in1) (I.ok.hd hc) it a hai its.toArray
    have G := GoesN.enumFrom (prog := X.prog) (w := X.w) (A := X.A) (elts := elts) (x1 := kk) (pos := tpos) 0 D e hne (by simp [hne, Ne.symm hae]) (by simp)
    refine wpAny_mono (G.goes i s (fun v s2 => ∃ x' H', Inv X pins σ H' s2 ∧ RelV x' v ∧ (IteT X.K a).yld i H x' H' ∧ (((∃ old, IsEnum s2.heap e it (((i + 1 : Nat) : Nat) : Int) old) ∧ s2.heap.IsTupleIter it a (i + 1) ∧ e ≠ it) ∧ ∀ b ∈ [e, it], H' b = none)) E hlt ⟨⟨old, by rw [Int.zero_add]; exact he⟩, hit, p⟩ ?_) (fun r s1 ⟨v, e1, h1⟩ => ⟨v, e1, wpAny_mono h1 (fun _ s2 ⟨x', H', q1, q2, q3, q4, q5⟩ => ⟨x', H', q1, q2, q3, q4, q5⟩) fun _ _ z => z⟩) fun _ _ z => z
    rintro v h' tk ⟨T, t, y, rfl, hT, hy, hTup⟩ ⟨⟨old', he'⟩, hit', _⟩ hk _
    have ey : y = u := by
      have h1 : its[i]? = some y := by simpa using hy
      rw [hu] at h1
      exact (Option.some.inj h1).symm
    subst ey
    have new : ObjOk X.prog X.w (upd H T (.tup [.int (i : Nat), x])) h' T (.tup [.int (i : Nat), x]) :=
      ⟨by show 2 ≤ sizeLine; decide, [.int i t, y], .cons ⟨t, rfl⟩ (.cons ru .nil), by
        have e0 : (0 : Int) + (i : Int) = (i : Int) := Int.zero_add _
        rw [e0] at hTup
        exact hTup⟩
    have I1 : Inv X pins σ (upd H T (.tup [.int (i : Nat), x])) { s with heap := h', toks := tk } := I.turnedNew (ch := [e, it]) hk hf hT new
    refine ⟨.ref T, _, I1, rfl, ⟨T, x, rfl, I.hok.fresh hT, rfl, fun ys hy => by rw [I.tuple_inj hy hq]; exact hx⟩, ⟨⟨old', ?_⟩, hit', hne⟩, fun b hb => ?_⟩
    · have e1 : ((i + 1 : Nat) : Int) = 0 + ((i + 1 : Nat) : Int) := (Int.zero_add _).symm
      rw [e1]
      exact he'
    · have hb' : b < s.heap.objs.size := by
        have e' : b = e ∨ b = it := by simpa using hb
        rcases e' with z | z
        · rw [z]; exact hel
        · rw [z]; exact hil
      rw [upd_ne (Nat.ne_of_lt (Nat.lt_of_lt_of_le hb' hT))]
      exact (hf b hb).1
  done := by
    intro X hP hw hK hc i pins s σ H E I hf st hg
    subst hP hw hK
    obtain ⟨⟨old, he⟩, hit, hne⟩ := st
    obtain ⟨xs, hq, hx⟩ := hg
    obtain ⟨its, rv, p, hz⟩ := I.tuple hq
    have hl := rv.length
    have D := Draws.tuple (prog := X.prog) (w := X.w) (A := X.A.in1) (I.ok.hd hc) it a hai its.toArray
    have G := GoesN.enumFrom (prog := X.prog) (w := X.w) (A := X.A) (elts := elts) (x1 := kk) (pos := tpos) 0 D e hne (by simp [hne, Ne.symm hae]) (by simp)
    have hn : its.toArray.size = i := by rw [List.size_toArray, ← hl]; exact hx
    exact G.stops s (fun s1 => Inv X pins σ H s1) E ⟨⟨old, by rw [Int.zero_add, hn]; exact he⟩, by rw [hn]; exact hit, p⟩ fun h' tk hk _ => I.turnedL (ch := [e, it]) hk hf
  self := fun A i s Q E st h => let ⟨⟨_, he⟩, _⟩ := st; wpAny_pyIter_enum he h
theorem meets_enum1 {v : Value} {o : Obj} {H : Heap → Prop} (B : Begins v o H) :
    Meets (Builtin.«enumerate.__new__» ⟨[.type "enumerate", v], []⟩) (fun _ R s => H s.heap ∧
      R (.ok (.ret (.ref (s.heap.push o).objs.size))) { s with heap := (s.heap.push o).push { cls := .type "enumerate", data := .fields #[.none, .bool false, .ref s.heap.objs.size, rawInt 0, .none, .none] } }) :=
  .of_wp fun prog w A R s h => by
    obtain ⟨hp, g, d, tk, os⟩ := s
    obtain ⟨h1, h⟩ := h
    have hsub := sub_enumerate
    have q1 : ∀ {A' : Around} {E : Value → Shared → Prop} {Q : Value → Shared → Prop}, Q (.ref hp.objs.size) ⟨hp.push o, g, d, tk, os⟩ → wpAny (model prog w) A' (pyIter v) Q E ⟨hp, g, d, tk, os⟩ :=
      fun q => B.iter prog w _ _ ⟨hp, g, d, tk, os⟩ _ h1 q
    wp_walk using q1
    refine wpAny_stack_any fun st => wpAny_pure ?_
    split
    · rename_i c _ _ _ _ _
      cases (c == Value.type "enumerate")
      · wp_walk using q1
        exact ⟨_, rfl, h⟩
      · wp_walk using q1
        exact ⟨_, rfl, h⟩
    · wp_walk using q1
      exact ⟨_, rfl, h⟩
theorem call_enumerate_tupleN {prog : Program} {w : World} {A : Around} {E : Value → Shared → Prop} {s : Shared} {l : Addr} {items : Array Value} {Q : Value → Shared → Prop} (hL : s.heap.IsTuple l items)
    (h : ∀ h', IsEnum h' (s.heap.objs.size + 1) s.heap.objs.size 0 .none → h'.IsTupleIter s.heap.objs.size l 0 → h'.objs.size = s.heap.objs.size + 2 →
      (∀ b o, s.heap.get? b = some o → h'.get? b = some o) → Q (.ref (s.heap.objs.size + 1)) { s with heap := h' }) :
    wpAny (model prog w) A (call (.type "enumerate") [.ref l]) Q E s := by
  refine callType_new F.called_enumerate (by decide) (F.typeCall_enumerate_1 _) (F.newCall_enumerate_1 _) (fun obj => F.args_object_init_2 obj _) F.entry_enumerate_new
    (meets_enum1 (begins_tuple l items)) ⟨hL, ?_⟩
  have hz : (s.heap.push { cls := .type "tuple_iterator", data := .fields #[.ref l, .int 0 0] }).objs.size = s.heap.objs.size + 1 := Heap.size_push ..
  show _ ∧ _
  rw [hz]
  have he : IsEnum ((s.heap.push { cls := .type "tuple_iterator", data := .fields #[.ref l, .int 0 0] }).push
      { cls := .type "enumerate", data := .fields #[.none, .bool false, .ref s.heap.objs.size, rawInt 0, .none, .none] }) (s.heap.objs.size + 1) s.heap.objs.size 0 .none := by
    have := Heap.get?_push_size (s.heap.push { cls := .type "tuple_iterator", data := .fields #[.ref l, .int 0 0] })
      (o := { cls := .type "enumerate", data := .fields #[.none, .bool false, .ref s.heap.objs.size, rawInt 0, .none, .none] }) rfl
    rw [hz] at this; exact this
  refine ⟨⟨_, he, rfl⟩, h _ he ⟨_, Heap.get?_push_of_some _ (Heap.get?_push_size _ rfl), rfl, rfl⟩ (by rw [Heap.size_push, hz]) fun b o x => Heap.get?_push_of_some _ (Heap.get?_push_of_some _ x)⟩
theorem walk_enumT {K : PySem.W.Frag} {H0 : Hp} {a : Addr} {xs : List V} {ds : List PyData} {o : Obj} (h1 : H0 a = some (.frz o (.tup xs))) (h3 : DuAll K H0 xs ds) : Walk (IteT K a) (enumL 0 ds).length (fun H => Same H0 H) (YD K H0 false (enumL 0 ds)) := by
  rw [enumL_length]
  refine ⟨fun i H hi s => ?_, fun H s => ⟨xs, SqT.frz (s _ _ h1), h3.length⟩, fun i H v H' hi s ⟨T, x, e1, e2, e3, e4⟩ => ?_⟩
  · have hi' : i < xs.length := by rw [h3.length]; exact hi
    exact ⟨xs, xs[i], SqT.frz (s _ _ h1), List.getElem?_eq_getElem hi'⟩
  · obtain ⟨d, q1, q2⟩ := h3.get' (e4 xs (SqT.frz (s _ _ h1)))
    refine ⟨.tuple [.int (i : Nat), d], by rw [enumL_get, q1, Nat.zero_add]; rfl, .inr ⟨rfl, T, _, _, e1, e2, e3, rfl, .cons (.int _) (.cons q2 .nil)⟩⟩
theorem walk_enumL {K : PySem.W.Frag} {H0 : Hp} {a : Addr} {xs : List V} {ds : List PyData} (h1 : SqL K H0 a xs) (h3 : DuAll K H0 xs ds) : Walk (Ite K a) (enumL 0 ds).length (fun H => Same H0 H) (YD K H0 false (enumL 0 ds)) := by
  rw [enumL_length]
  refine ⟨fun i H hi s => ?_, fun H s => ⟨xs, s.seq h1, by rw [h3.length]; exact Nat.le_refl _⟩, fun i H v H' hi s ⟨T, x, e1, e2, e3, e4⟩ => ?_⟩
  · have hi' : i < xs.length := by rw [h3.length]; exact hi
    exact ⟨xs, xs[i], s.seq h1, List.getElem?_eq_getElem hi'⟩
  · obtain ⟨d, q1, q2⟩ := h3.get' (e4 xs (s.seq h1))
    refine ⟨.tuple [.int (i : Nat), d], by rw [enumL_get, q1, Nat.zero_add]; rfl, .inr ⟨rfl, T, _, _, e1, e2, e3, rfl, .cons (.int _) (.cons q2 .nil)⟩⟩
theorem id_enum {e : Expr} {tpos : Pos} {elts : List Expr} {kk : Nat} (hg : Gl X "enumerate") (hm : X.mg "enumerate" = none) (ha : ED X W e f) (hs : starEach [e] X.env = [(false, eval e X.env)] := by rfl) (hs' : starEach [e] X.env = (false, eval e X.env) :: starEach [] X.env := by rfl) :
    ID X W (.Tuple elts kk tpos) (.Call (.Name "enumerate" p) [e] [] pos) false (iEnumD f) := by
  refine ⟨fun pins s σ H Rk I ⟨H0, ρ, sm, en, h⟩ => ?_⟩
  refine Call_ (ld_blt I hg hm boot_enumerate (PyProof.Rows.callWith_type1 (thn ((pa_cons ha pa_nil hs').run pos pins s σ H (fun vs H1 => ∃ v, vs = [v] ∧ ((∃ a xs, v = .ref a ∧ SqL X.K H1 a xs ∧ Rk (Ite X.K a) H1) ∨ (∃ a xs, v = .ref a ∧ SqT X.K H1 a xs ∧ Rk (IteT X.K a) H1))) I (tD_bind sm en h (fun c q => q) fun d hd v H1 H01 e1 d1 => ?_)) fun us s1 ⟨vs, H1, I1, r1, v, hv, q1⟩ => ?_) hs rfl))
  · obtain ⟨ds, hds, q⟩ := lift_wp (R.wp_bind hd)
    refine ⟨v, rfl, ?_⟩
    cases d1 with
    | lst h1 h3 =>
      cases hds
      exact .inl ⟨_, _, rfl, e1.sub.seq h1, q _ H1 H01 e1 (walk_enumL h1 h3)⟩
    | tup h1 h2 h3 =>
      cases hds
      exact .inr ⟨_, _, rfl, SqT.frz (e1.sub _ _ h1), q _ H1 H01 e1 (walk_enumT h1 h3)⟩
    | _ => cases hds
  · subst hv
    cases r1 with
    | cons r rr =>
      cases rr
      rcases q1 with ⟨a, xs, rfl, hq, q⟩ | ⟨a, xs, rfl, hq, q⟩
      · cases r
        obtain ⟨its, rv, p', hz⟩ := I1.list hq
        refine call_enumerate_list p'.isList fun h' he hit hsz hk => wpAny_pyIter_enum he ?_
        have I2 : Inv X pins σ H1 { s1 with heap := h' } := I1.kept (t' := s1.toks) hk
        refine ⟨s1.heap.objs.size + 1, [s1.heap.objs.size + 1, s1.heap.objs.size], _, _, H1, rfl, I2, turn_enum a (s1.heap.objs.size + 1) s1.heap.objs.size, ⟨⟨.none, he⟩, hit, Nat.succ_ne_self _⟩, fun b hb => ?_, q⟩
        have e' : b = s1.heap.objs.size + 1 ∨ b = s1.heap.objs.size := by simpa using hb
        have hle : s1.heap.objs.size ≤ b := by
          rcases e' with z | z
          · rw [z]; exact Nat.le_add_right _ _
          · rw [z]; exact Nat.le_refl _
        exact I1.fpOk hle (I1.hok.fresh hle)
      · cases r
        obtain ⟨its, rv, p', hz⟩ := I1.tuple hq
        have hlt : a < s1.heap.objs.size := by obtain ⟨_, e, _⟩ := p'; exact Heap.lt_size e
        refine call_enumerate_tupleN p' fun h' he hit hsz hk => wpAny_pyIter_enum he ?_
        have I2 : Inv X pins σ H1 { s1 with heap := h' } := I1.kept (t' := s1.toks) hk
        refine ⟨s1.heap.objs.size + 1, [s1.heap.objs.size + 1, s1.heap.objs.size], _, _, H1, rfl, I2, turn_enumT a (s1.heap.objs.size + 1) s1.heap.objs.size (Nat.ne_of_lt (Nat.lt_succ_of_lt hlt)) (Nat.ne_of_lt hlt), ⟨⟨.none, he⟩, hit, Nat.succ_ne_self _⟩, fun b hb => ?_, q⟩
        have e' : b = s1.heap.objs.size + 1 ∨ b = s1.heap.objs.size := by simpa using hb
        have hle : s1.heap.objs.size ≤ b := by
          rcases e' with z | z
          · rw [z]; exact Nat.le_add_right _ _
          · rw [z]; exact Nat.le_refl _
        exact I1.fpOk hle (I1.hok.fresh hle)
end
end Pu

namespace Pu
open PySem PySem.Spec PyProof.Rows L2

/-! ### for -/
def forD (g : Bnd) (body : Rho → R Out) : List PyData → Rho → R Out
  | [], ρ => .ok (.nx ρ)
  | d :: ds, ρ => (lift (g d ρ)).bind fun ρ1 => (body ρ1).bind fun o => match o with
    | .nx ρ2 => forD g body ds ρ2
    | .ct ρ2 => forD g body ds ρ2
    | .bk ρ2 => .ok (.nx ρ2)
    | .rt d => .ok (.rt d)
def sFor (it : Rho → R (List PyData)) (g : Bnd) (body : Rho → R Out) : Rho → R Out := fun ρ => (it ρ).bind fun ds => forD g body ds ρ
/-- the state behind an iterator's making -/
theorem st_iter {K : PySem.W.Frag} {W : Wish} {F H0e He H : Hp} {σ : L2.St} {ρ : Rho} {α : Type} {b : Bool} {f : Rho → R (List PyData)} {g : List PyData → R α} {P : α → Prop} {Q : It → Hp → Prop} (h : StOk K F H0e He ρ σ H)
    (hw : ((f ρ).bind g).wp P (fun c => ∀ σ' H', Same He H' → W c σ' H'))
    (hq : ∀ ds, (g ds).wp P (fun c => ∀ σ' H', Same He H' → W c σ' H') → ∀ J H' H0', Same F H0' → StOk K H0' H0e He ρ σ H' → Walk J ds.length (fun H => Same H0' H) (YD K H0' b ds) → Q J H') : iD K W b f σ H Q := by
  obtain ⟨⟨H0, a, b', c, d, e⟩, l⟩ := h
  refine ⟨H0, ρ, b'.sub, c, R.wp_mono (R.wp_bind hw) (fun ds hd J H' H0' ex w => ?_) fun c q H' hs => q σ H' (b'.s.trans hs)⟩
  refine hq ds hd J H' H0' (a.trans ex.s0) ⟨⟨H0', Same.refl _, b'.trans ex, c.mono ex.s0, fun i xs q => ?_, e⟩, l⟩ w
  obtain ⟨p, vs, q1, q2, q3, q4, q5⟩ := d i xs q
  exact ⟨p, vs, q1, ex.s _ _ q2, by rw [ex.old p (by rw [q2]; simp)]; exact q3, q4, DuAll.mono ex.s0 _ _ q5⟩
/-- a turn's item is taken by the target -/
theorem took_item {K : PySem.W.Frag} {H0e He H0 H H' : Hp} {σ : L2.St} {ρ ρ1 : Rho} {b : Bool} {ds : List PyData} {i : Nat} {d : PyData} {x : V} {is : List Nat} {g : Bnd} {Q : L2.St → Hp → Prop} (h : StOk K H0 H0e He ρ σ H) (hi : ds[i]? = some d)
    (y : YD K H0 b ds i H x H') (hg : g d ρ = some ρ1) (hq : ∀ σ', StOk K H0 H0e He ρ1 σ' H' → Q σ' H') : gD K b is g x σ H' Q := by
  obtain ⟨⟨H0c, a, b', c, own, ap⟩, l⟩ := h
  obtain ⟨d', hd', y⟩ := y
  rw [hi] at hd'
  cases hd'
  rcases y with ⟨rfl, dx⟩ | ⟨hb, T, xs, es, rfl, hT, rfl, rfl, dx⟩
  · refine ⟨H0c, ρ, ρ1, d, b'.sub, c, l, .inl (Du.mono a _ _ dx), hg, fun σ' l1 l2 en out no => hq σ' ?_⟩
    exact stok_bind a b' own ap (by rw [l2, l1]; exact l) en out no
  · have sT : Same H (upd H T (.tup xs)) := same_upd hT
    refine ⟨H0c, ρ, ρ1, _, b'.sub.trans sT, c, l, .inr ⟨hb, T, xs, es, rfl, SqT.of upd_same, DuAll.mono a _ _ dx, rfl⟩, hg, fun σ' l1 l2 en out no => hq σ' ?_⟩
    refine stok_bind a ⟨b'.s.trans sT, b'.s0, b'.sub.trans sT, b'.old⟩ (fun j ys q => ?_) ap (by rw [l2, l1]; exact l) en out no
    obtain ⟨p, vs, q1, q2, q3⟩ := own j ys q
    exact ⟨p, vs, q1, sT _ _ q2, q3⟩
section
variable {X : Cx} {W : Wish} {tg iter : Expr} {body : List Stmt} {b : Bool} {it : Rho → R (List PyData)} {g : Bnd} {is : List Nat} {f : Rho → R Out} {pos : Pos}
theorem sd_for (hp : PassesOwn (model X.prog X.w) X.A X.env X.xe) (hc : X.calm = true) (hi : ID X W tg iter b it) (hg : GD X b tg is g) (hb : SDs X W body f)
    (hs : ∀ x, foldedSetIterable iter X.env x = pure x := by intro _; rfl) : SD X W (.For tg iter body [] pos) (sFor it g f) := by
  refine PS_imp (ps_for hp hc hi hg hb hs) fun D σ H ⟨F, H0e, He, ρ, h, q⟩ => ?_
  refine st_iter h q fun ds hd J H' H0' hF h' w => ?_
  refine for_it w (D := D) (fun i σ H => ∃ ρ, StOk X.K H0' H0e He ρ σ H ∧ (forD g f (ds.drop i) ρ).wp (EndOk X.K F H0e He D) (fun c => ∀ σ' H', Same He H' → W c σ' H')) ⟨ρ, h', hd⟩ (fun i σ H _ ⟨ρ, h, _⟩ => ?_) (fun i x σ H H'' hi ⟨ρ, h, hw⟩ y => ?_) fun σ H ⟨ρ, h, hw⟩ => ?_
  · obtain ⟨⟨H0, a, b', _⟩, _⟩ := h
    exact a.trans b'.sub
  · rw [List.drop_eq_getElem_cons hi] at hw
    obtain ⟨ρ1, hρ1, hw1⟩ := lift_wp (R.wp_bind hw)
    refine took_item h (List.getElem?_eq_getElem hi) y hρ1 fun σ' h'' => ?_
    refine ⟨H0', H0e, He, ρ1, h'', R.wp_mono (R.wp_bind hw1) (fun o ho => ?_) fun c q => q⟩
    cases o with
    | nx ρ2 => exact fun σ2 H2 h2 => ⟨ρ2, h2, ho⟩
    | ct ρ2 => exact fun σ2 H2 h2 => ⟨ρ2, h2, ho⟩
    | bk ρ2 => exact fun σ2 H2 h2 => ho σ2 H2 (h2.floor hF)
    | rt d => exact ho
  · rw [List.drop_of_length_le (Nat.le_refl _)] at hw
    exact hw σ H (h.floor hF)
end

/-! ### while: so many turns at most -/
def whileD (c : Rho → R Bool) (body : Rho → R Out) : Nat → Rho → R Out
  | 0, _ => .no
  | n + 1, ρ => (c ρ).bind fun b => if b = true then (body ρ).bind fun o => match o with
    | .nx ρ2 => whileD c body n ρ2
    | .ct ρ2 => whileD c body n ρ2
    | .bk ρ2 => .ok (.nx ρ2)
    | .rt d => .ok (.rt d)
    else .ok (.nx ρ)
def sWhile (n : Nat) (c : Rho → R Bool) (body : Rho → R Out) : Rho → R Out := fun ρ => whileD c body n ρ
section
variable {X : Cx} {W : Wish} {c : Expr} {body : List Stmt} {p : Rho → R Bool} {f : Rho → R Out} {pos : Pos}
theorem sd_while (n : Nat) (hp : PassesOwn (model X.prog X.w) X.A X.env X.xe) (hc : TD X W c p) (hb : SDs X W body f) : SD X W (.While c body [] pos) (sWhile n p f) := by
  refine PS_imp (ps_while hp hc hb) fun D σ H ⟨F, H0e, He, ρ, h, q⟩ => ?_
  refine ⟨fun m σ H => ∃ ρ, StOk X.K F H0e He ρ σ H ∧ (whileD p f m ρ).wp (EndOk X.K F H0e He D) (fun c => ∀ σ' H', Same He H' → W c σ' H'), ⟨n, ρ, h, q⟩, fun m σ H ⟨ρ, h, q⟩ => ?_⟩
  cases m with
  | zero => exact q.elim
  | succ m =>
    obtain ⟨⟨H0, a1, b1, c1, d1, e1⟩, l⟩ := id h
    refine tDt_bind b1.sub c1 q (fun c q H' hs => q σ H' (b1.s.trans hs)) fun k hk H' H0' ex => ?_
    have h' : StOk X.K F H0e He ρ σ H' := ⟨⟨H0', a1.trans ex.s0, b1.trans ex, c1.mono ex.s0, fun i xs q => by
      obtain ⟨p, vs, q1, q2, q3, q4, q5⟩ := d1 i xs q
      exact ⟨p, vs, q1, ex.s _ _ q2, by rw [ex.old p (by rw [q2]; simp)]; exact q3, q4, DuAll.mono ex.s0 _ _ q5⟩, e1⟩, l⟩
    cases k with
    | true =>
      refine ⟨fun σ' H' => ∃ ρ, StOk X.K F H0e He ρ σ' H' ∧ (whileD p f m ρ).wp (EndOk X.K F H0e He D) (fun c => ∀ σ' H', Same He H' → W c σ' H'), fun σ' H' ⟨ρ, h, q⟩ => ⟨m, Nat.lt_succ_self _, ρ, h, q⟩, ?_⟩
      refine ⟨F, H0e, He, ρ, h', R.wp_mono (R.wp_bind hk) (fun o ho => ?_) fun c q => q⟩
      cases o with
      | nx ρ2 => exact fun σ2 H2 h2 => ⟨ρ2, h2, ho⟩
      | ct ρ2 => exact fun σ2 H2 h2 => ⟨ρ2, h2, ho⟩
      | bk ρ2 => exact ho
      | rt d => exact ho
    | false => exact hk σ H' h'
end

/-! ### lists of one's own: made, grown, given up -/
def sOwn (i : Nat) (f : Rho → R (List PyData)) : Rho → R Out := fun ρ => (f ρ).bind fun xs => .ok (.nx (ρ.set i (.own xs)))
def ownAt (i : Nat) (ρ : Rho) : Option (List PyData) := match ρ[i]? with
  | some (.own xs) => some xs
  | _ => none
theorem ownAt_e {i : Nat} {ρ : Rho} {xs : List PyData} (h : ownAt i ρ = some xs) : ρ[i]? = some (.own xs) := by
  unfold ownAt at h
  cases hr : ρ[i]? with
  | none => rw [hr] at h; cases h
  | some z =>
    rw [hr] at h
    cases z with
    | own ys => cases h; rfl
    | d x => cases h
    | un => cases h
def sApp (i : Nat) (f : Rho → R PyData) : Rho → R Out := fun ρ => (lift (ownAt i ρ)).bind fun xs => (f ρ).bind fun d => if xs.length < 1000000 then .ok (.nx (ρ.set i (.own (xs ++ [d])))) else .no
def fzs (i : Nat) (ρ : Rho) : Rho := match ρ[i]? with
  | some (.own xs) => ρ.set i (.d (.list xs))
  | _ => ρ
def sFz (i : Nat) (g : Rho → R Out) : Rho → R Out := fun ρ => g (fzs i ρ)
theorem set_cases {α : Type} {l : List α} {i j : Nat} {x z : α} (q : (l.set i x)[j]? = some z) : (j = i ∧ z = x ∧ i < l.length) ∨ (j ≠ i ∧ l[j]? = some z) := by
  by_cases hj : i = j
  · subst hj
    by_cases hl : i < l.length
    · rw [List.getElem?_set_self hl] at q
      cases q
      exact .inl ⟨rfl, rfl, hl⟩
    · rw [List.getElem?_eq_none (by rw [List.length_set]; omega)] at q
      cases q
  · rw [List.getElem?_set_ne hj] at q
    exact .inr ⟨Ne.symm hj, q⟩
section
variable {X : Cx} {W : Wish} {pos : Pos}
theorem sd_own {i : Nat} {x : Str} {e : Expr} {pos' : Pos} {f : Rho → R (List PyData)} (hN : X.N.Nodup) (hi : X.N[i]? = some x) (hx : Loc X.env.scope x) (he : EF X W e f) (hs : swapsWith e (some (.Name x pos')) pos.line X.env = pure false := by rfl) (hf : X.fn x = true ∨ X.env.scope.names.lookup x = some .local := by first | exact .inl rfl | exact .inr rfl | assumption) :
    SD X W (.Assign [.Name x pos'] e pos) (sOwn i f) := by
  refine PS_imp (ps_set hN hi hx he hs hf) fun D σ H ⟨F, H0e, He, ρ, ⟨⟨H0, a, b, c, own, ap⟩, l⟩, q⟩ => ?_
  refine ⟨H0, ρ, b.sub, c, R.wp_mono (R.wp_bind q) (fun xs hx p vs H' H0' ex n1 n2 n3 n4 => ?_) fun c q H' hs => q σ H' (b.s.trans hs)⟩
  refine hx _ _ ⟨⟨H0', a.trans ex.s0, b.trans ex, ⟨fun j y q => ?_, by rw [List.length_set, List.length_set]; exact l⟩, fun j ys q => ?_, fun j k ys zs p' hjk q1 q2 q3 q4 => ?_⟩, by rw [List.length_set, List.length_set]; exact l⟩
  · rcases set_cases q with ⟨_, e, _⟩ | ⟨hj, q⟩
    · cases e
    · obtain ⟨u, u1, u2⟩ := c.at' j y q
      exact ⟨u, by rw [List.getElem?_set_ne (Ne.symm hj)]; exact u1, Du.mono ex.s0 _ _ u2⟩
  · rcases set_cases q with ⟨rfl, e, hl⟩ | ⟨hj, q⟩
    · cases e
      exact ⟨p, vs, by rw [List.getElem?_set_self (by omega)], n3, n2, b.s.free n1, n4⟩
    · obtain ⟨p', vs', q1, q2, q3, q4, q5⟩ := own j ys q
      exact ⟨p', vs', by rw [List.getElem?_set_ne (Ne.symm hj)]; exact q1, ex.s _ _ q2, by rw [ex.old p' (by rw [q2]; simp)]; exact q3, q4, DuAll.mono ex.s0 _ _ q5⟩
  · -- apart: the new list stands at a new place
    have old : ∀ {m : Nat} {ws : List PyData}, ρ[m]? = some (Slot.own ws) → σ[m]? = some (some (V.ref p)) → False := fun {m ws} r1 r2 => by
      obtain ⟨p2, vs2, r3, r4, _⟩ := own m ws r1
      rw [r2] at r3
      cases r3
      rw [n1] at r4
      cases r4
    rcases set_cases q1 with ⟨rfl, e, hl⟩ | ⟨hj, q1⟩
    · rcases set_cases q2 with ⟨rfl, _, _⟩ | ⟨hk, q2⟩
      · exact hjk rfl
      · rw [List.getElem?_set_self (by omega)] at q3
        cases q3
        rw [List.getElem?_set_ne (Ne.symm hk)] at q4
        exact old q2 q4
    · rw [List.getElem?_set_ne (Ne.symm hj)] at q3
      rcases set_cases q2 with ⟨ek, e, hl⟩ | ⟨hk, q2⟩
      · rw [ek, List.getElem?_set_self (by omega)] at q4
        cases q4
        exact old q1 q3
      · rw [List.getElem?_set_ne (Ne.symm hk)] at q4
        exact ap j k ys zs p' hjk q1 q2 q3 q4
/-- x.append(e) -/
theorem sd_app {i : Nat} {x : Str} {e : Expr} {p1 apos cpos : Pos} {f : Rho → R PyData} (hi : X.N[i]? = some x) (hv : Vis X.env.scope x) (he : ED X W e f) (hd : (x == ("__debug__" : Str)) = false := by decide) (hcd : (x == ("__classdict__" : Str)) = false := by decide)
    (hs : swapsWith (.Call (.Attribute (.Name x p1) "append" apos) [e] [] cpos) none pos.line X.env = pure false := by rfl)
    (hbase : attributeBase (.Name x p1) "append" X.env (eval (.Name x p1) X.env) = eval (.Name x p1) X.env := by rfl)
    (hfew : ((backTo cpos (starEach [e] X.env)).all (fun x => !x.1) && (backToKw cpos (keywordEach [] X.env)).all (fun x => x.1.isSome)
      && decide ([e].length + ([] : List Keyword).length + (if ([] : List Keyword).isEmpty then 0 else 1) < 30)) = true := by rfl)
    (hline : (apos.endLine == cpos.line) = true := by rfl) (hs' : starEach [e] X.env = (false, eval e X.env) :: starEach [] X.env := by rfl) (hplain : (backTo cpos (starEach [] X.env)).any (·.1) = false := by rfl) :
    SD X W (.Expr (.Call (.Attribute (.Name x p1) "append" apos) [e] [] cpos) pos) (sApp i f) := by
  refine PS_imp (ps_expr (pe_bm PySem.F.plainAttrs_list PySem.F.slot_list_append PySem.F.type_list_append mt_append (pe_var hi hv hd hcd) (pa_cons he pa_nil hs') hbase hfew hline hs' hplain) hs) fun D σ H ⟨F, H0e, He, ρ, h, q⟩ => ?_
  obtain ⟨⟨H0, a, b, c, own, ap⟩, l⟩ := h
  obtain ⟨xs, hk, q⟩ := lift_wp (R.wp_bind q)
  have hk := ownAt_e hk
  obtain ⟨p, vs, q1, q2, q3, q4, q5⟩ := own i xs hk
  refine ⟨.ref p, q1, .inl ⟨rfl, _, SqL.of q2⟩, ?_⟩
  refine tD_bind b.sub c q (fun c q H' hs => q σ H' (b.s.trans hs)) fun d hd v H' H0' ex dx => ?_
  obtain ⟨hl, hq⟩ := ite_wp hd
  have n2 : H' p = some (.lst vs) := ex.s _ _ q2
  have n0 : H0' p = none := by rw [ex.old p (by rw [q2]; simp)]; exact q3
  have hE := b.trans ex
  have d5 := DuAll.mono ex.s0 _ _ q5
  refine ⟨p, vs, v, rfl, rfl, n2, by rw [d5.length]; exact small6' (Nat.le_of_lt hl), ?_⟩
  refine hq _ _ ⟨⟨H0', a.trans ex.s0, ⟨fun b' o e => ?_, hE.s0, fun b' o e => ?_, hE.old⟩, ⟨fun j y r => ?_, by rw [List.length_set]; exact l⟩, fun j ys r => ?_, fun j k ys zs p' hjk r1 r2 r3 r4 => ?_⟩, by rw [List.length_set]; exact l⟩
  · rw [upd_ne (fun z => by rw [z, q4] at e; cases e)]
    exact hE.s _ _ e
  · rw [upd_ne (fun z => by rw [z, n0] at e; cases e)]
    exact hE.sub _ _ e
  · rcases set_cases r with ⟨_, e, _⟩ | ⟨hj, r⟩
    · cases e
    · obtain ⟨u, u1, u2⟩ := c.at' j y r
      exact ⟨u, u1, Du.mono ex.s0 _ _ u2⟩
  · rcases set_cases r with ⟨ej, e, hl⟩ | ⟨hj, r⟩
    · cases e
      rw [ej]
      exact ⟨p, _, q1, upd_same, n0, q4, d5.append (.one dx)⟩
    · obtain ⟨p', vs', r1, r2, r3, r4, r5⟩ := own j ys r
      have hne : p' ≠ p := fun z => ap j i ys xs p' hj r hk r1 (by rw [z]; exact q1)
      exact ⟨p', vs', r1, by rw [upd_ne hne]; exact ex.s _ _ r2, by rw [ex.old p' (by rw [r2]; simp)]; exact r3, r4, DuAll.mono ex.s0 _ _ r5⟩
  · have back : ∀ {m : Nat} {ws : List PyData}, (ρ.set i (Slot.own (xs ++ [d])))[m]? = some (Slot.own ws) → ∃ ws', ρ[m]? = some (Slot.own ws') := fun {m ws} r => by
      rcases set_cases r with ⟨em, _, _⟩ | ⟨_, r⟩
      · rw [em]; exact ⟨xs, hk⟩
      · exact ⟨ws, r⟩
    obtain ⟨ys', r1⟩ := back r1
    obtain ⟨zs', r2⟩ := back r2
    exact ap j k ys' zs' p' hjk r1 r2 r3 r4
theorem fzs_stok {K : PySem.W.Frag} {F H0e He H : Hp} {σ : L2.St} {ρ : Rho} (i : Nat) (h : StOk K F H0e He ρ σ H) : StOk K F H0e He (fzs i ρ) σ H := by
  unfold fzs
  cases hr : ρ[i]? with
  | none => exact h
  | some z =>
    cases z with
    | un => exact h
    | d x => exact h
    | own xs =>
      obtain ⟨⟨H0, a, b, c, own, ap⟩, l⟩ := h
      obtain ⟨p, vs, q1, q2, q3, q4, q5⟩ := own i xs hr
      have s1 : Same H0 (upd H0 p (.lst vs)) := same_upd q3
      refine ⟨⟨upd H0 p (.lst vs), a.trans s1, ⟨b.s, b.s0.trans s1, fun b' o e => ?_, fun a' ha => ?_⟩, ⟨fun j y r => ?_, by rw [List.length_set]; exact l⟩, fun j ys r => ?_, fun j k ys zs p' hjk r1 r2 r3 r4 => ?_⟩, by rw [List.length_set]; exact l⟩
      · by_cases hb : b' = p
        · subst hb
          rw [upd_same] at e
          rw [q2, ← e]
        · rw [upd_ne hb] at e
          exact b.sub _ _ e
      · have : a' ≠ p := fun z => ha (by rw [z]; exact q4)
        rw [upd_ne this]
        exact b.old a' ha
      · rcases set_cases r with ⟨ej, e, _⟩ | ⟨hj, r⟩
        · cases e
          rw [ej]
          exact ⟨.ref p, q1, .lst (SqL.of upd_same) (DuAll.mono s1 _ _ q5)⟩
        · obtain ⟨u, u1, u2⟩ := c.at' j y r
          exact ⟨u, u1, Du.mono s1 _ _ u2⟩
      · rcases set_cases r with ⟨_, e, _⟩ | ⟨hj, r⟩
        · cases e
        · obtain ⟨p', vs', r1, r2, r3, r4, r5⟩ := own j ys r
          have hne : p' ≠ p := fun z => ap j i ys xs p' hj r hr r1 (by rw [z]; exact q1)
          exact ⟨p', vs', r1, r2, by rw [upd_ne hne]; exact r3, r4, DuAll.mono s1 _ _ r5⟩
      · rcases set_cases r1 with ⟨_, e, _⟩ | ⟨hj, r1⟩
        · cases e
        · rcases set_cases r2 with ⟨_, e, _⟩ | ⟨hk, r2⟩
          · cases e
          · exact ap j k ys zs p' hjk r1 r2 r3 r4
theorem sd_fz {sts : List Stmt} {g : Rho → R Out} (i : Nat) (h : SDs X W sts g) : SDs X W sts (sFz i g) :=
  PSs_imp h fun D σ H ⟨F, H0e, He, ρ, h, q⟩ => ⟨F, H0e, He, fzs i ρ, fzs_stok i h, q⟩
end

/-- a list of one's own stands while the heap grows -/
theorem Ext.trans' {H0 H H1 H' H2 H'' : Hp} {D : Addr} {vl : List V} (a : Ext H0 H H1 H') (b : Ext H1 H' H2 H'') (h : H' D = some (.lst vl)) (n : H1 D = none) : Ext H0 H H2 H'' ∧ H'' D = some (.lst vl) ∧ H2 D = none :=
  ⟨a.trans b, b.s _ _ h, by rw [b.old D (by rw [h]; simp)]; exact n⟩

/-! ### comprehensions -/
def wipeR (ρ : Rho) : List Nat → Rho
  | [] => ρ
  | v :: vs => (wipeR ρ vs).set v .un
theorem wipeR_length (ρ : Rho) : ∀ vs : List Nat, (wipeR ρ vs).length = ρ.length
  | [] => rfl
  | v :: vs => by unfold wipeR; rw [List.length_set, wipeR_length ρ vs]
/-- the items made from the datum on -/
def lcD (g : Bnd) (t : Rho → R Bool) (e : Rho → R PyData) : List PyData → Rho → Option (List PyData)
  | [], _ => some []
  | d :: ds, ρ => match g d ρ with
    | none => none
    | some ρ1 => match t ρ1 with
      | .ok true => match e ρ1 with
        | .ok y => (lcD g t e ds ρ).map (y :: ·)
        | _ => none
      | .ok false => lcD g t e ds ρ
      | _ => none
def fLc (it : Rho → R (List PyData)) (vs : List Nat) (g : Bnd) (t : Rho → R Bool) (e : Rho → R PyData) : Rho → R (List PyData) := fun ρ => (it ρ).bind fun ds => if ds.length ≤ 1000000 then lift (lcD g t e ds (wipeR ρ vs)) else .no
def tYesD : Rho → R Bool := fun _ => .ok true
/-- a clause's tests -/
abbrev TsD (X : Cx) (W : Wish) (ifs : List Expr) (t : Rho → R Bool) : Prop := PTs X ifs (tDt X.K W t)
theorem PTs_imp {X : Cx} {e : List Expr} {t t' : TT} (h : PTs X e t) (hi : ∀ σ H Q, t' σ H Q → t σ H Q) : PTs X e t' := ⟨fun pins s σ H Q I q => h.run pins s σ H Q I (hi _ _ _ q)⟩
theorem tsd_nil {X : Cx} {W : Wish} : TsD X W [] tYesD := PTs_imp pts_nil fun _ H _ ⟨H0, _, s, _, h⟩ => h H H0 (Ext.refl s)
theorem tsd_one {X : Cx} {W : Wish} {c : Expr} {t : Rho → R Bool} (h : TD X W c t) : TsD X W [c] t := pts_one h
theorem lcD_le (g : Bnd) (t : Rho → R Bool) (e : Rho → R PyData) : ∀ (ds : List PyData) (ρ : Rho) (ys : List PyData), lcD g t e ds ρ = some ys → ys.length ≤ ds.length
  | [], _, ys, h => by cases h; exact Nat.le_refl _
  | d :: ds, ρ, ys, h => by
    unfold lcD at h
    split at h
    · cases h
    · split at h
      · split at h
        · obtain ⟨zs, h1, rfl⟩ := Option.map_eq_some_iff.mp h
          exact Nat.succ_le_succ (lcD_le g t e ds ρ zs h1)
        · cases h
      · exact Nat.le_succ_of_le (lcD_le g t e ds ρ ys h)
      · cases h
theorem env_wipe {K : PySem.W.Frag} {H0 : Hp} {σ : L2.St} {ρ : Rho} (en : EnvR K H0 σ ρ) : ∀ vs : List Nat, EnvR K H0 (wipe σ vs) (wipeR ρ vs)
  | [] => en
  | v :: vs => ⟨fun i x q => by
    unfold wipeR at q
    rcases set_cases q with ⟨_, e, _⟩ | ⟨hj, q⟩
    · cases e
    · obtain ⟨u, u1, u2⟩ := (env_wipe en vs).at' i x q
      exact ⟨u, by unfold wipe; rw [List.getElem?_set_ne (Ne.symm hj)]; exact u1, u2⟩, by rw [wipeR_length, wipe_length]; exact en.len⟩
theorem wipe_agree {σ σ' : L2.St} : ∀ (vs : List Nat), σ'.length = σ.length → (∀ j : Nat, j ∉ vs → σ'[j]? = σ[j]?) → wipe σ' vs = wipe σ vs
  | [], hl, h => List.ext_getElem? fun i => h i (by simp)
  | v :: vs, hl, h => by
    refine List.ext_getElem? fun i => ?_
    unfold wipe
    by_cases hi : v = i
    · subst hi
      by_cases hv : v < σ.length
      · rw [List.getElem?_set_self (by rw [wipe_length]; omega), List.getElem?_set_self (by rw [wipe_length]; omega)]
      · rw [List.getElem?_eq_none (by rw [List.length_set, wipe_length]; omega), List.getElem?_eq_none (by rw [List.length_set, wipe_length]; omega)]
    · rw [List.getElem?_set_ne hi, List.getElem?_set_ne hi]
      -- outside v the two agree
      have gen : ∀ (us : List Nat), (∀ j : Nat, j ∉ us → j ≠ v → σ'[j]? = σ[j]?) → ∀ j : Nat, j ≠ v → (wipe σ' us)[j]? = (wipe σ us)[j]? := by
        intro us
        induction us with
        | nil => intro hu j hj; exact hu j (by simp) hj
        | cons u us ih =>
          intro hu j hj
          unfold wipe
          by_cases hju : u = j
          · subst hju
            by_cases hl' : u < σ.length
            · rw [List.getElem?_set_self (by rw [wipe_length]; omega), List.getElem?_set_self (by rw [wipe_length]; omega)]
            · rw [List.getElem?_eq_none (by rw [List.length_set, wipe_length]; omega), List.getElem?_eq_none (by rw [List.length_set, wipe_length]; omega)]
          · rw [List.getElem?_set_ne hju, List.getElem?_set_ne hju]
            -- here the hypothesis is about us and u; below u is shut out
            have : ∀ (ws : List Nat) (m : Nat), m ≠ v → (m ∈ ws ∨ σ'[m]? = σ[m]?) → (wipe σ' ws)[m]? = (wipe σ ws)[m]? := by
              intro ws
              induction ws with
              | nil => intro m _ hm; exact hm.elim (fun z => by cases z) id
              | cons w ws ih2 =>
                intro m hmv hm
                unfold wipe
                by_cases hw : w = m
                · subst hw
                  by_cases hl' : w < σ.length
                  · rw [List.getElem?_set_self (by rw [wipe_length]; omega), List.getElem?_set_self (by rw [wipe_length]; omega)]
                  · rw [List.getElem?_eq_none (by rw [List.length_set, wipe_length]; omega), List.getElem?_eq_none (by rw [List.length_set, wipe_length]; omega)]
                · rw [List.getElem?_set_ne hw, List.getElem?_set_ne hw]
                  exact ih2 m hmv (hm.imp (fun z => by
                    rcases List.mem_cons.mp z with e | z
                    · exact absurd e.symm hw
                    · exact z) id)
            refine this us j hj ?_
            by_cases hm : j ∈ us
            · exact .inl hm
            · exact .inr (hu j (by simp only [List.mem_cons, not_or]; exact ⟨fun e => hju e.symm, hm⟩) hj)
      exact gen vs (fun j hj hjv => h j (by simp only [List.mem_cons, not_or]; exact ⟨hjv, hj⟩)) i (fun e => hi e.symm)
section
variable {X : Cx} {W : Wish} {elt tg iter : Expr} {ifs : List Expr} {scope : Scope} {own : List (Str × Nat)} {pos : Pos} {b : Bool} {it : Rho → R (List PyData)} {g : Bnd} {t : Rho → R Bool} {e : Rho → R PyData} {is : List Nat}
theorem lc_read {K : PySem.W.Frag} {vs : List Nat} (hv : ∀ j ∈ is, j ∈ vs) {σ : L2.St} {H : Hp} {Q : VK} (h : tDf K W (fLc it vs g t e) σ H Q) : tLc (iD K W b it) (gD K b is g) (tDt K W0 t) (tD K W0 e) vs σ H Q := by
  obtain ⟨H0, ρ, s, en, h⟩ := h
  refine ⟨H0, ρ, s, en, R.wp_mono (R.wp_bind h) (fun ds hd J H1 H01 e1 w => fun D hD => ?_) fun c q => q⟩
  by_cases hl : ds.length ≤ 1000000
  · rw [if_pos hl] at hd
    obtain ⟨ys, hys, hq⟩ := lift_wp hd
    have hD0 : H01 D = none := e1.sub.free hD
    refine lc_it w (fun i H => ∃ H0c vl ds1 rest, Ext H01 H1 H0c H ∧ H D = some (.lst vl) ∧ H0c D = none ∧ DuAll K H0c vl ds1 ∧ ds1.length ≤ i ∧ lcD g t e (ds.drop i) (wipeR ρ vs) = some rest ∧ ds1 ++ rest = ys)
      ⟨H01, [], [], ys, ⟨same_upd hD, Same.refl _, e1.sub.trans (same_upd hD), fun _ _ => rfl⟩, upd_same, hD0, .nil, Nat.zero_le _, hys, rfl⟩
      (fun i H _ ⟨H0c, vl, ds1, rest, ex, _⟩ => ex.s0.trans ex.sub) (fun i x H2 H3 hi ⟨H0c, vl, ds1, rest, ex, n1, n2, n3, n4, n5, n6⟩ y => ?_) fun H2 ⟨H0c, vl, ds1, rest, ex, n1, n2, n3, n4, n5, n6⟩ => ?_
    · rw [List.drop_eq_getElem_cons hi] at n5
      obtain ⟨d, hd', y⟩ := y
      rw [List.getElem?_eq_getElem hi] at hd'
      have ed : ds[i] = d := Option.some.inj hd'
      rw [ed] at n5
      have enw : EnvR K H01 (wipe σ vs) (wipeR ρ vs) := env_wipe (en.mono e1.s0) vs
      -- the heap in which the target is stored
      obtain ⟨ex3, m1, tk⟩ : Ext H01 H1 H0c H3 ∧ H3 D = some (.lst vl) ∧ Took K H0c H3 b x d := by
        rcases y with ⟨rfl, dx⟩ | ⟨hb, T, xs, es, rfl, hT, rfl, rfl, dx⟩
        · exact ⟨ex, n1, .inl (Du.mono ex.s0 _ _ dx)⟩
        · have sT : Same H2 (upd H2 T (.tup xs)) := same_upd hT
          exact ⟨⟨ex.s.trans sT, ex.s0, ex.sub.trans sT, ex.old⟩, sT _ _ n1, .inr ⟨hb, T, xs, es, rfl, SqT.of upd_same, DuAll.mono ex.s0 _ _ dx, rfl⟩⟩
      unfold lcD at n5
      cases hg : g d (wipeR ρ vs) with
      | none => rw [hg] at n5; cases n5
      | some ρ1 =>
        rw [hg] at n5
        dsimp only at n5
        refine ⟨H0c, wipeR ρ vs, ρ1, d, ex3.sub, enw.mono ex3.s0, enw.len, tk, hg, fun σ' l1 l2 en' out no => ⟨?_, ?_⟩⟩
        · refine wipe_agree vs (by rw [l1, wipe_length]) fun j hj => ?_
          rw [(out j fun z => hj (hv j z)).1, wipe_out hj]
        · refine ⟨H0c, ρ1, ex3.sub, en', ?_⟩
          cases ht : t ρ1 with
          | no => rw [ht] at n5; cases n5
          | ex c => rw [ht] at n5; cases n5
          | ok k =>
            rw [ht] at n5
            intro H4 H04 e4
            have ex4 := ex3.trans' e4 m1 n2
            obtain ⟨ex4, m4, o4⟩ := ex4
            cases k with
            | false =>
              exact ⟨H04, vl, ds1, rest, ex4, m4, o4, DuAll.mono e4.s0 _ _ n3, Nat.le_succ_of_le n4, n5, n6⟩
            | true =>
              refine ⟨H04, ρ1, e4.sub, en'.mono e4.s0, ?_⟩
              cases he : e ρ1 with
              | no => dsimp only at n5; rw [he] at n5; cases n5
              | ex c => dsimp only at n5; rw [he] at n5; cases n5
              | ok z =>
                dsimp only at n5
                rw [he] at n5
                dsimp only at n5
                intro v H5 H05 e5 dz
                obtain ⟨ex5, m5, o5⟩ := ex4.trans' e5 m4 o4
                obtain ⟨rest', hr, rfl⟩ := Option.map_eq_some_iff.mp n5
                have d3 := DuAll.mono (e4.s0.trans e5.s0) _ _ n3
                refine ⟨vl, m5, by rw [d3.length]; exact small6' (Nat.le_trans n4 (Nat.le_trans (Nat.le_of_lt hi) hl)), H05, vl ++ [v], ds1 ++ [z], rest', ⟨fun b' o q => ?_, ex5.s0, fun b' o q => ?_, ex5.old⟩, upd_same, o5, d3.append (.one dz), by rw [List.length_append, List.length_singleton]; omega, hr, by rw [← n6, List.append_assoc]; rfl⟩
                · rw [upd_ne (fun z => by rw [z, hD] at q; cases q)]
                  exact ex5.s _ _ q
                · rw [upd_ne (fun z => by rw [z, o5] at q; cases q)]
                  exact ex5.sub _ _ q
    · rw [List.drop_of_length_le (Nat.le_refl _)] at n5
      cases n5
      rw [List.append_nil] at n6
      subst n6
      have e2 := e1.trans ex
      exact hq D vl H2 H0c e2 (e1.s.free hD) n2 n1 n3
  · rw [if_neg hl] at hd
    exact hd.elim
end
end Pu

namespace Pu
open PySem PySem.Spec PyProof.Rows L2

section
variable {X : Cx} {W : Wish} {elt tg iter : Expr} {ifs : List Expr} {scope : Scope} {own : List (Str × Nat)} {pos : Pos} {b : Bool} {it : Rho → R (List PyData)} {g : Bnd} {t : Rho → R Bool} {e : Rho → R PyData} {is : List Nat}
theorem ef_lc (hc : X.calm = true) (hN : X.N.Nodup) (ok : BlkOk X.N X.env.scope scope own) (hv : ∀ j ∈ is, j ∈ own.map (·.2)) (hi : ID X W tg iter b it)
    (hg : ∀ (s : Shared) (H : Hp) (C : Addr) (cl : List (Str × Addr)) (fp : List Addr), GD (X.blk s H scope (compEnvC scope cl C X.env) fp) b tg is g) (ht : ∀ (s : Shared) (H : Hp) (C : Addr) (cl : List (Str × Addr)) (fp : List Addr), TsD (X.blk s H scope (compEnvC scope cl C X.env) fp) W0 ifs t)
    (he : ∀ (s : Shared) (H : Hp) (C : Addr) (cl : List (Str × Addr)) (fp : List Addr), ED (X.blk s H scope (compEnvC scope cl C X.env) fp) W0 elt e) (hs : ∀ x, foldedSetIterable iter X.env x = pure x := by intro _; rfl) :
    EF X W (.ListComp elt [⟨tg, iter, ifs, 0⟩] scope pos) (fLc it (own.map (·.2)) g t e) := PE_imp (pe_lc hc hN hi ok hg ht he hs) fun _ _ _ h => lc_read hv h
theorem df_of {K : PySem.W.Frag} {f : Rho → R (List PyData)} {σ : L2.St} {H : Hp} {Q : VK} (h : tD K W (eL f) σ H Q) : tDf K W f σ H Q := by
  obtain ⟨H0, ρ, s, en, h⟩ := h
  refine ⟨H0, ρ, s, en, R.wp_mono (R.wp_bind h) (fun ds q p vs H' H0' e n1 n2 n3 n4 => ?_) fun c q => q⟩
  refine q _ H' (upd H0' p (.lst vs)) ⟨e.s, e.s0.trans (same_upd n2), fun b x q => ?_, fun a ha => ?_⟩ (.lst (SqL.of upd_same) (DuAll.mono (same_upd n2) _ _ n4))
  · by_cases hb : b = p
    · subst hb
      rw [upd_same] at q
      rw [n3, ← q]
    · rw [upd_ne hb] at q
      exact e.sub b x q
  · have : a ≠ p := fun z => ha (by rw [z]; exact n1)
    rw [upd_ne this]
    exact e.old a ha
theorem set_read {K : PySem.W.Frag} {i : Nat} {f : Rho → R PyData} {D : Ends} {σ : L2.St} {H : Hp} (h : sD K W (sSet i f) D σ H) : tD K W f σ H fun x H1 => D.nx (σ.set i (some x)) H1 := by
  obtain ⟨F, H0e, He, ρ, h, q⟩ := h
  exact st_expr h q fun d hd v H' H0 H0' hF hE ex h' hE' dx en own ap => hd _ _ (stok_set (hF.trans ex.s0) hE' en own ap h.len dx)
/-- y = [..] on one line, y a local -/
theorem sd_setLc {i : Nat} {y : Str} {py : Pos} {spos : Pos} (hc : X.calm = true) (hN : X.N.Nodup) (hy : X.N[i]? = some y) (hyl : X.env.scope.names.lookup y = some .local)
    (hsw : swapsWith (.ListComp elt [⟨tg, iter, ifs, 0⟩] scope pos) (some (.Name y py)) spos.line X.env = pure true) (ok : BlkOk X.N X.env.scope scope own) (hv : ∀ j ∈ is, j ∈ own.map (·.2)) (hi : ID X W tg iter b it)
    (hg : ∀ (s : Shared) (H : Hp) (C : Addr) (cl : List (Str × Addr)) (fp : List Addr), GD (X.blk s H scope (compEnvC scope cl C X.env) fp) b tg is g) (ht : ∀ (s : Shared) (H : Hp) (C : Addr) (cl : List (Str × Addr)) (fp : List Addr), TsD (X.blk s H scope (compEnvC scope cl C X.env) fp) W0 ifs t)
    (he : ∀ (s : Shared) (H : Hp) (C : Addr) (cl : List (Str × Addr)) (fp : List Addr), ED (X.blk s H scope (compEnvC scope cl C X.env) fp) W0 elt e) (hs : ∀ x, foldedSetIterable iter X.env x = pure x := by intro _; rfl) :
    SD X W (.Assign [.Name y py] (.ListComp elt [⟨tg, iter, ifs, 0⟩] scope pos) spos) (sSet i (eL (fLc it (own.map (·.2)) g t e))) :=
  PS_imp (ps_setLc hc hN hy hyl hsw hi ok hg ht he hs) fun _ _ _ h => lc_read hv (df_of (set_read h))
end

/-! ### a def's body -/
def runD (m n : Nat) (body : Rho → R Out) (ds : List PyData) : R PyData := if ds.length = n then (body (ds.map .d ++ List.replicate (m - n) .un)).bind fun o => match o with
  | .nx _ => .ok .none
  | .rt d => .ok d
  | _ => .no
  else .no
section
variable {P : Program} {w : World} {K : PySem.W.Frag} {mg : Str → Option Value} {base : Heap}
theorem start_env {H0 : Hp} {N : List Str} {vs : List V} {ds : List PyData} (h : DuAll K H0 vs ds) : EnvR K H0 (L2.start N vs) (ds.map .d ++ List.replicate (N.length - ds.length) .un) := by
  have hl := h.length
  refine ⟨fun i x q => ?_, by unfold L2.start; rw [List.length_append, List.length_append, List.length_map, List.length_map, List.length_replicate, List.length_replicate, hl]⟩
  by_cases hi : i < ds.length
  · rw [List.getElem?_append_left (by simpa using hi), List.getElem?_map] at q
    obtain ⟨d, e1, e2⟩ := Option.map_eq_some_iff.mp q
    cases e2
    obtain ⟨v, q1, q2⟩ := h.get e1
    exact ⟨v, by unfold L2.start; rw [List.getElem?_append_left (by rw [List.length_map]; omega), List.getElem?_map, q1]; rfl, q2⟩
  · rw [List.getElem?_append_right (by rw [List.length_map]; omega), List.getElem?_replicate] at q
    split at q <;> cases q
theorem start_no {N : List Str} {ds : List PyData} {i : Nat} {xs : List PyData} : (ds.map Slot.d ++ List.replicate (N.length - ds.length) Slot.un)[i]? ≠ some (.own xs) := fun q => by
  by_cases hi : i < ds.length
  · rw [List.getElem?_append_left (by simpa using hi), List.getElem?_map] at q
    obtain ⟨d, e1, e2⟩ := Option.map_eq_some_iff.mp q
    cases e2
  · rw [List.getElem?_append_right (by rw [List.length_map]; omega), List.getElem?_replicate] at q
    split at q <;> cases q
theorem fnD_of {x qual : Str} {st : Stmt} {f : Addr} {fd : FuncData} {N ps : List Str} {k : Nat} {ec : Ec} {body : Rho → R Out} (Fn : Fun K x qual st f fd) (S : FnScope N ps (defScope st))
    (hbody : ∀ (cdv : Value) (A : Around) (outer : List Env) (s : Shared) (H : Hp) (E : XK), Room k (A.deeper (envOfC qual (defScope st) s.heap.objs.size f cdv)) →
      Ctx (cxOf (L2.CX P w) P w K mg base N qual (defScope st) f cdv A outer s H E) ec (fun c _ H => E (ec c) none H) → SDs (cxOf (L2.CX P w) P w K mg base N qual (defScope st) f cdv A outer s H E) (fun c _ H => E (ec c) none H) (defBody st) body) :
    FnD P w K mg base ec (k + 1) f fd ps (runD N.length ps.length body) := by
  refine Fun.okX Fn S (fun vs H Q E ⟨H0, ds, hl, _⟩ => hl) fun cdv A outer s H vs Q E hr ⟨H0, ds, hl, sm, du, hw⟩ => ?_
  refine ⟨_, hbody cdv A outer s H E hr ⟨rfl, S.nd, ?_, passes_of rfl⟩, ?_⟩
  · exact Takes.imp (takes_of rfl rfl rfl rfl) fun c d σ H ⟨n, e1, e2, h⟩ => by rw [e1, e2]; exact h
  · have hl2 := du.length
    unfold runD at hw
    rw [if_pos (by omega), show ps.length = ds.length by omega] at hw
    refine ⟨H0, H0, H, _, ⟨⟨H0, Same.refl _, Ext.refl sm, start_env du, fun i xs q => absurd q start_no, fun i j xs ys p _ q => absurd q start_no⟩, (start_env du).len⟩, R.wp_mono (R.wp_bind hw) (fun o ho => ?_) fun c q σ' H' hs => q H' hs⟩
    cases o with
    | nx ρ =>
      intro σ' H' h'
      obtain ⟨⟨H0c, _, ex, _⟩, _⟩ := h'
      exact ho _ H' H0c ex .non
    | rt d => exact ho
    | bk ρ => exact ho.elim
    | ct ρ => exact ho.elim
theorem fnD_none {f : Addr} {fd : FuncData} {ps : List Str} {ec : Ec} {k : Nat} : FnD P w K mg base ec k f fd ps (fun _ => .no) := by
  have no : ∀ vs H Q E, ¬ spD K ec ps.length (fun _ => .no) vs H Q E := fun vs H Q E ⟨H0, ds, _, _, _, h⟩ => h
  exact ⟨fun vs H Q E h => absurd h (no vs H Q E), fun A outer s H args us vs Q E _ _ _ _ h => absurd h (no vs H Q E)⟩
end
/-! ### list(range(n)) -/
def fRangeL (f : Rho → R PyData) : Rho → R (List PyData) := fun ρ => (f ρ).bind fun d => lift (rangeD d)
section
variable {X : Cx} {W : Wish} {a : Expr} {f : Rho → R PyData} {p p2 pos pos2 : Pos}
theorem ef_listRange (hc : X.calm = true) (hg : Gl X "list") (hm : X.mg "list" = none) (hg2 : Gl X "range") (hm2 : X.mg "range" = none) (ha : ED X W a f)
    (na : starEach [.Call (.Name "range" p2) [a] [] pos2] X.env = (false, eval (.Call (.Name "range" p2) [a] [] pos2) X.env) :: starEach [] X.env := by rfl) (na2 : starEach [a] X.env = (false, eval a X.env) :: starEach [] X.env := by rfl) :
    EF X W (.Call (.Name "list" p) [.Call (.Name "range" p2) [a] [] pos2] [] pos) (fRangeL f) := by
  refine PE_imp (pe_listRg hc hg hm (prg_1 hg2 hm2 ha na2) na) fun σ H Q ⟨H0, ρ, s, en, h⟩ => ?_
  refine tD_bind s en h (fun c q => q) fun d hd v H1 H01 e1 d1 => ?_
  obtain ⟨ds, hds, q⟩ := lift_wp hd
  cases d1 with
  | int n =>
    obtain ⟨⟨h1, h2⟩, rfl⟩ := ite_some hds
    refine ⟨n, rfl, ⟨by omega, by omega, by omega, by omega, by omega⟩, ?_⟩
    refine newL_f e1.sub (ds := (List.range n.toNat).map fun (i : Nat) => .int i) ?_ fun p vs H' H0' e2 n1 n2 n3 n4 => q p vs H' H0' (e1.trans e2) (e1.s.free n1) n2 n3 n4
    unfold rgV
    rw [Int.sub_zero]
    have gen : ∀ (l : List Nat), DuAll X.K H01 (l.map fun (i : Nat) => V.int (0 + (i : Int))) (l.map fun (i : Nat) => PyData.int i) := by
      intro l
      induction l with
      | nil => exact .nil
      | cons i l ih => exact .cons (by show Du X.K H01 (V.int (0 + (i : Int))) _; rw [Int.zero_add]; exact .int _) ih
    exact gen _
  | _ => cases hds
end
end Pu

namespace Pu
open PySem PySem.Spec PyProof.Rows L2

/-! ### small rules -/
def oNeg : PyData → Option PyData
  | .int i => some (.int (-i))
  | _ => none
def eUn (o : PyData → Option PyData) (f : Rho → R PyData) : Rho → R PyData := fun ρ => (f ρ).bind fun x => lift (o x)
section
variable {X : Cx} {W : Wish} {pos : Pos} {a b c : Expr} {f g k : Rho → R PyData} {o o' : PyData → PyData → Option PyData}
theorem ed_neg (ha : ED X W a f) : ED X W (.UnaryOp .USub a pos) (eUn oNeg f) := by
  refine PE_imp (pe_un un_neg ha) fun σ H Q ⟨H0, ρ, s, en, h⟩ => ?_
  refine tD_bind s en h (fun c q => q) fun x h1 v H1 H01 e1 d1 => ?_
  obtain ⟨d, hd, q⟩ := lift_wp h1
  cases d1 with
  | int i =>
    cases hd
    exact ⟨i, rfl, q _ H1 H01 e1 (.int _)⟩
  | _ => cases hd
theorem R.bind_assoc {α β γ : Type} (x : R α) (f : α → R β) (g : β → R γ) : (x.bind f).bind g = x.bind fun a => (f a).bind g := by
  cases x <;> rfl
theorem td_chain {op op' : CmpOp} (ho : OpD X (compareOp op) o) (ho' : OpD X (compareOp op') o') (ha : ED X W a f) (hb : ED X W b g) (hc : ED X W c k)
    (hm : lastMarks [op, op'] [b, c] = false := by with_unfolding_all rfl) : TD X W (.Compare a [op, op'] [b, c] pos) (tB (eChain o o' f g k)) := by
  refine PT_imp (pt_chain ho ho' ha hb hc hm) fun σ H Q ⟨H0, ρ, s, en, h⟩ => ?_
  unfold tB eChain at h
  rw [R.bind_assoc] at h
  refine tD_bind s en h (fun c q => q) fun x h1 v H1 H01 e1 d1 => ?_
  rw [R.bind_assoc] at h1
  refine tD_bind e1.sub (en.mono e1.s0) h1 (fun c q H' hs => q H' (e1.s.trans hs)) fun y h2 u H2 H02 e2 d2 => ?_
  cases hb1 : (o x y).bind asB with
  | none => rw [hb1] at h2; exact h2.elim
  | some bb =>
    rw [hb1] at h2
    obtain ⟨d, hd1, hd2⟩ := Option.bind_eq_some_iff.mp hb1
    cases d with
    | bool b' =>
      cases hd2
      refine ⟨H02, x, y, _, e2.sub, Du.mono e2.s0 _ _ d1, d2, hd1, fun z H3 H03 e3 d3 => ?_⟩
      cases d3
      refine ⟨bb, rfl, ?_⟩
      cases bb with
      | false => exact ⟨false, rfl, h2 H3 H03 (e1.trans (e2.trans e3))⟩
      | true =>
        have e123 := e1.trans (e2.trans e3)
        rw [lift_some, R.bind_ok, if_pos rfl, R.bind_assoc] at h2
        refine tD_bind e123.sub (en.mono e123.s0) h2 (fun c q H' hs => q H' (e123.s.trans hs)) fun z h4 w H4 H04 e4 d4 => ?_
        obtain ⟨dd, hdd, hq⟩ := lift_wp (R.wp_bind h4)
        obtain ⟨kk, hkk, hq2⟩ := lift_wp hq
        refine ⟨H04, y, z, dd, e4.sub, Du.mono (e3.s0.trans e4.s0) _ _ d2, d4, hdd, fun v' H' H0' e5 d5 => ?_⟩
        cases dd with
        | bool b2 =>
          cases hkk
          cases d5
          exact ⟨kk, rfl, hq2 H' H0' (e123.trans (e4.trans e5))⟩
        | _ => cases hkk
    | _ => cases hd2
end

/-! ### defs, bundled -/
structure Cal (P : Program) (w : World) (K : PySem.W.Frag) (mg : Str → Option Value) (base : Heap) (ec : Ec) (x : Str) (k n : Nat) (F : List PyData → R PyData) : Prop where
  ex : ∃ (f : Addr) (fd : FuncData) (ps : List Str), FnD P w K mg base ec k f fd ps F ∧ ps.length = n ∧ mg x = some (.ref f) ∧ PySem.W.keepIn K (.ref f) = true ∧ Binds K fd ps []
structure DefIn (K : PySem.W.Frag) (mg : Str → Option Value) (x : Str) (st : Stmt) (ps : List Str) : Prop where
  ex : ∃ (f : Addr) (fd : FuncData), Fun K x x st f fd ∧ mg x = some (.ref f) ∧ Binds K fd ps []
section
variable {P : Program} {w : World} {K : PySem.W.Frag} {mg : Str → Option Value} {base : Heap} {ec : Ec} {x : Str} {k j n : Nat} {F : List PyData → R PyData}
theorem Cal.mono (h : Cal P w K mg base ec x j n F) (q : j ≤ k) : Cal P w K mg base ec x k n F := by
  obtain ⟨f, fd, ps, h1, h2, h3, h4, h5⟩ := h.ex
  exact ⟨f, fd, ps, FnOk.mono h1 q, h2, h3, h4, h5⟩
theorem calNone {st : Stmt} {ps : List Str} (D : DefIn K mg x st ps) : Cal P w K mg base ec x k ps.length (fun _ => .no) := by
  obtain ⟨f, fd, h1, h2, h3⟩ := D.ex
  exact ⟨f, fd, ps, fnD_none, rfl, h2, h1.kp, h3⟩
theorem calOf {st : Stmt} {N ps : List Str} {body : Rho → R Out} (D : DefIn K mg x st ps) (S : FnScope N ps (defScope st))
    (hbody : ∀ (cdv : Value) (A : Around) (outer : List Env) (s : Shared) (H : Hp) (E : XK) (f : Addr), Room k (A.deeper (envOfC x (defScope st) s.heap.objs.size f cdv)) →
      Ctx (cxOf (L2.CX P w) P w K mg base N x (defScope st) f cdv A outer s H E) ec (fun c _ H => E (ec c) none H) → SDs (cxOf (L2.CX P w) P w K mg base N x (defScope st) f cdv A outer s H E) (fun c _ H => E (ec c) none H) (defBody st) body) :
    Cal P w K mg base ec x (k + 1) ps.length (runD N.length ps.length body) := by
  obtain ⟨f, fd, h1, h2, h3⟩ := D.ex
  exact ⟨f, fd, ps, fnD_of h1 S fun cdv A outer s H E hr cx => hbody cdv A outer s H E f hr cx, rfl, h2, h1.kp, h3⟩
end
section
variable {X : Cx} {ec : Ec} {W : Wish} {k n : Nat} {F : List PyData → R PyData} {x : Str} {p pos : Pos} {e : Expr} {es : List Expr} {fs : Rho → R (List PyData)}
theorem ed_callC (cx : Ctx X ec W) (hr : Room k X.A) (G : Cal X.prog X.w X.K X.mg X.base ec x k n F) (hg : Gl X x) (ha : EDs X W (e :: es) fs)
    (hlen : ∀ ρ ds, fs ρ = .ok ds → ds.length = (e :: es).length) (hn : (e :: es).length = n := by rfl) (hdb : (x == ("__debug__" : Str)) = false := by decide) (he : starEach (e :: es) X.env = (false, eval e X.env) :: starEach es X.env := by rfl) (hpl : (backTo pos (starEach es X.env)).any (·.1) = false := by rfl) :
    ED X W (.Call (.Name x p) (e :: es) [] pos) (eCall F fs) := by
  obtain ⟨f, fd, ps, h1, h2, h3, h4, h5⟩ := G.ex
  exact ed_call cx h1 hr hg h3 h4 h5 (hn.trans h2.symm) ha hlen hdb he hpl
theorem Ctx.blk (cx : Ctx X ec W) (s : Shared) (H : Hp) (scope : Scope) (C : Addr) (cl : List (Str × Addr)) (fp : List Addr) : Ctx (X.blk s H scope (compEnvC scope cl C X.env) fp) ec W0 := by
  refine ⟨cx.calm, cx.nd, ?_, ?_⟩
  · exact Takes.imp takes0 fun c d σ H h => by
      obtain ⟨_, _, _, h⟩ := h
      exact h.elim
  · exact PassesOwn.never
end
theorem hu65 {A : Around} {k : Nat} (r : Room k A) : A.units + 65 < cLine := by have := r.un; omega
theorem hu64 {A : Around} {k : Nat} (r : Room k A) : A.units + 64 < cLine := r.units
theorem bb_len : bootBuiltins "len" = some (.builtin "len") := by decide +kernel
theorem bb_sum : bootBuiltins "sum" = some (.builtin "sum") := by decide +kernel
theorem bb_max : bootBuiltins "max" = some (.builtin "max") := by decide +kernel
theorem bb_all : bootBuiltins "all" = some (.builtin "all") := by decide +kernel
theorem bb_int : bootBuiltins "int" = some (.type "int") := by decide +kernel
theorem bb_bool : bootBuiltins "bool" = some (.type "bool") := by decide +kernel
theorem bb_str : bootBuiltins "str" = some (.type "str") := by decide +kernel
theorem bb_tuple : bootBuiltins "tuple" = some (.type "tuple") := by decide +kernel
theorem bb_list : bootBuiltins "list" = some (.type "list") := by decide +kernel
end Pu

namespace Pu
open PySem PySem.Spec PyProof.Rows L2
theorem law_walk {l : PySem.W.OpenLaw} {k : Nat} {q : Program} {loose : List Str} {XP : (Str → Option Value) → Heap → Prop} {YP : World → Heap → Prop} {d : DefRec} {K : Params → PySem.W.Frag} {x : Str} {F : List PyData → R PyData}
    (hn : l.most = some 63) (hn2 : 63 ≤ sizeLine) (hdf : d.params.defaults = []) (hr : Room k callerA)
    (hY : ∀ (w : World) (h : Heap), YP w h → (K w.params).In h)
    (HF : ∀ (w : World) (mg : Str → Option Value) (fa : Addr) (h : Heap), (K w.params).In h → h.Ns mainGlobals mg → mg d.name = some (.ref fa) →
      ∃ fd : FuncData, (∀ (s : Shared) (u : Value), BindsTo s fd ⟨[u], []⟩ [(x, u)]) ∧
        ∀ base : Heap, (K w.params).In base → base.Ns mainGlobals mg → ∃ ec : Ec, FnD l.prog w (K w.params) mg base ec k fa fd [x] F)
    (ok : ∀ ns : List Int, ns.length ≤ 63 → F [.list (ns.map .int)] = .ok (.bool true)) :
    PySem.W.WalkO q loose XP YP l.row.toRowW d [] (fun f vs => PySem.call f vs) := by
  refine L2.walk_of (n := 63) (k := k) (x := x) (CX := fun w => L2.CX l.prog w) (sp := fun w => fun vs H Q _ => ∃ (a : Addr) (ns : List Int), vs = [.ref a] ∧ SqL (K w.params) H a (ns.map V.int) ∧ ns.length ≤ 63 ∧ ∀ H', Q (.bl true) H') hn hn2 hdf hr hY ?_ (fun _ _ a ns hl _ hS => ⟨a, ns, rfl, hS, hl, fun _ => rfl⟩) fun w H s e s' h => ?_
  · intro w mg fa h h1 h2 h3
    obtain ⟨fd, hb, hF⟩ := HF w mg fa h h1 h2 h3
    refine ⟨fd, hb, fun base g1 g2 => ?_⟩
    obtain ⟨ec, G⟩ := hF base g1 g2
    refine FnOk.imp G fun vs H Q E hh => ?_
    obtain ⟨a, ns, rfl, hS, hl, q⟩ := hh
    refine ⟨H, [.list (ns.map .int)], rfl, Same.refl _, .cons (.lst hS (DuAll.ofInts ns)) .nil, ?_⟩
    rw [ok ns hl]
    intro v H' H0' _ du
    cases du
    exact q H'
  · obtain ⟨_, _, _, _, _, _, _, _, _, _, _, _, z⟩ := h
    exact z.elim
end Pu

namespace Pu
open PySem PySem.Spec PyProof.Rows L2
/-! ### the readings, applied -/
section
variable (ρ : Rho)
@[simp] theorem s_eVar (i : Nat) : eVar i ρ = match ρ[i]? with | some (.d x) => .ok x | _ => .no := rfl
@[simp] theorem s_eK (d : PyData) : eK d ρ = .ok d := rfl
@[simp] theorem s_eOp (o f g) : eOp o f g ρ = (f ρ).bind fun x => (g ρ).bind fun y => lift (o x y) := rfl
@[simp] theorem s_eUn (o f) : eUn o f ρ = (f ρ).bind fun x => lift (o x) := rfl
@[simp] theorem s_tB (f) : tB f ρ = (f ρ).bind fun x => lift (asB x) := rfl
@[simp] theorem s_tTr (f) : tTr f ρ = (f ρ).bind fun x => lift (truth x) := rfl
@[simp] theorem s_tNo (f) : tNo f ρ = (f ρ).bind fun b => .ok (!b) := rfl
@[simp] theorem s_tAn (f g) : tAn f g ρ = (f ρ).bind fun b => if b = true then g ρ else .ok false := rfl
@[simp] theorem s_tOr (f g) : tOr f g ρ = (f ρ).bind fun b => if b = true then .ok true else g ρ := rfl
@[simp] theorem s_eAn (f g) : eAn f g ρ = (f ρ).bind fun x => (lift (truth x)).bind fun b => if b = true then g ρ else .ok x := rfl
@[simp] theorem s_eOr (f g) : eOr f g ρ = (f ρ).bind fun x => (lift (truth x)).bind fun b => if b = true then .ok x else g ρ := rfl
@[simp] theorem s_eNo (f) : eNo f ρ = (f ρ).bind fun x => (lift (truth x)).bind fun b => .ok (.bool (!b)) := rfl
@[simp] theorem s_eIf (c f g) : eIf c f g ρ = (c ρ).bind fun b => if b = true then f ρ else g ρ := rfl
@[simp] theorem s_aNil : aNil ρ = .ok [] := rfl
@[simp] theorem s_aCons (f fs) : aCons f fs ρ = (f ρ).bind fun x => (fs ρ).bind fun xs => .ok (x :: xs) := rfl
@[simp] theorem s_eTup (fs) : eTup fs ρ = (fs ρ).bind fun ds => if ds.length ≤ 1000 then .ok (.tuple ds) else .no := rfl
@[simp] theorem s_fLst (fs) : fLst fs ρ = (fs ρ).bind fun ds => if ds.length ≤ 1000 then .ok ds else .no := rfl
@[simp] theorem s_eL (fs) : eL fs ρ = (fs ρ).bind fun ds => .ok (.list ds) := rfl
@[simp] theorem s_eChain (o o' f g k) : eChain o o' f g k ρ = (f ρ).bind fun x => (g ρ).bind fun y => (lift ((o x y).bind asB)).bind fun b => if b = true then (k ρ).bind fun z => lift (o' y z) else .ok (.bool false) := rfl
@[simp] theorem s_eSl (f p q) : eSl f p q ρ = (f ρ).bind fun x => (p ρ).bind fun lo => (q ρ).bind fun hi => lift (sliceD x lo hi) := rfl
@[simp] theorem s_pN : pN ρ = .ok none := rfl
@[simp] theorem s_pS (f) : pS f ρ = (f ρ).bind fun d => lift (asI d) := rfl
@[simp] theorem s_eCB (o fs) : eCB o fs ρ = (fs ρ).bind fun ds => lift (o ds) := rfl
@[simp] theorem s_fCB (o fs) : fCB o fs ρ = (fs ρ).bind fun ds => lift (o ds) := rfl
@[simp] theorem s_eIsi (T f) : eIsi T f ρ = (f ρ).bind fun x => .ok (.bool (isiD T x)) := rfl
@[simp] theorem s_eMt (T o f fs) : eMt T o f fs ρ = (f ρ).bind fun x => if tyN x = T then (fs ρ).bind fun ds => lift (o x ds) else .no := rfl
@[simp] theorem s_eCall (F fs) : eCall F fs ρ = (fs ρ).bind F := rfl
@[simp] theorem s_sNil : sNil ρ = .ok (.nx ρ) := rfl
@[simp] theorem s_sCons (f g) : sCons f g ρ = (f ρ).bind fun o => match o with | .nx ρ' => g ρ' | o => .ok o := by
  unfold sCons
  cases f ρ with
  | no => rfl
  | ex c => rfl
  | ok o => cases o <;> rfl
@[simp] theorem s_sNo : sNo ρ = .no := rfl
@[simp] theorem s_sRet (f) : sRet f ρ = (f ρ).bind fun d => .ok (.rt d) := rfl
@[simp] theorem s_sIf (c f g) : sIf c f g ρ = (c ρ).bind fun b => if b = true then f ρ else g ρ := rfl
@[simp] theorem s_sSet (i f) : sSet i f ρ = (f ρ).bind fun d => .ok (.nx (ρ.set i (.d d))) := rfl
@[simp] theorem s_sBrk : sBrk ρ = .ok (.bk ρ) := rfl
@[simp] theorem s_sCnt : sCnt ρ = .ok (.ct ρ) := rfl
@[simp] theorem s_sAsg (g f) : sAsg g f ρ = (f ρ).bind fun d => (lift (g d ρ)).bind fun ρ' => .ok (.nx ρ') := rfl
@[simp] theorem s_sOwn (i f) : sOwn i f ρ = (f ρ).bind fun xs => .ok (.nx (ρ.set i (.own xs))) := rfl
@[simp] theorem s_sApp (i f) : sApp i f ρ = (lift (ownAt i ρ)).bind fun xs => (f ρ).bind fun d => if xs.length < 1000000 then .ok (.nx (ρ.set i (.own (xs ++ [d])))) else .no := rfl
@[simp] theorem s_ownAt (i) : ownAt i ρ = match ρ[i]? with | some (.own xs) => some xs | _ => none := rfl
@[simp] theorem s_sFz (i g) : sFz i g ρ = g (fzs i ρ) := rfl
@[simp] theorem s_fzs (i) : fzs i ρ = match ρ[i]? with | some (.own xs) => ρ.set i (.d (.list xs)) | _ => ρ := rfl
@[simp] theorem s_sFor (it g body) : sFor it g body ρ = (it ρ).bind fun ds => forD g body ds ρ := rfl
@[simp] theorem s_sWhile (n c body) : sWhile n c body ρ = whileD c body n ρ := rfl
@[simp] theorem s_iSeq (f) : iSeq f ρ = (f ρ).bind fun d => lift (seqD d) := rfl
@[simp] theorem s_iRange (f) : iRange f ρ = (f ρ).bind fun d => lift (rangeD d) := rfl
@[simp] theorem s_fRangeL (f) : fRangeL f ρ = (f ρ).bind fun d => lift (rangeD d) := rfl
@[simp] theorem s_iEnumD (f) : iEnumD f ρ = (f ρ).bind fun d => (lift (seqD d)).bind fun ds => .ok (enumL 0 ds) := rfl
@[simp] theorem s_fLc (it vs g t e) : fLc it vs g t e ρ = (it ρ).bind fun ds => if ds.length ≤ 1000000 then lift (lcD g t e ds (wipeR ρ vs)) else .no := rfl
@[simp] theorem s_tYesD : tYesD ρ = .ok true := rfl
@[simp] theorem s_bN (i d) : bN i d ρ = some (ρ.set i (.d d)) := rfl
@[simp] theorem s_bT2 (i j x y) : bT2 i j (.tuple [x, y]) ρ = some ((ρ.set i (.d x)).set j (.d y)) := rfl
@[simp] theorem s_bT3 (i j k x y z) : bT3 i j k (.tuple [x, y, z]) ρ = some (((ρ.set i (.d x)).set j (.d y)).set k (.d z)) := rfl
@[simp] theorem s_wipe0 : wipeR ρ [] = ρ := rfl
@[simp] theorem s_wipe (v vs) : wipeR ρ (v :: vs) = (wipeR ρ vs).set v .un := rfl
end
@[simp] theorem s_asB (b) : asB (.bool b) = some b := rfl
@[simp] theorem s_asI (b) : asI (.int b) = some (some b) := rfl
@[simp] theorem s_trN : truth .none = some false := rfl
@[simp] theorem s_trB (b) : truth (.bool b) = some b := rfl
@[simp] theorem s_trI (b) : truth (.int b) = some (b != 0) := rfl
@[simp] theorem s_trL (b) : truth (.list b) = some (!b.isEmpty) := rfl
@[simp] theorem s_trT (b) : truth (.tuple b) = some (!b.isEmpty) := rfl
@[simp] theorem s_addI (i j) : oAdd (.int i) (.int j) = some (.int (i + j)) := rfl
@[simp] theorem s_addT (x y) : oAdd (.tuple x) (.tuple y) = if x.length + y.length ≤ 1000000 then some (.tuple (x ++ y)) else none := rfl
@[simp] theorem s_addL (x y) : oAdd (.list x) (.list y) = if x.length + y.length ≤ 1000000 then some (.list (x ++ y)) else none := rfl
@[simp] theorem s_addS (x y) : oAdd (.str x) (.str y) = if x.length + y.length ≤ 1000000 then some (.str (x ++ y)) else none := rfl
@[simp] theorem s_subI (i j) : oSub (.int i) (.int j) = some (.int (i - j)) := rfl
@[simp] theorem s_mulI (i j) : oMul (.int i) (.int j) = if (inW i || inW j) = true then some (.int (i * j)) else none := rfl
@[simp] theorem s_modI (i j) : oMod (.int i) (.int j) = if 0 < j then some (.int (i % j)) else none := rfl
@[simp] theorem s_fdivI (i j) : oFdiv (.int i) (.int j) = if 0 < j ∧ j < 1073741824 then some (.int (i / j)) else none := rfl
@[simp] theorem s_ltI (i j) : oLt (.int i) (.int j) = some (.bool (decide (i < j))) := rfl
@[simp] theorem s_leI (i j) : oLe (.int i) (.int j) = some (.bool (decide (i ≤ j))) := rfl
@[simp] theorem s_gtI (i j) : oGt (.int i) (.int j) = some (.bool (decide (j < i))) := rfl
@[simp] theorem s_geI (i j) : oGe (.int i) (.int j) = some (.bool (decide (j ≤ i))) := rfl
@[simp] theorem s_ixT (xs i) : oIx (.tuple xs) (.int i) = atI xs i := rfl
@[simp] theorem s_ixL (xs i) : oIx (.list xs) (.int i) = atI xs i := rfl
theorem eqv_int (i j : Int) : PyData.eqv (.int i) (.int j) = (i == j) := by simp [PyData.eqv]
theorem eqv_bool (i j : Bool) : PyData.eqv (.bool i) (.bool j) = (i == j) := by simp [PyData.eqv]
theorem eqv_str (i j : Str) : PyData.eqv (.str i) (.str j) = (i == j) := by simp [PyData.eqv]
@[simp] theorem s_eqI (i j) : oEq (.int i) (.int j) = some (.bool (i == j)) := by
  rw [← eqv_int]; rfl
@[simp] theorem s_eqB (i j) : oEq (.bool i) (.bool j) = some (.bool (i == j)) := by
  rw [← eqv_bool]; rfl
@[simp] theorem s_eqS (i j) : oEq (.str i) (.str j) = some (.bool (i == j)) := by
  rw [← eqv_str]; rfl
@[simp] theorem s_neI (i j) : oNe (.int i) (.int j) = some (.bool (!(i == j))) := by
  rw [← eqv_int]; rfl
@[simp] theorem s_neB (i j) : oNe (.bool i) (.bool j) = some (.bool (!(i == j))) := by
  rw [← eqv_bool]; rfl
@[simp] theorem s_neS (i j) : oNe (.str i) (.str j) = some (.bool (!(i == j))) := by
  rw [← eqv_str]; rfl
@[simp] theorem s_isNn (x) : oIs x .none = some (.bool (isNoneD x)) := rfl
@[simp] theorem s_isNotNn (x) : oIsN x .none = some (.bool (!isNoneD x)) := rfl
@[simp] theorem s_isBl (a b) : oIs (.bool a) (.bool b) = some (.bool (a == b)) := rfl
@[simp] theorem s_isNotBl (a b) : oIsN (.bool a) (.bool b) = some (.bool (!(a == b))) := rfl
@[simp] theorem s_cInt (i) : cInt [.int i] = some (.int i) := rfl
@[simp] theorem s_cIntB (i) : cInt [.bool i] = some (.int (if i then 1 else 0)) := rfl
@[simp] theorem s_cLenL (i) : cLen [.list i] = some (.int i.length) := rfl
@[simp] theorem s_cLenT (i) : cLen [.tuple i] = some (.int i.length) := rfl
@[simp] theorem s_cTupL (i) : cTup [.list i] = some (.tuple i) := rfl
@[simp] theorem s_cTupT (i) : cTup [.tuple i] = some (.tuple i) := rfl
@[simp] theorem s_cListL (i) : cList [.list i] = some i := rfl
@[simp] theorem s_cListT (i) : cList [.tuple i] = some i := rfl
@[simp] theorem s_cMax2 (i j) : cMax [.int i, .int j] = some (.int (max i j)) := rfl
@[simp] theorem s_seqL (i) : seqD (.list i) = some i := rfl
@[simp] theorem s_seqT (i) : seqD (.tuple i) = some i := rfl
@[simp] theorem s_slT (x a b) : sliceD (.tuple x) a b = some (.tuple (cutL x a b)) := rfl
@[simp] theorem s_slL (x a b) : sliceD (.list x) a b = some (.list (cutL x a b)) := rfl
theorem bool_ite (c : Prop) [Decidable c] (a b : R Out) : (if (decide c) = true then a else b) = if c then a else b := by simp
/-! ### runs of loops -/
theorem forD_nil (g body ρ) : forD g body [] ρ = .ok (.nx ρ) := rfl
theorem forD_cons (g body d ds ρ) : forD g body (d :: ds) ρ = (lift (g d ρ)).bind fun ρ1 => (body ρ1).bind fun o => match o with
    | .nx ρ2 => forD g body ds ρ2
    | .ct ρ2 => forD g body ds ρ2
    | .bk ρ2 => .ok (.nx ρ2)
    | .rt d => .ok (.rt d) := rfl
/-- a loop that always goes on: I is kept -/
theorem forD_keep {g : Bnd} {body : Rho → R Out} {I : Rho → Prop} : ∀ (ds : List PyData) (ρ : Rho), (∀ d ∈ ds, ∀ ρ, I ρ → ∃ ρ1 ρ2, g d ρ = some ρ1 ∧ body ρ1 = .ok (.nx ρ2) ∧ I ρ2) → I ρ → ∃ ρ', forD g body ds ρ = .ok (.nx ρ') ∧ I ρ'
  | [], ρ, _, h => ⟨ρ, rfl, h⟩
  | d :: ds, ρ, hs, h => by
    obtain ⟨ρ1, ρ2, e1, e2, h2⟩ := hs d (by simp) ρ h
    obtain ⟨ρ', e3, h3⟩ := forD_keep ds ρ2 (fun d hd => hs d (by simp [hd])) h2
    exact ⟨ρ', by rw [forD_cons, e1, lift_some, R.bind_ok, e2, R.bind_ok]; exact e3, h3⟩
/-- .. with a count of what has been walked -/
theorem forD_walk {g : Bnd} {body : Rho → R Out} {I : List PyData → Rho → Prop} : ∀ (ds pre : List PyData) (ρ : Rho), (∀ pre d ρ, d ∈ ds → I pre ρ → ∃ ρ1 ρ2, g d ρ = some ρ1 ∧ body ρ1 = .ok (.nx ρ2) ∧ I (pre ++ [d]) ρ2) → I pre ρ → ∃ ρ', forD g body ds ρ = .ok (.nx ρ') ∧ I (pre ++ ds) ρ'
  | [], pre, ρ, _, h => ⟨ρ, rfl, by simpa using h⟩
  | d :: ds, pre, ρ, hs, h => by
    obtain ⟨ρ1, ρ2, e1, e2, h2⟩ := hs pre d ρ (by simp) h
    obtain ⟨ρ', e3, h3⟩ := forD_walk ds (pre ++ [d]) ρ2 (fun pre d ρ hd => hs pre d ρ (by simp [hd])) h2
    exact ⟨ρ', by rw [forD_cons, e1, lift_some, R.bind_ok, e2, R.bind_ok]; exact e3, by simpa using h3⟩
/-- a loop that goes on or answers r: it answers r just if one does -/
theorem forD_any {g : Bnd} {body : Rho → R Out} {I : Rho → Prop} {r : PyData} {p : PyData → Bool} : ∀ (ds : List PyData) (ρ : Rho), (∀ d ∈ ds, ∀ ρ, I ρ → ∃ ρ1, g d ρ = some ρ1 ∧ if p d = true then body ρ1 = .ok (.rt r) else ∃ ρ2, body ρ1 = .ok (.nx ρ2) ∧ I ρ2) → I ρ →
    if ds.any p = true then forD g body ds ρ = .ok (.rt r) else ∃ ρ', forD g body ds ρ = .ok (.nx ρ') ∧ I ρ'
  | [], ρ, _, h => ⟨ρ, rfl, h⟩
  | d :: ds, ρ, hs, h => by
    obtain ⟨ρ1, e1, e2⟩ := hs d (by simp) ρ h
    cases hp : p d with
    | true =>
      rw [hp, if_pos rfl] at e2
      rw [List.any_cons, hp, Bool.true_or, if_pos rfl, forD_cons, e1, lift_some, R.bind_ok, e2]
      rfl
    | false =>
      rw [hp, if_neg Bool.false_ne_true] at e2
      obtain ⟨ρ2, e3, h3⟩ := e2
      have ih := forD_any ds ρ2 (fun d hd => hs d (by simp [hd])) h3
      rw [List.any_cons, hp, Bool.false_or, forD_cons, e1, lift_some, R.bind_ok, e3]
      exact ih
/-- a comprehension without a test -/
theorem lcD_map {g : Bnd} {e : Rho → R PyData} {q : PyData → PyData} {ρ : Rho} : ∀ ds : List PyData, (∀ d ∈ ds, ∃ ρ1, g d ρ = some ρ1 ∧ e ρ1 = .ok (q d)) → lcD g tYesD e ds ρ = some (ds.map q)
  | [], _ => rfl
  | d :: ds, h => by
    obtain ⟨ρ1, e1, e2⟩ := h d (by simp)
    unfold lcD
    simp only [e1, s_tYesD, e2]
    rw [lcD_map ds fun d hd => h d (by simp [hd])]
    rfl
/-- .. with a test -/
theorem lcD_filter {g : Bnd} {t : Rho → R Bool} {e : Rho → R PyData} {p : PyData → Bool} {q : PyData → PyData} {ρ : Rho} : ∀ ds : List PyData, (∀ d ∈ ds, ∃ ρ1, g d ρ = some ρ1 ∧ t ρ1 = .ok (p d) ∧ (p d = true → e ρ1 = .ok (q d))) → lcD g t e ds ρ = some ((ds.filter p).map q)
  | [], _ => rfl
  | d :: ds, h => by
    obtain ⟨ρ1, e1, e2, e3⟩ := h d (by simp)
    have ih := lcD_filter ds fun d hd => h d (by simp [hd])
    unfold lcD
    cases hp : p d with
    | true => simp only [e1, e2, hp, e3 hp, ih, List.filter_cons_of_pos, List.map_cons, Option.map_some]
    | false =>
      simp only [e1, e2, hp, ih]
      rw [List.filter_cons_of_neg (by simp [hp])]
theorem lcD_mapE {α : Type} {g : Bnd} {e : Rho → R PyData} {en q : α → PyData} {ρ : Rho} : ∀ xs : List α, (∀ x ∈ xs, ∃ ρ1, g (en x) ρ = some ρ1 ∧ e ρ1 = .ok (q x)) → lcD g tYesD e (xs.map en) ρ = some (xs.map q)
  | [], _ => rfl
  | d :: ds, h => by
    obtain ⟨ρ1, e1, e2⟩ := h d (by simp)
    rw [List.map_cons]
    unfold lcD
    simp only [e1, s_tYesD, e2]
    rw [lcD_mapE ds fun d hd => h d (by simp [hd])]
    rfl
theorem lcD_filterE {α : Type} {g : Bnd} {t : Rho → R Bool} {e : Rho → R PyData} {p : α → Bool} {en q : α → PyData} {ρ : Rho} : ∀ xs : List α, (∀ x ∈ xs, ∃ ρ1, g (en x) ρ = some ρ1 ∧ t ρ1 = .ok (p x) ∧ (p x = true → e ρ1 = .ok (q x))) → lcD g t e (xs.map en) ρ = some ((xs.filter p).map q)
  | [], _ => rfl
  | d :: ds, h => by
    obtain ⟨ρ1, e1, e2, e3⟩ := h d (by simp)
    have ih := lcD_filterE ds fun d hd => h d (by simp [hd])
    rw [List.map_cons]
    unfold lcD
    cases hp : p d with
    | true => simp only [e1, e2, hp, e3 hp, ih, List.filter_cons_of_pos, List.map_cons, Option.map_some]
    | false =>
      simp only [e1, e2, hp, ih]
      rw [List.filter_cons_of_neg (by simp [hp])]
/-- .. over things that stand for data -/
theorem forD_keepE {α : Type} {en : α → PyData} {g : Bnd} {body : Rho → R Out} {I : Rho → Prop} (xs : List α) (ρ : Rho) (hs : ∀ x ∈ xs, ∀ ρ, I ρ → ∃ ρ1 ρ2, g (en x) ρ = some ρ1 ∧ body ρ1 = .ok (.nx ρ2) ∧ I ρ2) (h : I ρ) : ∃ ρ', forD g body (xs.map en) ρ = .ok (.nx ρ') ∧ I ρ' :=
  forD_keep _ ρ (fun d hd ρ hI => by
    obtain ⟨x, hx, rfl⟩ := List.mem_map.mp hd
    exact hs x hx ρ hI) h
theorem forD_anyE {α : Type} {en : α → PyData} {g : Bnd} {body : Rho → R Out} {I : Rho → Prop} {r : PyData} {p : α → Bool} : ∀ (xs : List α) (ρ : Rho), (∀ x ∈ xs, ∀ ρ, I ρ → ∃ ρ1, g (en x) ρ = some ρ1 ∧ if p x = true then body ρ1 = .ok (.rt r) else ∃ ρ2, body ρ1 = .ok (.nx ρ2) ∧ I ρ2) → I ρ →
    if xs.any p = true then forD g body (xs.map en) ρ = .ok (.rt r) else ∃ ρ', forD g body (xs.map en) ρ = .ok (.nx ρ') ∧ I ρ'
  | [], ρ, _, h => ⟨ρ, rfl, h⟩
  | d :: ds, ρ, hs, h => by
    obtain ⟨ρ1, e1, e2⟩ := hs d (by simp) ρ h
    rw [List.map_cons]
    cases hp : p d with
    | true =>
      rw [hp, if_pos rfl] at e2
      rw [List.any_cons, hp, Bool.true_or, if_pos rfl, forD_cons, e1, lift_some, R.bind_ok, e2]
      rfl
    | false =>
      rw [hp, if_neg Bool.false_ne_true] at e2
      obtain ⟨ρ2, e3, h3⟩ := e2
      have ih := forD_anyE ds ρ2 (fun d hd => hs d (by simp [hd])) h3
      rw [List.any_cons, hp, Bool.false_or, forD_cons, e1, lift_some, R.bind_ok, e3]
      exact ih
/-- .. with the walked part -/
theorem forD_walkE {α : Type} {en : α → PyData} {g : Bnd} {body : Rho → R Out} {I : List α → Rho → Prop} (xs : List α) (ρ : Rho) (hs : ∀ pre x post ρ, xs = pre ++ x :: post → I pre ρ → ∃ ρ1 ρ2, g (en x) ρ = some ρ1 ∧ body ρ1 = .ok (.nx ρ2) ∧ I (pre ++ [x]) ρ2) (h : I [] ρ) :
    ∃ ρ', forD g body (xs.map en) ρ = .ok (.nx ρ') ∧ I xs ρ' := by
  have gen : ∀ (ys pre : List α) (ρ : Rho), xs = pre ++ ys → I pre ρ → ∃ ρ', forD g body (ys.map en) ρ = .ok (.nx ρ') ∧ I xs ρ' := by
    intro ys
    induction ys with
    | nil =>
      intro pre ρ e h
      exact ⟨ρ, rfl, by rw [e, List.append_nil]; exact h⟩
    | cons d ds ih =>
      intro pre ρ e h
      obtain ⟨ρ1, ρ2, e1, e2, h2⟩ := hs pre d ds ρ e h
      obtain ⟨ρ', e3, h3⟩ := ih (pre ++ [d]) ρ2 (by rw [e]; simp) h2
      exact ⟨ρ', by rw [List.map_cons, forD_cons, e1, lift_some, R.bind_ok, e2, R.bind_ok]; exact e3, h3⟩
  exact gen xs [] ρ rfl h
@[simp] theorem s_cAll (bs : List Bool) : cAll [.list (bs.map .bool)] = some (.bool (bs.all id)) := by
  show (boolsOf (bs.map .bool)).map _ = _
  rw [boolsOf_map]
  rfl
theorem s_cAll' {α : Type} (p : α → Bool) (xs : List α) : cAll [.list (xs.map fun x => .bool (p x))] = some (.bool (xs.all p)) := by
  have : (xs.map fun x => PyData.bool (p x)) = (xs.map p).map .bool := by rw [List.map_map]; rfl
  rw [this, s_cAll, List.all_map]
  rfl
end Pu

namespace Pu
open PySem PySem.Spec PyProof.Rows L2
/-! ### sorted lists of tuples of bits -/
def tupsOf : List PyData → Option (List (List Int))
  | [] => some []
  | .tuple ds :: r => (intsOf ds).bind fun ns => (tupsOf r).map (ns :: ·)
  | _ :: _ => none
def encT (ns : List Int) : PyData := .tuple (ns.map .int)
theorem tupsOf_map (ts : List (List Int)) : tupsOf (ts.map encT) = some ts := by
  induction ts with
  | nil => rfl
  | cons t ts ih =>
    rw [List.map_cons]
    show (intsOf (t.map .int)).bind (fun ns => (tupsOf (ts.map encT)).map (ns :: ·)) = _
    rw [intsOf_map, ih]
    rfl
theorem tupsOf_e : ∀ {ds : List PyData} {ts : List (List Int)}, tupsOf ds = some ts → ds = ts.map encT
  | [], ts, h => by cases h; rfl
  | .tuple d :: r, ts, h => by
    have h : (intsOf d).bind (fun ns => (tupsOf r).map (ns :: ·)) = some ts := h
    obtain ⟨ns, h1, h2⟩ := Option.bind_eq_some_iff.mp h
    obtain ⟨ts', h3, rfl⟩ := Option.map_eq_some_iff.mp h2
    rw [intsOf_e h1, tupsOf_e h3]
    rfl
  | .none :: _, _, h => by cases h
  | .bool _ :: _, _, h => by cases h
  | .int _ :: _, _, h => by cases h
  | .str _ :: _, _, h => by cases h
  | .list _ :: _, _, h => by cases h
  | .dict _ :: _, _, h => by cases h
def okT (d : Nat) (ns : List Int) : Bool := ns.length == d && ns.all fun m => decide (0 ≤ m) && decide (m < 2)
def hdLen : List (List Int) → Nat
  | [] => 1
  | t :: _ => t.length
def insT (a : List Int) : List (List Int) → List (List Int)
  | [] => [a]
  | b :: r => if TS.code 2 a ≤ TS.code 2 b then a :: b :: r else b :: insT a r
def sortT : List (List Int) → List (List Int)
  | [] => []
  | a :: r => insT a (sortT r)
def cSort : List PyData → Option (List PyData)
  | [.list xs] => (tupsOf xs).bind fun ts => if ts.length < 64 ∧ 1 ≤ hdLen ts ∧ ts.all (okT (hdLen ts)) = true then some ((sortT ts).map encT) else none
  | _ => none
theorem insT_perm (a : List Int) : ∀ r, (insT a r).Perm (a :: r)
  | [] => .refl _
  | b :: r => by
    unfold insT
    split
    · exact .refl _
    · exact ((insT_perm a r).cons b).trans (.swap ..)
theorem sortT_perm : ∀ r, (sortT r).Perm r
  | [] => .refl _
  | a :: r => (insT_perm a _).trans ((sortT_perm r).cons a)
def leT (a b : List Int) : Prop := TS.code 2 a ≤ TS.code 2 b
theorem insT_sorted (a : List Int) : ∀ r, r.Pairwise leT → (insT a r).Pairwise leT
  | [], _ => List.pairwise_singleton ..
  | b :: r, h => by
    obtain ⟨h1, h2⟩ := List.pairwise_cons.mp h
    unfold insT
    split
    · rename_i q
      refine List.pairwise_cons.mpr ⟨fun c hc => ?_, h⟩
      rcases List.mem_cons.mp hc with rfl | hc
      · exact q
      · exact Int.le_trans q (h1 c hc)
    · rename_i q
      refine List.pairwise_cons.mpr ⟨fun c hc => ?_, insT_sorted a r h2⟩
      rcases List.mem_cons.mp ((insT_perm a r).mem_iff.mp hc) with rfl | hc
      · show TS.code 2 b ≤ TS.code 2 c
        omega
      · exact h1 c hc
theorem sortT_sorted : ∀ r, (sortT r).Pairwise leT
  | [] => .nil
  | a :: r => insT_sorted a _ (sortT_sorted r)
theorem code_inj : ∀ (a b : List Int), a.length = b.length → TS.Bd 2 a → TS.Bd 2 b → TS.code 2 a = TS.code 2 b → a = b
  | [], [], _, _, _, _ => rfl
  | [], _ :: _, h, _, _, _ => by simp at h
  | _ :: _, [], h, _, _, _ => by simp at h
  | x :: a, y :: b, hl, ha, hb, e => by
    have hl' : a.length = b.length := by simpa using hl
    rcases Int.lt_trichotomy x y with h | h | h
    · have := TS.code_lt hl' ha.tail hb.tail h
      omega
    · subst h
      have e' : TS.code 2 a = TS.code 2 b := by
        have e : x * 2 ^ a.length + TS.code 2 a = x * 2 ^ b.length + TS.code 2 b := e
        rw [hl'] at e
        omega
      rw [code_inj a b hl' ha.tail hb.tail e']
    · have := TS.code_lt hl'.symm hb.tail ha.tail h
      omega
theorem okT_e {d : Nat} {ns : List Int} (h : okT d ns = true) : ns.length = d ∧ TS.Bd 2 ns := by
  unfold okT at h
  rw [Bool.and_eq_true, beq_iff_eq, List.all_eq_true] at h
  refine ⟨h.1, fun m hm => ?_⟩
  have := h.2 m hm
  rw [Bool.and_eq_true, decide_eq_true_eq, decide_eq_true_eq] at this
  exact this
/-- sorted is one -/
theorem sorted_uniq {d : Nat} : ∀ (xs ys : List (List Int)), xs.Perm ys → (∀ x ∈ xs, x.length = d ∧ TS.Bd 2 x) → xs.Pairwise leT → ys.Pairwise leT → xs = ys
  | [], ys, p, _, _, _ => p.nil_eq
  | x :: xs, [], p, _, _, _ => by
    have := p.length_eq
    simp at this
  | x :: xs, y :: ys, p, hb, h1, h2 => by
    obtain ⟨a1, a2⟩ := List.pairwise_cons.mp h1
    obtain ⟨b1, b2⟩ := List.pairwise_cons.mp h2
    have hy : y ∈ x :: xs := p.mem_iff.mpr (by simp)
    have hx : x ∈ y :: ys := p.mem_iff.mp (by simp)
    have q1 : TS.code 2 x ≤ TS.code 2 y := by
      rcases List.mem_cons.mp hy with rfl | hy
      · exact Int.le_refl _
      · exact a1 y hy
    have q2 : TS.code 2 y ≤ TS.code 2 x := by
      rcases List.mem_cons.mp hx with rfl | hx
      · exact Int.le_refl _
      · exact b1 x hx
    have e : x = y := code_inj x y ((hb x (by simp)).1.trans (hb y hy).1.symm) (hb x (by simp)).2 (hb y hy).2 (by omega)
    subst e
    rw [sorted_uniq xs ys ((List.perm_cons x).mp p) (fun z hz => hb z (by simp [hz])) a2 b2]
theorem sortT_eq {d : Nat} {xs ys : List (List Int)} (p : ys.Perm xs) (hb : ∀ x ∈ xs, x.length = d ∧ TS.Bd 2 x) (h : ys.Pairwise leT) : sortT xs = ys :=
  (sorted_uniq (d := d) ys (sortT xs) (p.trans (sortT_perm xs).symm) (fun x hx => hb x (p.mem_iff.mp hx)) h (sortT_sorted xs)).symm
/-- what stands in a heap, in another order -/
theorem DuAll.perm {K : PySem.W.Frag} {H : Hp} : ∀ {ys xs : List V}, ys.Perm xs → ∀ {ds : List PyData}, DuAll K H xs ds → ∃ es, es.Perm ds ∧ DuAll K H ys es := by
  intro ys xs p
  induction p with
  | nil => exact fun {ds} h => ⟨ds, .refl _, h⟩
  | cons x p ih =>
    intro ds h
    cases h with
    | cons h1 h2 =>
      obtain ⟨es, q1, q2⟩ := ih h2
      exact ⟨_ :: es, q1.cons _, .cons h1 q2⟩
  | swap x y l =>
    intro ds h
    cases h with
    | cons h1 h2 =>
      cases h2 with
      | cons h3 h4 => exact ⟨_, .swap .., .cons h3 (.cons h1 h4)⟩
  | trans p1 p2 ih1 ih2 =>
    intro ds h
    obtain ⟨es, q1, q2⟩ := ih2 h
    obtain ⟨fs, q3, q4⟩ := ih1 q2
    exact ⟨fs, q3.trans q1, q4⟩
theorem mem_duAll {K : PySem.W.Frag} {H : Hp} {xs : List V} {ds : List PyData} (h : DuAll K H xs ds) {x : V} (hx : x ∈ xs) : ∃ d ∈ ds, Du K H x d := by
  obtain ⟨i, hi, e⟩ := List.getElem_of_mem hx
  obtain ⟨d, q1, q2⟩ := h.get' (i := i) (v := x) (by rw [List.getElem?_eq_getElem hi, e])
  exact ⟨d, List.mem_of_getElem? q1, q2⟩
theorem perm_map_inv {α β : Type} {f : α → β} {es : List β} {ts : List α} (p : es.Perm (ts.map f)) : ∃ us : List α, us.Perm ts ∧ es = us.map f := by
  generalize hq : ts.map f = l at p
  induction p generalizing ts with
  | nil =>
    cases ts with
    | nil => exact ⟨[], .refl _, rfl⟩
    | cons t ts => simp at hq
  | @cons x l1 l2 p ih =>
    cases ts with
    | nil => simp at hq
    | cons t ts =>
      rw [List.map_cons, List.cons.injEq] at hq
      obtain ⟨us, q1, q2⟩ := ih hq.2
      exact ⟨t :: us, q1.cons t, by rw [List.map_cons, hq.1, q2]⟩
  | swap x y l =>
    match ts, hq with
    | [], hq => simp at hq
    | [_], hq => simp at hq
    | t :: u :: ts, hq =>
      simp only [List.map_cons, List.cons.injEq] at hq
      obtain ⟨rfl, rfl, rfl⟩ := hq
      exact ⟨u :: t :: ts, .swap .., rfl⟩
  | trans p1 p2 ih1 ih2 =>
    obtain ⟨us, q1, q2⟩ := ih2 hq
    obtain ⟨vs, q3, q4⟩ := ih1 q2.symm
    exact ⟨vs, q3.trans q1, q4⟩
theorem tupI_of {K : PySem.W.Frag} {H H0 : Hp} {x : V} {ns : List Int} (sm : Same H0 H) (h : Du K H0 x (encT ns)) : TupI K H x ns := by
  unfold encT at h
  cases h with
  | tup h1 h2 h3 =>
    rw [h3.ints] at h1
    exact ⟨_, rfl, SqT.frz (sm _ _ h1)⟩
section
variable {X : Cx}
theorem cf_sortT : CallF X (.builtin "sorted") cSort := by
  intro pins s σ H vs us Q I r ⟨H0, ds, d, sm, da, ho, q⟩
  unfold cSort at ho
  split at ho
  · rename_i xs0
    obtain ⟨ts, h1, h2⟩ := Option.bind_eq_some_iff.mp ho
    obtain ⟨⟨c1, c2, c3⟩, rfl⟩ := ite_some h2
    have e1 := tupsOf_e h1
    subst e1
    have hb : ∀ t ∈ ts, t.length = hdLen ts ∧ TS.Bd 2 t := fun t ht => okT_e (List.all_eq_true.mp c3 t ht)
    cases da with
    | cons k1 k2 =>
      cases k1 with
      | @lst a xs _ l1 l2 =>
        cases k2
        have hlen := l2.length
        rw [List.length_map] at hlen
        refine cr_sortT (d := hdLen ts) (B := 2) c2 pins s σ H _ us Q I r ⟨a, xs, rfl, sm.seq l1, by omega, fun x hx => ?_, fun ys p hp hs hn => ?_⟩
        · obtain ⟨d, hd, hdu⟩ := mem_duAll l2 hx
          obtain ⟨t, ht, rfl⟩ := List.mem_map.mp hd
          exact ⟨t, tupI_of sm hdu, hb t ht⟩
        · obtain ⟨es, p1, p2⟩ := DuAll.perm hp l2
          obtain ⟨us', p3, rfl⟩ := perm_map_inv p1
          have e : sortT ts = us' := by
            refine sortT_eq (d := hdLen ts) p3 hb ?_
            have gen : ∀ (ys : List V) (us : List (List Int)), DuAll X.K H0 ys (us.map encT) → ys.Pairwise (fun x y => ∀ n m, TupI X.K H x n → TupI X.K H y m → TS.code 2 n ≤ TS.code 2 m) → us.Pairwise leT := by
              intro ys
              induction ys with
              | nil =>
                intro us h _
                cases us with
                | nil => exact .nil
                | cons u us => cases h
              | cons y ys ih =>
                intro us h hp
                cases us with
                | nil => cases h
                | cons u us =>
                  rw [List.map_cons] at h
                  cases h with
                  | cons g1 g2 =>
                    obtain ⟨w1, w2⟩ := List.pairwise_cons.mp hp
                    refine List.pairwise_cons.mpr ⟨fun v hv => ?_, ih us g2 w2⟩
                    obtain ⟨i, hi, e⟩ := List.getElem_of_mem hv
                    obtain ⟨yv, y1, y2⟩ := g2.get (i := i) (d := encT v) (by rw [List.getElem?_map, List.getElem?_eq_getElem hi, e] <;> rfl)
                    exact w1 yv (List.mem_of_getElem? y1) u v (tupI_of sm g1) (tupI_of sm y2)
            exact gen ys us' p2 hs
          rw [e] at q
          exact newL_f sm p2 q p hn
  · cases ho
theorem bb_sorted : bootBuiltins "sorted" = some (.builtin "sorted") := by decide +kernel
end
end Pu

namespace Pu
open PySem PySem.Spec PyProof.Rows L2
/-! ### sorted(set(a tuple of ints)) -/
def insI (a : Int) : List Int → List Int
  | [] => [a]
  | b :: r => if a < b then a :: b :: r else if a = b then b :: r else b :: insI a r
def sortI : List Int → List Int
  | [] => []
  | a :: r => insI a (sortI r)
theorem insI_mem (a : Int) : ∀ (r : List Int) (x : Int), x ∈ insI a r ↔ x = a ∨ x ∈ r
  | [], x => by simp [insI]
  | b :: r, x => by
    unfold insI
    split
    · simp
    · split
      · rename_i h1 h2
        subst h2
        simp
      · rw [List.mem_cons, insI_mem a r, List.mem_cons]
        constructor
        · rintro (h | h | h)
          · exact .inr (.inl h)
          · exact .inl h
          · exact .inr (.inr h)
        · rintro (h | h | h)
          · exact .inr (.inl h)
          · exact .inl h
          · exact .inr (.inr h)
theorem sortI_mem : ∀ (r : List Int) (x : Int), x ∈ sortI r ↔ x ∈ r
  | [], x => .rfl
  | a :: r, x => by
    show x ∈ insI a (sortI r) ↔ _
    rw [insI_mem, sortI_mem r, List.mem_cons]
theorem insI_lt (a : Int) : ∀ r : List Int, r.Pairwise (· < ·) → (insI a r).Pairwise (· < ·)
  | [], _ => List.pairwise_singleton ..
  | b :: r, h => by
    obtain ⟨h1, h2⟩ := List.pairwise_cons.mp h
    unfold insI
    split
    · rename_i q
      refine List.pairwise_cons.mpr ⟨fun c hc => ?_, h⟩
      rcases List.mem_cons.mp hc with rfl | hc
      · exact q
      · exact Int.lt_trans q (h1 c hc)
    · split
      · exact h
      · refine List.pairwise_cons.mpr ⟨fun c hc => ?_, insI_lt a r h2⟩
        rcases (insI_mem a r c).mp hc with rfl | hc
        · omega
        · exact h1 c hc
theorem sortI_lt : ∀ r, (sortI r).Pairwise (· < ·)
  | [] => .nil
  | a :: r => insI_lt a _ (sortI_lt r)
theorem lt_uniq : ∀ (xs ys : List Int), xs.Pairwise (· < ·) → ys.Pairwise (· < ·) → (∀ k, k ∈ xs ↔ k ∈ ys) → xs = ys
  | [], [], _, _, _ => rfl
  | [], y :: ys, _, _, h => by have := (h y).mpr (by simp); simp at this
  | x :: xs, [], _, _, h => by have := (h x).mp (by simp); simp at this
  | x :: xs, y :: ys, h1, h2, h => by
    obtain ⟨a1, a2⟩ := List.pairwise_cons.mp h1
    obtain ⟨b1, b2⟩ := List.pairwise_cons.mp h2
    have hx := (h x).mp (by simp)
    have hy := (h y).mpr (by simp)
    have e : x = y := by
      rcases List.mem_cons.mp hx with e | hx
      · exact e
      · rcases List.mem_cons.mp hy with e | hy
        · exact e.symm
        · have := b1 x hx
          have := a1 y hy
          omega
    subst e
    rw [lt_uniq xs ys a2 b2 fun k => ⟨fun hk => ?_, fun hk => ?_⟩]
    · have := (h k).mp (by simp [hk])
      rcases List.mem_cons.mp this with e | q
      · have := a1 k hk
        omega
      · exact q
    · have := (h k).mpr (by simp [hk])
      rcases List.mem_cons.mp this with e | q
      · have := b1 k hk
        omega
      · exact q
def cSortSetT : List PyData → Option (List PyData)
  | [.tuple xs] => (intsOf xs).bind fun ns => if ns.length < 64 then some ((sortI ns).map .int) else none
  | _ => none
def rSetTI (K : PySem.W.Frag) (w : World) : List V → Hp → VK → Prop := fun vs H Q => ∃ (a : Addr) (ns : List Int), vs = [.ref a] ∧ SqT K H a (ns.map V.int) ∧ ns.length < 64 ∧ ∀ (p : Addr) (c : Nat), c ≤ ns.length → H p = none → Q (.ref p) (upd H p (SetO w p (fun j => decide (j ∈ ns)) c))
section
variable {X : Cx}
theorem cr_setTI (hc : X.calm = true) : CallR X (.type "set") (rSetTI X.K X.w) := by
  intro pins s σ H vs us Q I r h
  obtain ⟨a, ns, rfl, hs, hl, q⟩ := h
  rw [Vals.ref1 r]
  obtain ⟨its, rv, ht, hz⟩ := I.tuple hs
  refine call_set_tupI (P := X.prog) (w := X.w) ns (I.ok.hd hc) ht (by simpa using rv.ints) (by unfold scanBound; omega) fun h' tk c R hcn hk => ?_
  have hn : H s.heap.objs.size = none := I.hok.fresh (Nat.le_refl _)
  exact ⟨.ref s.heap.objs.size, _, I.laid (t' := tk) hk (Nat.le_refl _) (setO_new R), rfl, q _ c hcn hn⟩
end
section
variable {X : Cx} {W : Wish} {e : Expr} {f : Rho → R PyData} {p p2 pos pos2 : Pos}
theorem bb_set : bootBuiltins "set" = some (.type "set") := by decide +kernel
theorem ef_sortedSetT (hc : X.calm = true) (hg : Gl X "sorted") (hm : X.mg "sorted" = none) (hg2 : Gl X "set") (hm2 : X.mg "set" = none) (he : ED X W e f)
    (na : starEach [e] X.env = (false, eval e X.env) :: starEach [] X.env := by rfl)
    (na2 : starEach [.Call (.Name "set" p2) [e] [] pos2] X.env = (false, eval (.Call (.Name "set" p2) [e] [] pos2) X.env) :: starEach [] X.env := by rfl) :
    EF X W (.Call (.Name "sorted" p) [.Call (.Name "set" p2) [e] [] pos2] [] pos) (fCB cSortSetT (aCons f aNil)) := by
  refine PE_imp (pe_callB (cr_sortedSet hc) hg hm bb_sorted (pa_cons (pe_callTy (cr_setTI hc) hg2 hm2 bb_set (pa_cons he pa_nil na) (by decide) (by decide) na rfl) pa_nil na2) (by decide) (by decide) na2 rfl) fun σ H Q ⟨H0, ρ, s, en, h⟩ => ?_
  have h' : (((f ρ).bind fun x => R.ok [x]).bind fun ds => lift (cSortSetT ds)).wp _ _ := h
  rw [R.bind_assoc] at h'
  refine tD_bind s en h' (fun c q => q) fun x h1 v H1 H01 e1 d1 => ?_
  · obtain ⟨ds, hds, q⟩ := lift_wp h1
    unfold cSortSetT at hds
    split at hds
    · rename_i heq
      simp only [List.cons.injEq, and_true] at heq
      subst heq
      obtain ⟨ns, hn, h2⟩ := Option.bind_eq_some_iff.mp hds
      obtain ⟨hl, rfl⟩ := ite_some h2
      have hi := intsOf_e hn
      subst hi
      cases d1 with
      | tup k1 k2 k3 =>
        rw [k3.ints] at k1
        refine ⟨_, ns, rfl, SqT.frz (e1.sub _ _ k1), hl, fun p' c hcn hp => ?_⟩
        refine ⟨p', _, c, rfl, upd_same, by omega, fun ms p3 hs hm' hlen hp3 => ?_⟩
        have e2 : ms = sortI ns := lt_uniq ms (sortI ns) hs (sortI_lt ns) fun k => by rw [hm' k, sortI_mem, decide_eq_true_eq]
        subst e2
        have en := Ext.new e1.sub hp (o := SetO X.w p' (fun j => decide (j ∈ ns)) c)
        exact newL_f en.sub (DuAll.ofInts (sortI ns)) (fun p4 vs H' H0' e3 n1 n2 n3 n4 => q p4 vs H' H0' (e1.trans (en.trans e3)) ((e1.s.trans en.s).free n1) n2 n3 n4) p3 hp3
    · cases hds
end
end Pu

namespace Pu
open PySem PySem.Spec PyProof.Rows L2
/-! ### what == reads: data that are shaped, no deeper than n -/
structure Sh (n : Nat) (d : PyData) : Prop where
  c : d.canLay0 = true
  d : d.depth ≤ n
structure ShAll (n : Nat) (ds : List PyData) : Prop where
  c : PyData.canLayAll0 ds = true
  d : PyData.depthAll ds ≤ n
theorem Sh.shaped {n : Nat} {d : PyData} (h : Sh n d) (hn : n ≤ 64) : SeqAt.shaped d = true := by
  unfold SeqAt.shaped
  rw [h.c, decide_eq_true (Nat.le_trans h.d hn)]
  rfl
theorem Sh.mono {n m : Nat} {d : PyData} (h : Sh n d) (hn : n ≤ m) : Sh m d := ⟨h.c, Nat.le_trans h.d hn⟩
theorem sh_int {n : Nat} (i : Int) : Sh n (.int i) := ⟨rfl, Nat.zero_le _⟩
theorem sh_bool {n : Nat} (i : Bool) : Sh n (.bool i) := ⟨rfl, Nat.zero_le _⟩
theorem sh_none {n : Nat} : Sh n .none := ⟨rfl, Nat.zero_le _⟩
theorem sh_str {n : Nat} {x : Str} (h : PyData.canLay0 (.str x) = true) : Sh n (.str x) := ⟨h, Nat.zero_le _⟩
theorem sh_nil {n : Nat} : ShAll n [] := ⟨rfl, Nat.zero_le _⟩
theorem sh_cons {n : Nat} {d : PyData} {ds : List PyData} (h : Sh n d) (h' : ShAll n ds) : ShAll n (d :: ds) := ⟨by rw [PyData.canLayAll0, h.c, h'.c]; rfl, by rw [PyData.depthAll]; exact Nat.max_le.mpr ⟨h.d, h'.d⟩⟩
theorem sh_all {n : Nat} : ∀ ds : List PyData, (∀ d ∈ ds, Sh n d) → ShAll n ds
  | [], _ => sh_nil
  | d :: ds, h => sh_cons (h d (by simp)) (sh_all ds fun e he => h e (by simp [he]))
theorem sh_list {n : Nat} {ds : List PyData} (h : ShAll n ds) : Sh (n + 1) (.list ds) := ⟨by rw [PyData.canLay0]; exact h.c, by rw [PyData.depth]; exact Nat.add_le_add_right h.d 1⟩
theorem sh_tup {n : Nat} {ds : List PyData} (h : ShAll n ds) : Sh (n + 1) (.tuple ds) := ⟨by rw [PyData.canLay0]; exact h.c, by rw [PyData.depth]; exact Nat.add_le_add_right h.d 1⟩
theorem Sh.refl {n : Nat} {d : PyData} (h : Sh n d) : PyData.eqv d d = true := SeqAt.eqv_refl d h.c
theorem eqOk_sh {n m : Nat} {x y : PyData} (h : Sh n x) (h' : Sh m y) (hn : n ≤ 64) (hm : m ≤ 64) : eqOk x y = true := by
  unfold eqOk
  rw [h.shaped hn, h'.shaped hm]
  simp
theorem oEq_sh {n m : Nat} {x y : PyData} (h : Sh n x) (h' : Sh m y) (hn : n ≤ 64) (hm : m ≤ 64) : oEq x y = some (.bool (PyData.eqv x y)) := by
  unfold oEq
  rw [if_pos (eqOk_sh h h' hn hm)]
theorem oNe_sh {n m : Nat} {x y : PyData} (h : Sh n x) (h' : Sh m y) (hn : n ≤ 64) (hm : m ≤ 64) : oNe x y = some (.bool (!PyData.eqv x y)) := by
  unfold oNe
  rw [if_pos (eqOk_sh h h' hn hm)]
theorem oEq_self {n : Nat} {x : PyData} (h : Sh n x) (hn : n ≤ 64) : oEq x x = some (.bool true) := by
  rw [oEq_sh h h hn hn, h.refl]
theorem oNe_self {n : Nat} {x : PyData} (h : Sh n x) (hn : n ≤ 64) : oNe x x = some (.bool false) := by
  rw [oNe_sh h h hn hn, h.refl]
  rfl
theorem eqv_list (xs ys : List PyData) : PyData.eqv (.list xs) (.list ys) = PyData.eqvAll xs ys := by rw [PyData.eqv]
theorem eqv_tuple (xs ys : List PyData) : PyData.eqv (.tuple xs) (.tuple ys) = PyData.eqvAll xs ys := by rw [PyData.eqv]
@[simp] theorem eqvAll_nil : PyData.eqvAll [] [] = true := by rw [PyData.eqvAll]
@[simp] theorem eqvAll_cons (x y : PyData) (xs ys : List PyData) : PyData.eqvAll (x :: xs) (y :: ys) = (PyData.eqv x y && PyData.eqvAll xs ys) := by rw [PyData.eqvAll]
@[simp] theorem eqvAll_nc (y : PyData) (ys : List PyData) : PyData.eqvAll [] (y :: ys) = false := by rw [PyData.eqvAll]
@[simp] theorem eqvAll_cn (y : PyData) (ys : List PyData) : PyData.eqvAll (y :: ys) [] = false := by rw [PyData.eqvAll]
/-- data of a kind in which == tells what is the same -/
theorem eqvAll_map {α : Type} [DecidableEq α] {en : α → PyData} (h : ∀ x y : α, PyData.eqv (en x) (en y) = decide (x = y)) : ∀ xs ys : List α, PyData.eqvAll (xs.map en) (ys.map en) = decide (xs = ys)
  | [], [] => by simp
  | [], y :: ys => by simp
  | x :: xs, [] => by simp
  | x :: xs, y :: ys => by
    rw [List.map_cons, List.map_cons, eqvAll_cons, h, eqvAll_map h xs ys]
    by_cases e : x = y <;> by_cases e2 : xs = ys <;> simp [e, e2]
theorem oIn_map {α : Type} [DecidableEq α] {en : α → PyData} {n : Nat} (h : ∀ x y : α, PyData.eqv (en x) (en y) = decide (x = y)) (sh : ∀ x, Sh n (en x)) (hn : n ≤ 63) (x : α) (xs : List α) :
    oIn (en x) (.list (xs.map en)) = some (.bool (decide (x ∈ xs))) ∧ oIn (en x) (.tuple (xs.map en)) = some (.bool (decide (x ∈ xs))) := by
  have e : ((xs.map en).any fun z => PyData.eqv z (en x)) = decide (x ∈ xs) := by
    rw [List.any_map]
    rw [Bool.eq_iff_iff, List.any_eq_true, decide_eq_true_eq]
    constructor
    · rintro ⟨y, hy, q⟩
      have q : PyData.eqv (en y) (en x) = true := q
      rw [h, decide_eq_true_eq] at q
      exact q ▸ hy
    · intro hx
      exact ⟨x, hx, by show PyData.eqv (en x) (en x) = true; rw [h, decide_eq_true_eq]⟩
  have a : ShAll n (xs.map en) := sh_all _ fun d hd => by
    obtain ⟨y, _, rfl⟩ := List.mem_map.mp hd
    exact sh y
  have s1 := (sh_list a).shaped (by omega)
  have s2 := (sh_tup a).shaped (by omega)
  have s3 := (sh x).shaped (by omega)
  constructor
  · show (inD (en x) (.list (xs.map en)) (xs.map en)).map PyData.bool = _
    unfold inD
    rw [s1, s3, e]
    simp
  · show (inD (en x) (.tuple (xs.map en)) (xs.map en)).map PyData.bool = _
    unfold inD
    rw [s2, s3, e]
    simp
theorem oNotIn_of {x c : PyData} {b : Bool} (h : oIn x c = some (.bool b)) : oNotIn x c = some (.bool (!b)) := by
  unfold oIn at h
  split at h
  · obtain ⟨r, hr, e⟩ := Option.map_eq_some_iff.mp h
    cases e
    show (inD x _ _).map _ = _
    rw [hr]
    rfl
  · obtain ⟨r, hr, e⟩ := Option.map_eq_some_iff.mp h
    cases e
    show (inD x _ _).map _ = _
    rw [hr]
    rfl
  · cases h
theorem oIn_map' {α : Type} [DecidableEq α] {en : α → PyData} {n : Nat} (h : ∀ x y : α, PyData.eqv (en x) (en y) = decide (x = y)) (sh : ∀ x, Sh n (en x)) (hn : n ≤ 63) (x : α) (xs : List α) :
    oIn (en x) (.list (xs.map en)) = some (.bool (decide (x ∈ xs))) := (oIn_map h sh hn x xs).1
theorem oIn_yes {α : Type} [DecidableEq α] {en : α → PyData} {n : Nat} (h : ∀ x y : α, PyData.eqv (en x) (en y) = decide (x = y)) (sh : ∀ x, Sh n (en x)) (hn : n ≤ 63) {x : α} {xs : List α} (hx : x ∈ xs) :
    oIn (en x) (.list (xs.map en)) = some (.bool true) ∧ oIn (en x) (.tuple (xs.map en)) = some (.bool true) := by
  have := oIn_map h sh hn x xs
  rw [decide_eq_true hx] at this
  exact this
theorem oIn_nope {α : Type} [DecidableEq α] {en : α → PyData} {n : Nat} (h : ∀ x y : α, PyData.eqv (en x) (en y) = decide (x = y)) (sh : ∀ x, Sh n (en x)) (hn : n ≤ 63) {x : α} {xs : List α} (hx : x ∉ xs) :
    oIn (en x) (.list (xs.map en)) = some (.bool false) ∧ oIn (en x) (.tuple (xs.map en)) = some (.bool false) := by
  have := oIn_map h sh hn x xs
  rw [decide_eq_false hx] at this
  exact this
/-! ### slices -/
theorem cut_take {α : Type} (xs : List α) (n : Nat) : cutL xs none (some (n : Int)) = xs.take n := by
  unfold cutL
  rw [HT.sIx_none, HT.sIx_nat, List.drop_zero, Nat.sub_zero]
  by_cases h : n ≤ xs.length
  · rw [Nat.min_eq_left h]
  · rw [Nat.min_eq_right (by omega), List.take_length, List.take_of_length_le (by omega)]
theorem cut_drop {α : Type} (xs : List α) (n : Nat) : cutL xs (some (n : Int)) none = xs.drop n := by
  unfold cutL
  rw [HT.sIx_none, HT.sIx_nat]
  by_cases h : n ≤ xs.length
  · rw [Nat.min_eq_left h, List.take_of_length_le (by rw [List.length_drop]; omega)]
  · rw [Nat.min_eq_right (by omega), List.drop_length, List.drop_eq_nil_of_le (by omega)]
    simp
theorem cut_mid {α : Type} (xs : List α) (a b : Nat) : cutL xs (some (a : Int)) (some (b : Int)) = (xs.take b).drop a := by
  unfold cutL
  rw [HT.sIx_nat, HT.sIx_nat]
  refine List.ext_getElem? fun i => ?_
  rw [List.getElem?_drop, List.getElem?_take, List.getElem?_take, List.getElem?_drop]
  by_cases h : a ≤ xs.length
  · rw [Nat.min_eq_left h]
    by_cases h2 : b ≤ xs.length
    · rw [Nat.min_eq_left h2]
      by_cases h3 : i < b - a
      · rw [if_pos h3, if_pos (by omega)]
      · rw [if_neg h3, if_neg (by omega)]
    · rw [Nat.min_eq_right (by omega)]
      by_cases h3 : i < xs.length - a
      · rw [if_pos h3, if_pos (by omega)]
      · rw [if_neg h3]
        by_cases h4 : a + i < b
        · rw [if_pos h4, List.getElem?_eq_none (by omega)]
        · rw [if_neg h4]
  · rw [Nat.min_eq_right (Nat.le_of_not_le h)]
    have : min b xs.length - xs.length = 0 := by omega
    rw [this, if_neg (by omega)]
    by_cases h4 : a + i < b
    · rw [if_pos h4, List.getElem?_eq_none (by omega)]
    · rw [if_neg h4]
end Pu

namespace Pu
open PySem PySem.Spec PyProof.Rows L2
/-! ### zip of three tuples -/
def ItZ (K : PySem.W.Frag) (a b c : Addr) : It :=
  ⟨fun i H => ∃ (xs ys zs : List V) (x y z : V), SqT K H a xs ∧ SqT K H b ys ∧ SqT K H c zs ∧ xs[i]? = some x ∧ ys[i]? = some y ∧ zs[i]? = some z,
    fun i H v H' => ∃ T x y z, v = .ref T ∧ H T = none ∧ H' = upd H T (.tup [x, y, z]) ∧ (∀ xs, SqT K H a xs → xs[i]? = some x) ∧ (∀ ys, SqT K H b ys → ys[i]? = some y) ∧ ∀ zs, SqT K H c zs → zs[i]? = some z,
    fun i H => ∃ xs ys zs : List V, SqT K H a xs ∧ SqT K H b ys ∧ SqT K H c zs ∧ xs.length = i ∧ ys.length = i ∧ zs.length = i⟩
theorem turn_z {P : Program} {w : World} {K : PySem.W.Frag} {elts : List Expr} {kk : Nat} {tpos : Pos} {a b c z TI TO i1 i2 i3 : Addr} (na : i1 ≠ a) (nb : i2 ≠ b) (nc : i3 ≠ c)
    (S : ZipSep3 z TI TO i1 i2 i3 [i1, a] [i2, b] [i3, c]) :
    Turn P w K (.Tuple elts kk tpos) (ItZ K a b c) [z, TI, TO, i1, i2, i3] z (fun i h => IsZip h z TI TO .none ∧ IsTupOf3 h TI (.ref i1) (.ref i2) (.ref i3) ∧ (∃ x y u, IsTupOf3 h TO x y u) ∧ h.IsTupleIter i1 a i ∧ h.IsTupleIter i2 b i ∧ h.IsTupleIter i3 c i) where
  mem := by simp
  obj := fun i h st d hd => by
    obtain ⟨hz, hTI, ⟨x, y, u, hTO⟩, ⟨o1, e1, _, d1⟩, ⟨o2, e2, _, d2⟩, ⟨o3, e3, _, d3⟩⟩ := st
    have e' : d = z ∨ d = TI ∨ d = TO ∨ d = i1 ∨ d = i2 ∨ d = i3 := by simpa using hd
    rcases e' with q | q | q | q | q | q
    · rw [q]; exact ⟨_, hz, fun v q => nomatch q⟩
    · rw [q]; exact ⟨_, hTI, fun v q => nomatch q⟩
    · rw [q]; exact ⟨_, hTO, fun v q => nomatch q⟩
    · rw [q]; exact ⟨o1, e1, fun v q => by rw [d1] at q; cases q⟩
    · rw [q]; exact ⟨o2, e2, fun v q => by rw [d2] at q; cases q⟩
    · rw [q]; exact ⟨o3, e3, fun v q => by rw [d3] at q; cases q⟩
  keep := fun i h h' st k => by
    obtain ⟨hz, hTI, ⟨x, y, u, hTO⟩, h1, h2, h3⟩ := st
    exact ⟨k z (by simp) _ hz, k TI (by simp) _ hTI, ⟨x, y, u, k TO (by simp) _ hTO⟩, h1.at fun o q => k i1 (by simp) o q, h2.at fun o q => k i2 (by simp) o q, h3.at fun o q => k i3 (by simp) o q⟩
  item := by
    intro X hP hw hK hc i pins s σ H E I hf st hg
    subst hP hw hK
    obtain ⟨hz, hTI, hTO, h1, h2, h3⟩ := st
    obtain ⟨xs, ys, zs, x, y, u, hqx, hqy, hqz, hx, hy, hu⟩ := hg
    obtain ⟨its, rv, p, _⟩ := I.tuple hqx
    obtain ⟨its2, rv2, p2, _⟩ := I.tuple hqy
    obtain ⟨its3, rv3, p3, _⟩ := I.tuple hqz
    obtain ⟨u1, hu1, ru1⟩ := rv.get hx
    obtain ⟨u2, hu2, ru2⟩ := rv2.get hy
    obtain ⟨u3, hu3, ru3⟩ := rv3.get hu
    have lt1 : i < its.toArray.size := by have := (List.getElem?_eq_some_iff.mp hu1).1; simpa using this
    have lt2 : i < its2.toArray.size := by have := (List.getElem?_eq_some_iff.mp hu2).1; simpa using this
    have lt3 : i < its3.toArray.size := by have := (List.getElem?_eq_some_iff.mp hu3).1; simpa using this
    have D1 := Draws.tuple (prog := X.prog) (w := X.w) (A := X.A.in1) (I.ok.hd hc) i1 a na.symm its.toArray
    have D2 := Draws.tuple (prog := X.prog) (w := X.w) (A := X.A.in1) (I.ok.hd hc) i2 b nb.symm its2.toArray
    have D3 := Draws.tuple (prog := X.prog) (w := X.w) (A := X.A.in1) (I.ok.hd hc) i3 c nc.symm its3.toArray
    have G := GoesN.zip3 (prog := X.prog) (w := X.w) (A := X.A) (elts := elts) (x1 := kk) (pos := tpos) S D1 D2 D3
    refine wpAny_mono (G.goes i s (fun v s2 => ∃ x' H', Inv X pins σ H' s2 ∧ RelV x' v ∧ (ItZ X.K a b c).yld i H x' H' ∧ ((IsZip s2.heap z TI TO .none ∧ IsTupOf3 s2.heap TI (.ref i1) (.ref i2) (.ref i3) ∧ (∃ x y u, IsTupOf3 s2.heap TO x y u) ∧ s2.heap.IsTupleIter i1 a (i + 1) ∧ s2.heap.IsTupleIter i2 b (i + 1) ∧ s2.heap.IsTupleIter i3 c (i + 1)) ∧ ∀ d ∈ [z, TI, TO, i1, i2, i3], H' d = none)) E (by omega) ⟨hz, hTI, hTO, ⟨h1, p⟩, ⟨h2, p2⟩, ⟨h3, p3⟩⟩ ?_) (fun r s1 ⟨v, e1, h1⟩ => ⟨v, e1, wpAny_mono h1 (fun _ s2 ⟨x', H', q1, q2, q3, q4, q5⟩ => ⟨x', H', q1, q2, q3, q4, q5⟩) fun _ _ z => z⟩) fun _ _ z => z
    rintro v h' tk ⟨T, v1, v2, v3, rfl, hT, w1, w2, w3, hTup⟩ ⟨g1, g2, g3, ⟨g4, _⟩, ⟨g5, _⟩, ⟨g6, _⟩⟩ hk _
    have e1 : v1 = u1 := by
      have h1 : its[i]? = some v1 := by simpa using w1
      rw [hu1] at h1
      exact (Option.some.inj h1).symm
    have e2 : v2 = u2 := by
      have h1 : its2[i]? = some v2 := by simpa using w2
      rw [hu2] at h1
      exact (Option.some.inj h1).symm
    have e3 : v3 = u3 := by
      have h1 : its3[i]? = some v3 := by simpa using w3
      rw [hu3] at h1
      exact (Option.some.inj h1).symm
    subst e1 e2 e3
    have new : ObjOk X.prog X.w (upd H T (.tup [x, y, u])) h' T (.tup [x, y, u]) :=
      ⟨by show 3 ≤ sizeLine; decide, [v1, v2, v3], .cons ru1 (.cons ru2 (.cons ru3 .nil)), hTup⟩
    have I1 : Inv X pins σ (upd H T (.tup [x, y, u])) { s with heap := h', toks := tk } := I.turnedNew (ch := [z, TI, TO, i1, i2, i3]) (fun b o hb e => hk b o (fun q => hb (by
      have : b = z ∨ b = TO ∨ b = i1 ∨ b = i2 ∨ b = i3 := by simpa using q
      rcases this with r | r | r | r | r <;> simp [r])) e) hf hT new
    refine ⟨.ref T, _, I1, rfl, ⟨T, x, y, u, rfl, I.hok.fresh hT, rfl, fun ys hy => by rw [I.tuple_inj hy hqx]; exact hx, fun ys hy' => by rw [I.tuple_inj hy' hqy]; exact hy, fun ys hy' => by rw [I.tuple_inj hy' hqz]; exact hu⟩, ⟨g1, g2, g3, g4, g5, g6⟩, fun d hd => ?_⟩
    have hd' : d < s.heap.objs.size := by
      obtain ⟨_, _, _, hTO⟩ := hTO
      have e' : d = z ∨ d = TI ∨ d = TO ∨ d = i1 ∨ d = i2 ∨ d = i3 := by simpa using hd
      rcases e' with q | q | q | q | q | q
      · rw [q]; exact Heap.lt_size hz
      · rw [q]; exact Heap.lt_size hTI
      · rw [q]; exact Heap.lt_size hTO
      · rw [q]; obtain ⟨_, e, _⟩ := h1; exact Heap.lt_size e
      · rw [q]; obtain ⟨_, e, _⟩ := h2; exact Heap.lt_size e
      · rw [q]; obtain ⟨_, e, _⟩ := h3; exact Heap.lt_size e
    rw [upd_ne (Nat.ne_of_lt (Nat.lt_of_lt_of_le hd' hT))]
    exact (hf d hd).1
  done := by
    intro X hP hw hK hc i pins s σ H E I hf st hg
    subst hP hw hK
    obtain ⟨hz, hTI, hTO, h1, h2, h3⟩ := st
    obtain ⟨xs, ys, zs, hqx, hqy, hqz, hx, hy, hu⟩ := hg
    obtain ⟨its, rv, p, _⟩ := I.tuple hqx
    obtain ⟨its2, rv2, p2, _⟩ := I.tuple hqy
    obtain ⟨its3, rv3, p3, _⟩ := I.tuple hqz
    have l1 := rv.length
    have l2 := rv2.length
    have l3 := rv3.length
    have D1 := Draws.tuple (prog := X.prog) (w := X.w) (A := X.A.in1) (I.ok.hd hc) i1 a na.symm its.toArray
    have D2 := Draws.tuple (prog := X.prog) (w := X.w) (A := X.A.in1) (I.ok.hd hc) i2 b nb.symm its2.toArray
    have D3 := Draws.tuple (prog := X.prog) (w := X.w) (A := X.A.in1) (I.ok.hd hc) i3 c nc.symm its3.toArray
    have G := GoesN.zip3 (prog := X.prog) (w := X.w) (A := X.A) (elts := elts) (x1 := kk) (pos := tpos) S D1 D2 D3
    have hn : min (min its.toArray.size its2.toArray.size) its3.toArray.size = i := by
      rw [List.size_toArray, List.size_toArray, List.size_toArray]
      omega
    exact G.stops s (fun s1 => Inv X pins σ H s1) E (by rw [hn]; exact ⟨hz, hTI, hTO, ⟨h1, p⟩, ⟨h2, p2⟩, ⟨h3, p3⟩⟩) fun h' tk hk _ => I.turnedL (ch := [z, TI, TO, i1, i2, i3]) (fun b o hb e => hk b o (fun q => hb (by
      have : b = z ∨ b = TO ∨ b = i1 ∨ b = i2 ∨ b = i3 := by simpa using q
      rcases this with r | r | r | r | r <;> simp [r])) e) hf
  self := fun A i s Q E st h => wpAny_pyIter_zip st.1 h
def zip3L : List PyData → List PyData → List PyData → List PyData
  | x :: xs, y :: ys, z :: zs => .tuple [x, y, z] :: zip3L xs ys zs
  | _, _, _ => []
def zip3D : List PyData → Option (List PyData)
  | [.tuple xs, .tuple ys, .tuple zs] => if xs.length = ys.length ∧ ys.length = zs.length then some (zip3L xs ys zs) else none
  | _ => none
def iZip3 (fs : Rho → R (List PyData)) : Rho → R (List PyData) := fun ρ => (fs ρ).bind fun ds => lift (zip3D ds)
theorem zip3L_length : ∀ xs ys zs : List PyData, xs.length = ys.length → ys.length = zs.length → (zip3L xs ys zs).length = xs.length
  | [], [], [], _, _ => rfl
  | x :: xs, y :: ys, z :: zs, h1, h2 => by
    show (zip3L xs ys zs).length + 1 = xs.length + 1
    rw [zip3L_length xs ys zs (by simpa using h1) (by simpa using h2)]
  | [], _ :: _, _, h, _ => by simp at h
  | _ :: _, [], _, h, _ => by simp at h
  | [], [], _ :: _, _, h => by simp at h
  | _ :: _, _ :: _, [], _, h => by simp at h
theorem zip3L_get : ∀ (xs ys zs : List PyData) (i : Nat) (x y z : PyData), xs[i]? = some x → ys[i]? = some y → zs[i]? = some z → (zip3L xs ys zs)[i]? = some (.tuple [x, y, z])
  | x :: xs, y :: ys, z :: zs, 0, _, _, _, h1, h2, h3 => by
    simp at h1 h2 h3
    subst h1 h2 h3
    rfl
  | x :: xs, y :: ys, z :: zs, i + 1, _, _, _, h1, h2, h3 => by
    show (zip3L xs ys zs)[i]? = _
    exact zip3L_get xs ys zs i _ _ _ (by simpa using h1) (by simpa using h2) (by simpa using h3)
  | [], _, _, _, _, _, _, h, _, _ => by simp at h
  | _ :: _, [], _, _, _, _, _, _, h, _ => by simp at h
  | _ :: _, _ :: _, [], _, _, _, _, _, _, h => by simp at h
theorem walk_z {K : PySem.W.Frag} {H0 : Hp} {a b c : Addr} {xs ys zs : List V} {ds es fs : List PyData} {o o2 o3 : Obj} (h1 : H0 a = some (.frz o (.tup xs))) (h2 : H0 b = some (.frz o2 (.tup ys))) (h3 : H0 c = some (.frz o3 (.tup zs)))
    (d1 : DuAll K H0 xs ds) (d2 : DuAll K H0 ys es) (d3 : DuAll K H0 zs fs) (l1 : ds.length = es.length) (l2 : es.length = fs.length) : Walk (ItZ K a b c) (zip3L ds es fs).length (fun H => Same H0 H) (YD K H0 false (zip3L ds es fs)) := by
  rw [zip3L_length ds es fs l1 l2]
  refine ⟨fun i H hi s => ?_, fun H s => ⟨xs, ys, zs, SqT.frz (s _ _ h1), SqT.frz (s _ _ h2), SqT.frz (s _ _ h3), d1.length, by rw [d2.length]; omega, by rw [d3.length]; omega⟩, fun i H v H' hi s ⟨T, x, y, z, e1, e2, e3, e4, e5, e6⟩ => ?_⟩
  · have hx : i < xs.length := by rw [d1.length]; exact hi
    have hy : i < ys.length := by rw [d2.length]; omega
    have hz : i < zs.length := by rw [d3.length]; omega
    exact ⟨xs, ys, zs, xs[i], ys[i], zs[i], SqT.frz (s _ _ h1), SqT.frz (s _ _ h2), SqT.frz (s _ _ h3), List.getElem?_eq_getElem hx, List.getElem?_eq_getElem hy, List.getElem?_eq_getElem hz⟩
  · obtain ⟨d, q1, q2⟩ := d1.get' (e4 xs (SqT.frz (s _ _ h1)))
    obtain ⟨e, q3, q4⟩ := d2.get' (e5 ys (SqT.frz (s _ _ h2)))
    obtain ⟨f, q5, q6⟩ := d3.get' (e6 zs (SqT.frz (s _ _ h3)))
    exact ⟨.tuple [d, e, f], zip3L_get _ _ _ _ _ _ _ q1 q3 q5, .inr ⟨rfl, T, _, _, e1, e2, e3, rfl, .cons q2 (.cons q4 (.cons q6 .nil))⟩⟩
section
variable {X : Cx} {W : Wish} {p pos : Pos} {fs : Rho → R (List PyData)}
theorem nin2 {α : Type} {x y z : α} (h : x ≠ y) (h' : x ≠ z) : x ∉ [y, z] := by simp [h, h']
theorem zsep {n a b c : Nat} (ha : a < n) (hb : b < n) (hc : c < n) : ZipSep3 (n + 5) (n + 3) (n + 4) n (n + 1) (n + 2) [n, a] [n + 1, b] [n + 2, c] := by
  have k : ∀ {x y : Nat}, (x < y ∨ y < x) → @Ne Addr x y := fun h e => by
    have e' : (_ : Nat) = _ := e
    omega
  constructor <;> first
    | exact List.mem_cons_self ..
    | exact k (by omega)
    | exact nin2 (k (by omega)) (k (by omega))
theorem id_zip3 {e1 e2 e3 : Expr} {tpos : Pos} {elts : List Expr} {kk : Nat} (hg : Gl X "zip") (hm : X.mg "zip" = none) (ha : EDs X W [e1, e2, e3] fs) (hs : starEach [e1, e2, e3] X.env = (false, eval e1 X.env) :: starEach [e2, e3] X.env := by rfl) (hpl : (backTo pos (starEach [e2, e3] X.env)).any (·.1) = false := by rfl) :
    ID X W (.Tuple elts kk tpos) (.Call (.Name "zip" p) [e1, e2, e3] [] pos) false (iZip3 fs) := by
  refine ⟨fun pins s σ H Rk I ⟨H0, ρ, sm, en, h⟩ => ?_⟩
  refine Call_ (ld_blt I hg hm PyProof.Rows.boot_zip (PyProof.Rows.callWith_type1 (thn (ha.run pos pins s σ H (fun vs H1 => ∃ a b c xs ys zs, vs = [.ref a, .ref b, .ref c] ∧ SqT X.K H1 a xs ∧ SqT X.K H1 b ys ∧ SqT X.K H1 c zs ∧ Rk (ItZ X.K a b c) H1) I (tDs_bind sm en h (fun c q => q) fun ds hd vs H1 H01 e1 d1 => ?_)) fun us s1 ⟨vs, H1, I1, r1, a, b, c, xs, ys, zs, hv, hx, hy, hz, q1⟩ => ?_) hs hpl))
  · obtain ⟨es, hds, q⟩ := lift_wp hd
    unfold zip3D at hds
    split at hds
    · obtain ⟨⟨l1, l2⟩, rfl⟩ := ite_some hds
      cases d1 with
      | cons g1 d1 =>
        cases d1 with
        | cons g2 d1 =>
          cases d1 with
          | cons g3 d1 =>
            cases d1
            cases g1 with
            | tup a1 a2 a3 =>
              cases g2 with
              | tup b1 b2 b3 =>
                cases g3 with
                | tup c1 c2 c3 => exact ⟨_, _, _, _, _, _, rfl, SqT.frz (e1.sub _ _ a1), SqT.frz (e1.sub _ _ b1), SqT.frz (e1.sub _ _ c1), q _ H1 H01 e1 (walk_z a1 b1 c1 a3 b3 c3 l1 l2)⟩
    · cases hds
  · subst hv
    cases r1 with
    | cons r rr =>
      cases rr with
      | cons r' rr =>
        cases rr with
        | cons r'' rr =>
          cases rr
          cases r
          cases r'
          cases r''
          obtain ⟨its, rv, p1, _⟩ := I1.tuple hx
          obtain ⟨its2, rv2, p2, _⟩ := I1.tuple hy
          obtain ⟨its3, rv3, p3, _⟩ := I1.tuple hz
          obtain ⟨o1, ho1, _⟩ := id p1
          obtain ⟨o2, ho2, _⟩ := id p2
          obtain ⟨o3, ho3, _⟩ := id p3
          have la := Heap.lt_size ho1
          have lb := Heap.lt_size ho2
          have lc := Heap.lt_size ho3
          refine zip_begins3 (begins_tuple a its.toArray) (begins_tuple b its2.toArray) (begins_tuple c its3.toArray) p1 p2 p3 fun h' hz hTI hTO h1 h2 h3 hsz hk => wpAny_pyIter_zip hz ?_
          have I2 : Inv X pins σ H1 { s1 with heap := h' } := I1.kept (t' := s1.toks) hk
          refine ⟨s1.heap.objs.size + 5, [s1.heap.objs.size + 5, s1.heap.objs.size + 3, s1.heap.objs.size + 4, s1.heap.objs.size, s1.heap.objs.size + 1, s1.heap.objs.size + 2], _, _, H1, rfl, I2, turn_z (Nat.ne_of_gt la) (Nat.ne_of_gt (Nat.lt_of_lt_of_le lb (Nat.le_add_right _ _))) (Nat.ne_of_gt (Nat.lt_of_lt_of_le lc (Nat.le_add_right _ _))) (zsep la lb lc), ⟨hz, hTI, ⟨_, _, _, hTO⟩, ⟨_, h1, rfl, rfl⟩, ⟨_, h2, rfl, rfl⟩, ⟨_, h3, rfl, rfl⟩⟩, fun d hd => ?_, q1⟩
          have hle : s1.heap.objs.size ≤ d := by
            have e' : d = s1.heap.objs.size + 5 ∨ d = s1.heap.objs.size + 3 ∨ d = s1.heap.objs.size + 4 ∨ d = s1.heap.objs.size ∨ d = s1.heap.objs.size + 1 ∨ d = s1.heap.objs.size + 2 := by simpa using hd
            rcases e' with z | z | z | z | z | z
            · rw [z]; exact Nat.le_add_right _ _
            · rw [z]; exact Nat.le_add_right _ _
            · rw [z]; exact Nat.le_add_right _ _
            · rw [z]; exact Nat.le_refl _
            · rw [z]; exact Nat.le_add_right _ _
            · rw [z]; exact Nat.le_add_right _ _
          exact I1.fpOk hle (I1.hok.fresh hle)
end
@[simp] theorem s_iZip3 (fs : Rho → R (List PyData)) (ρ : Rho) : iZip3 fs ρ = (fs ρ).bind fun ds => lift (zip3D ds) := rfl
end Pu

namespace Pu
open PySem PySem.Spec PyProof.Rows L2
/-! ### len(set(a list of tuples of ints)) -/
def dedT : List (List Int) → List (List Int)
  | [] => []
  | a :: r => if a ∈ dedT r then dedT r else a :: dedT r
theorem dedT_mem : ∀ (r : List (List Int)) (x : List Int), x ∈ dedT r ↔ x ∈ r
  | [], x => .rfl
  | a :: r, x => by
    unfold dedT
    split
    · rename_i h
      rw [dedT_mem r, List.mem_cons]
      constructor
      · exact .inr
      · rintro (rfl | q)
        · exact (dedT_mem r x).mp h
        · exact q
    · rw [List.mem_cons, List.mem_cons, dedT_mem r]
theorem dedT_nodup : ∀ r : List (List Int), (dedT r).Nodup
  | [] => .nil
  | a :: r => by
    unfold dedT
    split
    · exact dedT_nodup r
    · rename_i h
      exact List.nodup_cons.mpr ⟨h, dedT_nodup r⟩
def cLenSet : List PyData → Option PyData
  | [.list xs] => (tupsOf xs).bind fun ts => if ts.length < 64 then some (.int (dedT ts).length) else none
  | _ => none
theorem refs_all {K : PySem.W.Frag} {H0 : Hp} : ∀ {ts : List (List Int)} {xs : List V}, DuAll K H0 xs (ts.map encT) → ∃ ks : List (Addr × List Int), xs = ks.map (fun p => V.ref p.1) ∧ ks.map (·.2) = ts ∧ ∀ p ∈ ks, SqT K H0 p.1 (p.2.map V.int)
  | [], xs, h => by cases h; exact ⟨[], rfl, rfl, fun p hp => by simp at hp⟩
  | t :: ts, xs, h => by
    rw [List.map_cons] at h
    cases h with
    | cons h1 h2 =>
      obtain ⟨ks, e1, e2, e3⟩ := refs_all h2
      unfold encT at h1
      cases h1 with
      | @tup a ys _ o g1 g2 g3 =>
        rw [g3.ints] at g1
        refine ⟨(a, t) :: ks, by rw [e1]; rfl, by rw [← e2]; rfl, fun p hp => ?_⟩
        rcases List.mem_cons.mp hp with rfl | hp
        · exact SqT.frz g1
        · exact e3 p hp
def rLenT (K : PySem.W.Frag) (P : Program) (w : World) : List V → Hp → VK → Prop := fun vs H Q => ∃ (a : Addr) (L : List (Addr × List Int)), vs = [V.ref a] ∧ H a = some (SetTO P w a L) ∧ (∀ p ∈ L, SqT K H p.1 (p.2.map V.int)) ∧ ((L.map (·.2)).Nodup → Q (.int L.length) H)
theorem nodup_len {α : Type} [DecidableEq α] {xs ys : List α} (h : xs.Nodup) (h' : ys.Nodup) (e : ∀ x, x ∈ xs ↔ x ∈ ys) : xs.length = ys.length :=
  Nat.le_antisymm (List.Nodup.length_le_of_subset h fun x hx => (e x).mp hx) (List.Nodup.length_le_of_subset h' fun x hx => (e x).mpr hx)
section
variable {X : Cx}
theorem cr_lenT : CallR X (.builtin "len") (rLenT X.K X.prog X.w) := by
  intro pins s σ H vs us Q I r h
  obtain ⟨a, L, rfl, ha, hk, q⟩ := h
  rw [Vals.ref1 r]
  have R0 : SetT0 X.prog X.w s.heap a L := (I.hok a _ ha).1
  obtain ⟨es, ep, t, R⟩ := R0.full fun p hp => I.isT (hk p hp)
  obtain ⟨o, ho, hex, hd⟩ := R.ob
  have hz := R.size
  have hf := R.few
  exact call_len_set ho hex hd R.fits (by rw [hz]; omega) ⟨.int L.length, H, I.tok _, ⟨_, by rw [hz]⟩, q R.nd⟩
end
section
variable {X : Cx} {W : Wish} {e : Expr} {f : Rho → R PyData} {p p2 pos pos2 : Pos}
theorem ed_lenSet (hc : X.calm = true) (hu : X.A.units + 64 < cLine) (hg : Gl X "len") (hm : X.mg "len" = none) (hg2 : Gl X "set") (hm2 : X.mg "set" = none) (he : ED X W e f)
    (na : starEach [e] X.env = (false, eval e X.env) :: starEach [] X.env := by rfl)
    (na2 : starEach [.Call (.Name "set" p2) [e] [] pos2] X.env = (false, eval (.Call (.Name "set" p2) [e] [] pos2) X.env) :: starEach [] X.env := by rfl) :
    ED X W (.Call (.Name "len" p) [.Call (.Name "set" p2) [e] [] pos2] [] pos) (eCB cLenSet (aCons f aNil)) := by
  refine PE_imp (pe_callB cr_lenT hg hm bb_len (pa_cons (pe_callTy (cr_setOfT hc hu) hg2 hm2 bb_set (pa_cons he pa_nil na) (by decide) (by decide) na rfl) pa_nil na2) (by decide) (by decide) na2 rfl) fun σ H Q ⟨H0, ρ, s, en, h⟩ => ?_
  have h' : (((f ρ).bind fun x => R.ok [x]).bind fun ds => lift (cLenSet ds)).wp _ _ := h
  rw [R.bind_assoc] at h'
  refine tD_bind s en h' (fun c q => q) fun x h1 v H1 H01 e1 d1 => ?_
  obtain ⟨ds, hds, q⟩ := lift_wp h1
  unfold cLenSet at hds
  split at hds
  · rename_i heq
    simp only [List.cons.injEq, and_true] at heq
    subst heq
    obtain ⟨ts, hn, h2⟩ := Option.bind_eq_some_iff.mp hds
    obtain ⟨hl, rfl⟩ := ite_some h2
    have hi := tupsOf_e hn
    subst hi
    cases d1 with
    | lst k1 k2 =>
      obtain ⟨ks, e2, e3, e4⟩ := refs_all k2
      subst e2
      have hkl : ks.length < 64 := by
        have := congrArg List.length e3
        rw [List.length_map] at this
        omega
      refine ⟨_, ks, rfl, e1.sub.seq k1, fun p hp => Same.sqt e1.sub (e4 p hp), hkl, fun a L ha hL1 hL2 => ?_⟩
      have en := Ext.new e1.sub ha (o := SetTO X.prog X.w a L)
      refine ⟨a, L, rfl, upd_same, fun p hp => Same.sqt en.s (Same.sqt e1.sub (e4 p (hL1 p hp))), fun nd => ?_⟩
      have hlen : L.length = (dedT ts).length := by
        have := nodup_len nd (dedT_nodup ts) fun t => by
          rw [dedT_mem, ← e3]
          constructor
          · intro ht
            obtain ⟨p, hp, rfl⟩ := List.mem_map.mp ht
            exact List.mem_map.mpr ⟨p, hL1 p hp, rfl⟩
          · intro ht
            obtain ⟨p, hp, rfl⟩ := List.mem_map.mp ht
            exact hL2 p hp
        rwa [List.length_map] at this
      rw [hlen]
      exact q _ _ _ (e1.trans en) (.int _)
  · cases hds
end
end Pu

namespace Pu
open PySem PySem.Spec PyProof.Rows L2
/-! ### a written dict of the top: texts to ints -/
structure DicIn (K : PySem.W.Frag) (w : World) (mg : Str → Option Value) (x : Str) (T : List (Str × Int)) : Prop where
  ex : ∃ (a : Addr) (es : Array DictEntry) (n : Nat), mg x = some (.ref a) ∧ K.lookup a = some ⟨.type "dict", none, .dict es n, #[]⟩ ∧ PySem.W.KeysLit w.params es.toList ∧ (a == sysModules) = false ∧
    ∀ z : Str, (∀ i, T.lookup z = some i → ∃ t, findBy Value.isStrOf es z = some (.int i t)) ∧ (T.lookup z = none → findBy Value.isStrOf es z = none)
theorem dicIn_of {K : PySem.W.Frag} {w : World} {mg : Str → Option Value} {x : Str} {T : List (Str × Int × Tok × Tok)} {a : Addr} {es : Array DictEntry} {n : Nat} (hm : mg x = some (.ref a)) (hl : K.lookup a = some ⟨.type "dict", none, .dict es n, #[]⟩) (hs : (a == sysModules) = false)
    (he : es.toList = T.map fun r => ⟨PyData.keyHash w.params r.1, .str r.1 r.2.2.1, .int r.2.1 r.2.2.2⟩) : DicIn K w mg x (T.map fun r => (r.1, r.2.1)) := by
  refine ⟨a, es, n, hm, hl, ?_, hs, fun z => ?_⟩
  · rw [he]
    clear he
    induction T with
    | nil => exact trivial
    | cons r T ih => exact ⟨⟨r.1, r.2.2.1, rfl, rfl⟩, ih⟩
  · have key : ∀ (T : List (Str × Int × Tok × Tok)), (∀ i, (T.map fun r => (r.1, r.2.1)).lookup z = some i → ∃ t, ((T.map fun r => (⟨PyData.keyHash w.params r.1, .str r.1 r.2.2.1, .int r.2.1 r.2.2.2⟩ : DictEntry)).find? fun e => Value.isStrOf z e.key).map (·.val) = some (.int i t)) ∧
        ((T.map fun r => (r.1, r.2.1)).lookup z = none → ((T.map fun r => (⟨PyData.keyHash w.params r.1, .str r.1 r.2.2.1, .int r.2.1 r.2.2.2⟩ : DictEntry)).find? fun e => Value.isStrOf z e.key).map (·.val) = none) := by
      intro T
      induction T with
      | nil => exact ⟨fun i h => by simp at h, fun _ => rfl⟩
      | cons r T ih =>
        rw [List.map_cons, List.map_cons, List.lookup_cons, List.find?_cons]
        have hk : Value.isStrOf z (.str r.1 r.2.2.1) = (z == r.1) := by
          first
          | rfl
          | (show (r.1 == z) = (z == r.1); exact Bool.beq_comm)
          | (simp [Value.isStrOf])
        simp only
        rw [hk]
        cases h : (z == r.1) with
        | true =>
          refine ⟨fun i hi => ?_, fun hi => ?_⟩
          · cases hi
            exact ⟨_, rfl⟩
          · cases hi
        | false => exact ih
    have hf : findBy Value.isStrOf es z = (es.toList.find? fun e => Value.isStrOf z e.key).map (·.val) := by
      unfold findBy
      rw [Array.find?_toList]
    rw [hf, he]
    exact key T
def cGet (T : List (Str × Int)) : List PyData → Option PyData
  | [.str z, d] => some (match T.lookup z with | some i => .int i | none => d)
  | _ => none
section
variable {X : Cx} {W : Wish} {x : Str} {T : List (Str × Int)} {p0 apos cpos pos : Pos} {e : Expr} {es : List Expr} {fs : Rho → R (List PyData)} {f : Rho → R PyData}
theorem ed_szGet (D : DicIn X.K X.w X.mg x T) (hg : Gl X x) (ha : EDs X W (e :: es) fs) (hdb : (x == ("__debug__" : Str)) = false := by decide)
    (hbase : attributeBase (.Name x p0) "get" X.env (eval (.Name x p0) X.env) = eval (.Name x p0) X.env := by rfl)
    (hfew : ((backTo cpos (starEach (e :: es) X.env)).all (fun x => !x.1) && (backToKw cpos (keywordEach [] X.env)).all (fun x => x.1.isSome)
      && decide ((e :: es).length + ([] : List Keyword).length + (if ([] : List Keyword).isEmpty then 0 else 1) < 30)) = true := by rfl)
    (hline : (apos.endLine == cpos.line) = true := by rfl) (hs : starEach (e :: es) X.env = (false, eval e X.env) :: starEach es X.env := by rfl) (hplain : (backTo cpos (starEach es X.env)).any (·.1) = false := by rfl) :
    ED X W (.Call (.Attribute (.Name x p0) "get" apos) (e :: es) [] cpos) (eCB (cGet T) fs) := by
  obtain ⟨a, des, n, hm, hl, hk, hsys, hfind⟩ := D.ex
  refine ⟨fun pins s σ H Q I ⟨H0, ρ, sm, en, h⟩ => ?_⟩
  refine wpAny_Call_method_late hbase hfew hline rfl (thn ((pe_glob (X := X) (v := .ref a) (pos := p0) hg hm rfl hdb).run pins s σ H (fun y H1 => y = .ref a ∧ H1 = H) I ⟨rfl, rfl⟩) fun v s1 ⟨y, H1, I1, r1, hy, hH⟩ => ?_)
  subst hy hH
  cases r1
  have hob : s1.heap.get? a = some ⟨.type "dict", none, .dict des n, #[]⟩ := I1.kIn _ _ hl
  refine ⟨"dict", "dict.get", PySem.F.plainAttrs_dict, PySem.F.slot_dict_get, PySem.F.type_dict_get, ⟨_, hob, rfl⟩, fun b q => by cases q; exact ⟨_, hob, rfl⟩, ?_⟩
  have hA := ha.run cpos pins s1 σ H1 (fun vs H2 => rDn X.K (cGet T) vs H2 Q) I1 (tDs_bind sm en h (fun c q H' hs => q H' hs) fun ds h2 vs H2 H02 e2 d2 => by
    obtain ⟨d, hd, hq⟩ := lift_wp h2
    exact ⟨H02, ds, d, e2.sub, d2, hd, fun v H' H0' e3 d3 => hq v H' H0' (e2.trans e3) d3⟩)
  rw [hs] at hA ⊢
  refine Calls.callWith_builtin (by show (false || (backTo cpos (starEach es X.env)).any (·.1)) = false; rw [hplain] <;> rfl) (Calls.evalArgs_plain ?_)
  refine thn hA fun us s2 ⟨vs, H2, I2, r2, H02, ds, d, sm2, du, ho, q⟩ => ?_
  unfold cGet at ho
  split at ho
  · rename_i z dd
    cases ho
    cases du with
    | cons d1 du =>
      cases du with
      | cons d2 du =>
        cases du
        cases d1
        cases r2 with
        | cons r3 r2 =>
          cases r2 with
          | cons r4 r2 =>
            cases r2
            obtain ⟨t, rfl⟩ := r3
            have hm' := PySem.W.mapOf_K (prog := X.prog) (w := X.w) I2.kIn hl hk
            refine call_meetsIn PySem.F.slot_dict_get hm'.typeIs PySem.F.entry_dict_get (PySem.F.args_dict_get_3 _ _ _) (meets_dict_get_default (strKind X.prog X.w) a (strKind_is X.prog X.w z t) hsys _) ⟨_, hm', ?_⟩
            cases hz : T.lookup z with
            | some i =>
              obtain ⟨t', ht⟩ := (hfind z).1 i hz
              rw [ht]
              rw [hz] at q
              exact ⟨.int i, H2, I2.tok _, ⟨_, rfl⟩, q _ H2 H02 (Ext.refl sm2) (.int i)⟩
            | none =>
              rw [(hfind z).2 hz]
              rw [hz] at q
              exact ⟨_, H2, I2.tok _, r4, q _ H2 H02 (Ext.refl sm2) d2⟩
  · cases ho
end
/-! ### lists put together, a new one -/
def catL : PyData → PyData → Option (List PyData)
  | .list xs, .list ys => if xs.length + ys.length ≤ 1000000 then some (xs ++ ys) else none
  | _, _ => none
def fCat (f g : Rho → R PyData) : Rho → R (List PyData) := fun ρ => (f ρ).bind fun x => (g ρ).bind fun y => lift (catL x y)
section
variable {X : Cx} {W : Wish} {pos : Pos} {a b : Expr} {f g : Rho → R PyData}
theorem ef_cat (ha : ED X W a f) (hb : ED X W b g) : EF X W (.BinOp a .Add b pos) (fCat f g) := by
  refine PE_imp (pe_op op_catLN ha hb) fun σ H Q ⟨H0, ρ, s, en, h⟩ => ?_
  refine tD_bind s en h (fun c q => q) fun x h1 v H1 H01 e1 d1 => ?_
  refine tD_bind e1.sub (en.mono e1.s0) h1 (fun c q H' hs => q H' (e1.s.trans hs)) fun y h2 u H2 H02 e2 d2 => ?_
  obtain ⟨ds, hd, q⟩ := lift_wp h2
  unfold catL at hd
  split at hd
  · obtain ⟨hl, rfl⟩ := ite_some hd
    have d1' := Du.mono e2.s0 _ _ d1
    cases d1' with
    | lst k1 k2 =>
      cases d2 with
      | lst g1 g2 =>
        exact ⟨_, _, _, _, rfl, rfl, e2.sub.seq k1, e2.sub.seq g1, by rw [k2.length, g2.length]; exact small6 hl, newL_f e2.sub (k2.append g2) fun p vs H' H0' e3 n1 n2 n3 n4 => q p vs H' H0' (e1.trans (e2.trans e3)) ((e1.s.trans e2.s).free n1) n2 n3 n4⟩
  · cases hd
end
@[simp] theorem s_fCat (f g : Rho → R PyData) (ρ : Rho) : fCat f g ρ = (f ρ).bind fun x => (g ρ).bind fun y => lift (catL x y) := rfl
@[simp] theorem s_catL (x y : List PyData) : catL (.list x) (.list y) = if x.length + y.length ≤ 1000000 then some (x ++ y) else none := rfl
@[simp] theorem s_cGet (T : List (Str × Int)) (z : Str) (d : PyData) : cGet T [.str z, d] = some (match T.lookup z with | some i => .int i | none => d) := rfl
end Pu

namespace Pu
open PySem PySem.Spec PyProof.Rows L2
/-! ### own errors over ValueError: raised, caught, asked -/
structure XIn (K : PySem.W.Frag) (mg : Str → Option Value) (x : Str) (C : Addr) : Prop where
  g : mg x = some (.ref C)
  ex : PySem.W.excIn K C [.type "ValueError", .type "Exception", .type "BaseException", .type "object"] "ValueError.__new__" = true
  kp : PySem.W.keepIn K (.ref C) = true
  sb : PySem.W.subIn K (.ref C) (.type "BaseException") = some true
  ty : PySem.W.typeIn K (.ref C) = some (.type "type")
def sEx (c : Nat) : Rho → R Out := fun _ => .ex c
@[simp] theorem s_sEx (c : Nat) (ρ : Rho) : sEx c ρ = .ex c := rfl
section
variable {X : Cx} {ec : Ec} {W : Wish} {x m : Str} {C : Addr} {c j : Nat} {p p2 pos pos' : Pos}
theorem sd_raise (cx : Ctx X ec W) (D : XIn X.K X.mg x C) (he : ec c = .ref C) (hg : Gl X x) (hdb : (x == ("__debug__" : Str)) = false := by decide) : SD X W (.Raise (some (.Call (.Name x p) [.Constant (.str m) j p2] [] pos)) none pos') (sEx c) := by
  refine PS_imp (ps_raise cx.calm cx.tk (pmk_own PySem.F.excBase_ValueError D.ex D.g D.kp (raises_own D.sb D.ty) hg hdb)) fun Dn σ H ⟨F, H0e, He, ρ, h, q⟩ => ?_
  obtain ⟨⟨H0', hF, hE, _⟩, _⟩ := h
  exact ⟨c, he.symm, rfl, q σ H hE.s⟩
end
/-- what is asked of the class that the clause names, of the caught error's class D and of those it is asked about -/
structure Caught (K : PySem.W.Frag) (cls : Value) (H A B : Addr) : Prop where
  ex : ∃ D : Addr, cls = .ref D ∧ PySem.W.exmOne K (.ref D) (.ref H) = some true ∧ ExcC K D ∧ PySem.W.kitOne K (.ref D) (.ref A) = some true ∧ PySem.W.kitOne K (.ref D) (.ref B) = some false ∧ PySem.W.kitOne K (.ref D) (.type "ValueError") = some true
def sTry (j i : Nat) (f : Rho → R PyData) (P : Nat → Bool) : Rho → R Out := fun ρ => match f ρ with
  | .ok d => .ok (.nx (ρ.set j (.d d)))
  | .ex c => if P c = true ∧ i < ρ.length then .ok (.nx ((List.replicate ρ.length .un).set j (.d .none))) else .no
  | .no => .no
theorem bb_isinstance : bootBuiltins "isinstance" = some (.builtin "isinstance") := by decide +kernel
theorem bb_ValueError : bootBuiltins "ValueError" = some (.type "ValueError") := by decide +kernel
section
variable {X : Cx} {ec : Ec} {W : Wish}
theorem sd_tryIs {e : Expr} {f : Rho → R PyData} {P : Nat → Bool} {i j : Nat} {y n hx ax bx : Str} {Hc Ac Bc : Addr} {q1 q2 q3 q4 q5 q6 q7 q8 q9 qa qb qc qd qe qf qg qh qi qj qk ql qm : Pos} {z : Nat}
    (cx : Ctx X ec W) (hs : X.stack = X.env :: X.outer) (hf : X.env.frame = some X.env.locals) (hj : X.N[j]? = some y) (hi : X.N[i]? = some n) (hij : i ≠ j) (hlj : X.env.scope.names.lookup y = some .local) (hln : X.env.kindOf n = some .local)
    (hvn : Vis X.env.scope n) (hly : Loc X.env.scope y) (hnd : (n == ("__debug__" : Str)) = false) (hnc : (n == ("__classdict__" : Str)) = false)
    (gH : Gl X hx) (mH : X.mg hx = some (.ref Hc)) (gA : Gl X ax) (mA : X.mg ax = some (.ref Ac)) (gB : Gl X bx) (mB : X.mg bx = some (.ref Bc)) (gI : Gl X "isinstance") (mI : X.mg "isinstance" = none) (gV : Gl X "ValueError") (mV : X.mg "ValueError" = none)
    (dH : (hx == ("__debug__" : Str)) = false) (dA : (ax == ("__debug__" : Str)) = false) (dB : (bx == ("__debug__" : Str)) = false)
    (hP : ∀ c, P c = true → Caught X.K (ec c) Hc Ac Bc)
    (he : ∀ (W' : Wish) (pn : List (Addr × Obj)) (xe : Value → Shared → Prop), Ctx (X.tr pn xe) ec W' → ED (X.tr pn xe) W' e f)
    (sw : swapsWith e (some (.Name y q1)) q2.line X.env = pure false) :
    SD X W (.Try [.Assign [.Name y q1] e q2] [.ExceptHandler (some (.Name hx q3)) (some n) [.If (.BoolOp .And [.Call (.Name "isinstance" q4) [.Name n q5, .Name ax q6] [] q7, .UnaryOp .Not (.Call (.Name "isinstance" q8) [.Name n q9, .Name bx qa] [] qb) qc, .Call (.Name "isinstance" qd) [.Name n qe, .Name "ValueError" qf] [] qg] qh)
      [.Assign [.Name y qi] (.Constant .none z qj) qk] [] ql] qm] [] [] pos) (sTry j i f P) := by
  refine PS_imp (ps_try_as (c := .ref Hc) (Wout := wx ec W) (tb := fun V D σ H => tD X.K (fun c σ H => V (ec c) none σ H) f σ H fun x H1 => D.nx (σ.set j (some x)) H1)
    (ts := fun a cls d D σ H => ∃ Dd, cls = .ref Dd ∧ d = none ∧ ExcC X.K Dd ∧ PySem.W.kitOne X.K (.ref Dd) (.ref Ac) = some true ∧ PySem.W.kitOne X.K (.ref Dd) (.ref Bc) = some false ∧ PySem.W.kitOne X.K (.ref Dd) (.type "ValueError") = some true ∧ σ[i]? = some (some (.ref a)) ∧ D.nx (σ.set j (some .non)) H)
    hs hf cx.nd hi hln ⟨gH, dH, .inl mH⟩ cx.tk (fun V pn xe tk po => ?_) fun a oe cls d pn hz hv => ?_) fun D σ H h => ?_
  · refine pss_one (ps_set (X := X.tr pn xe) cx.nd hj hly (he (fun c σ H => V (ec c) none σ H) pn xe ⟨cx.calm, cx.nd, Takes.imp tk fun cls d σ H hh => ?_, po⟩) sw (.inr hlj))
    obtain ⟨c, e1, e2, h⟩ := hh
    rw [e1, e2]
    exact h
  · refine ⟨fun pins s σ H Dn I h => ?_⟩
    obtain ⟨Dd, rfl, rfl, C, k1, k2, k3, hσ, hq⟩ := h
    have pvn : ∀ {ps : Pos}, PE (X.suite a ((a, oe) :: pn)) (.Name n ps) (tVar i) := fun {ps} => pe_var (X := X.suite a ((a, oe) :: pn)) hi hvn hnd hnc
    refine (PSs_imp (pss_one (ps_if (PW.pt (pw_and (pt_truth (pe_callB (call_isE C hz hv) gI mI bb_isinstance (pa_cons pvn (pa_cons (pe_glob (v := .ref Ac) gA mA rfl dA) pa_nil)) (by decide) (by decide) (by rfl) (by rfl)) (by intro _; rfl))
      (pw_and (pt_not (pt_truth (pe_callB (call_isE C hz hv) gI mI bb_isinstance (pa_cons pvn (pa_cons (pe_glob (v := .ref Bc) gB mB rfl dB) pa_nil)) (by decide) (by decide) (by rfl) (by rfl)) (by intro _; rfl)))
        (pw_and1 (pt_truth (pe_callB (call_isE C hz hv) gI mI bb_isinstance (pa_cons pvn (pa_cons (pe_bltn (v := .ty "ValueError") gV mV bb_ValueError rfl) pa_nil)) (by decide) (by decide) (by rfl) (by rfl)) (by intro _; rfl))))))
      (pss_one (ps_set (X := X.suite a ((a, oe) :: pn)) cx.nd hj hly pe_non (by rfl) (.inr hlj))) pss_nil)) fun D' σ' H' hh => hh).run pins s σ H Dn I ?_
    refine ⟨.ref a, hσ, .ref Ac, .ref Ac, true, rfl, fun u r => r, k1, true, rfl, ?_⟩
    refine ⟨.ref a, hσ, .ref Bc, .ref Bc, false, rfl, fun u r => r, k2, false, rfl, ?_⟩
    refine ⟨.ref a, hσ, .ty "ValueError", .type "ValueError", true, rfl, fun u r => r, k3, true, rfl, ?_⟩
    exact hq
  · obtain ⟨F, H0e, He, ρ, ⟨⟨H0, hF, hE, en, own, ap⟩, len⟩, q⟩ := h
    refine ⟨H0, ρ, hE.sub, en, ?_⟩
    unfold sTry at q
    cases hfr : f ρ with
    | no => rw [hfr] at q; exact q.elim
    | ok d =>
      rw [hfr] at q
      intro v H' H0' ex du
      refine q _ _ (stok_set (hF.trans ex.s0) (hE.trans ex) (en.mono ex.s0) (fun k xs hk => ?_) ap len du)
      obtain ⟨p, vs, o1, o2, o3, o4, o5⟩ := own k xs hk
      exact ⟨p, vs, o1, ex.s _ _ o2, by rw [ex.old p (by rw [o2]; simp)]; exact o3, o4, DuAll.mono ex.s0 _ _ o5⟩
    | ex c =>
      rw [hfr] at q
      have q : (if P c = true ∧ i < ρ.length then R.ok (Out.nx ((List.replicate ρ.length Slot.un).set j (.d .none))) else R.no).wp (EndOk X.K F H0e He D) (fun c => ∀ σ' H', Same He H' → W c σ' H') := q
      intro H' hsame
      by_cases hc : P c = true ∧ i < ρ.length
      · have q' : EndOk X.K F H0e He D (.nx ((List.replicate ρ.length Slot.un).set j (.d .none))) := by
          rw [if_pos hc] at q
          exact q
        obtain ⟨Dd, e1, e2, C, k1, k2, k3⟩ := (hP c hc.1).ex
        refine ⟨true, by rw [e1]; exact e2, fun _ a ha => ?_, fun z => by cases z⟩
        refine ⟨Dd, e1, rfl, C, k1, k2, k3, ?_, ?_⟩
        · rw [List.getElem?_set_self (by omega)]
        · refine q' _ _ ⟨⟨fz H0 H H', hF.trans (Ext.all hE.sub hsame).s0, hE.trans (Ext.all hE.sub hsame), ⟨fun k x hk => ?_, by simp [len]⟩, fun k xs hk => ?_, fun k k2 xs ys p _ hk => ?_⟩, by simp [len]⟩
          · rcases set_cases hk with ⟨rfl, e, hl⟩ | ⟨_, hk⟩
            · cases e
              rw [List.length_replicate] at hl
              refine ⟨.non, ?_, .non⟩
              rw [List.getElem?_set_ne hij, List.getElem?_set_self (by rw [List.length_set]; omega)]
            · rw [List.getElem?_replicate] at hk
              split at hk <;> cases hk
          · rcases set_cases hk with ⟨_, e, _⟩ | ⟨_, hk⟩
            · cases e
            · rw [List.getElem?_replicate] at hk
              split at hk <;> cases hk
          · rcases set_cases hk with ⟨_, e, _⟩ | ⟨_, hk⟩
            · cases e
            · rw [List.getElem?_replicate] at hk
              split at hk <;> cases hk
      · rw [if_neg hc] at q
        exact q.elim
end
theorem cls_some {K : PySem.W.Frag} {B : Addr} (h : PySem.W.hasDictIn K B = true) : (PySem.W.clsIn K B).isSome = true := by
  obtain ⟨cd, hc, _⟩ := PySem.W.any_some h
  rw [hc]
  rfl
theorem caught_of {K : PySem.W.Frag} {D H B : Addr} (C : ExcC K D) (h1 : PySem.W.subIn K (.ref H) (.type "BaseException") = some true) (h2 : PySem.W.hasDictIn K H = true) (h3 : PySem.W.typeIn K (.ref H) = some (.type "type")) (h4 : PySem.W.subIn K (.ref D) (.ref H) = some true)
    (b1 : PySem.W.hasDictIn K B = true) (b2 : PySem.W.typeIn K (.ref B) = some (.type "type")) (b3 : PySem.W.subIn K (.ref D) (.ref B) = some false) (d1 : PySem.W.subIn K (.ref D) (.ref D) = some true) (v : PySem.W.subIn K (.ref D) (.type "ValueError") = some true) : Caught K (.ref D) H D B := by
  refine ⟨D, rfl, PySem.W.exm_ref h1 h2 h3 h4, C, ?_, ?_, ?_⟩
  · unfold PySem.W.kitOne
    rw [if_pos (beq_self_eq_true _)]
  · unfold PySem.W.kitOne
    have hne : ¬ ((Value.ref D == Value.ref B) = true) := by
      intro q
      have e : D = B := Value.ref.inj (beq_iff_eq.mp q)
      subst e
      rw [d1] at b3
      cases b3
    rw [if_neg hne]
    show (if ((PySem.W.clsIn K B).isSome && PySem.W.typeIn K (.ref B) == some (.type "type")) = true then PySem.W.subIn K (.ref D) (.ref B) else none) = _
    rw [cls_some b1, b2, if_pos (by rfl)]
    exact b3
  · unfold PySem.W.kitOne
    have hne : ¬ ((Value.ref D == Value.type "ValueError") = true) := by
      intro q
      cases (beq_iff_eq.mp q)
    rw [if_neg hne]
    show (if PySem.W.kitMeta "ValueError" = true then PySem.W.subIn K (.ref D) (.type "ValueError") else none) = _
    rw [if_pos (by decide +kernel)]
    exact v
@[simp] theorem s_sTry (j i : Nat) (f : Rho → R PyData) (P : Nat → Bool) (ρ : Rho) : sTry j i f P ρ = match f ρ with
  | .ok d => .ok (.nx (ρ.set j (.d d)))
  | .ex c => if P c = true ∧ i < ρ.length then .ok (.nx ((List.replicate ρ.length .un).set j (.d .none))) else .no
  | .no => .no := rfl
end Pu

namespace Pu
open PySem PySem.Spec PyProof.Rows L2
/-! ### a dict display of texts, subscripted at once -/
theorem mergeK_new : ∀ (more acc : List (Key × V)), ((acc ++ more).map (·.1)).Nodup → mergeK acc more = acc ++ more
  | [], acc, _ => by rw [List.append_nil]; rfl
  | p :: r, acc, h => by
    show mergeK (putK acc p.1 p.2) r = _
    have hn : (acc.any fun kv => decide (kv.1 = p.1)) = false := by
      rw [List.any_eq_false]
      intro q hq e
      rw [decide_eq_true_eq] at e
      rw [List.map_append, List.map_cons] at h
      have := (List.nodup_append.mp h).2.2 q.1 (List.mem_map.mpr ⟨q, hq, rfl⟩) p.1 (by simp)
      exact this e
    have hp : putK acc p.1 p.2 = acc ++ [p] := by
      unfold putK
      rw [hn, if_neg Bool.false_ne_true]
    rw [hp, mergeK_new r (acc ++ [p]) (by rw [List.append_assoc]; exact h), List.append_assoc]
    rfl
def dispK (T : List (Str × Str)) : List (Key × V) := T.map fun r => (.inr r.1, .str r.2)
theorem dispK_val (z : Str) : ∀ T : List (Str × Str), valV (dispK T) (.inr z) = (T.lookup z).map .str
  | [] => rfl
  | r :: T => by
    have ih := dispK_val z T
    show valV (((.inr r.1 : Key), (V.str r.2)) :: dispK T) (.inr z) = _
    by_cases h : r.1 = z
    · rw [valV_pos (by rw [h]), List.lookup_cons, h]
      simp
    · rw [valV_neg (by intro e; cases e; exact h rfl), ih, List.lookup_cons]
      have : (z == r.1) = false := by rw [beq_eq_false_iff_ne]; exact fun e => h e.symm
      rw [this]
def dispT (T : List (Str × Str)) : List (TE × TE) := T.map fun r => (tC (.str r.1), tC (.str r.2))
theorem disp_pairs {σ : L2.St} : ∀ (T : List (Str × Str)) {H : Hp} {Q : List (V × V) → Hp → Prop}, Q (T.map fun r => (.str r.1, .str r.2)) H → tPairs (dispT T) σ H Q
  | [], _, _, h => h
  | r :: T, H, Q, h => by
    show tPairs (dispT T) σ H _
    exact disp_pairs T h
def dispAt (T : List (Str × Str)) : PyData → Option PyData
  | .str z => (T.lookup z).map .str
  | _ => none
def eDisp (T : List (Str × Str)) (f : Rho → R PyData) : Rho → R PyData := fun ρ => (f ρ).bind fun d => lift (dispAt T d)
section
variable {X : Cx} {W : Wish} {pos pos' : Pos} {e : Expr} {keys : List (Option Expr)} {values : List Expr} {f : Rho → R PyData}
theorem ed_disp (T : List (Str × Str)) (hu : X.A.units + 65 < cLine) (h : PPs X pos keys values (dispT T)) (he : ED X W e f) (hall : keys.all (·.isSome) = true := by rfl) (hl : keys.length = values.length := by rfl) (h0 : keys ≠ [] := by simp)
    (h15 : keys.length ≤ 15 := by decide) (hT : ((dispK T).map (·.1)).Nodup := by decide) (h15T : T.length ≤ 15 := by decide) (hs : NoSl e := by intro _ _; rfl) : ED X W (.Subscript (.Dict keys values pos) e pos') (eDisp T f) := by
  refine PE_imp (pe_dget (by omega) (pe_disp h hall hl h0 h15) he hs) fun σ H Q ⟨H0, ρ, s, en, q⟩ => ?_
  intro p hp
  refine disp_pairs T ⟨upd_same, dispK T, ?_, by unfold dispK; rw [List.length_map]; exact h15T, ?_⟩
  · unfold dispK
    rw [List.map_map]
    rfl
  · rw [mergeK_new _ _ (by rw [List.nil_append]; exact hT), List.nil_append, upd_upd]
    have s1 : Same H (upd H p (.dK (dispK T))) := same_upd hp
    refine tD_bind (s.trans s1) en q (fun c q H' hs => q H' (s1.trans hs)) fun d h1 v H1 H01 e1 d1 => ?_
    obtain ⟨x, hx, hq⟩ := lift_wp h1
    unfold dispAt at hx
    split at hx
    · rename_i z
      cases d1
      obtain ⟨y, hy, rfl⟩ := Option.map_eq_some_iff.mp hx
      refine ⟨p, .str y, rfl, .inl ⟨dispK T, .inr z, .inl (e1.s _ _ upd_same), rfl, by rw [dispK_val, hy]; rfl⟩, ?_⟩
      refine hq _ H1 H01 ⟨s1.trans e1.s, e1.s0, e1.sub, fun a ha => e1.old a fun z => ha ?_⟩ (.str y)
      by_cases hap : a = p
      · rw [hap]; exact hp
      · rw [upd_ne hap] at z; exact z
    · cases hx
end
end Pu

namespace Pu
open PySem PySem.Spec PyProof.Rows L2
/-! ### return tuple([x.pop(e) for ..]), x a list of the def's own -/
theorem DuAll.erase {K : PySem.W.Frag} {H : Hp} : ∀ {vs : List V} {ds : List PyData} (k : Nat), DuAll K H vs ds → DuAll K H (vs.eraseIdx k) (ds.eraseIdx k)
  | [], _, _, h => by cases h; exact .nil
  | v :: vs, _, 0, h => by
    cases h with
    | cons h1 h2 => exact h2
  | v :: vs, _, k + 1, h => by
    cases h with
    | cons h1 h2 => exact .cons h1 (DuAll.erase k h2)
def lcP (g : Bnd) (e : Rho → R PyData) : List PyData → List PyData → Rho → Option (List PyData)
  | [], _, _ => some []
  | d :: ds, xs, ρ => match g d ρ with
    | none => none
    | some ρ1 => match e ρ1 with
      | .ok (.int k) => if 0 ≤ k ∧ k < 1000000 then (match xs[k.toNat]? with
        | some y => (lcP g e ds (xs.eraseIdx k.toNat) ρ).map (y :: ·)
        | none => none) else none
      | _ => none
def sRetPop (i : Nat) (it : Rho → R (List PyData)) (vs : List Nat) (g : Bnd) (e : Rho → R PyData) : Rho → R Out := fun ρ => (lift (ownAt i ρ)).bind fun xs => (it ρ).bind fun ds => if ds.length ≤ 1000000 then (lift (lcP g e ds xs (wipeR ρ vs))).bind fun ys => .ok (.rt (.tuple ys)) else .no
def tPop (K : PySem.W.Frag) (i : Nat) (f : Rho → R PyData) : TE := tBM K "list" rPopAt (tVar i) (tCons (tD K W0 f) tNil)
theorem pe_popD {X : Cx} {x : Str} {e : Expr} {p1 apos cpos : Pos} {f : Rho → R PyData} (i : Nat) (he : ED X W0 e f) (hi : X.N[i]? = some x := by rfl) (hv : Vis X.env.scope x := by first | exact Or.inl rfl | exact Or.inr (Or.inl rfl) | exact Or.inr (Or.inr rfl))
    (hd : (x == ("__debug__" : Str)) = false := by decide) (hcd : (x == ("__classdict__" : Str)) = false := by decide)
    (hbase : attributeBase (.Name x p1) "pop" X.env (eval (.Name x p1) X.env) = eval (.Name x p1) X.env := by rfl)
    (hfew : ((backTo cpos (starEach [e] X.env)).all (fun x => !x.1) && (backToKw cpos (keywordEach [] X.env)).all (fun x => x.1.isSome)
      && decide ([e].length + ([] : List Keyword).length + (if ([] : List Keyword).isEmpty then 0 else 1) < 30)) = true := by rfl)
    (hline : (apos.endLine == cpos.line) = true := by rfl) (hs' : starEach [e] X.env = (false, eval e X.env) :: starEach [] X.env := by rfl) (hplain : (backTo cpos (starEach [] X.env)).any (·.1) = false := by rfl) :
    PE X (.Call (.Attribute (.Name x p1) "pop" apos) [e] [] cpos) (tPop X.K i f) :=
  pe_bm PySem.F.plainAttrs_list PySem.F.slot_list_pop PySem.F.type_list_pop mt_popAt (pe_var hi hv hd hcd) (pa_cons he pa_nil hs') hbase hfew hline hs' hplain
section
variable {X : Cx} {W : Wish} {elt tg iter : Expr} {scope : Scope} {own : List (Str × Nat)} {pos pos' pos'' pn : Pos} {b : Bool} {it : Rho → R (List PyData)} {g : Bnd} {e : Rho → R PyData} {is : List Nat}
theorem sd_retPop (i : Nat) (hc : X.calm = true) (hN : X.N.Nodup) (ok : BlkOk X.N X.env.scope scope own) (hv : ∀ j ∈ is, j ∈ own.map (·.2)) (hni : i ∉ own.map (·.2)) (hgl : Gl X "tuple") (hm : X.mg "tuple" = none) (hi : ID X W tg iter b it)
    (hg : ∀ (s : Shared) (H : Hp) (C : Addr) (cl : List (Str × Addr)) (fp : List Addr), GD (X.blk s H scope (compEnvC scope cl C X.env) fp) b tg is g)
    (he : ∀ (s : Shared) (H : Hp) (C : Addr) (cl : List (Str × Addr)) (fp : List Addr), PE (X.blk s H scope (compEnvC scope cl C X.env) fp) elt (tPop X.K i e)) (hs : ∀ x, foldedSetIterable iter X.env x = pure x := by intro _; rfl)
    (hst : starEach [.ListComp elt [⟨tg, iter, [], 0⟩] scope pos] X.env = (false, eval (.ListComp elt [⟨tg, iter, [], 0⟩] scope pos) X.env) :: starEach [] X.env := by rfl) (hpl : (backTo pos' (starEach [] X.env)).any (·.1) = false := by rfl) :
    SD X W (.Return (some (.Call (.Name "tuple" pn) [.ListComp elt [⟨tg, iter, [], 0⟩] scope pos] [] pos')) pos'') (sRetPop i it (own.map (·.2)) g e) := by
  refine PS_imp (ps_ret (pe_callTy cd_tup hgl hm bb_tuple (pa_cons (pe_lc (g := gD X.K b is g) (wi := iD X.K W b it) (te := tPop X.K i e) hc hN hi ok hg (fun s H C cl fp => pts_nil) he hs) pa_nil hst) (by decide) (by decide) hst hpl)) fun D σ H ⟨F, H0e, He, ρ, h, q⟩ => ?_
  generalize own.map (·.2) = vs' at *
  obtain ⟨⟨H0, a, b', c, ow, ap⟩, l⟩ := h
  obtain ⟨xs0, hk, q⟩ := lift_wp (R.wp_bind q)
  have hk := ownAt_e hk
  obtain ⟨p, vs0, q1, q2, q3, q4, q5⟩ := ow i xs0 hk
  refine ⟨H0, ρ, b'.sub, c, R.wp_mono (R.wp_bind q) (fun ds hd J H1 H01 e1 w => fun Dd hD => ?_) fun c q H' hs => q σ H' (b'.s.trans hs)⟩
  by_cases hl : ds.length ≤ 1000000
  · rw [if_pos hl] at hd
    obtain ⟨ys, hys, hq⟩ := lift_wp (R.wp_bind hd)
    have hD0 : H01 Dd = none := e1.sub.free hD
    have E1 := b'.trans e1
    have hDe : He Dd = none := E1.s.free hD
    have n1p : H1 p = some (.lst vs0) := e1.s _ _ q2
    have n0p : H01 p = none := by rw [e1.old p (by rw [q2]; simp)]; exact q3
    have hpD : p ≠ Dd := fun z => by rw [z, hD] at n1p; cases n1p
    refine lc_it w (fun j H => ∃ H0c vl ds1 vs xs rest, Same H01 H0c ∧ Ext H0e He H0c H ∧ H Dd = some (.lst vl) ∧ H0c Dd = none ∧ DuAll X.K H0c vl ds1 ∧ ds1.length ≤ j ∧ H p = some (.lst vs) ∧ H0c p = none ∧ DuAll X.K H0c vs xs ∧ lcP g e (ds.drop j) xs (wipeR ρ vs') = some rest ∧ ds1 ++ rest = ys)
      ⟨H01, [], [], vs0, xs0, ys, Same.refl _, ⟨E1.s.trans (same_upd hD), E1.s0, E1.sub.trans (same_upd hD), E1.old⟩, upd_same, hD0, .nil, Nat.zero_le _, by rw [upd_ne hpD]; exact n1p, n0p, DuAll.mono e1.s0 _ _ q5, hys, rfl⟩
      (fun j H _ ⟨H0c, vl, ds1, vs, xs, rest, s1, ex, _⟩ => s1.trans ex.sub) (fun j x H2 H3 hi ⟨H0c, vl, ds1, vs, xs, rest, s1, ex, n1, n2, n3, n4, m1, m2, m3, n5, n6⟩ y => ?_) fun H2 ⟨H0c, vl, ds1, vs, xs, rest, s1, ex, n1, n2, n3, n4, m1, m2, m3, n5, n6⟩ => ?_
    · rw [List.drop_eq_getElem_cons hi] at n5
      obtain ⟨d, hd', y⟩ := y
      rw [List.getElem?_eq_getElem hi] at hd'
      have ed : ds[j] = d := Option.some.inj hd'
      rw [ed] at n5
      have enw : EnvR X.K H01 (wipe σ vs') (wipeR ρ vs') := env_wipe (c.mono e1.s0) vs'
      obtain ⟨ex3, n1', m1', tk⟩ : Ext H0e He H0c H3 ∧ H3 Dd = some (.lst vl) ∧ H3 p = some (.lst vs) ∧ Took X.K H0c H3 b x d := by
        rcases y with ⟨rfl, dx⟩ | ⟨hb, T, xs, es, rfl, hT, rfl, rfl, dx⟩
        · exact ⟨ex, n1, m1, .inl (Du.mono s1 _ _ dx)⟩
        · have sT : Same H2 (upd H2 T (.tup xs)) := same_upd hT
          exact ⟨⟨ex.s.trans sT, ex.s0, ex.sub.trans sT, ex.old⟩, sT _ _ n1, sT _ _ m1, .inr ⟨hb, T, xs, es, rfl, SqT.of upd_same, DuAll.mono s1 _ _ dx, rfl⟩⟩
      unfold lcP at n5
      cases hg : g d (wipeR ρ vs') with
      | none => rw [hg] at n5; cases n5
      | some ρ1 =>
        rw [hg] at n5
        dsimp only at n5
        refine ⟨H0c, wipeR ρ vs', ρ1, d, ex3.sub, enw.mono s1, enw.len, tk, hg, fun σ' l1 l2 en' out no => ⟨?_, ?_⟩⟩
        · refine wipe_agree vs' (by rw [l1, wipe_length]) fun j hj => ?_
          rw [(out j fun z => hj (hv j z)).1, wipe_out hj]
        · show tPop X.K i e σ' H3 _
          refine ⟨.ref p, by rw [(out i fun z => hni (hv i z)).1, wipe_out hni]; exact q1, .inl ⟨rfl, _, SqL.of m1'⟩, ?_⟩
          refine ⟨H0c, ρ1, ex3.sub, en', ?_⟩
          cases he : e ρ1 with
          | no => rw [he] at n5; cases n5
          | ex c => rw [he] at n5; cases n5
          | ok z =>
            rw [he] at n5
            cases z with
            | int k =>
              dsimp only at n5
              by_cases hk2 : 0 ≤ k ∧ k < 1000000
              · rw [if_pos hk2] at n5
                cases hx : xs[k.toNat]? with
                | none => rw [hx] at n5; cases n5
                | some yd =>
                  rw [hx] at n5
                  dsimp only at n5
                  obtain ⟨rest', hr, rfl⟩ := Option.map_eq_some_iff.mp n5
                  intro v H5 H05 e5 dz
                  cases dz
                  obtain ⟨yv, hy, dy⟩ := DuAll.get m3 hx
                  have hlt := (List.getElem?_eq_some_iff.mp hy).1
                  have m5 := e5.s _ _ m1'
                  have o5 : H05 p = none := by rw [e5.old p (by rw [m1']; simp)]; exact m2
                  have n5D := e5.s _ _ n1'
                  have o5D : H05 Dd = none := by rw [e5.old Dd (by rw [n1']; simp)]; exact n2
                  refine ⟨p, vs, k, k.toNat, yv, rfl, rfl, m5, by omega, by omega, ?_, hy, ?_⟩
                  · have h0 : ¬ k < 0 := by omega
                    have h3 : (decide (0 ≤ k) && decide (k < (vs.length : Int))) = true := by
                      rw [Bool.and_eq_true, decide_eq_true_eq, decide_eq_true_eq]
                      omega
                    unfold seqIndex?
                    simp only [if_neg h0]
                    rw [if_pos h3]
                  · have d3 := DuAll.mono e5.s0 _ _ n3
                    have d4 := DuAll.mono e5.s0 _ _ m3
                    have EX := ex3.trans e5
                    refine ⟨vl, by rw [upd_ne (Ne.symm hpD)]; exact n5D, by rw [d3.length]; exact small6' (Nat.le_trans n4 (Nat.le_trans (Nat.le_of_lt hi) hl)), H05, vl ++ [yv], ds1 ++ [yd], vs.eraseIdx k.toNat, xs.eraseIdx k.toNat, rest', s1.trans e5.s0,
                      ⟨fun b' o q => ?_, EX.s0, fun b' o q => ?_, EX.old⟩, upd_same, o5D, d3.append (.one (Du.mono e5.s0 _ _ dy)), by rw [List.length_append, List.length_singleton]; omega, by rw [upd_ne hpD, upd_same], o5, DuAll.erase _ d4, hr, by rw [← n6, List.append_assoc]; rfl⟩
                    · rw [upd_ne (fun z => by rw [z, hDe] at q; cases q), upd_ne (fun z => by rw [z, q4] at q; cases q)]
                      exact EX.s _ _ q
                    · rw [upd_ne (fun z => by rw [z, o5D] at q; cases q), upd_ne (fun z => by rw [z, o5] at q; cases q)]
                      exact EX.sub _ _ q
              · rw [if_neg hk2] at n5; cases n5
            | _ => cases n5
    · rw [List.drop_of_length_le (Nat.le_refl _)] at n5
      cases n5
      rw [List.append_nil] at n6
      subst n6
      have s2 : Same H0c (upd H0c Dd (.lst vl)) := same_upd n2
      have EX : Ext H0e He (upd H0c Dd (.lst vl)) H2 := ⟨ex.s, ex.s0.trans s2, fun b o q => by
        by_cases hb : b = Dd
        · subst hb
          rw [upd_same] at q
          rw [n1, ← q]
        · rw [upd_ne hb] at q
          exact ex.sub _ _ q, fun a ha => by
        rw [upd_ne (fun z => ha (by rw [z]; exact hDe))]
        exact ex.old a ha⟩
      exact ⟨upd H0c Dd (.lst vl), [.list ds1], .tuple ds1, EX.sub, .one (.lst (SqL.of upd_same) (DuAll.mono s2 _ _ n3)), rfl, fun v H' H0' e d => hq v H' H0' (EX.trans e) d⟩
  · rw [if_neg hl] at hd
    exact hd.elim
end
end Pu

namespace Pu
open PySem PySem.Spec PyProof.Rows L2
/-! ### a written dict of the top: d[x], x in d, x not in d -/
def dicAt (T : List (Str × Int)) : PyData → Option PyData
  | .str z => (T.lookup z).map .int
  | _ => none
def eDicAt (T : List (Str × Int)) (f : Rho → R PyData) : Rho → R PyData := fun ρ => (f ρ).bind fun d => lift (dicAt T d)
def dicNotIn (T : List (Str × Int)) : PyData → Option PyData
  | .str z => some (.bool (!(T.lookup z).isSome))
  | _ => none
def eDicNotIn (T : List (Str × Int)) (f : Rho → R PyData) : Rho → R PyData := fun ρ => (f ρ).bind fun d => lift (dicNotIn T d)
section
variable {X : Cx} {W : Wish} {x : Str} {T : List (Str × Int)} {p0 pos : Pos} {e : Expr} {f : Rho → R PyData}
theorem ed_dicAt (D : DicIn X.K X.w X.mg x T) (hg : Gl X x) (he : ED X W e f) (hdb : (x == ("__debug__" : Str)) = false := by decide) (hs : PlainIx e := by exact fun _ _ => rfl) : ED X W (.Subscript (.Name x p0) e pos) (eDicAt T f) := by
  obtain ⟨a, des, n, hm, hl, hk, hsys, hfind⟩ := D.ex
  have hr : IxR X (fun x y H Q => ∃ z i, x = .ref a ∧ y = .str z ∧ T.lookup z = some i ∧ Q (.int i) H) := by
    intro value slice pins s σ H x y v u Q I rx ry h hs
    obtain ⟨z, i, rfl, rfl, hz, q⟩ := h
    obtain rfl : v = Value.ref a := rx
    obtain ⟨t, rfl⟩ := ry
    obtain ⟨t', ht⟩ := (hfind z).1 i hz
    have hm' := PySem.W.mapOf_K (prog := X.prog) (w := X.w) I.kIn hl hk
    exact tail_any hm'.typeIs slot_dict_getitem.lookup (wpAny_getItem_of (strKind_is X.prog X.w z t) hm' ht ⟨.int i, H, I.tok _, ⟨_, rfl⟩, q⟩) hs
  refine PE_imp (pe_ix hr (pe_glob (X := X) (v := .ref a) (pos := p0) hg hm rfl hdb) he hs) fun σ H Q ⟨H0, ρ, s, en, h⟩ => ?_
  refine tD_bind s en h (fun c q => q) fun d h1 v H1 H01 e1 d1 => ?_
  obtain ⟨r, hr, hq⟩ := lift_wp h1
  unfold dicAt at hr
  split at hr
  · rename_i z
    obtain ⟨i, hi, rfl⟩ := Option.map_eq_some_iff.mp hr
    cases d1
    exact ⟨z, i, rfl, rfl, hi, hq _ H1 H01 e1 (.int i)⟩
  · cases hr
theorem op_notIn_d (D : DicIn X.K X.w X.mg x T) {a : Addr} (hx : X.mg x = some (.ref a)) : OpR X (compareOp .NotIn) (fun x y H Q => ∃ z, x = .str z ∧ y = .ref a ∧ Q (.bl (!(T.lookup z).isSome)) H) := by
  obtain ⟨a', des, n, hm, hl, hk, hsys, hfind⟩ := D.ex
  rw [hm] at hx
  cases hx
  intro pins s σ H x y v u Q I rx ry h
  obtain ⟨z, rfl, rfl, q⟩ := h
  obtain ⟨t, rfl⟩ := rx
  cases ry
  refine wpAny_notIn_of (PySem.strKind_is X.prog X.w z t) hsys (PySem.W.mapOf_K (prog := X.prog) (w := X.w) I.kIn hl hk) ?_
  cases hz : T.lookup z with
  | some i =>
    obtain ⟨t', ht⟩ := (hfind z).1 i hz
    rw [ht]
    rw [hz] at q
    exact ⟨.bl false, H, I.tok _, rfl, q⟩
  | none =>
    rw [(hfind z).2 hz]
    rw [hz] at q
    exact ⟨.bl true, H, I.tok _, rfl, q⟩
theorem dni_read {K : PySem.W.Frag} {α : Type} {H0 H : Hp} {ρ : Rho} {σ : L2.St} {Q : VK} {a : Addr} {g : PyData → R α} {P : α → Prop} {E : Nat → Prop} (s : Same H0 H) (en : EnvR K H0 σ ρ) (hw : ((eDicNotIn T f ρ).bind g).wp P E)
    (hE : ∀ c, E c → ∀ H', Same H H' → W c σ H')
    (h : ∀ d, (g d).wp P E → ∀ v H' H0', Ext H0 H H0' H' → Du K H0' v d → Q v H') : tOp (fun x y H Q => ∃ z, x = .str z ∧ y = .ref a ∧ Q (.bl (!(T.lookup z).isSome)) H) (tD K W f) (tC (.ref a)) σ H Q := by
  unfold eDicNotIn at hw
  rw [R.bind_assoc] at hw
  refine tD_bind s en hw hE fun d h1 v H1 H01 e1 d1 => ?_
  obtain ⟨r, hr, hq⟩ := lift_wp (R.wp_bind h1)
  unfold dicNotIn at hr
  split at hr
  · rename_i z
    cases hr
    cases d1
    exact ⟨z, rfl, rfl, h _ hq _ H1 H01 e1 (.bl _)⟩
  · cases hr
theorem td_dicNotIn (D : DicIn X.K X.w X.mg x T) (hg : Gl X x) (he : ED X W e f) (hdb : (x == ("__debug__" : Str)) = false := by decide) (hm' : behindInMarks .NotIn (.Name x p0) = false := by first | exact nomark _ | rfl | with_unfolding_all rfl) : TD X W (.Compare e [.NotIn] [.Name x p0] pos) (tB (eDicNotIn T f)) := by
  obtain ⟨a, des, n, hm, _⟩ := id D.ex
  refine PT_imp (pt_cmpR (op_notIn_d D hm) he (pe_glob (X := X) (v := .ref a) (pos := p0) hg hm rfl hdb) hm') fun σ H Q ⟨H0, ρ, s, en, h⟩ => ?_
  refine dni_read s en h (fun c q => q) fun d hd v H' H0' ex du => ?_
  obtain ⟨k, ek, hq⟩ := lift_wp hd
  cases d with
  | bool k' =>
    cases ek
    cases du
    exact ⟨k, rfl, hq H' H0' ex⟩
  | _ => cases ek
end
/-! ### f-strings -/
def fmtD : PyData → Option PyData
  | .str y => if y.length ≤ 1000000 then some (.str y) else none
  | .int i => if i.natAbs < 1000000 then some (.str (toString i)) else none
  | _ => none
def eFmt (f : Rho → R PyData) : Rho → R PyData := fun ρ => (f ρ).bind fun d => lift (fmtD d)
def jF : List (Rho → R PyData) → Str → Rho → R Str
  | [], acc, _ => .ok acc
  | f :: fs, acc, ρ => (f ρ).bind fun d => match d with
    | .str y => if (acc ++ y).length ≤ 1000000 then jF fs (acc ++ y) ρ else .no
    | _ => .no
def eJoin (fs : List (Rho → R PyData)) : Rho → R PyData := fun ρ => (jF fs Str.empty ρ).bind fun y => .ok (.str y)
inductive JD (X : Cx) (W : Wish) : List Expr → List (Rho → R PyData) → Prop where
  | nil : JD X W [] []
  | cons {e : Expr} {f : Rho → R PyData} {es : List Expr} {fs : List (Rho → R PyData)} (h : ED X W e f) (r : JD X W es fs) : JD X W (e :: es) (f :: fs)
section
variable {X : Cx} {W : Wish} {pos : Pos} {e : Expr} {f : Rho → R PyData}
theorem ed_fmt (h : ED X W e f) : ED X W (.FormattedValue e (-1) none pos) (eFmt f) := by
  refine PE_imp (pe_fmt h) fun σ H Q ⟨H0, ρ, s, en, h⟩ => ?_
  refine tD_bind s en h (fun c q => q) fun d h1 v H1 H01 e1 d1 => ?_
  obtain ⟨r, hr, hq⟩ := lift_wp h1
  unfold fmtD at hr
  split at hr
  · rename_i y
    obtain ⟨hl, rfl⟩ := ite_some hr
    cases d1
    exact .inl ⟨y, rfl, small6 hl, hq _ H1 H01 e1 (.str y)⟩
  · rename_i i
    obtain ⟨hl, rfl⟩ := ite_some hr
    cases d1
    exact .inr ⟨i, rfl, log_small hl, hq _ H1 H01 e1 (.str _)⟩
  · cases hr
theorem jd_pj {es : List Expr} {fs : List (Rho → R PyData)} (h : JD X W es fs) : PJ X es (fs.map (tD X.K W)) := by
  induction h with
  | nil => exact .nil
  | cons h r ih => exact .cons h ih
theorem jf_read {K : PySem.W.Frag} {σ : L2.St} : ∀ (fs : List (Rho → R PyData)) (acc : Str) {H0 H : Hp} {ρ : Rho} {Q : Str → Hp → Prop}, Same H0 H → EnvR K H0 σ ρ → (jF fs acc ρ).wp (fun y => ∀ H' H0', Ext H0 H H0' H' → Q y H') (fun c => ∀ H', Same H H' → W c σ H') → tJs (fs.map (tD K W)) acc σ H Q
  | [], acc, H0, H, ρ, Q, s, _, h => h H H0 (Ext.refl s)
  | f :: fs, acc, H0, H, ρ, Q, s, en, h => by
    have h : ((f ρ).bind fun d => match d with
      | .str y => if (acc ++ y).length ≤ 1000000 then jF fs (acc ++ y) ρ else .no
      | _ => .no).wp (fun y => ∀ H' H0', Ext H0 H H0' H' → Q y H') (fun c => ∀ H', Same H H' → W c σ H') := h
    show tD K W f σ H fun x H1 => ∃ y : Str, x = .str y ∧ (acc ++ y).length ≤ sizeLine ∧ tJs (fs.map (tD K W)) (acc ++ y) σ H1 Q
    refine tD_bind s en h (fun c q => q) fun d h1 v H1 H01 e1 d1 => ?_
    cases d1 with
    | str y =>
      have h1 : (if (acc ++ y).length ≤ 1000000 then jF fs (acc ++ y) ρ else .no).wp (fun y => ∀ H' H0', Ext H0 H H0' H' → Q y H') (fun c => ∀ H', Same H H' → W c σ H') := h1
      by_cases hl : (acc ++ y).length ≤ 1000000
      · rw [if_pos hl] at h1
        exact ⟨y, rfl, small6 hl, jf_read fs (acc ++ y) e1.sub (en.mono e1.s0) (R.wp_mono h1 (fun z hz H' H0' e2 => hz H' H0' (e1.trans e2)) fun c q H' hs => q H' (e1.s.trans hs))⟩
      · rw [if_neg hl] at h1
        exact h1.elim
    | _ => exact h1.elim
theorem ed_joined {v1 v2 : Expr} {rest : List Expr} {fs : List (Rho → R PyData)} (h : JD X W (v1 :: v2 :: rest) fs) : ED X W (.JoinedStr (v1 :: v2 :: rest) pos) (eJoin fs) := by
  refine PE_imp (pe_joined (jd_pj h)) fun σ H Q ⟨H0, ρ, s, en, h⟩ => ?_
  exact jf_read fs Str.empty s en (R.wp_mono (R.wp_bind h) (fun y hy H' H0' e => hy _ H' H0' e (.str y)) fun c q => q)
end
/-! ### a new list by split -/
def splD (x : Str) : PyData → Option (List PyData)
  | .str y => if y.length ≠ 0 ∧ x.length ≤ 1000000 then some ((Txt.split x y).map .str) else none
  | _ => none
def fSplit (f : Rho → R PyData) (g : Rho → R PyData) : Rho → R (List PyData) := fun ρ => (f ρ).bind fun x => match x with
  | .str x => (g ρ).bind fun y => lift (splD x y)
  | _ => .no
section
variable {X : Cx} {W : Wish} {o e : Expr} {apos cpos : Pos} {f g : Rho → R PyData}
theorem ef_split (ho : ED X W o f) (ha : ED X W e g)
    (hbase : attributeBase o "split" X.env (eval o X.env) = eval o X.env := by rfl)
    (hfew : ((backTo cpos (starEach [e] X.env)).all (fun x => !x.1) && (backToKw cpos (keywordEach [] X.env)).all (fun x => x.1.isSome)
      && decide ([e].length + ([] : List Keyword).length + (if ([] : List Keyword).isEmpty then 0 else 1) < 30)) = true := by rfl)
    (hline : (apos.endLine == cpos.line) = true := by rfl) (hs : starEach [e] X.env = (false, eval e X.env) :: starEach [] X.env := by rfl) (hplain : (backTo cpos (starEach [] X.env)).any (·.1) = false := by rfl) :
    EF X W (.Call (.Attribute o "split" apos) [e] [] cpos) (fSplit f g) := by
  refine PE_imp (pe_bm PySem.F.plainAttrs_str PySem.F.slot_str_split PySem.F.type_str_split mt_split ho (pa_cons ha pa_nil hs) hbase hfew hline hs hplain) fun σ H Q ⟨H0, ρ, s, en, h⟩ => ?_
  refine tD_bind s en h (fun c q => q) fun x h1 v H1 H01 e1 d1 => ?_
  cases d1 with
  | str a =>
    refine ⟨rfl, ?_⟩
    refine tD_bind e1.sub (en.mono e1.s0) h1 (fun c q H' hs => q H' (e1.s.trans hs)) fun y h2 u H2 H02 e2 d2 => ?_
    obtain ⟨ds, hd, q⟩ := lift_wp h2
    cases d2 with
    | str b =>
      obtain ⟨⟨hf, hl⟩, rfl⟩ := ite_some hd
      exact ⟨a, b, rfl, rfl, by simpa using hf, by rw [sizeLine_eq]; omega, newL_f e2.sub (DuAll.ofStrs _) fun p vs H' H0' e3 n1 n2 n3 n4 => q p vs H' H0' (e1.trans (e2.trans e3)) ((e1.s.trans e2.s).free n1) n2 n3 n4⟩
    | _ => cases hd
  | _ => exact h1.elim
end
/-! ### what is flat may be read of a list of one's own -/
theorem du_flat {K : PySem.W.Frag} {H H' : Hp} {v : V} {d : PyData} (h : Du K H v d) (f : flatD d = true) : Du K H' v d := by
  cases h with
  | non => exact .non
  | bl b => exact .bl b
  | int i => exact .int i
  | str x => exact .str x
  | lst h1 h2 => cases f
  | tup h1 h2 h3 => cases f
def sSetB (j i : Nat) (f : Rho → R PyData) : Rho → R Out := fun ρ => (f (fzs i ρ)).bind fun d => if flatD d = true then .ok (.nx (ρ.set j (.d d))) else .no
def sSetI (i a : Nat) (f : Rho → R PyData) : Rho → R Out := fun ρ => (lift (ownAt i ρ)).bind fun xs => (f (fzs i ρ)).bind fun d => match ρ[a]? with
  | some (.d (.int k)) => if 0 ≤ k ∧ k.toNat < xs.length ∧ flatD d = true then .ok (.nx (ρ.set i (.own (xs.set k.toNat d)))) else .no
  | _ => .no
theorem DuAll.set {K : PySem.W.Frag} {H : Hp} {v : V} {d : PyData} (hd : Du K H v d) : ∀ {vs : List V} {ds : List PyData} (k : Nat), DuAll K H vs ds → DuAll K H (vs.set k v) (ds.set k d)
  | [], _, _, h => by cases h; exact .nil
  | _ :: _, _, 0, h => by
    cases h with
    | cons h1 h2 => exact .cons hd h2
  | _ :: vs, _, k + 1, h => by
    cases h with
    | cons h1 h2 => exact .cons h1 (DuAll.set hd k h2)
section
variable {X : Cx} {W : Wish} {pos : Pos}
theorem sd_setB {j : Nat} (i : Nat) {x : Str} {e : Expr} {pos' : Pos} {f : Rho → R PyData} (hN : X.N.Nodup) (hj : X.N[j]? = some x) (hx : Loc X.env.scope x) (he : ED X W e f) (hs : swapsWith e (some (.Name x pos')) pos.line X.env = pure false := by rfl) (hf : X.fn x = true ∨ X.env.scope.names.lookup x = some .local := by first | exact .inl rfl | exact .inr rfl | assumption) :
    SD X W (.Assign [.Name x pos'] e pos) (sSetB j i f) := by
  refine PS_imp (ps_set hN hj hx he hs hf) fun D σ H ⟨F, H0e, He, ρ, h, q⟩ => ?_
  obtain ⟨⟨H0, a, b, c, own, ap⟩, l⟩ := id h
  refine st_expr (fzs_stok i h) q fun d hd v H' H1 H1' hF hE ex h' hE' dx en own' ap' => ?_
  obtain ⟨hfl, hq⟩ := ite_wp hd
  have sHH : Same H H' := by
    obtain ⟨⟨Hz, _, bz, _⟩, _⟩ := fzs_stok i h
    exact ex.s
  refine hq _ _ (stok_set a ⟨b.s.trans sHH, b.s0, b.sub.trans sHH, b.old⟩ c (fun k xs hk => ?_) ap l (du_flat dx hfl))
  obtain ⟨p, vs, o1, o2, o3, o4, o5⟩ := own k xs hk
  exact ⟨p, vs, o1, sHH _ _ o2, o3, o4, o5⟩
theorem sd_setI {i a : Nat} {x y : Str} {e : Expr} {p1 p2 p3 : Pos} {f : Rho → R PyData} (hi : X.N[i]? = some x) (ha : X.N[a]? = some y) (hvx : Vis X.env.scope x) (hvy : Vis X.env.scope y) (he : ED X W e f)
    (hdx : (x == ("__debug__" : Str)) = false := by decide) (hcx : (x == ("__classdict__" : Str)) = false := by decide) (hdy : (y == ("__debug__" : Str)) = false := by decide) (hcy : (y == ("__classdict__" : Str)) = false := by decide)
    (hs : swapsWithSole [.Subscript (.Name x p1) (.Name y p2) p3] e pos.line X.env = pure false := by rfl) (hw : swappedStores [.Subscript (.Name x p1) (.Name y p2) p3] e X.env = pure none := by rfl) :
    SD X W (.Assign [.Subscript (.Name x p1) (.Name y p2) p3] e pos) (sSetI i a f) := by
  refine PS_imp (ps_asg he (pg_sub (pe_var hi hvx hdx hcx) (pe_var ha hvy hdy hcy) set_list) hs hw) fun D σ H ⟨F, H0e, He, ρ, h, q⟩ => ?_
  obtain ⟨⟨H0, b0, b, c, own, ap⟩, l⟩ := id h
  obtain ⟨xs, hk, q⟩ := lift_wp (R.wp_bind q)
  have hk := ownAt_e hk
  obtain ⟨p, vs, q1, q2, q3, q4, q5⟩ := own i xs hk
  refine st_expr (fzs_stok i h) q fun d hd v H' H1 H1' hF hE ex h' hE' dx en own' ap' => ?_
  have sHH : Same H H' := ex.s
  split at hd
  · rename_i k hka
    obtain ⟨⟨h1, h2, h3⟩, hq⟩ := ite_wp hd
    obtain ⟨u, u1, u2⟩ := c.at' a _ hka
    cases u2
    have n2 : H' p = some (.lst vs) := sHH _ _ q2
    have hvl : vs.length = xs.length := q5.length
    have dv : Du X.K H0 v d := du_flat dx h3
    refine ⟨_, q1, _, u1, p, vs, k, k.toNat, rfl, rfl, n2, ?_, ?_⟩
    · have hk2 : k = ((k.toNat : Nat) : Int) := by omega
      unfold ixN
      first
      | (rw [if_pos (by omega)]; done)
      | (rw [if_pos h1, if_pos (by omega)])
      | (simp; omega)
    · refine hq _ _ ⟨⟨H0, b0, ⟨fun b' o e => ?_, b.s0, fun b' o e => ?_, b.old⟩, ⟨fun j y r => ?_, by rw [List.length_set]; exact l⟩, fun j ys r => ?_, fun j k2 ys zs p' hjk r1 r2 r3 r4 => ?_⟩, by rw [List.length_set]; exact l⟩
      · rw [upd_ne (fun z => by rw [z, q4] at e; cases e)]
        exact sHH _ _ (b.s _ _ e)
      · rw [upd_ne (fun z => by rw [z, q3] at e; cases e)]
        exact sHH _ _ (b.sub _ _ e)
      · rcases set_cases r with ⟨_, e, _⟩ | ⟨hj, r⟩
        · cases e
        · exact c.at' j y r
      · rcases set_cases r with ⟨ej, e, hl⟩ | ⟨hj, r⟩
        · cases e
          rw [ej]
          exact ⟨p, _, q1, upd_same, q3, q4, DuAll.set dv _ q5⟩
        · obtain ⟨p', vs', r1, r2, r3, r4, r5⟩ := own j ys r
          have hne : p' ≠ p := fun z => ap j i ys xs p' hj r hk r1 (by rw [z]; exact q1)
          exact ⟨p', vs', r1, by rw [upd_ne hne]; exact sHH _ _ r2, r3, r4, r5⟩
      · have back : ∀ {m : Nat} {ws : List PyData}, (ρ.set i (Slot.own (xs.set k.toNat d)))[m]? = some (Slot.own ws) → ∃ ws', ρ[m]? = some (Slot.own ws') := fun {m ws} r => by
          rcases set_cases r with ⟨em, _, _⟩ | ⟨_, r⟩
          · rw [em]; exact ⟨xs, hk⟩
          · exact ⟨ws, r⟩
        obtain ⟨ys', r1⟩ := back r1
        obtain ⟨zs', r2⟩ := back r2
        exact ap j k2 ys' zs' p' hjk r1 r2 r3 r4
  · exact hd.elim
end
section
variable (ρ : Rho)
@[simp] theorem s_eDicAt (T f) : eDicAt T f ρ = (f ρ).bind fun d => lift (dicAt T d) := rfl
@[simp] theorem s_eDicNotIn (T f) : eDicNotIn T f ρ = (f ρ).bind fun d => lift (dicNotIn T d) := rfl
@[simp] theorem s_dicAt (T z) : dicAt T (.str z) = (T.lookup z).map .int := rfl
@[simp] theorem s_dicNotIn (T z) : dicNotIn T (.str z) = some (.bool (!(T.lookup z).isSome)) := rfl
@[simp] theorem s_eFmt (f) : eFmt f ρ = (f ρ).bind fun d => lift (fmtD d) := rfl
@[simp] theorem s_fmtS (y) : fmtD (.str y) = if y.length ≤ 1000000 then some (.str y) else none := rfl
@[simp] theorem s_fmtI (i) : fmtD (.int i) = if i.natAbs < 1000000 then some (.str (toString i)) else none := rfl
@[simp] theorem s_eJoin (fs) : eJoin fs ρ = (jF fs Str.empty ρ).bind fun y => .ok (.str y) := rfl
@[simp] theorem s_jFn (acc) : jF [] acc ρ = .ok acc := rfl
@[simp] theorem s_jFc (f fs acc) : jF (f :: fs) acc ρ = (f ρ).bind fun d => match d with
    | .str y => if (acc ++ y).length ≤ 1000000 then jF fs (acc ++ y) ρ else .no
    | _ => .no := rfl
@[simp] theorem s_fSplit (f g) : fSplit f g ρ = (f ρ).bind fun x => match x with
  | .str x => (g ρ).bind fun y => lift (splD x y)
  | _ => .no := rfl
@[simp] theorem s_sSetB (j i f) : sSetB j i f ρ = (f (fzs i ρ)).bind fun d => if flatD d = true then .ok (.nx (ρ.set j (.d d))) else .no := rfl
@[simp] theorem s_sSetI (i a f) : sSetI i a f ρ = (lift (ownAt i ρ)).bind fun xs => (f (fzs i ρ)).bind fun d => match ρ[a]? with
  | some (.d (.int k)) => if 0 ≤ k ∧ k.toNat < xs.length ∧ flatD d = true then .ok (.nx (ρ.set i (.own (xs.set k.toNat d)))) else .no
  | _ => .no := rfl
end
end Pu

namespace Kc
open PySem PySem.Spec PyProof.Rows L2 Pu
def b_so (f_so : List PyData → R PyData) : Rho → R Out := (sCons (sIf (tB (eOp oEq (eOp oIx (eVar 0) (eK (.int 0))) (eK (.str "is")))) (sRet (eOp oIx (eVar 1) (eOp oIx (eVar 0) (eK (.int 1))))) sNil) (sCons (sIf (tB (eOp oEq (eOp oIx (eVar 0) (eK (.int 0))) (eK (.str "many")))) (sRet (eCB cInt (aCons (eOp oGe (eCB cSum (aCons (eVar 1) aNil)) (eOp oIx (eVar 0) (eK (.int 1)))) aNil))) sNil) (sCons (sIf (tB (eOp oEq (eOp oIx (eVar 0) (eK (.int 0))) (eK (.str "not")))) (sRet (eOp oSub (eK (.int 1)) (eCall f_so (aCons (eOp oIx (eVar 0) (eK (.int 1))) (aCons (eVar 1) aNil))))) sNil) (sCons (sIf (tB (eOp oEq (eOp oIx (eVar 0) (eK (.int 0))) (eK (.str "says")))) (sRet (eCB cInt (aCons (eOp oEq (eOp oIx (eVar 1) (eOp oIx (eVar 0) (eK (.int 1)))) (eCall f_so (aCons (eOp oIx (eVar 0) (eK (.int 2))) (aCons (eVar 1) aNil)))) aNil))) sNil) (sCons (sSet 2 (eCall f_so (aCons (eOp oIx (eVar 0) (eK (.int 1))) (aCons (eVar 1) aNil)))) (sCons (sSet 3 (eCall f_so (aCons (eOp oIx (eVar 0) (eK (.int 2))) (aCons (eVar 1) aNil)))) (sCons (sIf (tB (eOp oEq (eOp oIx (eVar 0) (eK (.int 0))) (eK (.str "and")))) (sRet (eOp oMul (eVar 2) (eVar 3))) sNil) (sCons (sIf (tB (eOp oEq (eOp oIx (eVar 0) (eK (.int 0))) (eK (.str "or")))) (sRet (eCB cMax (aCons (eVar 2) (aCons (eVar 3) aNil)))) sNil) (sRet (eCB cInt (aCons (eOp oEq (eVar 2) (eVar 3)) aNil)))))))))))
def F_so : Nat → List PyData → R PyData
  | 0 => fun _ => .no
  | n + 1 => runD 4 2 (b_so (F_so n))
def b_fits_saying (f_so : List PyData → R PyData) : Rho → R Out := (sRet (eOp oEq (eOp oIx (eVar 1) (eOp oIx (eVar 0) (eK (.int 0)))) (eCall f_so (aCons (eOp oIx (eVar 0) (eK (.int 1))) (aCons (eVar 1) aNil)))))
def F_fits_saying : List PyData → R PyData := runD 2 2 (b_fits_saying (F_so 12))
def e1_fits (f_fits_saying : List PyData → R PyData) : Rho → R PyData := (eCall f_fits_saying (aCons (eVar 2) (aCons (eVar 1) aNil)))
def b_fits (f_fits_saying : List PyData → R PyData) : Rho → R Out := (sRet (eCB cAll (aCons (eL (fLc (iSeq (eOp oIx (eVar 0) (eK (.int 1)))) [2] (bN 2) tYesD (e1_fits f_fits_saying))) aNil)))
def F_fits : List PyData → R PyData := runD 3 2 (b_fits F_fits_saying)
def b_answer (f_fits_saying : List PyData → R PyData) : Rho → R Out := (sRet (eCB cInt (aCons (eCall f_fits_saying (aCons (eVar 1) (aCons (eVar 0) aNil))) aNil)))
def F_answer : List PyData → R PyData := runD 2 2 (b_answer F_fits_saying)
def b__law_cell : Rho → R Out := (sCons (sIf (tB (eOp oLt (eVar 1) (eCB cLen (aCons (eVar 0) aNil)))) (sRet (eOp oIx (eVar 0) (eVar 1))) sNil) (sRet (eK (.int 0))))
def F__law_cell : List PyData → R PyData := runD 2 2 (b__law_cell)
def b__law_mix : Rho → R Out := (sRet (eOp oMod (eOp oMod (eOp oMul (eVar 0) (eK (.int 48271))) (eVar 1)) (eVar 2)))
def F__law_mix : List PyData → R PyData := runD 3 3 (b__law_mix)
def b__law_thing (f__law_mix f__law_thing : List PyData → R PyData) : Rho → R Out := (sCons (sSet 3 (eCall f__law_mix (aCons (eVar 0) (aCons (eK (.int 9973)) (aCons (eK (.int 9)) aNil))))) (sCons (sSet 4 (eCall f__law_mix (aCons (eVar 0) (aCons (eK (.int 9967)) (aCons (eVar 1) aNil))))) (sCons (sIf (tOr (tB (eOp oEq (eVar 2) (eK (.int 0)))) (tB (eOp oLt (eVar 3) (eK (.int 2))))) (sCons (sIf (tB (eOp oEq (eVar 3) (eK (.int 8)))) (sRet (eTup (aCons (eK (.str "many")) (aCons (eCall f__law_mix (aCons (eVar 0) (aCons (eK (.int 9949)) (aCons (eK (.int 8)) aNil)))) aNil)))) sNil) (sRet (eTup (aCons (eK (.str "is")) (aCons (eVar 4) aNil))))) sNil) (sCons (sSet 5 (eCall f__law_thing (aCons (eOp oAdd (eOp oMul (eVar 0) (eK (.int 3))) (eK (.int 1))) (aCons (eVar 1) (aCons (eOp oSub (eVar 2) (eK (.int 1))) aNil))))) (sCons (sIf (tB (eOp oEq (eVar 3) (eK (.int 2)))) (sRet (eTup (aCons (eK (.str "many")) (aCons (eCall f__law_mix (aCons (eVar 0) (aCons (eK (.int 9949)) (aCons (eOp oAdd (eVar 1) (eK (.int 1))) aNil)))) aNil)))) sNil) (sCons (sIf (tB (eOp oEq (eVar 3) (eK (.int 3)))) (sRet (eTup (aCons (eK (.str "not")) (aCons (eVar 5) aNil)))) sNil) (sCons (sIf (tB (eOp oEq (eVar 3) (eK (.int 4)))) (sRet (eTup (aCons (eK (.str "says")) (aCons (eVar 4) (aCons (eVar 5) aNil))))) sNil) (sCons (sSet 6 (eCall f__law_thing (aCons (eOp oAdd (eOp oMul (eVar 0) (eK (.int 5))) (eK (.int 2))) (aCons (eVar 1) (aCons (eOp oSub (eVar 2) (eK (.int 1))) aNil))))) (sRet (eTup (aCons (eOp oIx (eL (fLst (aCons (eK (.str "and")) (aCons (eK (.str "or")) (aCons (eK (.str "alike")) (aCons (eK (.str "alike")) aNil)))))) (eOp oSub (eVar 3) (eK (.int 5)))) (aCons (eVar 5) (aCons (eVar 6) aNil)))))))))))))
def F__law_thing : Nat → List PyData → R PyData
  | 0 => fun _ => .no
  | n + 1 => runD 7 3 (b__law_thing F__law_mix (F__law_thing n))
def l1__law_hall (f__law_cell f__law_mix f__law_thing : List PyData → R PyData) : Rho → R Out := (sCons (sSet 5 (eCall f__law_cell (aCons (eVar 0) (aCons (eOp oAdd (eK (.int 1)) (eVar 4)) aNil)))) (sApp 3 (eTup (aCons (eCall f__law_mix (aCons (eVar 5) (aCons (eK (.int 9929)) (aCons (eVar 1) aNil)))) (aCons (eCall f__law_thing (aCons (eVar 5) (aCons (eVar 1) (aCons (eOp oAdd (eK (.int 1)) (eOp oMod (eVar 5) (eK (.int 3)))) aNil)))) aNil)))))
def b__law_hall (f__law_cell f__law_mix f__law_thing : List PyData → R PyData) : Rho → R Out := (sCons (sSet 1 (eOp oAdd (eK (.int 1)) (eCall f__law_mix (aCons (eCall f__law_cell (aCons (eVar 0) (aCons (eK (.int 0)) aNil))) (aCons (eK (.int 9941)) (aCons (eK (.int 5)) aNil)))))) (sCons (sSet 2 (eCall f__law_mix (aCons (eCall f__law_cell (aCons (eVar 0) (aCons (eK (.int 0)) aNil))) (aCons (eK (.int 9931)) (aCons (eK (.int 7)) aNil))))) (sCons (sOwn 3 (fLst aNil)) (sCons (sFor (iRange (eVar 2)) (bN 4) (l1__law_hall f__law_cell f__law_mix f__law_thing)) (sFz 3 (sRet (eTup (aCons (eVar 1) (aCons (eCB cTup (aCons (eVar 3) aNil)) aNil)))))))))
def F__law_hall : List PyData → R PyData := runD 6 1 (b__law_hall F__law_cell F__law_mix (F__law_thing 5))
def b__law_whole : Rho → R Out := (sRet (eAn (eIsi "int" (eVar 0)) (eNo (eIsi "bool" (eVar 0)))))
def F__law_whole : List PyData → R PyData := runD 1 1 (b__law_whole)
def b__law_so (f__law_so : List PyData → R PyData) : Rho → R Out := (sCons (sIf (tB (eOp oEq (eOp oIx (eVar 0) (eK (.int 0))) (eK (.str "is")))) (sRet (eOp oEq (eOp oIx (eVar 1) (eOp oIx (eVar 0) (eK (.int 1)))) (eK (.int 1)))) sNil) (sCons (sIf (tB (eOp oEq (eOp oIx (eVar 0) (eK (.int 0))) (eK (.str "many")))) (sRet (eOp oGe (eMt "tuple" mCnt (eVar 1) (aCons (eK (.int 1)) aNil)) (eOp oIx (eVar 0) (eK (.int 1))))) sNil) (sCons (sIf (tB (eOp oEq (eOp oIx (eVar 0) (eK (.int 0))) (eK (.str "not")))) (sRet (eNo (eCall f__law_so (aCons (eOp oIx (eVar 0) (eK (.int 1))) (aCons (eVar 1) aNil))))) sNil) (sCons (sIf (tB (eOp oEq (eOp oIx (eVar 0) (eK (.int 0))) (eK (.str "says")))) (sRet (eOp oEq (eOp oEq (eOp oIx (eVar 1) (eOp oIx (eVar 0) (eK (.int 1)))) (eK (.int 1))) (eCall f__law_so (aCons (eOp oIx (eVar 0) (eK (.int 2))) (aCons (eVar 1) aNil))))) sNil) (sCons (sSet 2 (eCall f__law_so (aCons (eOp oIx (eVar 0) (eK (.int 1))) (aCons (eVar 1) aNil)))) (sCons (sSet 3 (eCall f__law_so (aCons (eOp oIx (eVar 0) (eK (.int 2))) (aCons (eVar 1) aNil)))) (sRet (eOp oIx (eL (fLst (aCons (eAn (eVar 2) (eVar 3)) (aCons (eOr (eVar 2) (eVar 3)) (aCons (eOp oEq (eVar 2) (eVar 3)) aNil))))) (eMt "list" mIdx (eL (fLst (aCons (eK (.str "and")) (aCons (eK (.str "or")) (aCons (eK (.str "alike")) aNil))))) (aCons (eOp oIx (eVar 0) (eK (.int 0))) aNil))))))))))
def F__law_so : Nat → List PyData → R PyData
  | 0 => fun _ => .no
  | n + 1 => runD 4 2 (b__law_so (F__law_so n))
def l1__law_fits (f__law_so : List PyData → R PyData) : Rho → R Out := (sIf (tB (eOp oNe (eOp oEq (eOp oIx (eVar 1) (eVar 2)) (eK (.int 1))) (eCall f__law_so (aCons (eVar 3) (aCons (eVar 1) aNil))))) (sRet (eK (.bool false))) sNil)
def b__law_fits (f__law_so : List PyData → R PyData) : Rho → R Out := (sCons (sFor (iSeq (eOp oIx (eVar 0) (eK (.int 1)))) (bT2 2 3) (l1__law_fits f__law_so)) (sRet (eK (.bool true))))
def F__law_fits : List PyData → R PyData := runD 4 2 (b__law_fits (F__law_so 12))
def e1__law_all : Rho → R PyData := (eOp oAnd (eOp oShr (eVar 2) (eOp oSub (eOp oSub (eVar 0) (eK (.int 1))) (eVar 1))) (eK (.int 1)))
def e2__law_all : Rho → R PyData := (eCB cTup (aCons (eL (fLc (iRange (eVar 0)) [1] (bN 1) tYesD e1__law_all)) aNil))
def b__law_all : Rho → R Out := (sRet (eL (fLc (iRange (eOp oShl (eK (.int 1)) (eVar 0))) [2] (bN 2) tYesD e2__law_all)))
def F__law_all : List PyData → R PyData := runD 3 1 (b__law_all)
def t1__law_worlds (f__law_fits : List PyData → R PyData) : Rho → R Bool := (tTr (eCall f__law_fits (aCons (eVar 0) (aCons (eVar 1) aNil))))
def b__law_worlds (f__law_fits f__law_all : List PyData → R PyData) : Rho → R Out := (sRet (eL (fLc (iSeq (eCall f__law_all (aCons (eOp oIx (eVar 0) (eK (.int 0))) aNil))) [1] (bN 1) (t1__law_worlds f__law_fits) (eVar 1))))
def F__law_worlds : List PyData → R PyData := runD 2 1 (b__law_worlds F__law_fits F__law_all)
def e1_all_worlds : Rho → R PyData := (eOp oAdd (eVar 3) (eTup (aCons (eK (.int 0)) aNil)))
def e2_all_worlds : Rho → R PyData := (eOp oAdd (eVar 3) (eTup (aCons (eK (.int 1)) aNil)))
def l1_all_worlds : Rho → R Out := (sSet 1 (eOp oAdd (eL (fLc (iSeq (eVar 1)) [3] (bN 3) tYesD e1_all_worlds)) (eL (fLc (iSeq (eVar 1)) [3] (bN 3) tYesD e2_all_worlds))))
def b_all_worlds : Rho → R Out := (sCons (sSet 1 (eL (fLst (aCons (eTup aNil) aNil)))) (sCons (sFor (iRange (eVar 0)) (bN 2) l1_all_worlds) (sRet (eL (fCB cSort (aCons (eVar 1) aNil))))))
def F_all_worlds : List PyData → R PyData := runD 4 1 (b_all_worlds)
def t1_worlds (f_fits : List PyData → R PyData) : Rho → R Bool := (tTr (eCall f_fits (aCons (eVar 0) (aCons (eVar 1) aNil))))
def b_worlds (f_fits f_all_worlds : List PyData → R PyData) : Rho → R Out := (sRet (eCB cTup (aCons (eL (fLc (iSeq (eCall f_all_worlds (aCons (eOp oIx (eVar 0) (eK (.int 0))) aNil))) [1] (bN 1) (t1_worlds f_fits) (eVar 1))) aNil)))
def F_worlds : List PyData → R PyData := runD 2 1 (b_worlds F_fits F_all_worlds)
def l1_core (f_worlds : List PyData → R PyData) : Rho → R Out := (sCons (sSet 5 (eL (fLc (iSeq (eVar 3)) [6] (bN 6) (tB (eOp oNe (eVar 6) (eVar 4))) (eVar 6)))) (sIf (tNo (tTr (eCall f_worlds (aCons (eTup (aCons (eVar 1) (aCons (eCB cTup (aCons (eL (fLc (iSeq (eVar 5)) [6] (bN 6) tYesD (eOp oIx (eVar 2) (eVar 6)))) aNil)) aNil))) aNil)))) (sSet 3 (eVar 5)) sNil))
def b_core (f_worlds : List PyData → R PyData) : Rho → R Out := (sCons (sIf (tTr (eCall f_worlds (aCons (eVar 0) aNil))) (sRet (eK .none)) sNil) (sCons (sAsg (bT2 1 2) (eVar 0)) (sCons (sSet 3 (eL (fRangeL (eCB cLen (aCons (eVar 2) aNil))))) (sCons (sFor (iRange (eCB cLen (aCons (eVar 2) aNil))) (bN 4) (l1_core f_worlds)) (sRet (eCB cTup (aCons (eVar 3) aNil)))))))
def F_core : List PyData → R PyData := runD 7 1 (b_core F_worlds)
def T_SIZES : List (Str × Int) := [("is", 2), ("many", 2), ("not", 2), ("and", 3), ("or", 3), ("alike", 3), ("says", 3)]
def b_is_number : Rho → R Out := (sRet (eAn (eIsi "int" (eVar 0)) (eAn (eNo (eIsi "bool" (eVar 0))) (eChain oLe oLe (eK (.int 0)) (eVar 0) (eVar 1)))))
def F_is_number : List PyData → R PyData := runD 2 2 (b_is_number)
def e1_is_thing (f_is_thing : List PyData → R PyData) : Rho → R PyData := (eCall f_is_thing (aCons (eVar 2) (aCons (eVar 1) aNil)))
def b_is_thing (f_is_number f_is_thing : List PyData → R PyData) : Rho → R Out := (sCons (sIf (tOr (tNo (tTr (eIsi "tuple" (eVar 0)))) (tOr (tB (eOp oEq (eCB cLen (aCons (eVar 0) aNil)) (eK (.int 0)))) (tNo (tTr (eIsi "str" (eOp oIx (eVar 0) (eK (.int 0)))))))) (sRet (eK (.bool false))) sNil) (sCons (sIf (tB (eOp oNe (eCB (cGet T_SIZES) (aCons (eOp oIx (eVar 0) (eK (.int 0))) (aCons (eK (.int 0)) aNil))) (eCB cLen (aCons (eVar 0) aNil)))) (sRet (eK (.bool false))) sNil) (sCons (sIf (tB (eOp oEq (eOp oIx (eVar 0) (eK (.int 0))) (eK (.str "is")))) (sRet (eCall f_is_number (aCons (eOp oIx (eVar 0) (eK (.int 1))) (aCons (eOp oSub (eVar 1) (eK (.int 1))) aNil)))) sNil) (sCons (sIf (tB (eOp oEq (eOp oIx (eVar 0) (eK (.int 0))) (eK (.str "many")))) (sRet (eCall f_is_number (aCons (eOp oIx (eVar 0) (eK (.int 1))) (aCons (eK (.int 7)) aNil)))) sNil) (sCons (sIf (tB (eOp oEq (eOp oIx (eVar 0) (eK (.int 0))) (eK (.str "says")))) (sRet (eAn (eCall f_is_number (aCons (eOp oIx (eVar 0) (eK (.int 1))) (aCons (eOp oSub (eVar 1) (eK (.int 1))) aNil))) (eCall f_is_thing (aCons (eOp oIx (eVar 0) (eK (.int 2))) (aCons (eVar 1) aNil))))) sNil) (sRet (eCB cAll (aCons (eL (fLc (iSeq (eSl (eVar 0) (pS (eK (.int 1))) pN)) [2] (bN 2) tYesD (e1_is_thing f_is_thing))) aNil))))))))
def F_is_thing : Nat → List PyData → R PyData
  | 0 => fun _ => .no
  | n + 1 => runD 3 2 (b_is_thing F_is_number (F_is_thing n))
def b_is_saying (f_is_number f_is_thing : List PyData → R PyData) : Rho → R Out := (sCons (sIf (tOr (tNo (tTr (eIsi "tuple" (eVar 0)))) (tB (eOp oNe (eCB cLen (aCons (eVar 0) aNil)) (eK (.int 2))))) (sRet (eK (.bool false))) sNil) (sRet (eAn (eCall f_is_number (aCons (eOp oIx (eVar 0) (eK (.int 0))) (aCons (eOp oSub (eVar 1) (eK (.int 1))) aNil))) (eCall f_is_thing (aCons (eOp oIx (eVar 0) (eK (.int 1))) (aCons (eVar 1) aNil))))))
def F_is_saying : List PyData → R PyData := runD 2 2 (b_is_saying F_is_number (F_is_thing 12))
def e1_is_hall (f_is_saying : List PyData → R PyData) : Rho → R PyData := (eCall f_is_saying (aCons (eVar 3) (aCons (eVar 1) aNil)))
def b_is_hall (f_is_number f_is_saying : List PyData → R PyData) : Rho → R Out := (sCons (sIf (tOr (tNo (tTr (eIsi "tuple" (eVar 0)))) (tOr (tB (eOp oNe (eCB cLen (aCons (eVar 0) aNil)) (eK (.int 2)))) (tOr (tNo (tTr (eCall f_is_number (aCons (eOp oIx (eVar 0) (eK (.int 0))) (aCons (eK (.int 6)) aNil))))) (tB (eOp oEq (eOp oIx (eVar 0) (eK (.int 0))) (eK (.int 0))))))) (sRet (eK (.bool false))) sNil) (sCons (sAsg (bT2 1 2) (eVar 0)) (sRet (eAn (eIsi "tuple" (eVar 2)) (eAn (eOp oLe (eCB cLen (aCons (eVar 2) aNil)) (eK (.int 12))) (eCB cAll (aCons (eL (fLc (iSeq (eVar 2)) [3] (bN 3) tYesD (e1_is_hall f_is_saying))) aNil)))))))
def F_is_hall : List PyData → R PyData := runD 4 1 (b_is_hall F_is_number F_is_saying)
end Kc

namespace Kc
open PySem PySem.Spec PyProof.Rows L2 Pu
@[simp] theorem ne_is_many : (Str.ofString "is" = Str.ofString "many") = False := eq_false (by decide +kernel)
@[simp] theorem ne_is_not : (Str.ofString "is" = Str.ofString "not") = False := eq_false (by decide +kernel)
@[simp] theorem ne_is_says : (Str.ofString "is" = Str.ofString "says") = False := eq_false (by decide +kernel)
@[simp] theorem ne_is_and : (Str.ofString "is" = Str.ofString "and") = False := eq_false (by decide +kernel)
@[simp] theorem ne_is_or : (Str.ofString "is" = Str.ofString "or") = False := eq_false (by decide +kernel)
@[simp] theorem ne_is_alike : (Str.ofString "is" = Str.ofString "alike") = False := eq_false (by decide +kernel)
@[simp] theorem ne_many_is : (Str.ofString "many" = Str.ofString "is") = False := eq_false (by decide +kernel)
@[simp] theorem ne_many_not : (Str.ofString "many" = Str.ofString "not") = False := eq_false (by decide +kernel)
@[simp] theorem ne_many_says : (Str.ofString "many" = Str.ofString "says") = False := eq_false (by decide +kernel)
@[simp] theorem ne_many_and : (Str.ofString "many" = Str.ofString "and") = False := eq_false (by decide +kernel)
@[simp] theorem ne_many_or : (Str.ofString "many" = Str.ofString "or") = False := eq_false (by decide +kernel)
@[simp] theorem ne_many_alike : (Str.ofString "many" = Str.ofString "alike") = False := eq_false (by decide +kernel)
@[simp] theorem ne_not_is : (Str.ofString "not" = Str.ofString "is") = False := eq_false (by decide +kernel)
@[simp] theorem ne_not_many : (Str.ofString "not" = Str.ofString "many") = False := eq_false (by decide +kernel)
@[simp] theorem ne_not_says : (Str.ofString "not" = Str.ofString "says") = False := eq_false (by decide +kernel)
@[simp] theorem ne_not_and : (Str.ofString "not" = Str.ofString "and") = False := eq_false (by decide +kernel)
@[simp] theorem ne_not_or : (Str.ofString "not" = Str.ofString "or") = False := eq_false (by decide +kernel)
@[simp] theorem ne_not_alike : (Str.ofString "not" = Str.ofString "alike") = False := eq_false (by decide +kernel)
@[simp] theorem ne_says_is : (Str.ofString "says" = Str.ofString "is") = False := eq_false (by decide +kernel)
@[simp] theorem ne_says_many : (Str.ofString "says" = Str.ofString "many") = False := eq_false (by decide +kernel)
@[simp] theorem ne_says_not : (Str.ofString "says" = Str.ofString "not") = False := eq_false (by decide +kernel)
@[simp] theorem ne_says_and : (Str.ofString "says" = Str.ofString "and") = False := eq_false (by decide +kernel)
@[simp] theorem ne_says_or : (Str.ofString "says" = Str.ofString "or") = False := eq_false (by decide +kernel)
@[simp] theorem ne_says_alike : (Str.ofString "says" = Str.ofString "alike") = False := eq_false (by decide +kernel)
@[simp] theorem ne_and_is : (Str.ofString "and" = Str.ofString "is") = False := eq_false (by decide +kernel)
@[simp] theorem ne_and_many : (Str.ofString "and" = Str.ofString "many") = False := eq_false (by decide +kernel)
@[simp] theorem ne_and_not : (Str.ofString "and" = Str.ofString "not") = False := eq_false (by decide +kernel)
@[simp] theorem ne_and_says : (Str.ofString "and" = Str.ofString "says") = False := eq_false (by decide +kernel)
@[simp] theorem ne_and_or : (Str.ofString "and" = Str.ofString "or") = False := eq_false (by decide +kernel)
@[simp] theorem ne_and_alike : (Str.ofString "and" = Str.ofString "alike") = False := eq_false (by decide +kernel)
@[simp] theorem ne_or_is : (Str.ofString "or" = Str.ofString "is") = False := eq_false (by decide +kernel)
@[simp] theorem ne_or_many : (Str.ofString "or" = Str.ofString "many") = False := eq_false (by decide +kernel)
@[simp] theorem ne_or_not : (Str.ofString "or" = Str.ofString "not") = False := eq_false (by decide +kernel)
@[simp] theorem ne_or_says : (Str.ofString "or" = Str.ofString "says") = False := eq_false (by decide +kernel)
@[simp] theorem ne_or_and : (Str.ofString "or" = Str.ofString "and") = False := eq_false (by decide +kernel)
@[simp] theorem ne_or_alike : (Str.ofString "or" = Str.ofString "alike") = False := eq_false (by decide +kernel)
@[simp] theorem ne_alike_is : (Str.ofString "alike" = Str.ofString "is") = False := eq_false (by decide +kernel)
@[simp] theorem ne_alike_many : (Str.ofString "alike" = Str.ofString "many") = False := eq_false (by decide +kernel)
@[simp] theorem ne_alike_not : (Str.ofString "alike" = Str.ofString "not") = False := eq_false (by decide +kernel)
@[simp] theorem ne_alike_says : (Str.ofString "alike" = Str.ofString "says") = False := eq_false (by decide +kernel)
@[simp] theorem ne_alike_and : (Str.ofString "alike" = Str.ofString "and") = False := eq_false (by decide +kernel)
@[simp] theorem ne_alike_or : (Str.ofString "alike" = Str.ofString "or") = False := eq_false (by decide +kernel)
inductive Th where
  | is (g : Nat) | many (m : Nat) | nt (t : Th) | says (g : Nat) (t : Th) | an (a b : Th) | ors (a b : Th) | al (a b : Th)
def enc : Th → PyData
  | .is g => .tuple [.str "is", .int g]
  | .many m => .tuple [.str "many", .int m]
  | .nt t => .tuple [.str "not", enc t]
  | .says g t => .tuple [.str "says", .int g, enc t]
  | .an a b => .tuple [.str "and", enc a, enc b]
  | .ors a b => .tuple [.str "or", enc a, enc b]
  | .al a b => .tuple [.str "alike", enc a, enc b]
def Th.depth : Th → Nat
  | .is _ => 0
  | .many _ => 0
  | .nt t => t.depth + 1
  | .says _ t => t.depth + 1
  | .an a b => max a.depth b.depth + 1
  | .ors a b => max a.depth b.depth + 1
  | .al a b => max a.depth b.depth + 1
/-- guests below n, numbers of 'many' at most 7 -/
def Th.ok (n : Nat) : Th → Prop
  | .is g => g < n
  | .many m => m ≤ 7
  | .nt t => t.ok n
  | .says g t => g < n ∧ t.ok n
  | .an a b => a.ok n ∧ b.ok n
  | .ors a b => a.ok n ∧ b.ok n
  | .al a b => a.ok n ∧ b.ok n
abbrev Wd := List Bool
def at_ (w : Wd) (g : Nat) : Bool := w.getD g false
def so (w : Wd) : Th → Bool
  | .is g => at_ w g
  | .many m => decide (m ≤ w.count true)
  | .nt t => !so w t
  | .says g t => at_ w g == so w t
  | .an a b => so w a && so w b
  | .ors a b => so w a || so w b
  | .al a b => so w a == so w b
def b2 (b : Bool) : PyData := .int (if b then 1 else 0)
def encW (w : Wd) : PyData := .tuple (w.map b2)
abbrev Sy := Nat × Th
def encS (s : Sy) : PyData := .tuple [.int s.1, enc s.2]
def encH (m : Nat) (ss : List Sy) : PyData := .tuple [.int m, .tuple (ss.map encS)]
def fitS (w : Wd) (s : Sy) : Bool := at_ w s.1 == so w s.2
def fits (ss : List Sy) (w : Wd) : Bool := ss.all (fitS w)
/-- lists of truths of length n, rising -/
def allW : Nat → List Wd
  | 0 => [[]]
  | n + 1 => (allW n).map (false :: ·) ++ (allW n).map (true :: ·)
def worldsOf (m : Nat) (ss : List Sy) : List Wd := (allW m).filter (fits ss)
theorem mem_allW : ∀ {n : Nat} {w : Wd}, w ∈ allW n ↔ w.length = n
  | 0, w => by
    show w ∈ [[]] ↔ _
    cases w <;> simp
  | n + 1, w => by
    show w ∈ (allW n).map (false :: ·) ++ (allW n).map (true :: ·) ↔ _
    rw [List.mem_append, List.mem_map, List.mem_map]
    constructor
    · rintro (⟨v, h, rfl⟩ | ⟨v, h, rfl⟩) <;> simp [mem_allW.mp h]
    · intro h
      cases w with
      | nil => simp at h
      | cons b v =>
        have hv : v ∈ allW n := mem_allW.mpr (by simpa using h)
        cases b
        · exact .inl ⟨v, hv, rfl⟩
        · exact .inr ⟨v, hv, rfl⟩
@[simp] theorem at0 {α : Type} (x : α) (xs : List α) : atI (x :: xs) 0 = some x := atI_nat (j := 0) rfl
@[simp] theorem at1 {α : Type} (x y : α) (xs : List α) : atI (x :: y :: xs) 1 = some y := atI_nat (j := 1) rfl
@[simp] theorem at2 {α : Type} (x y z : α) (xs : List α) : atI (x :: y :: z :: xs) 2 = some z := atI_nat (j := 2) rfl
@[simp] theorem at3 {α : Type} (x y z u : α) (xs : List α) : atI (x :: y :: z :: u :: xs) 3 = some u := atI_nat (j := 3) rfl
theorem atW {w : Wd} {g : Nat} (h : g < w.length) : atI (w.map b2) (g : Int) = some (b2 (at_ w g)) := by
  refine atI_nat ?_
  rw [List.getElem?_map, List.getElem?_eq_getElem h]
  unfold at_
  rw [List.getD_eq_getElem?_getD, List.getElem?_eq_getElem h]
  rfl
theorem sumB (w : Wd) : intsOf (w.map b2) = some (w.map fun b => if b then 1 else 0) := by
  have : w.map b2 = (w.map fun b => if b then (1 : Int) else 0).map .int := by rw [List.map_map]; rfl
  rw [this, intsOf_map]
theorem sum_count (w : Wd) : (w.map fun b => if b then (1 : Int) else 0).sum = (w.count true : Nat) := by
  induction w with
  | nil => rfl
  | cons b w ih => cases b <;> simp [ih] <;> omega
theorem b2_sub (b : Bool) : (1 : Int) - (if b then 1 else 0) = if (!b) then 1 else 0 := by cases b <;> rfl
theorem eqB (a b : Bool) : ((if a then (1 : Int) else 0) == (if b then 1 else 0)) = (a == b) := by cases a <;> cases b <;> rfl
@[simp] theorem max01 : max (0 : Int) 1 = 1 := rfl
@[simp] theorem max10 : max (1 : Int) 0 = 1 := rfl
theorem F_so_ok : ∀ (t : Th) (w : Wd) (n : Nat), t.ok w.length → t.depth < n → F_so n [enc t, encW w] = .ok (b2 (so w t))
  | .is g, w, n + 1, h, hd => by
    have h' : g < w.length := h
    simp [F_so, runD, b_so, enc, encW, atW h', so]
  | .many m, w, n + 1, h, hd => by
    simp [F_so, runD, b_so, enc, encW, cSum, sumB, sum_count, so, b2]
  | .nt t, w, n + 1, h, hd => by
    have ih := F_so_ok t w n h (by simp [Th.depth] at hd; omega)
    unfold encW at ih
    simp [F_so, runD, b_so, enc, encW, ih, so, b2, b2_sub]
  | .says g t, w, n + 1, h, hd => by
    have h' : g < w.length := h.1
    have ih := F_so_ok t w n h.2 (by simp [Th.depth] at hd; omega)
    unfold encW at ih
    simp [F_so, runD, b_so, enc, encW, ih, so, b2, atW h', eqB]
  | .an s t, w, n + 1, h, hd => by
    have ih1 := F_so_ok s w n h.1 (by simp [Th.depth] at hd; omega)
    have ih2 := F_so_ok t w n h.2 (by simp [Th.depth] at hd; omega)
    unfold encW at ih1 ih2
    cases q1 : so w s <;> cases q2 : so w t <;> simp [F_so, runD, b_so, enc, encW, ih1, ih2, so, b2, q1, q2, inW]
  | .ors s t, w, n + 1, h, hd => by
    have ih1 := F_so_ok s w n h.1 (by simp [Th.depth] at hd; omega)
    have ih2 := F_so_ok t w n h.2 (by simp [Th.depth] at hd; omega)
    unfold encW at ih1 ih2
    cases q1 : so w s <;> cases q2 : so w t <;> simp [F_so, runD, b_so, enc, encW, ih1, ih2, so, b2, q1, q2, inW]
  | .al s t, w, n + 1, h, hd => by
    have ih1 := F_so_ok s w n h.1 (by simp [Th.depth] at hd; omega)
    have ih2 := F_so_ok t w n h.2 (by simp [Th.depth] at hd; omega)
    unfold encW at ih1 ih2
    cases q1 : so w s <;> cases q2 : so w t <;> simp [F_so, runD, b_so, enc, encW, ih1, ih2, so, b2, q1, q2, inW]

theorem eq1 (b : Bool) : ((if b then (1 : Int) else 0) == 1) = b := by cases b <;> rfl
theorem cntB (w : Wd) : (w.map b2).countP (fun z => PyData.eqv z (.int 1)) = w.count true := by
  induction w with
  | nil => rfl
  | cons b w ih =>
    rw [List.map_cons, List.countP_cons, List.count_cons, ih]
    unfold b2
    rw [eqv_int, eq1]
    cases b <;> rfl
theorem flatB (w : Wd) : (w.map b2).all flatD = true := by
  rw [List.all_eq_true]
  intro x hx
  obtain ⟨b, _, rfl⟩ := List.mem_map.mp hx
  rfl
theorem cntW (w : Wd) : mCnt (.tuple (w.map b2)) [.int 1] = some (.int (w.count true : Nat)) := by
  show (if (flatD (.int 1) && (w.map b2).all flatD) = true then some (PyData.int ((w.map b2).countP fun z => PyData.eqv z (.int 1) : Nat)) else none) = _
  rw [cntB, flatB]
  rfl
@[simp] theorem tyN_tup (xs : List PyData) : tyN (.tuple xs) = "tuple" := rfl
@[simp] theorem tyN_lst (xs : List PyData) : tyN (.list xs) = "list" := rfl
@[simp] theorem idx_and : mIdx (.list [.str "and", .str "or", .str "alike"]) [.str "and"] = some (.int 0) := by rfl
@[simp] theorem idx_or : mIdx (.list [.str "and", .str "or", .str "alike"]) [.str "or"] = some (.int 1) := by rfl
@[simp] theorem idx_alike : mIdx (.list [.str "and", .str "or", .str "alike"]) [.str "alike"] = some (.int 2) := by rfl
theorem F__law_so_ok : ∀ (t : Th) (w : Wd) (n : Nat), t.ok w.length → t.depth < n → F__law_so n [enc t, encW w] = .ok (.bool (so w t))
  | .is g, w, n + 1, h, hd => by
    have h' : g < w.length := h
    simp [F__law_so, runD, b__law_so, enc, encW, atW h', so, b2, eq1]
  | .many m, w, n + 1, h, hd => by
    simp [F__law_so, runD, b__law_so, enc, encW, cntW, so, b2]
  | .nt t, w, n + 1, h, hd => by
    have ih := F__law_so_ok t w n h (by simp [Th.depth] at hd; omega)
    unfold encW at ih
    simp [F__law_so, runD, b__law_so, enc, encW, ih, so]
  | .says g t, w, n + 1, h, hd => by
    have h' : g < w.length := h.1
    have ih := F__law_so_ok t w n h.2 (by simp [Th.depth] at hd; omega)
    unfold encW at ih
    simp [F__law_so, runD, b__law_so, enc, encW, ih, so, b2, atW h', eq1]
  | .an s t, w, n + 1, h, hd => by
    have ih1 := F__law_so_ok s w n h.1 (by simp [Th.depth] at hd; omega)
    have ih2 := F__law_so_ok t w n h.2 (by simp [Th.depth] at hd; omega)
    unfold encW at ih1 ih2
    cases q1 : so w s <;> cases q2 : so w t <;> simp [F__law_so, runD, b__law_so, enc, encW, ih1, ih2, so, q1, q2]
  | .ors s t, w, n + 1, h, hd => by
    have ih1 := F__law_so_ok s w n h.1 (by simp [Th.depth] at hd; omega)
    have ih2 := F__law_so_ok t w n h.2 (by simp [Th.depth] at hd; omega)
    unfold encW at ih1 ih2
    cases q1 : so w s <;> cases q2 : so w t <;> simp [F__law_so, runD, b__law_so, enc, encW, ih1, ih2, so, q1, q2]
  | .al s t, w, n + 1, h, hd => by
    have ih1 := F__law_so_ok s w n h.1 (by simp [Th.depth] at hd; omega)
    have ih2 := F__law_so_ok t w n h.2 (by simp [Th.depth] at hd; omega)
    unfold encW at ih1 ih2
    cases q1 : so w s <;> cases q2 : so w t <;> simp [F__law_so, runD, b__law_so, enc, encW, ih1, ih2, so, q1, q2]
/-! ### sayings -/
def Sy.ok (n : Nat) (s : Sy) : Prop := s.1 < n ∧ s.2.ok n ∧ s.2.depth < 12
theorem F_fits_saying_ok {s : Sy} {w : Wd} (h : s.1 < w.length) (h2 : s.2.ok w.length) (h3 : s.2.depth < 12) : F_fits_saying [encS s, encW w] = .ok (.bool (fitS w s)) := by
  have e := F_so_ok s.2 w 12 h2 h3
  unfold encW at e
  simp [F_fits_saying, runD, b_fits_saying, encS, encW, atW h, e, b2, eqB, fitS]
theorem F_answer_ok {s : Sy} {w : Wd} (h : s.1 < w.length) (h2 : s.2.ok w.length) (h3 : s.2.depth < 12) : F_answer [encW w, encS s] = .ok (b2 (fitS w s)) := by
  have e := F_fits_saying_ok h h2 h3
  simp [F_answer, runD, b_answer, e, b2]
theorem F_fits_ok {m : Nat} {ss : List Sy} {w : Wd} (hl : ss.length ≤ 1000) (h : ∀ s ∈ ss, s.1 < w.length ∧ s.2.ok w.length ∧ s.2.depth < 12) : F_fits [encH m ss, encW w] = .ok (.bool (fits ss w)) := by
  have e : lcD (bN 2) tYesD (e1_fits F_fits_saying) (ss.map encS) [.d (encH m ss), .d (encW w), .un] = some (ss.map fun s => .bool (fitS w s)) := by
    refine lcD_mapE _ fun s hs => ?_
    obtain ⟨h1, h2, h3⟩ := h s hs
    exact ⟨_, rfl, by simp [e1_fits, F_fits_saying_ok h1 h2 h3]⟩
  have hl' : ss.length ≤ 1000000 := by omega
  unfold encH at e
  simp [F_fits, runD, b_fits, encH, e, hl', s_cAll', fits]
/-! ### the law's own -/
theorem F__law_mix_ok {c p m : Int} (hp : 0 < p) (hm : 0 < m) : F__law_mix [.int c, .int p, .int m] = .ok (.int (c * 48271 % p % m)) := by
  have : inW 48271 = true := by decide
  simp [F__law_mix, runD, b__law_mix, this, hp, hm]
def cellK (ns : List Int) (k : Nat) : Int := ns.getD k 0
theorem F__law_cell_ok {ns : List Int} (k : Nat) : F__law_cell [.list (ns.map .int), .int k] = .ok (.int (cellK ns k)) := by
  by_cases h : k < ns.length
  · have e : atI (ns.map PyData.int) (k : Int) = some (.int (cellK ns k)) := by
      refine atI_nat ?_
      rw [List.getElem?_map, List.getElem?_eq_getElem h]
      unfold cellK
      rw [List.getD_eq_getElem?_getD, List.getElem?_eq_getElem h]
      rfl
    simp [F__law_cell, runD, b__law_cell, h, e]
  · have e : cellK ns k = 0 := by
      unfold cellK
      rw [List.getD_eq_getElem?_getD, List.getElem?_eq_none (by omega)]
      rfl
    simp [F__law_cell, runD, b__law_cell, h, e]
theorem mod_nat {c p m : Int} (hm : 0 < m) : ∃ k : Nat, c * 48271 % p % m = (k : Int) ∧ k < m.toNat := by
  have h1 := Int.emod_nonneg (c * 48271 % p) (show m ≠ 0 by omega)
  have h2 := Int.emod_lt_of_pos (c * 48271 % p) hm
  exact ⟨(c * 48271 % p % m).toNat, by omega, by omega⟩
/-- the thing by a cell: well formed, no deeper than asked -/
theorem F__law_thing_ok : ∀ (n d : Nat) (c : Int) (m : Nat), d < n → 1 ≤ m → m ≤ 6 → ∃ t : Th, F__law_thing n [.int c, .int m, .int d] = .ok (enc t) ∧ t.ok m ∧ t.depth ≤ d
  | n + 1, d, c, m, hd, hm, hm6 => by
    have hmi : (0 : Int) < (m : Int) := by omega
    obtain ⟨a, ea, ha⟩ := mod_nat (c := c) (p := 9973) (m := 9) (by omega)
    obtain ⟨g, eg, hg⟩ := mod_nat (c := c) (p := 9967) (m := (m : Int)) hmi
    obtain ⟨k8, e8, h8⟩ := mod_nat (c := c) (p := 9949) (m := 8) (by omega)
    obtain ⟨km, em, hkm⟩ := mod_nat (c := c) (p := 9949) (m := (m : Int) + 1) (by omega)
    have m1 : F__law_mix [.int c, .int 9973, .int 9] = .ok (.int a) := by rw [F__law_mix_ok (by omega) (by omega), ea]
    have m2 : F__law_mix [.int c, .int 9967, .int m] = .ok (.int g) := by rw [F__law_mix_ok (by omega) hmi, eg]
    have m3 : F__law_mix [.int c, .int 9949, .int 8] = .ok (.int k8) := by rw [F__law_mix_ok (by omega) (by omega), e8]
    have m4 : F__law_mix [.int c, .int 9949, .int ((m : Int) + 1)] = .ok (.int km) := by rw [F__law_mix_ok (by omega) (by omega), em]
    have w3 : inW 3 = true := by decide
    have w5 : inW 5 = true := by decide
    by_cases hbase : d = 0 ∨ a < 2
    · by_cases a8 : a = 8
      · have d0 : d = 0 := by omega
        subst a8 d0
        refine ⟨.many k8, ?_, by show k8 ≤ 7; omega, Nat.zero_le _⟩
        simp [F__law_thing, runD, b__law_thing, m1, m2, m3, enc]
      · refine ⟨.is g, ?_, by show g < m; omega, Nat.zero_le _⟩
        have a8' : ((a : Int) = 8) = False := eq_false (by omega)
        rcases hbase with d0 | a2
        · subst d0
          simp [F__law_thing, runD, b__law_thing, m1, m2, m3, enc, a8']
        · have a2' : ((a : Int) < 2) = True := eq_true (by omega)
          by_cases d0 : (d : Int) = 0 <;> simp [F__law_thing, runD, b__law_thing, m1, m2, m3, enc, a8', a2', d0]
    · obtain ⟨d', rfl⟩ : ∃ d', d = d' + 1 := ⟨d - 1, by omega⟩
      have hd' : d' < n := by omega
      obtain ⟨t1, e1, o1, p1⟩ := F__law_thing_ok n d' (c * 3 + 1) m hd' hm hm6
      obtain ⟨t2, e2, o2, p2⟩ := F__law_thing_ok n d' (c * 5 + 2) m hd' hm hm6
      have dz : ((d' : Int) + 1 = 0) = False := eq_false (by omega)
      have a2' : ((a : Int) < 2) = False := eq_false (by omega)
      have ds : ((d' : Int) + 1 - 1) = d' := by omega
      have ha9 : a < 9 := by omega
      have : a = 2 ∨ a = 3 ∨ a = 4 ∨ a = 5 ∨ a = 6 ∨ a = 7 ∨ a = 8 := by omega
      rcases this with rfl | rfl | rfl | rfl | rfl | rfl | rfl
      · refine ⟨.many km, ?_, by show km ≤ 7; omega, Nat.zero_le _⟩
        simp [F__law_thing, runD, b__law_thing, m1, m2, m4, enc, dz, ds, e1, w3]
      · refine ⟨.nt t1, ?_, o1, by show t1.depth + 1 ≤ d' + 1; omega⟩
        simp [F__law_thing, runD, b__law_thing, m1, m2, m4, enc, dz, ds, e1, w3]
      · refine ⟨.says g t1, ?_, ⟨by omega, o1⟩, by show t1.depth + 1 ≤ d' + 1; omega⟩
        simp [F__law_thing, runD, b__law_thing, m1, m2, m4, enc, dz, ds, e1, w3]
      · refine ⟨.an t1 t2, ?_, ⟨o1, o2⟩, by show max t1.depth t2.depth + 1 ≤ d' + 1; omega⟩
        simp [F__law_thing, runD, b__law_thing, m1, m2, m4, enc, dz, ds, e1, e2, w3, w5]
      · refine ⟨.ors t1 t2, ?_, ⟨o1, o2⟩, by show max t1.depth t2.depth + 1 ≤ d' + 1; omega⟩
        simp [F__law_thing, runD, b__law_thing, m1, m2, m4, enc, dz, ds, e1, e2, w3, w5]
      · refine ⟨.al t1 t2, ?_, ⟨o1, o2⟩, by show max t1.depth t2.depth + 1 ≤ d' + 1; omega⟩
        simp [F__law_thing, runD, b__law_thing, m1, m2, m4, enc, dz, ds, e1, e2, w3, w5]
      · refine ⟨.al t1 t2, ?_, ⟨o1, o2⟩, by show max t1.depth t2.depth + 1 ≤ d' + 1; omega⟩
        simp [F__law_thing, runD, b__law_thing, m1, m2, m4, enc, dz, ds, e1, e2, w3, w5]
end Kc

namespace Kc
open PySem PySem.Spec PyProof.Rows L2 Pu
abbrev encI (i : Nat) : PyData := .int i
theorem s_range {n : Nat} (h : n ≤ 1000) : rangeD (.int n) = some ((List.range n).map encI) := by
  show (if -1000000 ≤ (n : Int) ∧ (n : Int) ≤ 1000000 then some ((List.range (n : Int).toNat).map fun (i : Nat) => PyData.int i) else none) = _
  rw [if_pos (by omega)]
  rfl
/-- a hall of the law: 1 to 5 guests, at most 6 sayings, all as they should be -/
structure HallOk (m : Nat) (ss : List Sy) : Prop where
  lo : 1 ≤ m
  hi : m ≤ 5
  len : ss.length ≤ 6
  ok : ∀ s ∈ ss, s.1 < m ∧ s.2.ok m ∧ s.2.depth ≤ 3
theorem s_app0 (ss : List Sy) (s : Sy) : ss.map encS ++ [encS s] = (ss ++ [s]).map encS := by simp
theorem F__law_hall_ok (ns : List Int) : ∃ m ss, HallOk m ss ∧ F__law_hall [.list (ns.map .int)] = .ok (encH m ss) := by
  obtain ⟨a, ea, ha⟩ := mod_nat (c := cellK ns 0) (p := 9941) (m := 5) (by omega)
  obtain ⟨z, ez, hz⟩ := mod_nat (c := cellK ns 0) (p := 9931) (m := 7) (by omega)
  have c0 : F__law_cell [.list (ns.map .int), .int 0] = .ok (.int (cellK ns 0)) := F__law_cell_ok 0
  have m1 : F__law_mix [.int (cellK ns 0), .int 9941, .int 5] = .ok (.int a) := by rw [F__law_mix_ok (by omega) (by omega), ea]
  have m2 : F__law_mix [.int (cellK ns 0), .int 9931, .int 7] = .ok (.int z) := by rw [F__law_mix_ok (by omega) (by omega), ez]
  have hz' : z < 7 := by omega
  have ha' : a < 5 := by omega
  obtain ⟨m, hm⟩ : ∃ m : Nat, m = 1 + a := ⟨_, rfl⟩
  have hm' : (1 : Int) + (a : Int) = (m : Int) := by omega
  obtain ⟨ρ', e, ss, a4, a5, rfl, hl, hok⟩ := forD_walkE (en := encI) (g := bN 4) (body := l1__law_hall F__law_cell F__law_mix (F__law_thing 5))
    (I := fun pre ρ => ∃ (ss : List Sy) (a4 a5 : Pu.Slot), ρ = [.d (.list (ns.map .int)), .d (.int (m : Int)), .d (.int z), .own (ss.map encS), a4, a5] ∧ ss.length = pre.length ∧ ∀ s ∈ ss, s.1 < m ∧ s.2.ok m ∧ s.2.depth ≤ 3)
    (List.range z) [.d (.list (ns.map .int)), .d (.int (m : Int)), .d (.int z), .own [], .un, .un] (fun pre x post ρ hx ⟨ss, a4, a5, hρ, hl, hok⟩ => by
      have hx1 := congrArg List.length hx
      rw [List.length_range, List.length_append, List.length_cons] at hx1
      subst hρ
      have c1 : F__law_cell [.list (ns.map .int), .int (1 + (x : Int))] = .ok (.int (cellK ns (1 + x))) := by
        have := F__law_cell_ok (ns := ns) (1 + x)
        rw [show ((1 + x : Nat) : Int) = 1 + (x : Int) by omega] at this
        exact this
      obtain ⟨g, eg, hg⟩ := mod_nat (c := cellK ns (1 + x)) (p := 9929) (m := (m : Int)) (by omega)
      have m3 : F__law_mix [.int (cellK ns (1 + x)), .int 9929, .int (m : Int)] = .ok (.int g) := by rw [F__law_mix_ok (by omega) (by omega), eg]
      obtain ⟨d, ed, hd⟩ : ∃ d : Nat, 1 + cellK ns (1 + x) % 3 = (d : Int) ∧ d ≤ 3 := ⟨(1 + cellK ns (1 + x) % 3).toNat, by omega, by omega⟩
      obtain ⟨t, et, ht, hdep⟩ := F__law_thing_ok 5 d (cellK ns (1 + x)) m (by omega) (by omega) (by omega)
      have hlen : ss.length < 1000000 := by omega
      refine ⟨_, _, rfl, ?_, ss ++ [(g, t)], .d (.int x), .d (.int (cellK ns (1 + x))), rfl, by simp [hl], ?_⟩
      · simp [l1__law_hall, c1, m3, ed, et, hlen, encS]
      · intro s hs
        rcases List.mem_append.mp hs with hs | hs
        · exact hok s hs
        · have : s = (g, t) := by simpa using hs
          subst this
          exact ⟨by show g < m; omega, ht, by show t.depth ≤ 3; omega⟩) ⟨[], .un, .un, rfl, rfl, by simp⟩
  refine ⟨m, ss, ⟨by omega, by omega, by simp at hl; omega, hok⟩, ?_⟩
  simp [F__law_hall, runD, b__law_hall, c0, m1, m2, hm', s_range (show z ≤ 1000 by omega), e, encH]
theorem F__law_whole_ok (i : Int) : F__law_whole [.int i] = .ok (.bool true) := by
  simp [F__law_whole, runD, b__law_whole, show isiD "int" (.int i) = true from rfl, show isiD "bool" (.int i) = false from rfl]
/-! ### fits by hand -/
theorem F__law_fits_ok {m : Nat} {ss : List Sy} {w : Wd} (h : ∀ s ∈ ss, s.1 < w.length ∧ s.2.ok w.length ∧ s.2.depth < 12) : F__law_fits [encH m ss, encW w] = .ok (.bool (fits ss w)) := by
  have e := forD_anyE (en := encS) (g := bT2 2 3) (body := l1__law_fits (F__law_so 12)) (r := .bool false) (p := fun s => !fitS w s) (I := fun ρ => ∃ a b, ρ = [.d (encH m ss), .d (encW w), a, b]) ss [.d (encH m ss), .d (encW w), .un, .un] (fun s hs ρ ⟨a, b, hρ⟩ => by
    subst hρ
    obtain ⟨h1, h2, h3⟩ := h s hs
    have q := F__law_so_ok s.2 w 12 h2 h3
    unfold encW at q
    refine ⟨_, rfl, ?_⟩
    cases hf : fitS w s with
    | true =>
      have hf' : at_ w s.1 = so w s.2 := by simpa [fitS] using hf
      simp [l1__law_fits, encW, atW h1, q, b2, eq1, hf']
    | false =>
      have hf' : (at_ w s.1 = so w s.2) = False := by simpa [fitS] using hf
      simp [l1__law_fits, encW, atW h1, q, b2, eq1, hf']) ⟨_, _, rfl⟩
  have hf : (ss.any fun s => !fitS w s) = !fits ss w := by
    unfold fits
    rw [List.all_eq_not_any_not, Bool.not_not]
  rw [hf] at e
  cases q : fits ss w with
  | true =>
    rw [q] at e
    obtain ⟨ρ', e, _⟩ := e
    unfold encH at e
    simp [F__law_fits, runD, b__law_fits, encH, e]
  | false =>
    rw [q] at e
    have e : forD _ _ _ _ = _ := e
    unfold encH at e
    simp [F__law_fits, runD, b__law_fits, encH, e]
/-! ### all lists of truths -/
theorem F__law_all_ok {m : Nat} (h1 : 1 ≤ m) (h5 : m ≤ 5) : F__law_all [.int m] = .ok (.list ((allW m).map encW)) := by
  have : m = 1 ∨ m = 2 ∨ m = 3 ∨ m = 4 ∨ m = 5 := by omega
  rcases this with rfl | rfl | rfl | rfl | rfl <;> rfl
theorem allW_length : ∀ m, (allW m).length = 2 ^ m
  | 0 => rfl
  | m + 1 => by
    show ((allW m).map (false :: ·) ++ (allW m).map (true :: ·)).length = _
    rw [List.length_append, List.length_map, List.length_map, allW_length m, Nat.pow_succ]
    omega
theorem allW_le {m : Nat} (h5 : m ≤ 5) : (allW m).length ≤ 32 := by
  rw [allW_length]
  exact Nat.le_trans (Nat.pow_le_pow_right (n := 2) (by decide) h5) (by decide)
theorem F__law_worlds_ok {m : Nat} {ss : List Sy} (h1 : 1 ≤ m) (h5 : m ≤ 5) (h : ∀ s ∈ ss, s.1 < m ∧ s.2.ok m ∧ s.2.depth < 12) : F__law_worlds [encH m ss] = .ok (.list ((worldsOf m ss).map encW)) := by
  have e : lcD (bN 1) (t1__law_worlds F__law_fits) (eVar 1) ((allW m).map encW) [.d (encH m ss), .un] = some (((allW m).filter (fits ss)).map encW) := by
    refine lcD_filterE _ fun w hw => ?_
    have hl := mem_allW.mp hw
    have q := F__law_fits_ok (m := m) (ss := ss) (w := w) (by rw [hl]; exact h)
    exact ⟨_, rfl, by simp [t1__law_worlds, q], fun _ => rfl⟩
  have hl : (allW m).length ≤ 1000000 := Nat.le_trans (allW_le h5) (by decide)
  unfold encH at e
  simp [F__law_worlds, runD, b__law_worlds, encH, F__law_all_ok h1 h5, e, hl, worldsOf]
end Kc

namespace Kc
open PySem PySem.Spec PyProof.Rows L2 Pu
theorem F_all_worlds_ok {m : Nat} (h1 : 1 ≤ m) (h5 : m ≤ 5) : F_all_worlds [.int m] = .ok (.list ((allW m).map encW)) := by
  have : m = 1 ∨ m = 2 ∨ m = 3 ∨ m = 4 ∨ m = 5 := by omega
  rcases this with rfl | rfl | rfl | rfl | rfl <;> rfl
theorem F_worlds_ok {m : Nat} {ss : List Sy} (h1 : 1 ≤ m) (h5 : m ≤ 5) (hl : ss.length ≤ 1000) (h : ∀ s ∈ ss, s.1 < m ∧ s.2.ok m ∧ s.2.depth < 12) : F_worlds [encH m ss] = .ok (.tuple ((worldsOf m ss).map encW)) := by
  have e : lcD (bN 1) (t1_worlds F_fits) (eVar 1) ((allW m).map encW) [.d (encH m ss), .un] = some (((allW m).filter (fits ss)).map encW) := by
    refine lcD_filterE _ fun w hw => ?_
    have hw' := mem_allW.mp hw
    have q := F_fits_ok (m := m) (ss := ss) (w := w) hl (by rw [hw']; exact h)
    exact ⟨_, rfl, by simp [t1_worlds, q], fun _ => rfl⟩
  have hl : (allW m).length ≤ 1000000 := Nat.le_trans (allW_le h5) (by decide)
  unfold encH at e
  simp [F_worlds, runD, b_worlds, encH, F_all_worlds_ok h1 h5, e, hl, worldsOf]
/-! ### parts of a hall -/
def gs (ss : List Sy) (k : Nat) : Sy := ss.getD k (0, .is 0)
def sub (ss : List Sy) (ks : List Nat) : List Sy := ks.map (gs ss)
theorem gs_mem {ss : List Sy} {k : Nat} (h : k < ss.length) : gs ss k ∈ ss := by
  unfold gs
  rw [List.getD_eq_getElem?_getD, List.getElem?_eq_getElem h]
  exact List.getElem_mem h
theorem sub_all (ss : List Sy) : sub ss (List.range ss.length) = ss := by
  refine List.ext_getElem (by simp [sub]) fun i h1 h2 => ?_
  simp [sub, gs, List.getD_eq_getElem?_getD, List.getElem?_eq_getElem h2]
theorem at_gs {ss : List Sy} {k : Nat} (h : k < ss.length) : atI (ss.map encS) (k : Int) = some (encS (gs ss k)) := by
  refine atI_nat ?_
  rw [List.getElem?_map, List.getElem?_eq_getElem h]
  unfold gs
  rw [List.getD_eq_getElem?_getD, List.getElem?_eq_getElem h]
  rfl
theorem unsat_iff {m : Nat} {ss : List Sy} : worldsOf m ss = [] ↔ ∀ w ∈ allW m, fits ss w = false := by
  unfold worldsOf
  rw [List.filter_eq_nil_iff]
  constructor
  · intro h w hw
    simpa using h w hw
  · intro h w hw
    rw [h w hw]
    simp
theorem unsat_mono {m : Nat} {a b : List Sy} (h : worldsOf m a = []) (hs : ∀ s ∈ a, s ∈ b) : worldsOf m b = [] := by
  rw [unsat_iff] at h ⊢
  intro w hw
  have := h w hw
  unfold fits at this ⊢
  rw [List.all_eq_false] at this ⊢
  obtain ⟨s, h1, h2⟩ := this
  exact ⟨s, hs s h1, h2⟩
theorem sub_mono {ss : List Sy} {a b : List Nat} (h : ∀ k ∈ a, k ∈ b) : ∀ s ∈ sub ss a, s ∈ sub ss b := fun s hs => by
  obtain ⟨k, hk, rfl⟩ := List.mem_map.mp hs
  exact List.mem_map.mpr ⟨k, h k hk, rfl⟩
abbrev wo (n : Nat) (k : Nat) : Bool := !((k : Int) == (n : Int))
theorem wo_iff {n k : Nat} : wo n k = true ↔ k ≠ n := by
  unfold wo
  rw [Bool.not_eq_true', beq_eq_false_iff_ne]
  omega
/-- what core keeps -/
structure CoreOk (m : Nat) (ss : List Sy) (pre K : List Nat) : Prop where
  lt : K.Pairwise (· < ·)
  bd : ∀ k ∈ K, k < ss.length
  un : worldsOf m (sub ss K) = []
  cr : ∀ j ∈ K, j ∈ pre → worldsOf m (sub ss (K.filter (wo j))) ≠ []
theorem encH_mk (m : Nat) (ss : List Sy) : PyData.tuple [.int m, .tuple (ss.map encS)] = encH m ss := rfl
theorem F_core_ok {m : Nat} {ss : List Sy} (h1 : 1 ≤ m) (h5 : m ≤ 5) (hl : ss.length ≤ 1000) (h : ∀ s ∈ ss, s.1 < m ∧ s.2.ok m ∧ s.2.depth < 12) :
    (worldsOf m ss ≠ [] ∧ F_core [encH m ss] = .ok .none) ∨ ∃ K, CoreOk m ss (List.range ss.length) K ∧ F_core [encH m ss] = .ok (.tuple (K.map encI)) := by
  have hw := F_worlds_ok h1 h5 hl h
  by_cases hs : worldsOf m ss = []
  · right
    have step : ∀ pre x post (ρ : Rho), List.range ss.length = pre ++ x :: post → (∃ K a4 a5 a6, ρ = [.d (encH m ss), .d (.int m), .d (.tuple (ss.map encS)), .d (.list (K.map encI)), a4, a5, a6] ∧ CoreOk m ss pre K) →
        ∃ ρ1 ρ2, bN 4 (encI x) ρ = some ρ1 ∧ l1_core F_worlds ρ1 = .ok (.nx ρ2) ∧ ∃ K a4 a5 a6, ρ2 = [.d (encH m ss), .d (.int m), .d (.tuple (ss.map encS)), .d (.list (K.map encI)), a4, a5, a6] ∧ CoreOk m ss (pre ++ [x]) K := by
      rintro pre x post ρ hx ⟨K, a4, a5, a6, rfl, C⟩
      have hKl : K.length ≤ 1000 := by
        have q : K.Nodup := C.lt.imp fun h => Nat.ne_of_lt h
        have := List.Nodup.length_le_of_subset q (l₂ := List.range ss.length) fun k hk => List.mem_range.mpr (C.bd k hk)
        rw [List.length_range] at this
        omega
      have e1 : lcD (bN 6) (tB (eOp oNe (eVar 6) (eVar 4))) (eVar 6) (K.map encI) [.d (encH m ss), .d (.int m), .d (.tuple (ss.map encS)), .d (.list (K.map encI)), .d (encI x), a5, .un] = some ((K.filter (wo x)).map encI) :=
        lcD_filterE _ fun k hk => ⟨_, rfl, by simp, fun _ => rfl⟩
      have hlt := List.Pairwise.filter (wo x) C.lt
      have e2 : lcD (bN 6) tYesD (eOp oIx (eVar 2) (eVar 6)) ((K.filter (wo x)).map encI) [.d (encH m ss), .d (.int m), .d (.tuple (ss.map encS)), .d (.list (K.map encI)), .d (encI x), .d (.list ((K.filter (wo x)).map encI)), .un] = some ((sub ss (K.filter (wo x))).map encS) := by
        have := lcD_mapE (g := bN 6) (e := eOp oIx (eVar 2) (eVar 6)) (en := encI) (q := fun k => encS (gs ss k)) (ρ := [.d (encH m ss), .d (.int m), .d (.tuple (ss.map encS)), .d (.list (K.map encI)), .d (encI x), .d (.list ((K.filter (wo x)).map encI)), .un]) (K.filter (wo x)) fun k hk => by
          have hk' := C.bd k (List.mem_filter.mp hk).1
          exact ⟨_, rfl, by simp [at_gs hk']⟩
        rw [this]
        simp [sub]
      have hfl : (K.filter (wo x)).length ≤ 1000 := Nat.le_trans (List.length_filter_le ..) hKl
      have e3 : F_worlds [.tuple [.int m, .tuple ((sub ss (K.filter (wo x))).map encS)]] = .ok (.tuple ((worldsOf m (sub ss (K.filter (wo x)))).map encW)) :=
        F_worlds_ok h1 h5 (by unfold sub; rw [List.length_map]; omega) fun s hs => by
          obtain ⟨k, hk, rfl⟩ := List.mem_map.mp hs
          exact h _ (gs_mem (C.bd k (List.mem_filter.mp hk).1))
      have hk6 : K.length ≤ 1000000 := by omega
      have hf6 : (K.filter (wo x)).length ≤ 1000000 := by omega
      by_cases hu : worldsOf m (sub ss (K.filter (wo x))) = []
      · refine ⟨_, _, rfl, ?_, K.filter (wo x), .d (encI x), .d (.list ((K.filter (wo x)).map encI)), a6, rfl, ⟨hlt, fun k hk => C.bd k (List.mem_filter.mp hk).1, hu, fun j hj hjp => ?_⟩⟩
        · rw [hu] at e3
          simp [l1_core, e1, hk6, e2, hf6, e3]
        · obtain ⟨hj1, hj2⟩ := List.mem_filter.mp hj
          have hjx := wo_iff.mp hj2
          have hjp' : j ∈ pre := by
            rcases List.mem_append.mp hjp with q | q
            · exact q
            · exact absurd (by simpa using q) hjx
          intro q
          refine C.cr j hj1 hjp' (unsat_mono q (sub_mono fun k hk => ?_))
          obtain ⟨k1, k2⟩ := List.mem_filter.mp hk
          exact List.mem_filter.mpr ⟨(List.mem_filter.mp k1).1, k2⟩
      · refine ⟨_, _, rfl, ?_, K, .d (encI x), .d (.list ((K.filter (wo x)).map encI)), a6, rfl, ⟨C.lt, C.bd, C.un, fun j hj hjp => ?_⟩⟩
        · have hne : (List.map encW (worldsOf m (sub ss (K.filter (wo x))))).isEmpty = false := by
            rw [List.isEmpty_eq_false_iff]
            simpa using hu
          simp [l1_core, e1, hk6, e2, hf6, e3, hu]
        · rcases List.mem_append.mp hjp with q | q
          · exact C.cr j hj q
          · have : j = x := by simpa using q
            subst this
            exact hu
    obtain ⟨ρ', e, K, a4, a5, a6, rfl, C⟩ := forD_walkE (en := encI) (g := bN 4) (body := l1_core F_worlds) (I := fun pre ρ => ∃ K a4 a5 a6, ρ = [.d (encH m ss), .d (.int m), .d (.tuple (ss.map encS)), .d (.list (K.map encI)), a4, a5, a6] ∧ CoreOk m ss pre K)
      (List.range ss.length) [.d (encH m ss), .d (.int m), .d (.tuple (ss.map encS)), .d (.list ((List.range ss.length).map encI)), .un, .un, .un] step
      ⟨List.range ss.length, .un, .un, .un, rfl, ⟨List.pairwise_lt_range, fun k hk => List.mem_range.mp hk, by rw [sub_all]; exact hs, fun j _ hj => by simp at hj⟩⟩
    refine ⟨K, C, ?_⟩
    rw [hs] at hw
    have hr := s_range hl
    unfold encH at e hw
    simp [F_core, runD, b_core, encH, hw, hr, e]
  · left
    refine ⟨hs, ?_⟩
    unfold encH at hw
    simp [F_core, runD, b_core, encH, hw, hs]
end Kc

namespace Kc
open PySem PySem.Spec PyProof.Rows L2 Pu
/-! ### worlds as data -/
theorem eqv_b2 (x y : Bool) : PyData.eqv (b2 x) (b2 y) = decide (x = y) := by
  unfold b2
  rw [eqv_int]
  cases x <;> cases y <;> rfl
theorem eqv_W (x y : Wd) : PyData.eqv (encW x) (encW y) = decide (x = y) := by
  unfold encW
  rw [eqv_tuple, eqvAll_map eqv_b2]
theorem sh_W (x : Wd) : Sh 1 (encW x) := sh_tup (sh_all _ fun d hd => by
  obtain ⟨b, _, rfl⟩ := List.mem_map.mp hd
  exact sh_int _)
theorem enumL_map {α : Type} (en : α → PyData) : ∀ (n : Nat) (xs : List α), enumL n (xs.map en) = (xs.zipIdx n).map fun p => .tuple [.int p.2, en p.1]
  | _, [] => rfl
  | n, x :: xs => by
    rw [List.map_cons, List.zipIdx_cons, List.map_cons]
    unfold enumL
    rw [enumL_map en (n + 1) xs]
theorem cut_map {α β : Type} (f : α → β) (xs : List α) (lo hi : Option Int) : cutL (xs.map f) lo hi = (cutL xs lo hi).map f := by
  unfold cutL
  rw [List.length_map, List.map_take, List.map_drop]
theorem mem_cut {α : Type} {xs : List α} {lo hi : Option Int} {x : α} (h : x ∈ cutL xs lo hi) : x ∈ xs := List.mem_of_mem_drop (List.mem_of_mem_take h)
@[simp] theorem cut1 {α : Type} (x : α) (xs : List α) : cutL (x :: xs) (some 1) none = xs := cut_drop (x :: xs) 1
@[simp] theorem cut2 {α : Type} (x y : α) (xs : List α) : cutL (x :: y :: xs) (some 2) none = xs := cut_drop (x :: y :: xs) 2
@[simp] theorem cut3 {α : Type} (x y z : α) (xs : List α) : cutL (x :: y :: z :: xs) (some 3) none = xs := cut_drop (x :: y :: z :: xs) 3
@[simp] theorem cut_2 {α : Type} (x y : α) (xs : List α) : cutL (x :: y :: xs) none (some 2) = [x, y] := cut_take (x :: y :: xs) 2
end Kc

namespace Kc
open PySem PySem.Spec PyProof.Rows L2 Pu
/-! ### is_thing and the like, for any datum -/
def numQ : PyData → Int → Bool
  | .int i, m => decide (0 ≤ i) && decide (i ≤ m)
  | _, _ => false
theorem F_is_number_ok (y : PyData) (m : Int) : F_is_number [y, .int m] = .ok (.bool (numQ y m)) := by
  cases y with
  | int i => by_cases h1 : 0 ≤ i <;> simp [F_is_number, runD, b_is_number, isiD, tyN, numQ, h1]
  | bool b => simp [F_is_number, runD, b_is_number, isiD, tyN, numQ]
  | _ => simp [F_is_number, runD, b_is_number, isiD, tyN, numQ]
@[simp] theorem sz_is : T_SIZES.lookup (Str.ofString "is") = some 2 := by decide +kernel
@[simp] theorem sz_many : T_SIZES.lookup (Str.ofString "many") = some 2 := by decide +kernel
@[simp] theorem sz_not : T_SIZES.lookup (Str.ofString "not") = some 2 := by decide +kernel
@[simp] theorem sz_and : T_SIZES.lookup (Str.ofString "and") = some 3 := by decide +kernel
@[simp] theorem sz_or : T_SIZES.lookup (Str.ofString "or") = some 3 := by decide +kernel
@[simp] theorem sz_alike : T_SIZES.lookup (Str.ofString "alike") = some 3 := by decide +kernel
@[simp] theorem sz_says : T_SIZES.lookup (Str.ofString "says") = some 3 := by decide +kernel
/-- how many parts a word asks for; 0: no word -/
def szD (s : Str) : Int := match T_SIZES.lookup s with
  | some i => i
  | none => 0
@[simp] theorem szD_is : szD (Str.ofString "is") = 2 := by unfold szD; rw [sz_is]
@[simp] theorem szD_many : szD (Str.ofString "many") = 2 := by unfold szD; rw [sz_many]
@[simp] theorem szD_not : szD (Str.ofString "not") = 2 := by unfold szD; rw [sz_not]
@[simp] theorem szD_and : szD (Str.ofString "and") = 3 := by unfold szD; rw [sz_and]
@[simp] theorem szD_or : szD (Str.ofString "or") = 3 := by unfold szD; rw [sz_or]
@[simp] theorem szD_alike : szD (Str.ofString "alike") = 3 := by unfold szD; rw [sz_alike]
@[simp] theorem szD_says : szD (Str.ofString "says") = 3 := by unfold szD; rw [sz_says]
def isT (m : Int) : Nat → PyData → Bool
  | 0, _ => false
  | n + 1, .tuple (.str s :: xs) =>
    if szD s = (xs.length : Int) + 1 then
      if s = "is" then (match xs with | y :: _ => numQ y (m - 1) | [] => false)
      else if s = "many" then (match xs with | y :: _ => numQ y 7 | [] => false)
      else if s = "says" then (match xs with | y :: z :: _ => numQ y (m - 1) && isT m n z | _ => false)
      else xs.all (isT m n)
    else false
  | _ + 1, _ => false
theorem dp_tup (xs : List PyData) (n : Nat) (h : (PyData.tuple xs).depth < n + 1) : ∀ d ∈ xs, d.depth < n := by
  have h0 : PyData.depthAll xs + 1 < n + 1 := h
  have h' : PyData.depthAll xs < n := by omega
  clear h h0
  intro d hd
  induction xs with
  | nil => simp at hd
  | cons x xs ih =>
    have h1 : max x.depth (PyData.depthAll xs) < n := h'
    rcases List.mem_cons.mp hd with rfl | q
    · exact Nat.lt_of_le_of_lt (Nat.le_max_left _ _) h1
    · exact ih (Nat.lt_of_le_of_lt (Nat.le_max_right _ _) h1) q
theorem F_is_thing_ok (m : Int) : ∀ (n : Nat) (d : PyData), d.depth < n → F_is_thing n [d, .int m] = .ok (.bool (isT m n d)) := by
  intro n
  induction n with
  | zero => exact fun d hd => absurd hd (Nat.not_lt_zero _)
  | succ n ih =>
    intro d hd
    cases d with
    | tuple xs =>
      cases xs with
      | nil => simp [F_is_thing, runD, b_is_thing, isiD, tyN, isT]
      | cons x xs =>
        have t0 : ((xs.length : Int) + 1 = 0) = False := eq_false (by omega)
        cases x with
        | str s =>
          have hdp := dp_tup _ _ hd
          have hget : (match T_SIZES.lookup s with | some i => PyData.int i | none => PyData.int 0) = .int (szD s) := by
            unfold szD
            cases T_SIZES.lookup s <;> rfl
          by_cases hs : szD s = (xs.length : Int) + 1
          · by_cases h1 : s = "is"
            · subst h1
              rw [szD_is] at hs
              match xs, hs with
              | [y], hs =>
                have e1 := F_is_number_ok y (m - 1)
                simp [F_is_thing, runD, b_is_thing, isiD, tyN, isT, e1]
              | [], hs => simp at hs
              | _ :: _ :: _, hs => simp at hs; omega
            · by_cases h2 : s = "many"
              · subst h2
                rw [szD_many] at hs
                match xs, hs with
                | [y], hs =>
                  have e1 := F_is_number_ok y 7
                  simp [F_is_thing, runD, b_is_thing, isiD, tyN, isT, e1]
                | [], hs => simp at hs
                | _ :: _ :: _, hs => simp at hs; omega
              · by_cases h3 : s = "says"
                · subst h3
                  rw [szD_says] at hs
                  match xs, hs, hdp with
                  | [y, z], hs, hdp =>
                    have e1 := F_is_number_ok y (m - 1)
                    have e2 := ih z (hdp z (by simp))
                    cases q : numQ y (m - 1) <;> rw [q] at e1 <;> simp [F_is_thing, runD, b_is_thing, isiD, tyN, isT, e1, e2, q]
                  | [], hs, _ => simp at hs
                  | [_], hs, _ => simp at hs
                  | _ :: _ :: _ :: _, hs, _ => simp at hs; omega
                · have hl3 : xs.length ≤ 1000000 := by
                    have : szD s ≤ 3 := by
                      unfold szD
                      cases q : T_SIZES.lookup s with
                      | none => decide
                      | some i =>
                        have hm : ∀ (T : List (Str × Int)), (∀ r ∈ T, r.2 ≤ 3) → T.lookup s = some i → i ≤ 3 := by
                          intro T
                          induction T with
                          | nil => intro _ h; simp at h
                          | cons r T ih =>
                            intro h1 h2
                            rw [List.lookup_cons] at h2
                            split at h2
                            · cases h2
                              exact h1 r (by simp)
                            · exact ih (fun r hr => h1 r (by simp [hr])) h2
                        exact hm T_SIZES (by decide) q
                    omega
                  have ll : ∀ (ys : List PyData), (∀ y ∈ ys, y.depth < n) → lcD (bN 2) tYesD (e1_is_thing (F_is_thing n)) ys [.d (.tuple (.str s :: xs)), .d (.int m), .un] = some (ys.map fun y => .bool (isT m n y)) := by
                    intro ys hys
                    have := lcD_mapE (g := bN 2) (e := e1_is_thing (F_is_thing n)) (en := id) (q := fun y => .bool (isT m n y)) (ρ := [.d (.tuple (.str s :: xs)), .d (.int m), .un]) ys fun y hy => ⟨_, rfl, by simp [e1_is_thing, ih y (hys y hy)]⟩
                    rwa [List.map_id] at this
                  have l1 := ll xs fun y hy => hdp y (by simp [hy])
                  have ca := s_cAll' (isT m n) xs
                  have hg : cGet T_SIZES [.str s, .int 0] = some (.int ((xs.length : Int) + 1)) := by
                    show some (match T_SIZES.lookup s with | some i => PyData.int i | none => PyData.int 0) = _
                    rw [hget, hs]
                  simp [F_is_thing, runD, b_is_thing, isiD, tyN, isT, t0, hg, h1, h2, h3, hs, l1, hl3, ca, -s_cGet]
          · have hg : cGet T_SIZES [.str s, .int 0] = some (.int (szD s)) := by
              show some (match T_SIZES.lookup s with | some i => PyData.int i | none => PyData.int 0) = _
              rw [hget]
            simp [F_is_thing, runD, b_is_thing, isiD, tyN, isT, t0, hg, hs, -s_cGet]
        | _ => simp [F_is_thing, runD, b_is_thing, isiD, tyN, isT, t0]
    | _ => simp [F_is_thing, runD, b_is_thing, isiD, tyN, isT]
theorem isT_enc (m : Nat) : ∀ (t : Th) (n : Nat), t.ok m → t.depth < n → isT m n (enc t) = true
  | .is g, n + 1, h, _ => by
    have h' : g < m := h
    have h2 : (g : Int) ≤ (m : Int) - 1 := by omega
    simp [isT, enc, numQ, h2]
  | .many k, n + 1, h, _ => by
    have h' : k ≤ 7 := h
    have h2 : (k : Int) ≤ 7 := by omega
    simp [isT, enc, numQ, h2]
  | .nt t, n + 1, h, hd => by
    have ih := isT_enc m t n h (by simp [Th.depth] at hd; omega)
    simp [isT, enc, ih]
  | .says g t, n + 1, h, hd => by
    have h' : g < m := h.1
    have h2 : (g : Int) ≤ (m : Int) - 1 := by omega
    have ih := isT_enc m t n h.2 (by simp [Th.depth] at hd; omega)
    simp [isT, enc, ih, numQ, h2]
  | .an a b, n + 1, h, hd => by
    have hd' : max a.depth b.depth < n := by simp [Th.depth] at hd; omega
    have i1 := isT_enc m a n h.1 (by omega)
    have i2 := isT_enc m b n h.2 (by omega)
    simp [isT, enc, i1, i2]
  | .ors a b, n + 1, h, hd => by
    have hd' : max a.depth b.depth < n := by simp [Th.depth] at hd; omega
    have i1 := isT_enc m a n h.1 (by omega)
    have i2 := isT_enc m b n h.2 (by omega)
    simp [isT, enc, i1, i2]
  | .al a b, n + 1, h, hd => by
    have hd' : max a.depth b.depth < n := by simp [Th.depth] at hd; omega
    have i1 := isT_enc m a n h.1 (by omega)
    have i2 := isT_enc m b n h.2 (by omega)
    simp [isT, enc, i1, i2]
theorem enc_depth : ∀ t : Th, (enc t).depth ≤ t.depth + 1
  | .is _ => by simp [enc, PyData.depth, PyData.depthAll]
  | .many _ => by simp [enc, PyData.depth, PyData.depthAll]
  | .nt t => by
    have := enc_depth t
    simp only [enc, PyData.depth, PyData.depthAll, Th.depth]
    omega
  | .says g t => by
    have := enc_depth t
    simp only [enc, PyData.depth, PyData.depthAll, Th.depth]
    omega
  | .an a b => by
    have := enc_depth a
    have := enc_depth b
    simp only [enc, PyData.depth, PyData.depthAll, Th.depth]
    omega
  | .ors a b => by
    have := enc_depth a
    have := enc_depth b
    simp only [enc, PyData.depth, PyData.depthAll, Th.depth]
    omega
  | .al a b => by
    have := enc_depth a
    have := enc_depth b
    simp only [enc, PyData.depth, PyData.depthAll, Th.depth]
    omega
/-! ### sayings, halls -/
def isS (m : Int) : PyData → Bool
  | .tuple [a, b] => numQ a (m - 1) && isT m 12 b
  | _ => false
theorem F_is_saying_ok (m : Int) (d : PyData) (hd : d.depth < 13) : F_is_saying [d, .int m] = .ok (.bool (isS m d)) := by
  cases d with
  | tuple xs =>
    have hdp := dp_tup xs 12 hd
    match xs, hdp with
    | [], _ => simp [F_is_saying, runD, b_is_saying, isiD, tyN, isS]
    | [_], _ => simp [F_is_saying, runD, b_is_saying, isiD, tyN, isS]
    | [a, b], hdp =>
      have e1 := F_is_number_ok a (m - 1)
      have e2 := F_is_thing_ok m 12 b (hdp b (by simp))
      cases q : numQ a (m - 1) <;> rw [q] at e1 <;> simp [F_is_saying, runD, b_is_saying, isiD, tyN, isS, e1, e2, q]
    | _ :: _ :: _ :: r, _ =>
      have t2 : ((r.length : Int) + 1 + 1 + 1 = 2) = False := eq_false (by omega)
      simp [F_is_saying, runD, b_is_saying, isiD, tyN, isS, t2]
  | _ => simp [F_is_saying, runD, b_is_saying, isiD, tyN, isS]
def isH : PyData → Bool
  | .tuple [.int i, .tuple xs] => decide (0 ≤ i) && decide (i ≤ 6) && !(i == 0) && decide (xs.length ≤ 12) && xs.all (isS i)
  | _ => false
theorem F_is_hall_ok (d : PyData) (hd : d.depth < 15) : F_is_hall [d] = .ok (.bool (isH d)) := by
  cases d with
  | tuple xs =>
    have hdp := dp_tup xs 14 hd
    match xs, hdp with
    | [], _ => simp [F_is_hall, runD, b_is_hall, isiD, tyN, isH]
    | [_], _ => simp [F_is_hall, runD, b_is_hall, isiD, tyN, isH]
    | _ :: _ :: _ :: r, _ =>
      have t2 : ((r.length : Int) + 1 + 1 + 1 = 2) = False := eq_false (by omega)
      simp [F_is_hall, runD, b_is_hall, isiD, tyN, isH, t2]
    | [a, b], hdp =>
      have e1 := F_is_number_ok a 6
      cases a with
      | int i =>
        cases q : numQ (.int i) 6 with
        | false =>
          rw [q] at e1
          have q' : (decide (0 ≤ i) && decide (i ≤ 6)) = false := q
          cases b <;> simp [F_is_hall, runD, b_is_hall, isiD, tyN, isH, e1, q']
        | true =>
          rw [q] at e1
          have q' : (decide (0 ≤ i) && decide (i ≤ 6)) = true := q
          by_cases h0 : i = 0
          · subst h0
            cases b <;> simp [F_is_hall, runD, b_is_hall, isiD, tyN, isH, e1]
          · cases b with
            | tuple ss =>
              have hds := dp_tup ss 13 (hdp _ (by simp))
              by_cases hl : ss.length ≤ 12
              · have ll : lcD (bN 3) tYesD (e1_is_hall F_is_saying) ss [.d (.tuple [.int i, .tuple ss]), .d (.int i), .d (.tuple ss), .un] = some (ss.map fun y => .bool (isS i y)) := by
                  have := lcD_mapE (g := bN 3) (e := e1_is_hall F_is_saying) (en := id) (q := fun y => .bool (isS i y)) (ρ := [.d (.tuple [.int i, .tuple ss]), .d (.int i), .d (.tuple ss), .un]) ss fun y hy => ⟨_, rfl, by simp [e1_is_hall, F_is_saying_ok i y (hds y hy)]⟩
                  rwa [List.map_id] at this
                have ca := s_cAll' (isS i) ss
                have hl' : ((ss.length : Int) ≤ 12) = True := eq_true (by omega)
                have hl6 : ss.length ≤ 1000000 := by omega
                simp [F_is_hall, runD, b_is_hall, isiD, tyN, isH, e1, h0, hl, hl', ll, hl6, ca, q']
              · have hl' : ((ss.length : Int) ≤ 12) = False := eq_false (by omega)
                simp [F_is_hall, runD, b_is_hall, isiD, tyN, isH, e1, h0, hl, hl']
            | _ => simp [F_is_hall, runD, b_is_hall, isiD, tyN, isH, e1, h0]
      | _ => simp [F_is_hall, runD, b_is_hall, isiD, tyN, isH, e1, numQ]
  | _ => simp [F_is_hall, runD, b_is_hall, isiD, tyN, isH]
end Kc

namespace K02
open PySem PySem.Spec PyProof.Rows L2 Pu Kc
def topS (i : Nat) : Stmt := PySem.Challenge.pw_knavehall_k02_whole_texts.main.body.getD i (.Pass ⟨0, 0, 0, 0⟩)
section
variable {P : Program} {w : World} {K : PySem.W.Frag} {mg : Str → Option Value} {base : Heap} {ec : Ec} {k : Nat}
abbrev s_is_number : Stmt := topS 6
theorem sc_is_number : FnScope ["thing", "most"] ["thing", "most"] (defScope s_is_number) := ⟨rfl, rfl, rfl, by decide +kernel, rfl, by decide +kernel, by decide +kernel⟩
theorem cal_is_number (D : DefIn K mg "is_number" s_is_number ["thing", "most"]) (m_bool : mg "bool" = none) (m_int : mg "int" = none) (m_isinstance : mg "isinstance" = none) : Cal P w K mg base ec "is_number" (k + 1) 2 F_is_number :=
  calOf D sc_is_number fun cdv A outer s H E f hr cx => have hu := hu64 hr; have hu5 := hu65 hr; (sd_one (sd_ret (ed_and (ed_isi (t := "int") (.inl rfl) rfl m_isinstance rfl m_int bb_int (ed_var 0)) (ed_and (ed_not (ed_isi (t := "bool") (.inr (.inl rfl)) rfl m_isinstance rfl m_bool bb_bool (ed_var 0))) (ed_one (ed_chain od_le od_le ed_int (ed_var 0) (ed_var 1)))))))
abbrev s_is_thing : Stmt := topS 7
theorem sc_is_thing : FnScope ["thing", "many", "part"] ["thing", "many"] (defScope s_is_thing) := ⟨rfl, rfl, rfl, by decide +kernel, rfl, by decide +kernel, by decide +kernel⟩
theorem st_is_thing (D : DefIn K mg "is_thing" s_is_thing ["thing", "many"]) (c_is_number : Cal P w K mg base ec "is_number" k 2 F_is_number) (m_all : mg "all" = none) (m_isinstance : mg "isinstance" = none) (m_len : mg "len" = none) (m_str : mg "str" = none) (m_tuple : mg "tuple" = none) (d_SIZES : DicIn K w mg "SIZES" T_SIZES) {n : Nat} (c_is_thing : Cal P w K mg base ec "is_thing" k 2 (F_is_thing n)) : Cal P w K mg base ec "is_thing" (k + 1) 2 (F_is_thing (n + 1)) :=
  calOf D sc_is_thing fun cdv A outer s H E f hr cx => have hu := hu64 hr; have hu5 := hu65 hr; (sd_cons (sd_if (td_pw (tw_or (td_not (td_val (ed_isi (t := "tuple") (.inr (.inr (.inr (.inl rfl)))) rfl m_isinstance rfl m_tuple bb_tuple (ed_var 0)))) (tw_or (td_cmp (od_eq hu) (ed_callB cd_len rfl m_len bb_len (ad_cons (ed_var 0) ad_nil)) ed_int) (tw_or1 (td_not (td_val (ed_isi (t := "str") (.inr (.inr (.inl rfl))) rfl m_isinstance rfl m_str bb_str (ed_ix ix_du (ed_var 0) ed_int)))))))) (sd_one (sd_ret ed_bl)) sd_nil) (sd_cons (sd_if (td_cmp (od_ne hu) (ed_szGet d_SIZES rfl (ad_cons (ed_ix ix_du (ed_var 0) ed_int) (ad_cons ed_int ad_nil))) (ed_callB cd_len rfl m_len bb_len (ad_cons (ed_var 0) ad_nil))) (sd_one (sd_ret ed_bl)) sd_nil) (sd_cons (sd_if (td_cmp (od_eq hu) (ed_ix ix_du (ed_var 0) ed_int) ed_str) (sd_one (sd_ret (ed_callC cx hr c_is_number rfl (ad_cons (ed_ix ix_du (ed_var 0) ed_int) (ad_cons (ed_op od_sub (ed_var 1) ed_int) ad_nil)) (len_cons (len_cons len_nil))))) sd_nil) (sd_cons (sd_if (td_cmp (od_eq hu) (ed_ix ix_du (ed_var 0) ed_int) ed_str) (sd_one (sd_ret (ed_callC cx hr c_is_number rfl (ad_cons (ed_ix ix_du (ed_var 0) ed_int) (ad_cons ed_int ad_nil)) (len_cons (len_cons len_nil))))) sd_nil) (sd_cons (sd_if (td_cmp (od_eq hu) (ed_ix ix_du (ed_var 0) ed_int) ed_str) (sd_one (sd_ret (ed_and (ed_callC cx hr c_is_number rfl (ad_cons (ed_ix ix_du (ed_var 0) ed_int) (ad_cons (ed_op od_sub (ed_var 1) ed_int) ad_nil)) (len_cons (len_cons len_nil))) (ed_one (ed_callC cx hr c_is_thing rfl (ad_cons (ed_ix ix_du (ed_var 0) ed_int) (ad_cons (ed_var 1) ad_nil)) (len_cons (len_cons len_nil))))))) sd_nil) (sd_one (sd_ret (ed_callB (cd_all cx.calm) rfl m_all bb_all (ad_cons (ed_ef (ef_lc cx.calm cx.nd (own := [("part", 2)]) (blkOk_by (by rfl)) (by decide) (id_seq true (ed_slice (ed_var 0) (pod_s ed_int) pod_n)) (fun s1 H1 C1 cl1 fp1 => (gd_name (cx.blk s1 H1 _ C1 cl1 fp1).nd rfl (by first | exact Or.inl rfl | exact Or.inr rfl))) (fun s1 H1 C1 cl1 fp1 => tsd_nil) (fun s1 H1 C1 cl1 fp1 => (ed_callC (cx.blk s1 H1 _ C1 cl1 fp1) hr c_is_thing rfl (ad_cons (ed_var 2) (ad_cons (ed_var 1) ad_nil)) (len_cons (len_cons len_nil)))))) ad_nil)))))))))
theorem cal_is_thing (D : DefIn K mg "is_thing" s_is_thing ["thing", "many"]) (c_is_number : Cal P w K mg base ec "is_number" k 2 F_is_number) (m_all : mg "all" = none) (m_isinstance : mg "isinstance" = none) (m_len : mg "len" = none) (m_str : mg "str" = none) (m_tuple : mg "tuple" = none) (d_SIZES : DicIn K w mg "SIZES" T_SIZES) : ∀ n : Nat, Cal P w K mg base ec "is_thing" (k + n) 2 (F_is_thing n)
  | 0 => calNone D
  | n + 1 => st_is_thing D (c_is_number.mono (Nat.le_add_right _ _)) m_all m_isinstance m_len m_str m_tuple d_SIZES (cal_is_thing D c_is_number m_all m_isinstance m_len m_str m_tuple d_SIZES n)
abbrev s_number_at : Stmt := topS 9
theorem sc_number_at : FnScope ["words", "at", "beyond", "number"] ["words", "at", "beyond"] (defScope s_number_at) := ⟨rfl, rfl, rfl, by decide +kernel, rfl, by decide +kernel, by decide +kernel⟩
def l1_number_at : Rho → R Out := (sIf (tB (eOp oEq (eSl (eVar 0) (pS (eVar 1)) (pS (eOp oAdd (eVar 1) (eK (.int 1))))) (eL (fLst (aCons (eCB cStr (aCons (eVar 3) aNil)) aNil))))) (sRet (eVar 3)) sNil)
def b_number_at : Rho → R Out := (sCons (sFor (iRange (eVar 2)) (bN 3) l1_number_at) (sEx 0))
def F_number_at : List PyData → R PyData := runD 4 3 (b_number_at)
theorem cal_number_at (D : DefIn K mg "number_at" s_number_at ["words", "at", "beyond"]) (m_range : mg "range" = none) (m_str : mg "str" = none) {C_NoText : Addr} (x_NoText : XIn K mg "NoText" C_NoText) (e_NoText : ec 0 = .ref C_NoText) : Cal P w K mg base ec "number_at" (k + 1) 3 F_number_at :=
  calOf D sc_number_at fun cdv A outer s H E f hr cx => have hu := hu64 hr; have hu5 := hu65 hr; (sd_cons (sd_for cx.po cx.calm (id_range true rfl m_range (ed_var 2)) (gd_name cx.nd rfl (by first | exact Or.inl rfl | exact Or.inr rfl)) (sd_one (sd_if (td_cmp (od_eq hu) (ed_slice (ed_var 0) (pod_s (ed_var 1)) (pod_s (ed_op od_add (ed_var 1) ed_int))) (ed_ef (ef_lst (ad_cons (ed_callTy cd_str rfl m_str bb_str (ad_cons (ed_var 3) ad_nil)) ad_nil)))) (sd_one (sd_ret (ed_var 3))) sd_nil))) (sd_one (sd_raise cx x_NoText e_NoText rfl)))
abbrev s_thing_at : Stmt := topS 10
theorem sc_thing_at : FnScope ["words", "at", "many", "head", "found", "part"] ["words", "at", "many"] (defScope s_thing_at) := ⟨rfl, rfl, rfl, by decide +kernel, rfl, by decide +kernel, by decide +kernel⟩
def t1_thing_at : Rho → R Bool := (tB (eOp oLt (eCB cLen (aCons (eVar 4) aNil)) (eDicAt T_SIZES (eVar 3))))
def l1_thing_at (f_thing_at : List PyData → R PyData) : Rho → R Out := (sCons (sAsg (bT2 5 1) (eCall f_thing_at (aCons (eVar 0) (aCons (eVar 1) (aCons (eVar 2) aNil))))) (sSet 4 (eOp oAdd (eVar 4) (eTup (aCons (eVar 5) aNil)))))
def b_thing_at (f_number_at f_thing_at : List PyData → R PyData) : Rho → R Out := (sCons (sIf (tOr (tB (eOp oGe (eVar 1) (eCB cLen (aCons (eVar 0) aNil)))) (tB (eDicNotIn T_SIZES (eOp oIx (eVar 0) (eVar 1))))) (sEx 0) sNil) (sCons (sSet 3 (eOp oIx (eVar 0) (eVar 1))) (sCons (sIf (tB (eOp oEq (eVar 3) (eK (.str "is")))) (sRet (eTup (aCons (eTup (aCons (eVar 3) (aCons (eCall f_number_at (aCons (eVar 0) (aCons (eOp oAdd (eVar 1) (eK (.int 1))) (aCons (eVar 2) aNil)))) aNil))) (aCons (eOp oAdd (eVar 1) (eK (.int 2))) aNil)))) sNil) (sCons (sIf (tB (eOp oEq (eVar 3) (eK (.str "many")))) (sRet (eTup (aCons (eTup (aCons (eVar 3) (aCons (eCall f_number_at (aCons (eVar 0) (aCons (eOp oAdd (eVar 1) (eK (.int 1))) (aCons (eK (.int 8)) aNil)))) aNil))) (aCons (eOp oAdd (eVar 1) (eK (.int 2))) aNil)))) sNil) (sCons (sSet 4 (eTup (aCons (eVar 3) aNil))) (sCons (sSet 1 (eOp oAdd (eVar 1) (eK (.int 1)))) (sCons (sIf (tB (eOp oEq (eVar 3) (eK (.str "says")))) (sCons (sSet 4 (eTup (aCons (eVar 3) (aCons (eCall f_number_at (aCons (eVar 0) (aCons (eVar 1) (aCons (eVar 2) aNil)))) aNil)))) (sSet 1 (eOp oAdd (eVar 1) (eK (.int 1))))) sNil) (sCons (sWhile 64 t1_thing_at (l1_thing_at f_thing_at)) (sRet (eTup (aCons (eVar 4) (aCons (eVar 1) aNil))))))))))))
def F_thing_at : Nat → List PyData → R PyData
  | 0 => fun _ => .no
  | n + 1 => runD 6 3 (b_thing_at F_number_at (F_thing_at n))
theorem st_thing_at (D : DefIn K mg "thing_at" s_thing_at ["words", "at", "many"]) (c_number_at : Cal P w K mg base ec "number_at" k 3 F_number_at) (m_len : mg "len" = none) {C_NoText : Addr} (x_NoText : XIn K mg "NoText" C_NoText) (e_NoText : ec 0 = .ref C_NoText) (d_SIZES : DicIn K w mg "SIZES" T_SIZES) {n : Nat} (c_thing_at : Cal P w K mg base ec "thing_at" k 3 (F_thing_at n)) : Cal P w K mg base ec "thing_at" (k + 1) 3 (F_thing_at (n + 1)) :=
  calOf D sc_thing_at fun cdv A outer s H E f hr cx => have hu := hu64 hr; have hu5 := hu65 hr; (sd_cons (sd_if (td_pw (tw_or (td_cmp od_ge (ed_var 1) (ed_callB cd_len rfl m_len bb_len (ad_cons (ed_var 0) ad_nil))) (tw_or1 (td_dicNotIn d_SIZES rfl (ed_ix ix_du (ed_var 0) (ed_var 1)))))) (sd_one (sd_raise cx x_NoText e_NoText rfl)) sd_nil) (sd_cons (sd_set (i := 3) cx.nd rfl (by first | exact Or.inl rfl | exact Or.inr rfl) (ed_ix ix_du (ed_var 0) (ed_var 1))) (sd_cons (sd_if (td_cmp (od_eq hu) (ed_var 3) ed_str) (sd_one (sd_ret (ed_tup (ad_cons (ed_tup (ad_cons (ed_var 3) (ad_cons (ed_callC cx hr c_number_at rfl (ad_cons (ed_var 0) (ad_cons (ed_op od_add (ed_var 1) ed_int) (ad_cons (ed_var 2) ad_nil))) (len_cons (len_cons (len_cons len_nil)))) ad_nil))) (ad_cons (ed_op od_add (ed_var 1) ed_int) ad_nil))))) sd_nil) (sd_cons (sd_if (td_cmp (od_eq hu) (ed_var 3) ed_str) (sd_one (sd_ret (ed_tup (ad_cons (ed_tup (ad_cons (ed_var 3) (ad_cons (ed_callC cx hr c_number_at rfl (ad_cons (ed_var 0) (ad_cons (ed_op od_add (ed_var 1) ed_int) (ad_cons ed_int ad_nil))) (len_cons (len_cons (len_cons len_nil)))) ad_nil))) (ad_cons (ed_op od_add (ed_var 1) ed_int) ad_nil))))) sd_nil) (sd_cons (sd_set (i := 4) cx.nd rfl (by first | exact Or.inl rfl | exact Or.inr rfl) (ed_tup (ad_cons (ed_var 3) ad_nil))) (sd_cons (sd_set (i := 1) cx.nd rfl (by first | exact Or.inl rfl | exact Or.inr rfl) (ed_op od_add (ed_var 1) ed_int)) (sd_cons (sd_if (td_cmp (od_eq hu) (ed_var 3) ed_str) (sd_cons (sd_set (i := 4) cx.nd rfl (by first | exact Or.inl rfl | exact Or.inr rfl) (ed_tup (ad_cons (ed_var 3) (ad_cons (ed_callC cx hr c_number_at rfl (ad_cons (ed_var 0) (ad_cons (ed_var 1) (ad_cons (ed_var 2) ad_nil))) (len_cons (len_cons (len_cons len_nil)))) ad_nil)))) (sd_one (sd_set (i := 1) cx.nd rfl (by first | exact Or.inl rfl | exact Or.inr rfl) (ed_op od_add (ed_var 1) ed_int)))) sd_nil) (sd_cons (sd_while 64 cx.po (td_cmp od_lt (ed_callB cd_len rfl m_len bb_len (ad_cons (ed_var 4) ad_nil)) (ed_dicAt d_SIZES rfl (ed_var 3))) (sd_cons (sd_asg (b := false) (ed_callC cx hr c_thing_at rfl (ad_cons (ed_var 0) (ad_cons (ed_var 1) (ad_cons (ed_var 2) ad_nil))) (len_cons (len_cons (len_cons len_nil)))) (gd_tup2 cx.calm cx.nd rfl rfl (by first | exact Or.inl rfl | exact Or.inr rfl) (by first | exact Or.inl rfl | exact Or.inr rfl))) (sd_one (sd_set (i := 4) cx.nd rfl (by first | exact Or.inl rfl | exact Or.inr rfl) (ed_op od_add (ed_var 4) (ed_tup (ad_cons (ed_var 5) ad_nil))))))) (sd_one (sd_ret (ed_tup (ad_cons (ed_var 4) (ad_cons (ed_var 1) ad_nil)))))))))))))
theorem cal_thing_at (D : DefIn K mg "thing_at" s_thing_at ["words", "at", "many"]) (c_number_at : Cal P w K mg base ec "number_at" k 3 F_number_at) (m_len : mg "len" = none) {C_NoText : Addr} (x_NoText : XIn K mg "NoText" C_NoText) (e_NoText : ec 0 = .ref C_NoText) (d_SIZES : DicIn K w mg "SIZES" T_SIZES) : ∀ n : Nat, Cal P w K mg base ec "thing_at" (k + n) 3 (F_thing_at n)
  | 0 => calNone D
  | n + 1 => st_thing_at D (c_number_at.mono (Nat.le_add_right _ _)) m_len x_NoText e_NoText d_SIZES (cal_thing_at D c_number_at m_len x_NoText e_NoText d_SIZES n)
abbrev s_read : Stmt := topS 11
theorem sc_read : FnScope ["text", "many", "words", "found", "at"] ["text", "many"] (defScope s_read) := ⟨rfl, rfl, rfl, by decide +kernel, rfl, by decide +kernel, by decide +kernel⟩
def b_read (f_thing_at : List PyData → R PyData) : Rho → R Out := (sCons (sSet 2 (eMt "str" mSplit (eVar 0) (aCons (eK (.str " ")) aNil))) (sCons (sAsg (bT2 3 4) (eCall f_thing_at (aCons (eVar 2) (aCons (eK (.int 0)) (aCons (eVar 1) aNil))))) (sCons (sIf (tB (eOp oNe (eVar 4) (eCB cLen (aCons (eVar 2) aNil)))) (sEx 0) sNil) (sRet (eVar 3)))))
def F_read : List PyData → R PyData := runD 5 2 (b_read (F_thing_at 40))
theorem cal_read (D : DefIn K mg "read" s_read ["text", "many"]) (c_thing_at : Cal P w K mg base ec "thing_at" k 3 (F_thing_at 40)) (m_len : mg "len" = none) {C_NoText : Addr} (x_NoText : XIn K mg "NoText" C_NoText) (e_NoText : ec 0 = .ref C_NoText) : Cal P w K mg base ec "read" (k + 1) 2 F_read :=
  calOf D sc_read fun cdv A outer s H E f hr cx => have hu := hu64 hr; have hu5 := hu65 hr; (sd_cons (sd_set (i := 2) cx.nd rfl (by first | exact Or.inl rfl | exact Or.inr rfl) (ed_mt (.inl rfl) PySem.F.plainAttrs_str PySem.F.slot_str_split PySem.F.type_str_split mt_splitD (ed_var 0) (ad_cons ed_str ad_nil))) (sd_cons (sd_asg (b := false) (ed_callC cx hr c_thing_at rfl (ad_cons (ed_var 2) (ad_cons ed_int (ad_cons (ed_var 1) ad_nil))) (len_cons (len_cons (len_cons len_nil)))) (gd_tup2 cx.calm cx.nd rfl rfl (by first | exact Or.inl rfl | exact Or.inr rfl) (by first | exact Or.inl rfl | exact Or.inr rfl))) (sd_cons (sd_if (td_cmp (od_ne hu) (ed_var 4) (ed_callB cd_len rfl m_len bb_len (ad_cons (ed_var 2) ad_nil))) (sd_one (sd_raise cx x_NoText e_NoText rfl)) sd_nil) (sd_one (sd_ret (ed_var 3))))))
abbrev s_written : Stmt := topS 13
theorem sc_written : FnScope ["thing", "part"] ["thing"] (defScope s_written) := ⟨rfl, rfl, rfl, by decide +kernel, rfl, by decide +kernel, by decide +kernel⟩
def b_written (f_written : List PyData → R PyData) : Rho → R Out := (sCons (sIf (tB (eOp oIn (eOp oIx (eVar 0) (eK (.int 0))) (eTup (aCons (eK (.str "is")) (aCons (eK (.str "many")) aNil))))) (sRet (eJoin ((eFmt (eOp oIx (eVar 0) (eK (.int 0)))) :: (eK (.str " ")) :: (eFmt (eOp oIx (eVar 0) (eK (.int 1)))) :: []))) sNil) (sCons (sIf (tB (eOp oEq (eOp oIx (eVar 0) (eK (.int 0))) (eK (.str "says")))) (sRet (eOp oAdd (eJoin ((eK (.str "says ")) :: (eFmt (eOp oIx (eVar 0) (eK (.int 1)))) :: (eK (.str " ")) :: [])) (eCall f_written (aCons (eOp oIx (eVar 0) (eK (.int 2))) aNil)))) sNil) (sRet (eMt "str" mJoin (eK (.str " ")) (aCons (eOp oAdd (eL (fLst (aCons (eOp oIx (eVar 0) (eK (.int 0))) aNil))) (eL (fLc (iSeq (eSl (eVar 0) (pS (eK (.int 1))) pN)) [1] (bN 1) tYesD (eCall f_written (aCons (eVar 1) aNil))))) aNil)))))
def F_written : Nat → List PyData → R PyData
  | 0 => fun _ => .no
  | n + 1 => runD 2 1 (b_written (F_written n))
theorem st_written (D : DefIn K mg "written" s_written ["thing"]) {n : Nat} (c_written : Cal P w K mg base ec "written" k 1 (F_written n)) : Cal P w K mg base ec "written" (k + 1) 1 (F_written (n + 1)) :=
  calOf D sc_written fun cdv A outer s H E f hr cx => have hu := hu64 hr; have hu5 := hu65 hr; (sd_cons (sd_if (td_cmp (od_in hu5) (ed_ix ix_du (ed_var 0) ed_int) (ed_tup (ad_cons ed_str (ad_cons ed_str ad_nil)))) (sd_one (sd_ret (ed_joined (.cons (ed_fmt (ed_ix ix_du (ed_var 0) ed_int)) (.cons ed_str (.cons (ed_fmt (ed_ix ix_du (ed_var 0) ed_int)) .nil)))))) sd_nil) (sd_cons (sd_if (td_cmp (od_eq hu) (ed_ix ix_du (ed_var 0) ed_int) ed_str) (sd_one (sd_ret (ed_op od_add (ed_joined (.cons ed_str (.cons (ed_fmt (ed_ix ix_du (ed_var 0) ed_int)) (.cons ed_str .nil)))) (ed_callC cx hr c_written rfl (ad_cons (ed_ix ix_du (ed_var 0) ed_int) ad_nil) (len_cons len_nil))))) sd_nil) (sd_one (sd_ret (ed_mt (.inl rfl) PySem.F.plainAttrs_str PySem.F.slot_str_join PySem.F.type_str_join mt_joinD ed_str (ad_cons (ed_op od_add (ed_ef (ef_lst (ad_cons (ed_ix ix_du (ed_var 0) ed_int) ad_nil))) (ed_ef (ef_lc cx.calm cx.nd (own := [("part", 1)]) (blkOk_by (by rfl)) (by decide) (id_seq true (ed_slice (ed_var 0) (pod_s ed_int) pod_n)) (fun s1 H1 C1 cl1 fp1 => (gd_name (cx.blk s1 H1 _ C1 cl1 fp1).nd rfl (by first | exact Or.inl rfl | exact Or.inr rfl))) (fun s1 H1 C1 cl1 fp1 => tsd_nil) (fun s1 H1 C1 cl1 fp1 => (ed_callC (cx.blk s1 H1 _ C1 cl1 fp1) hr c_written rfl (ad_cons (ed_var 1) ad_nil) (len_cons len_nil)))))) ad_nil))))))
theorem cal_written (D : DefIn K mg "written" s_written ["thing"]) : ∀ n : Nat, Cal P w K mg base ec "written" (k + n) 1 (F_written n)
  | 0 => calNone D
  | n + 1 => st_written D (cal_written D n)
abbrev s__law_cell : Stmt := topS 15
theorem sc__law_cell : FnScope ["_law_script", "_law_k"] ["_law_script", "_law_k"] (defScope s__law_cell) := ⟨rfl, rfl, rfl, by decide +kernel, rfl, by decide +kernel, by decide +kernel⟩
theorem cal__law_cell (D : DefIn K mg "_law_cell" s__law_cell ["_law_script", "_law_k"]) (m_len : mg "len" = none) : Cal P w K mg base ec "_law_cell" (k + 1) 2 F__law_cell :=
  calOf D sc__law_cell fun cdv A outer s H E f hr cx => have hu := hu64 hr; have hu5 := hu65 hr; (sd_cons (sd_if (td_cmp od_lt (ed_var 1) (ed_callB cd_len rfl m_len bb_len (ad_cons (ed_var 0) ad_nil))) (sd_one (sd_ret (ed_ix ix_du (ed_var 0) (ed_var 1)))) sd_nil) (sd_one (sd_ret ed_int)))
abbrev s__law_mix : Stmt := topS 16
theorem sc__law_mix : FnScope ["_law_cell_here", "_law_prime", "_law_many"] ["_law_cell_here", "_law_prime", "_law_many"] (defScope s__law_mix) := ⟨rfl, rfl, rfl, by decide +kernel, rfl, by decide +kernel, by decide +kernel⟩
theorem cal__law_mix (D : DefIn K mg "_law_mix" s__law_mix ["_law_cell_here", "_law_prime", "_law_many"]) : Cal P w K mg base ec "_law_mix" (k + 1) 3 F__law_mix :=
  calOf D sc__law_mix fun cdv A outer s H E f hr cx => have hu := hu64 hr; have hu5 := hu65 hr; (sd_one (sd_ret (ed_op od_mod (ed_op od_mod (ed_op od_mul (ed_var 0) ed_int) (ed_var 1)) (ed_var 2))))
abbrev s__law_thing : Stmt := topS 17
theorem sc__law_thing : FnScope ["_law_cell_here", "_law_many", "_law_deep", "_law_turn", "_law_guest", "_law_one", "_law_other"] ["_law_cell_here", "_law_many", "_law_deep"] (defScope s__law_thing) := ⟨rfl, rfl, rfl, by decide +kernel, rfl, by decide +kernel, by decide +kernel⟩
theorem st__law_thing (D : DefIn K mg "_law_thing" s__law_thing ["_law_cell_here", "_law_many", "_law_deep"]) (c__law_mix : Cal P w K mg base ec "_law_mix" k 3 F__law_mix) {n : Nat} (c__law_thing : Cal P w K mg base ec "_law_thing" k 3 (F__law_thing n)) : Cal P w K mg base ec "_law_thing" (k + 1) 3 (F__law_thing (n + 1)) :=
  calOf D sc__law_thing fun cdv A outer s H E f hr cx => have hu := hu64 hr; have hu5 := hu65 hr; (sd_cons (sd_set (i := 3) cx.nd rfl (by first | exact Or.inl rfl | exact Or.inr rfl) (ed_callC cx hr c__law_mix rfl (ad_cons (ed_var 0) (ad_cons ed_int (ad_cons ed_int ad_nil))) (len_cons (len_cons (len_cons len_nil))))) (sd_cons (sd_set (i := 4) cx.nd rfl (by first | exact Or.inl rfl | exact Or.inr rfl) (ed_callC cx hr c__law_mix rfl (ad_cons (ed_var 0) (ad_cons ed_int (ad_cons (ed_var 1) ad_nil))) (len_cons (len_cons (len_cons len_nil))))) (sd_cons (sd_if (td_pw (tw_or (td_cmp (od_eq hu) (ed_var 2) ed_int) (tw_or1 (td_cmp od_lt (ed_var 3) ed_int)))) (sd_cons (sd_if (td_cmp (od_eq hu) (ed_var 3) ed_int) (sd_one (sd_ret (ed_tup (ad_cons ed_str (ad_cons (ed_callC cx hr c__law_mix rfl (ad_cons (ed_var 0) (ad_cons ed_int (ad_cons ed_int ad_nil))) (len_cons (len_cons (len_cons len_nil)))) ad_nil))))) sd_nil) (sd_one (sd_ret (ed_tup (ad_cons ed_str (ad_cons (ed_var 4) ad_nil)))))) sd_nil) (sd_cons (sd_set (i := 5) cx.nd rfl (by first | exact Or.inl rfl | exact Or.inr rfl) (ed_callC cx hr c__law_thing rfl (ad_cons (ed_op od_add (ed_op od_mul (ed_var 0) ed_int) ed_int) (ad_cons (ed_var 1) (ad_cons (ed_op od_sub (ed_var 2) ed_int) ad_nil))) (len_cons (len_cons (len_cons len_nil))))) (sd_cons (sd_if (td_cmp (od_eq hu) (ed_var 3) ed_int) (sd_one (sd_ret (ed_tup (ad_cons ed_str (ad_cons (ed_callC cx hr c__law_mix rfl (ad_cons (ed_var 0) (ad_cons ed_int (ad_cons (ed_op od_add (ed_var 1) ed_int) ad_nil))) (len_cons (len_cons (len_cons len_nil)))) ad_nil))))) sd_nil) (sd_cons (sd_if (td_cmp (od_eq hu) (ed_var 3) ed_int) (sd_one (sd_ret (ed_tup (ad_cons ed_str (ad_cons (ed_var 5) ad_nil))))) sd_nil) (sd_cons (sd_if (td_cmp (od_eq hu) (ed_var 3) ed_int) (sd_one (sd_ret (ed_tup (ad_cons ed_str (ad_cons (ed_var 4) (ad_cons (ed_var 5) ad_nil)))))) sd_nil) (sd_cons (sd_set (i := 6) cx.nd rfl (by first | exact Or.inl rfl | exact Or.inr rfl) (ed_callC cx hr c__law_thing rfl (ad_cons (ed_op od_add (ed_op od_mul (ed_var 0) ed_int) ed_int) (ad_cons (ed_var 1) (ad_cons (ed_op od_sub (ed_var 2) ed_int) ad_nil))) (len_cons (len_cons (len_cons len_nil))))) (sd_one (sd_ret (ed_tup (ad_cons (ed_ix ix_du (ed_ef (ef_lst (ad_cons ed_str (ad_cons ed_str (ad_cons ed_str (ad_cons ed_str ad_nil)))))) (ed_op od_sub (ed_var 3) ed_int)) (ad_cons (ed_var 5) (ad_cons (ed_var 6) ad_nil))))))))))))))
theorem cal__law_thing (D : DefIn K mg "_law_thing" s__law_thing ["_law_cell_here", "_law_many", "_law_deep"]) (c__law_mix : Cal P w K mg base ec "_law_mix" k 3 F__law_mix) : ∀ n : Nat, Cal P w K mg base ec "_law_thing" (k + n) 3 (F__law_thing n)
  | 0 => calNone D
  | n + 1 => st__law_thing D (c__law_mix.mono (Nat.le_add_right _ _)) (cal__law_thing D c__law_mix n)
abbrev s__law_hall : Stmt := topS 18
theorem sc__law_hall : FnScope ["_law_script", "_law_many", "_law_size", "_law_some", "_law_k", "_law_cell_here"] ["_law_script"] (defScope s__law_hall) := ⟨rfl, rfl, rfl, by decide +kernel, rfl, by decide +kernel, by decide +kernel⟩
theorem cal__law_hall (D : DefIn K mg "_law_hall" s__law_hall ["_law_script"]) (c__law_cell : Cal P w K mg base ec "_law_cell" k 2 F__law_cell) (c__law_mix : Cal P w K mg base ec "_law_mix" k 3 F__law_mix) (c__law_thing : Cal P w K mg base ec "_law_thing" k 3 (F__law_thing 5)) (m_range : mg "range" = none) (m_tuple : mg "tuple" = none) : Cal P w K mg base ec "_law_hall" (k + 1) 1 F__law_hall :=
  calOf D sc__law_hall fun cdv A outer s H E f hr cx => have hu := hu64 hr; have hu5 := hu65 hr; (sd_cons (sd_set (i := 1) cx.nd rfl (by first | exact Or.inl rfl | exact Or.inr rfl) (ed_op od_add ed_int (ed_callC cx hr c__law_mix rfl (ad_cons (ed_callC cx hr c__law_cell rfl (ad_cons (ed_var 0) (ad_cons ed_int ad_nil)) (len_cons (len_cons len_nil))) (ad_cons ed_int (ad_cons ed_int ad_nil))) (len_cons (len_cons (len_cons len_nil)))))) (sd_cons (sd_set (i := 2) cx.nd rfl (by first | exact Or.inl rfl | exact Or.inr rfl) (ed_callC cx hr c__law_mix rfl (ad_cons (ed_callC cx hr c__law_cell rfl (ad_cons (ed_var 0) (ad_cons ed_int ad_nil)) (len_cons (len_cons len_nil))) (ad_cons ed_int (ad_cons ed_int ad_nil))) (len_cons (len_cons (len_cons len_nil))))) (sd_cons (sd_own (i := 3) cx.nd rfl (by first | exact Or.inl rfl | exact Or.inr rfl) (ef_lst ad_nil)) (sd_cons (sd_for cx.po cx.calm (id_range true rfl m_range (ed_var 2)) (gd_name cx.nd rfl (by first | exact Or.inl rfl | exact Or.inr rfl)) (sd_cons (sd_set (i := 5) cx.nd rfl (by first | exact Or.inl rfl | exact Or.inr rfl) (ed_callC cx hr c__law_cell rfl (ad_cons (ed_var 0) (ad_cons (ed_op od_add ed_int (ed_var 4)) ad_nil)) (len_cons (len_cons len_nil)))) (sd_one (sd_app (i := 3) rfl (by first | exact Or.inl rfl | exact Or.inr (Or.inl rfl) | exact Or.inr (Or.inr rfl)) (ed_tup (ad_cons (ed_callC cx hr c__law_mix rfl (ad_cons (ed_var 5) (ad_cons ed_int (ad_cons (ed_var 1) ad_nil))) (len_cons (len_cons (len_cons len_nil)))) (ad_cons (ed_callC cx hr c__law_thing rfl (ad_cons (ed_var 5) (ad_cons (ed_var 1) (ad_cons (ed_op od_add ed_int (ed_op od_mod (ed_var 5) ed_int)) ad_nil))) (len_cons (len_cons (len_cons len_nil)))) ad_nil))))))) (sd_fz 3 (sd_one (sd_ret (ed_tup (ad_cons (ed_var 1) (ad_cons (ed_callTy cd_tup rfl m_tuple bb_tuple (ad_cons (ed_var 3) ad_nil)) ad_nil))))))))))
abbrev s__law_text : Stmt := topS 19
theorem sc__law_text : FnScope ["_law_thing_here", "_law_words", "_law_part"] ["_law_thing_here"] (defScope s__law_text) := ⟨rfl, rfl, rfl, by decide +kernel, rfl, by decide +kernel, by decide +kernel⟩
def l1__law_text (f__law_text : List PyData → R PyData) : Rho → R Out := (sIf (tTr (eIsi "tuple" (eVar 2))) (sApp 1 (eCall f__law_text (aCons (eVar 2) aNil))) (sApp 1 (eCB cStr (aCons (eVar 2) aNil))))
def b__law_text (f__law_text : List PyData → R PyData) : Rho → R Out := (sCons (sOwn 1 (fLst (aCons (eOp oIx (eVar 0) (eK (.int 0))) aNil))) (sCons (sFor (iSeq (eSl (eVar 0) (pS (eK (.int 1))) pN)) (bN 2) (l1__law_text f__law_text)) (sFz 1 (sRet (eMt "str" mJoin (eK (.str " ")) (aCons (eVar 1) aNil))))))
def F__law_text : Nat → List PyData → R PyData
  | 0 => fun _ => .no
  | n + 1 => runD 3 1 (b__law_text (F__law_text n))
theorem st__law_text (D : DefIn K mg "_law_text" s__law_text ["_law_thing_here"]) (m_isinstance : mg "isinstance" = none) (m_str : mg "str" = none) (m_tuple : mg "tuple" = none) {n : Nat} (c__law_text : Cal P w K mg base ec "_law_text" k 1 (F__law_text n)) : Cal P w K mg base ec "_law_text" (k + 1) 1 (F__law_text (n + 1)) :=
  calOf D sc__law_text fun cdv A outer s H E f hr cx => have hu := hu64 hr; have hu5 := hu65 hr; (sd_cons (sd_own (i := 1) cx.nd rfl (by first | exact Or.inl rfl | exact Or.inr rfl) (ef_lst (ad_cons (ed_ix ix_du (ed_var 0) ed_int) ad_nil))) (sd_cons (sd_for cx.po cx.calm (id_seq true (ed_slice (ed_var 0) (pod_s ed_int) pod_n)) (gd_name cx.nd rfl (by first | exact Or.inl rfl | exact Or.inr rfl)) (sd_one (sd_if (td_val (ed_isi (t := "tuple") (.inr (.inr (.inr (.inl rfl)))) rfl m_isinstance rfl m_tuple bb_tuple (ed_var 2))) (sd_one (sd_app (i := 1) rfl (by first | exact Or.inl rfl | exact Or.inr (Or.inl rfl) | exact Or.inr (Or.inr rfl)) (ed_callC cx hr c__law_text rfl (ad_cons (ed_var 2) ad_nil) (len_cons len_nil)))) (sd_one (sd_app (i := 1) rfl (by first | exact Or.inl rfl | exact Or.inr (Or.inl rfl) | exact Or.inr (Or.inr rfl)) (ed_callTy cd_str rfl m_str bb_str (ad_cons (ed_var 2) ad_nil))))))) (sd_fz 1 (sd_one (sd_ret (ed_mt (.inl rfl) PySem.F.plainAttrs_str PySem.F.slot_str_join PySem.F.type_str_join mt_joinD ed_str (ad_cons (ed_var 1) ad_nil)))))))
theorem cal__law_text (D : DefIn K mg "_law_text" s__law_text ["_law_thing_here"]) (m_isinstance : mg "isinstance" = none) (m_str : mg "str" = none) (m_tuple : mg "tuple" = none) : ∀ n : Nat, Cal P w K mg base ec "_law_text" (k + n) 1 (F__law_text n)
  | 0 => calNone D
  | n + 1 => st__law_text D m_isinstance m_str m_tuple (cal__law_text D m_isinstance m_str m_tuple n)
abbrev s__law_spoilt : Stmt := topS 20
theorem sc__law_spoilt : FnScope ["_law_text_here", "_law_cell_here", "_law_words", "_law_at", "_law_word"] ["_law_text_here", "_law_cell_here"] (defScope s__law_spoilt) := ⟨rfl, rfl, rfl, by decide +kernel, rfl, by decide +kernel, by decide +kernel⟩
def b__law_spoilt : Rho → R Out := (sCons (sOwn 2 (fSplit (eVar 0) (eK (.str " ")))) (sCons (sSetB 3 2 (eOp oMod (eOp oFdiv (eVar 1) (eK (.int 5))) (eCB cLen (aCons (eVar 2) aNil)))) (sCons (sSet 4 (eOp oIx (eL (fLst (aCons (eK (.str "is")) (aCons (eK (.str "not")) (aCons (eK (.str "and")) (aCons (eK (.str "0")) (aCons (eK (.str "7")) (aCons (eK (.str "9")) (aCons (eK (.str "says")) (aCons (eK (.str "")) (aCons (eK (.str "IS")) (aCons (eK (.str "many")) (aCons (eK (.str "00")) (aCons (eK (.str "-1")) aNil)))))))))))))) (eOp oMod (eOp oFdiv (eVar 1) (eK (.int 97))) (eK (.int 12))))) (sCons (sIf (tB (eOp oEq (eOp oMod (eVar 1) (eK (.int 5))) (eK (.int 0)))) (sFz 2 (sOwn 2 (fCat (eSl (eVar 2) pN (pS (eVar 3))) (eSl (eVar 2) (pS (eOp oAdd (eVar 3) (eK (.int 1)))) pN)))) sNil) (sCons (sIf (tB (eOp oEq (eOp oMod (eVar 1) (eK (.int 5))) (eK (.int 1)))) (sFz 2 (sOwn 2 (fCat (eSl (eVar 2) pN (pS (eOp oAdd (eVar 3) (eK (.int 1))))) (eSl (eVar 2) (pS (eVar 3)) pN)))) sNil) (sCons (sIf (tB (eOp oEq (eOp oMod (eVar 1) (eK (.int 5))) (eK (.int 2)))) (sFz 2 (sOwn 2 (fCat (eOp oAdd (eSl (eVar 2) pN (pS (eVar 3))) (eL (fLst (aCons (eVar 4) aNil)))) (eSl (eVar 2) (pS (eOp oAdd (eVar 3) (eK (.int 1)))) pN)))) sNil) (sCons (sIf (tB (eOp oEq (eOp oMod (eVar 1) (eK (.int 5))) (eK (.int 3)))) (sFz 2 (sOwn 2 (fCat (eOp oAdd (eSl (eVar 2) pN (pS (eVar 3))) (eL (fLst (aCons (eVar 4) aNil)))) (eSl (eVar 2) (pS (eVar 3)) pN)))) sNil) (sCons (sIf (tB (eOp oEq (eOp oMod (eVar 1) (eK (.int 5))) (eK (.int 4)))) (sSetI 2 3 (eOp oAdd (eOp oIx (eVar 2) (eVar 3)) (eK (.str " ")))) sNil) (sFz 2 (sRet (eMt "str" mJoin (eK (.str " ")) (aCons (eVar 2) aNil))))))))))))
def F__law_spoilt : List PyData → R PyData := runD 5 2 (b__law_spoilt)
theorem cal__law_spoilt (D : DefIn K mg "_law_spoilt" s__law_spoilt ["_law_text_here", "_law_cell_here"]) (m_len : mg "len" = none) : Cal P w K mg base ec "_law_spoilt" (k + 1) 2 F__law_spoilt :=
  calOf D sc__law_spoilt fun cdv A outer s H E f hr cx => have hu := hu64 hr; have hu5 := hu65 hr; (sd_cons (sd_own (i := 2) cx.nd rfl (by first | exact Or.inl rfl | exact Or.inr rfl) (ef_split (ed_var 0) ed_str)) (sd_cons (sd_setB (j := 3) 2 cx.nd rfl (by first | exact Or.inl rfl | exact Or.inr rfl) (ed_op od_mod (ed_op od_fdiv (ed_var 1) ed_int) (ed_callB cd_len rfl m_len bb_len (ad_cons (ed_var 2) ad_nil)))) (sd_cons (sd_set (i := 4) cx.nd rfl (by first | exact Or.inl rfl | exact Or.inr rfl) (ed_ix ix_du (ed_ef (ef_lst (ad_cons ed_str (ad_cons ed_str (ad_cons ed_str (ad_cons ed_str (ad_cons ed_str (ad_cons ed_str (ad_cons ed_str (ad_cons ed_str (ad_cons ed_str (ad_cons ed_str (ad_cons ed_str (ad_cons ed_str ad_nil)))))))))))))) (ed_op od_mod (ed_op od_fdiv (ed_var 1) ed_int) ed_int))) (sd_cons (sd_if (td_cmp (od_eq hu) (ed_op od_mod (ed_var 1) ed_int) ed_int) (sd_fz 2 (sd_one (sd_own (i := 2) cx.nd rfl (by first | exact Or.inl rfl | exact Or.inr rfl) (ef_cat (ed_slice (ed_var 2) pod_n (pod_s (ed_var 3))) (ed_slice (ed_var 2) (pod_s (ed_op od_add (ed_var 3) ed_int)) pod_n))))) sd_nil) (sd_cons (sd_if (td_cmp (od_eq hu) (ed_op od_mod (ed_var 1) ed_int) ed_int) (sd_fz 2 (sd_one (sd_own (i := 2) cx.nd rfl (by first | exact Or.inl rfl | exact Or.inr rfl) (ef_cat (ed_slice (ed_var 2) pod_n (pod_s (ed_op od_add (ed_var 3) ed_int))) (ed_slice (ed_var 2) (pod_s (ed_var 3)) pod_n))))) sd_nil) (sd_cons (sd_if (td_cmp (od_eq hu) (ed_op od_mod (ed_var 1) ed_int) ed_int) (sd_fz 2 (sd_one (sd_own (i := 2) cx.nd rfl (by first | exact Or.inl rfl | exact Or.inr rfl) (ef_cat (ed_op od_add (ed_slice (ed_var 2) pod_n (pod_s (ed_var 3))) (ed_ef (ef_lst (ad_cons (ed_var 4) ad_nil)))) (ed_slice (ed_var 2) (pod_s (ed_op od_add (ed_var 3) ed_int)) pod_n))))) sd_nil) (sd_cons (sd_if (td_cmp (od_eq hu) (ed_op od_mod (ed_var 1) ed_int) ed_int) (sd_fz 2 (sd_one (sd_own (i := 2) cx.nd rfl (by first | exact Or.inl rfl | exact Or.inr rfl) (ef_cat (ed_op od_add (ed_slice (ed_var 2) pod_n (pod_s (ed_var 3))) (ed_ef (ef_lst (ad_cons (ed_var 4) ad_nil)))) (ed_slice (ed_var 2) (pod_s (ed_var 3)) pod_n))))) sd_nil) (sd_cons (sd_if (td_cmp (od_eq hu) (ed_op od_mod (ed_var 1) ed_int) ed_int) (sd_one (sd_setI (i := 2) (a := 3) rfl rfl (by first | exact Or.inl rfl | exact Or.inr (Or.inl rfl) | exact Or.inr (Or.inr rfl)) (by first | exact Or.inl rfl | exact Or.inr (Or.inl rfl) | exact Or.inr (Or.inr rfl)) (ed_op od_add (ed_ix ix_du (ed_var 2) (ed_var 3)) ed_str))) sd_nil) (sd_fz 2 (sd_one (sd_ret (ed_mt (.inl rfl) PySem.F.plainAttrs_str PySem.F.slot_str_join PySem.F.type_str_join mt_joinD ed_str (ad_cons (ed_var 2) ad_nil)))))))))))))
abbrev s__law_read : Stmt := topS 21
theorem sc__law_read : FnScope ["_law_text_here", "_law_many", "_law_found", "e"] ["_law_text_here", "_law_many"] (defScope s__law_read) := ⟨rfl, rfl, rfl, by decide +kernel, rfl, by decide +kernel, by decide +kernel⟩
def b__law_read (f_read : List PyData → R PyData) : Rho → R Out := (sCons (sSet 2 (eK (.str "other"))) (sCons (sTry 2 3 (eCall f_read (aCons (eVar 0) (aCons (eVar 1) aNil))) (fun _ => true)) (sRet (eVar 2))))
def F__law_read : List PyData → R PyData := runD 4 2 (b__law_read F_read)
theorem cal__law_read (D : DefIn K mg "_law_read" s__law_read ["_law_text_here", "_law_many"]) (c_read : Cal P w K mg base ec "read" k 2 F_read) (m_ValueError : mg "ValueError" = none) (m_isinstance : mg "isinstance" = none) {C_HallError : Addr} (x_HallError : XIn K mg "HallError" C_HallError) {C_NoText : Addr} (x_NoText : XIn K mg "NoText" C_NoText) {C_NoWorld : Addr} (x_NoWorld : XIn K mg "NoWorld" C_NoWorld) (e_NoText : ec 0 = .ref C_NoText) (ct_HallError_NoText_NoWorld : ∀ c, Caught K (ec c) C_HallError C_NoText C_NoWorld) : Cal P w K mg base ec "_law_read" (k + 1) 2 F__law_read :=
  calOf D sc__law_read fun cdv A outer s H E f hr cx => have hu := hu64 hr; have hu5 := hu65 hr; (sd_cons (sd_set (i := 2) cx.nd rfl (by first | exact Or.inl rfl | exact Or.inr rfl) ed_str) (sd_cons (sd_tryIs (i := 3) (j := 2) cx rfl rfl rfl rfl (by decide) rfl rfl (.inl rfl) (.inl rfl) (by decide) (by decide) rfl x_HallError.g rfl x_NoText.g rfl x_NoWorld.g rfl m_isinstance rfl m_ValueError (by decide) (by decide) (by decide) (fun c _ => ct_HallError_NoText_NoWorld c) (fun W2 pn xe cx2 => (ed_callC cx2 hr c_read rfl (ad_cons (ed_var 0) (ad_cons (ed_var 1) ad_nil)) (len_cons (len_cons len_nil)))) rfl) (sd_one (sd_ret (ed_var 2)))))
abbrev s_law : Stmt := topS 22
theorem sc_law : FnScope ["_law_script", "_law_many", "_law_cell_here", "_law_thing_here", "_law_text_here", "_law_bad", "_law_found", "_law_more"] ["_law_script"] (defScope s_law) := ⟨rfl, rfl, rfl, by decide +kernel, rfl, by decide +kernel, by decide +kernel⟩
def l1_law (f__law_read : List PyData → R PyData) : Rho → R Out := (sIf (tB (eOp oIsN (eCall f__law_read (aCons (eVar 7) (aCons (eVar 1) aNil))) (eK .none))) (sRet (eK (.bool false))) sNil)
def l2_law (f__law_thing f__law_text f_written f_read f__law_spoilt f__law_read f_is_thing : List PyData → R PyData) : Rho → R Out := (sCons (sSet 3 (eCall f__law_thing (aCons (eVar 2) (aCons (eVar 1) (aCons (eK (.int 3)) aNil))))) (sCons (sSet 4 (eCall f__law_text (aCons (eVar 3) aNil))) (sCons (sIf (tOr (tB (eOp oNe (eCall f_written (aCons (eVar 3) aNil)) (eVar 4))) (tB (eOp oNe (eCall f_read (aCons (eVar 4) (aCons (eVar 1) aNil))) (eVar 3)))) (sRet (eK (.bool false))) sNil) (sCons (sSet 5 (eCall f__law_spoilt (aCons (eVar 4) (aCons (eVar 2) aNil)))) (sCons (sSet 6 (eCall f__law_read (aCons (eVar 5) (aCons (eVar 1) aNil)))) (sCons (sIf (tAn (tB (eOp oIsN (eVar 6) (eK .none))) (tOr (tNo (tTr (eCall f_is_thing (aCons (eVar 6) (aCons (eVar 1) aNil))))) (tB (eOp oNe (eCall f__law_text (aCons (eVar 6) aNil)) (eVar 5))))) (sRet (eK (.bool false))) sNil) (sFor (iSeq (eL (fLst (aCons (eOp oAdd (eVar 4) (eK (.str " "))) (aCons (eOp oAdd (eK (.str " ")) (eVar 4)) (aCons (eOp oAdd (eVar 4) (eK (.str " is 0"))) (aCons (eK (.str "not")) (aCons (eK (.str "")) (aCons (eOp oAdd (eK (.str "is ")) (eCB cStr (aCons (eVar 1) aNil))) (aCons (eK (.str "many 8")) (aCons (eK (.str "is 0 is 0")) (aCons (eK (.str "is")) aNil)))))))))))) (bN 7) (l1_law f__law_read))))))))
def b_law (f_is_thing f_read f_written f__law_thing f__law_hall f__law_text f__law_spoilt f__law_read : List PyData → R PyData) : Rho → R Out := (sCons (sSet 1 (eOp oIx (eCall f__law_hall (aCons (eVar 0) aNil)) (eK (.int 0)))) (sCons (sFor (iSeq (eSl (eVar 0) (pS (eK (.int 1))) (pS (eK (.int 9))))) (bN 2) (l2_law f__law_thing f__law_text f_written f_read f__law_spoilt f__law_read f_is_thing)) (sRet (eK (.bool true)))))
def F_law : List PyData → R PyData := runD 8 1 (b_law (F_is_thing 40) F_read (F_written 12) (F__law_thing 5) F__law_hall (F__law_text 40) F__law_spoilt F__law_read)
theorem cal_law {f : Addr} {fd : FuncData} (Fn : Fun K "law" "law" s_law f fd) (c_is_thing : Cal P w K mg base ec "is_thing" k 2 (F_is_thing 40)) (c_read : Cal P w K mg base ec "read" k 2 F_read) (c_written : Cal P w K mg base ec "written" k 1 (F_written 12)) (c__law_thing : Cal P w K mg base ec "_law_thing" k 3 (F__law_thing 5)) (c__law_hall : Cal P w K mg base ec "_law_hall" k 1 F__law_hall) (c__law_text : Cal P w K mg base ec "_law_text" k 1 (F__law_text 40)) (c__law_spoilt : Cal P w K mg base ec "_law_spoilt" k 2 F__law_spoilt) (c__law_read : Cal P w K mg base ec "_law_read" k 2 F__law_read) (m_str : mg "str" = none) : FnD P w K mg base ec (k + 1) f fd ["_law_script"] F_law :=
  fnD_of Fn sc_law fun cdv A outer s H E hr cx => have hu := hu64 hr; have hu5 := hu65 hr; (sd_cons (sd_set (i := 1) cx.nd rfl (by first | exact Or.inl rfl | exact Or.inr rfl) (ed_ix ix_du (ed_callC cx hr c__law_hall rfl (ad_cons (ed_var 0) ad_nil) (len_cons len_nil)) ed_int)) (sd_cons (sd_for cx.po cx.calm (id_seq true (ed_slice (ed_var 0) (pod_s ed_int) (pod_s ed_int))) (gd_name cx.nd rfl (by first | exact Or.inl rfl | exact Or.inr rfl)) (sd_cons (sd_set (i := 3) cx.nd rfl (by first | exact Or.inl rfl | exact Or.inr rfl) (ed_callC cx hr c__law_thing rfl (ad_cons (ed_var 2) (ad_cons (ed_var 1) (ad_cons ed_int ad_nil))) (len_cons (len_cons (len_cons len_nil))))) (sd_cons (sd_set (i := 4) cx.nd rfl (by first | exact Or.inl rfl | exact Or.inr rfl) (ed_callC cx hr c__law_text rfl (ad_cons (ed_var 3) ad_nil) (len_cons len_nil))) (sd_cons (sd_if (td_pw (tw_or (td_cmp (od_ne hu) (ed_callC cx hr c_written rfl (ad_cons (ed_var 3) ad_nil) (len_cons len_nil)) (ed_var 4)) (tw_or1 (td_cmp (od_ne hu) (ed_callC cx hr c_read rfl (ad_cons (ed_var 4) (ad_cons (ed_var 1) ad_nil)) (len_cons (len_cons len_nil))) (ed_var 3))))) (sd_one (sd_ret ed_bl)) sd_nil) (sd_cons (sd_set (i := 5) cx.nd rfl (by first | exact Or.inl rfl | exact Or.inr rfl) (ed_callC cx hr c__law_spoilt rfl (ad_cons (ed_var 4) (ad_cons (ed_var 2) ad_nil)) (len_cons (len_cons len_nil)))) (sd_cons (sd_set (i := 6) cx.nd rfl (by first | exact Or.inl rfl | exact Or.inr rfl) (ed_callC cx hr c__law_read rfl (ad_cons (ed_var 5) (ad_cons (ed_var 1) ad_nil)) (len_cons (len_cons len_nil)))) (sd_cons (sd_if (td_pw (tw_and (td_cmp od_isN (ed_var 6) ed_non) (tw_and1 (td_pw (tw_or (td_not (td_val (ed_callC cx hr c_is_thing rfl (ad_cons (ed_var 6) (ad_cons (ed_var 1) ad_nil)) (len_cons (len_cons len_nil))))) (tw_or1 (td_cmp (od_ne hu) (ed_callC cx hr c__law_text rfl (ad_cons (ed_var 6) ad_nil) (len_cons len_nil)) (ed_var 5)))))))) (sd_one (sd_ret ed_bl)) sd_nil) (sd_one (sd_for cx.po cx.calm (id_seq true (ed_ef (ef_lst (ad_cons (ed_op od_add (ed_var 4) ed_str) (ad_cons (ed_op od_add ed_str (ed_var 4)) (ad_cons (ed_op od_add (ed_var 4) ed_str) (ad_cons ed_str (ad_cons ed_str (ad_cons (ed_op od_add ed_str (ed_callTy cd_str rfl m_str bb_str (ad_cons (ed_var 1) ad_nil))) (ad_cons ed_str (ad_cons ed_str (ad_cons ed_str ad_nil)))))))))))) (gd_name cx.nd rfl (by first | exact Or.inl rfl | exact Or.inr rfl)) (sd_one (sd_if (td_cmp od_isN (ed_callC cx hr c__law_read rfl (ad_cons (ed_var 7) (ad_cons (ed_var 1) ad_nil)) (len_cons (len_cons len_nil))) ed_non) (sd_one (sd_ret ed_bl)) sd_nil))))))))))) (sd_one (sd_ret ed_bl))))
end
theorem all_mk {P : Program} {w : World} {K : PySem.W.Frag} {h : Heap} {mg : Str → Option Value} {fa f0 f1 f2 f3 f4 f5 f6 f7 f8 f9 f10 f11 f12 f13 : Addr} (X : K.In h) (G : h.Ns mainGlobals mg) (hfa : mg "law" = some (.ref fa))
    {od0 an0 od1 an1 od2 an2 od3 an3 od4 an4 od5 an5 od6 an6 od7 an7 od8 an8 od9 an9 od10 an10 od11 an11 od12 an12 od13 an13 : Option Addr} {sl0 sl1 sl2 sl3 sl4 sl5 sl6 sl7 sl8 sl9 sl10 sl11 sl12 sl13 : Array (Option Value)} {oc0 kV0 dc0 pm0 cd0 ct0 oc1 kV1 dc1 pm1 cd1 ct1 oc2 kV2 dc2 pm2 cd2 ct2 oc3 kV3 dc3 pm3 cd3 ct3 oc4 kV4 dc4 pm4 cd4 ct4 oc5 kV5 dc5 pm5 cd5 ct5 oc6 kV6 dc6 pm6 cd6 ct6 oc7 kV7 dc7 pm7 cd7 ct7 oc8 kV8 dc8 pm8 cd8 ct8 oc9 kV9 dc9 pm9 cd9 ct9 oc10 kV10 dc10 pm10 cd10 ct10 oc11 kV11 dc11 pm11 cd11 ct11 oc12 kV12 dc12 pm12 cd12 ct12 oc13 kV13 dc13 pm13 cd13 ct13 : Value}
    (a0 : PySem.W.nsIn K mainGlobals "is_number" = some (some (.ref f0))) (l0 : K.lookup f0 = some ⟨oc0, od0, .func (PySem.W.fnOf "is_number" "is_number" (defArgs s_is_number) (defBody s_is_number) (defScope s_is_number) .none kV0 dc0 pm0 an0 cd0 ct0), sl0⟩) (cc0 : PySem.W.codeIn K cd0 "is_number" = true) (k0 : PySem.W.keepIn K (.ref f0) = true)
    (a1 : PySem.W.nsIn K mainGlobals "is_thing" = some (some (.ref f1))) (l1 : K.lookup f1 = some ⟨oc1, od1, .func (PySem.W.fnOf "is_thing" "is_thing" (defArgs s_is_thing) (defBody s_is_thing) (defScope s_is_thing) .none kV1 dc1 pm1 an1 cd1 ct1), sl1⟩) (cc1 : PySem.W.codeIn K cd1 "is_thing" = true) (k1 : PySem.W.keepIn K (.ref f1) = true)
    (a2 : PySem.W.nsIn K mainGlobals "number_at" = some (some (.ref f2))) (l2 : K.lookup f2 = some ⟨oc2, od2, .func (PySem.W.fnOf "number_at" "number_at" (defArgs s_number_at) (defBody s_number_at) (defScope s_number_at) .none kV2 dc2 pm2 an2 cd2 ct2), sl2⟩) (cc2 : PySem.W.codeIn K cd2 "number_at" = true) (k2 : PySem.W.keepIn K (.ref f2) = true)
    (a3 : PySem.W.nsIn K mainGlobals "thing_at" = some (some (.ref f3))) (l3 : K.lookup f3 = some ⟨oc3, od3, .func (PySem.W.fnOf "thing_at" "thing_at" (defArgs s_thing_at) (defBody s_thing_at) (defScope s_thing_at) .none kV3 dc3 pm3 an3 cd3 ct3), sl3⟩) (cc3 : PySem.W.codeIn K cd3 "thing_at" = true) (k3 : PySem.W.keepIn K (.ref f3) = true)
    (a4 : PySem.W.nsIn K mainGlobals "read" = some (some (.ref f4))) (l4 : K.lookup f4 = some ⟨oc4, od4, .func (PySem.W.fnOf "read" "read" (defArgs s_read) (defBody s_read) (defScope s_read) .none kV4 dc4 pm4 an4 cd4 ct4), sl4⟩) (cc4 : PySem.W.codeIn K cd4 "read" = true) (k4 : PySem.W.keepIn K (.ref f4) = true)
    (a5 : PySem.W.nsIn K mainGlobals "written" = some (some (.ref f5))) (l5 : K.lookup f5 = some ⟨oc5, od5, .func (PySem.W.fnOf "written" "written" (defArgs s_written) (defBody s_written) (defScope s_written) .none kV5 dc5 pm5 an5 cd5 ct5), sl5⟩) (cc5 : PySem.W.codeIn K cd5 "written" = true) (k5 : PySem.W.keepIn K (.ref f5) = true)
    (a6 : PySem.W.nsIn K mainGlobals "_law_cell" = some (some (.ref f6))) (l6 : K.lookup f6 = some ⟨oc6, od6, .func (PySem.W.fnOf "_law_cell" "_law_cell" (defArgs s__law_cell) (defBody s__law_cell) (defScope s__law_cell) .none kV6 dc6 pm6 an6 cd6 ct6), sl6⟩) (cc6 : PySem.W.codeIn K cd6 "_law_cell" = true) (k6 : PySem.W.keepIn K (.ref f6) = true)
    (a7 : PySem.W.nsIn K mainGlobals "_law_mix" = some (some (.ref f7))) (l7 : K.lookup f7 = some ⟨oc7, od7, .func (PySem.W.fnOf "_law_mix" "_law_mix" (defArgs s__law_mix) (defBody s__law_mix) (defScope s__law_mix) .none kV7 dc7 pm7 an7 cd7 ct7), sl7⟩) (cc7 : PySem.W.codeIn K cd7 "_law_mix" = true) (k7 : PySem.W.keepIn K (.ref f7) = true)
    (a8 : PySem.W.nsIn K mainGlobals "_law_thing" = some (some (.ref f8))) (l8 : K.lookup f8 = some ⟨oc8, od8, .func (PySem.W.fnOf "_law_thing" "_law_thing" (defArgs s__law_thing) (defBody s__law_thing) (defScope s__law_thing) .none kV8 dc8 pm8 an8 cd8 ct8), sl8⟩) (cc8 : PySem.W.codeIn K cd8 "_law_thing" = true) (k8 : PySem.W.keepIn K (.ref f8) = true)
    (a9 : PySem.W.nsIn K mainGlobals "_law_hall" = some (some (.ref f9))) (l9 : K.lookup f9 = some ⟨oc9, od9, .func (PySem.W.fnOf "_law_hall" "_law_hall" (defArgs s__law_hall) (defBody s__law_hall) (defScope s__law_hall) .none kV9 dc9 pm9 an9 cd9 ct9), sl9⟩) (cc9 : PySem.W.codeIn K cd9 "_law_hall" = true) (k9 : PySem.W.keepIn K (.ref f9) = true)
    (a10 : PySem.W.nsIn K mainGlobals "_law_text" = some (some (.ref f10))) (l10 : K.lookup f10 = some ⟨oc10, od10, .func (PySem.W.fnOf "_law_text" "_law_text" (defArgs s__law_text) (defBody s__law_text) (defScope s__law_text) .none kV10 dc10 pm10 an10 cd10 ct10), sl10⟩) (cc10 : PySem.W.codeIn K cd10 "_law_text" = true) (k10 : PySem.W.keepIn K (.ref f10) = true)
    (a11 : PySem.W.nsIn K mainGlobals "_law_spoilt" = some (some (.ref f11))) (l11 : K.lookup f11 = some ⟨oc11, od11, .func (PySem.W.fnOf "_law_spoilt" "_law_spoilt" (defArgs s__law_spoilt) (defBody s__law_spoilt) (defScope s__law_spoilt) .none kV11 dc11 pm11 an11 cd11 ct11), sl11⟩) (cc11 : PySem.W.codeIn K cd11 "_law_spoilt" = true) (k11 : PySem.W.keepIn K (.ref f11) = true)
    (a12 : PySem.W.nsIn K mainGlobals "_law_read" = some (some (.ref f12))) (l12 : K.lookup f12 = some ⟨oc12, od12, .func (PySem.W.fnOf "_law_read" "_law_read" (defArgs s__law_read) (defBody s__law_read) (defScope s__law_read) .none kV12 dc12 pm12 an12 cd12 ct12), sl12⟩) (cc12 : PySem.W.codeIn K cd12 "_law_read" = true) (k12 : PySem.W.keepIn K (.ref f12) = true)
    (a13 : PySem.W.nsIn K mainGlobals "law" = some (some (.ref f13))) (l13 : K.lookup f13 = some ⟨oc13, od13, .func (PySem.W.fnOf "law" "law" (defArgs s_law) (defBody s_law) (defScope s_law) .none kV13 dc13 pm13 an13 cd13 ct13), sl13⟩) (cc13 : PySem.W.codeIn K cd13 "law" = true) (k13 : PySem.W.keepIn K (.ref f13) = true)
    {q_SIZES : Addr} {es_SIZES : Array DictEntry} {n_SIZES : Nat} {t0_SIZES u0_SIZES t1_SIZES u1_SIZES t2_SIZES u2_SIZES t3_SIZES u3_SIZES t4_SIZES u4_SIZES t5_SIZES u5_SIZES t6_SIZES u6_SIZES : Tok} (aq_SIZES : PySem.W.nsIn K mainGlobals "SIZES" = some (some (.ref q_SIZES))) (lq_SIZES : K.lookup q_SIZES = some ⟨.type "dict", none, .dict es_SIZES n_SIZES, #[]⟩) (sq_SIZES : (q_SIZES == sysModules) = false) (eq_SIZES : es_SIZES.toList = ([("is", 2, t0_SIZES, u0_SIZES), ("many", 2, t1_SIZES, u1_SIZES), ("not", 2, t2_SIZES, u2_SIZES), ("and", 3, t3_SIZES, u3_SIZES), ("or", 3, t4_SIZES, u4_SIZES), ("alike", 3, t5_SIZES, u5_SIZES), ("says", 3, t6_SIZES, u6_SIZES)] : List (Str × Int × Tok × Tok)).map fun r => ⟨PyData.keyHash w.params r.1, .str r.1 r.2.2.1, .int r.2.1 r.2.2.2⟩)
    {C_HallError : Addr} (xa_HallError : PySem.W.nsIn K mainGlobals "HallError" = some (some (.ref C_HallError))) (xe_HallError : PySem.W.excIn K C_HallError [.type "ValueError", .type "Exception", .type "BaseException", .type "object"] "ValueError.__new__" = true) (xk_HallError : PySem.W.keepIn K (.ref C_HallError) = true) (xs_HallError : PySem.W.subIn K (.ref C_HallError) (.type "BaseException") = some true) (xt_HallError : PySem.W.typeIn K (.ref C_HallError) = some (.type "type")) (xd_HallError : PySem.W.hasDictIn K C_HallError = true)
    {C_NoText : Addr} (xa_NoText : PySem.W.nsIn K mainGlobals "NoText" = some (some (.ref C_NoText))) (xe_NoText : PySem.W.excIn K C_NoText [.type "ValueError", .type "Exception", .type "BaseException", .type "object"] "ValueError.__new__" = true) (xk_NoText : PySem.W.keepIn K (.ref C_NoText) = true) (xs_NoText : PySem.W.subIn K (.ref C_NoText) (.type "BaseException") = some true) (xt_NoText : PySem.W.typeIn K (.ref C_NoText) = some (.type "type")) (xd_NoText : PySem.W.hasDictIn K C_NoText = true)
    {C_NoWorld : Addr} (xa_NoWorld : PySem.W.nsIn K mainGlobals "NoWorld" = some (some (.ref C_NoWorld))) (xe_NoWorld : PySem.W.excIn K C_NoWorld [.type "ValueError", .type "Exception", .type "BaseException", .type "object"] "ValueError.__new__" = true) (xk_NoWorld : PySem.W.keepIn K (.ref C_NoWorld) = true) (xs_NoWorld : PySem.W.subIn K (.ref C_NoWorld) (.type "BaseException") = some true) (xt_NoWorld : PySem.W.typeIn K (.ref C_NoWorld) = some (.type "type")) (xd_NoWorld : PySem.W.hasDictIn K C_NoWorld = true)
    (yg : PySem.W.findIn K (.ref C_NoText) "__getattribute__" = some (some (.builtin "BaseException.__getattribute__"))) (yk : PySem.W.findIn K (.ref C_NoText) "__getattr__" = some none) (ya : PySem.W.findIn K (.ref C_NoText) "__class__" = some (some (.builtin "object.__class__"))) (yn : PySem.W.specialIn K (.builtin "object.__class__") "__get__" = some (some (.builtin "getset_descriptor.__get__"))) (yt : PySem.W.takesIn K (.builtin "object.__class__") = some true) (ym : PySem.W.mroIn K C_NoText (.type "object") = some true) (yd : PySem.W.subIn K (.ref C_NoText) (.ref C_NoText) = some true) (yv : PySem.W.subIn K (.ref C_NoText) (.type "ValueError") = some true)
    (yh_HallError : PySem.W.subIn K (.ref C_NoText) (.ref C_HallError) = some true) (yb_NoWorld : PySem.W.subIn K (.ref C_NoText) (.ref C_NoWorld) = some false)
    (z_ValueError : PySem.W.nsIn K mainGlobals "ValueError" = some none) (z_all : PySem.W.nsIn K mainGlobals "all" = some none) (z_bool : PySem.W.nsIn K mainGlobals "bool" = some none) (z_int : PySem.W.nsIn K mainGlobals "int" = some none) (z_isinstance : PySem.W.nsIn K mainGlobals "isinstance" = some none) (z_len : PySem.W.nsIn K mainGlobals "len" = some none) (z_range : PySem.W.nsIn K mainGlobals "range" = some none) (z_str : PySem.W.nsIn K mainGlobals "str" = some none) (z_tuple : PySem.W.nsIn K mainGlobals "tuple" = some none) :
    ∃ fd : FuncData, (∀ (s : Shared) (v : Value), BindsTo s fd ⟨[v], []⟩ [("_law_script", v)]) ∧ ∀ base : Heap, K.In base → base.Ns mainGlobals mg → ∃ ec : Ec, FnD P w K mg base ec 44 fa fd ["_law_script"] F_law := by
  have e := hfa.symm.trans (PySem.W.mg_of X G a13)
  cases e
  have F0 := fun_mk (x := "is_number") (qual := "is_number") (st := s_is_number) l0 cc0 k0
  have D0 : DefIn K mg "is_number" s_is_number ["thing", "most"] := ⟨_, _, F0, PySem.W.mg_of X G a0, F0.binds fun _ _ _ _ _ _ us hl => match us, hl with | [_, _], _ => rfl⟩
  have F1 := fun_mk (x := "is_thing") (qual := "is_thing") (st := s_is_thing) l1 cc1 k1
  have D1 : DefIn K mg "is_thing" s_is_thing ["thing", "many"] := ⟨_, _, F1, PySem.W.mg_of X G a1, F1.binds fun _ _ _ _ _ _ us hl => match us, hl with | [_, _], _ => rfl⟩
  have F2 := fun_mk (x := "number_at") (qual := "number_at") (st := s_number_at) l2 cc2 k2
  have D2 : DefIn K mg "number_at" s_number_at ["words", "at", "beyond"] := ⟨_, _, F2, PySem.W.mg_of X G a2, F2.binds fun _ _ _ _ _ _ us hl => match us, hl with | [_, _, _], _ => rfl⟩
  have F3 := fun_mk (x := "thing_at") (qual := "thing_at") (st := s_thing_at) l3 cc3 k3
  have D3 : DefIn K mg "thing_at" s_thing_at ["words", "at", "many"] := ⟨_, _, F3, PySem.W.mg_of X G a3, F3.binds fun _ _ _ _ _ _ us hl => match us, hl with | [_, _, _], _ => rfl⟩
  have F4 := fun_mk (x := "read") (qual := "read") (st := s_read) l4 cc4 k4
  have D4 : DefIn K mg "read" s_read ["text", "many"] := ⟨_, _, F4, PySem.W.mg_of X G a4, F4.binds fun _ _ _ _ _ _ us hl => match us, hl with | [_, _], _ => rfl⟩
  have F5 := fun_mk (x := "written") (qual := "written") (st := s_written) l5 cc5 k5
  have D5 : DefIn K mg "written" s_written ["thing"] := ⟨_, _, F5, PySem.W.mg_of X G a5, F5.binds fun _ _ _ _ _ _ us hl => match us, hl with | [_], _ => rfl⟩
  have F6 := fun_mk (x := "_law_cell") (qual := "_law_cell") (st := s__law_cell) l6 cc6 k6
  have D6 : DefIn K mg "_law_cell" s__law_cell ["_law_script", "_law_k"] := ⟨_, _, F6, PySem.W.mg_of X G a6, F6.binds fun _ _ _ _ _ _ us hl => match us, hl with | [_, _], _ => rfl⟩
  have F7 := fun_mk (x := "_law_mix") (qual := "_law_mix") (st := s__law_mix) l7 cc7 k7
  have D7 : DefIn K mg "_law_mix" s__law_mix ["_law_cell_here", "_law_prime", "_law_many"] := ⟨_, _, F7, PySem.W.mg_of X G a7, F7.binds fun _ _ _ _ _ _ us hl => match us, hl with | [_, _, _], _ => rfl⟩
  have F8 := fun_mk (x := "_law_thing") (qual := "_law_thing") (st := s__law_thing) l8 cc8 k8
  have D8 : DefIn K mg "_law_thing" s__law_thing ["_law_cell_here", "_law_many", "_law_deep"] := ⟨_, _, F8, PySem.W.mg_of X G a8, F8.binds fun _ _ _ _ _ _ us hl => match us, hl with | [_, _, _], _ => rfl⟩
  have F9 := fun_mk (x := "_law_hall") (qual := "_law_hall") (st := s__law_hall) l9 cc9 k9
  have D9 : DefIn K mg "_law_hall" s__law_hall ["_law_script"] := ⟨_, _, F9, PySem.W.mg_of X G a9, F9.binds fun _ _ _ _ _ _ us hl => match us, hl with | [_], _ => rfl⟩
  have F10 := fun_mk (x := "_law_text") (qual := "_law_text") (st := s__law_text) l10 cc10 k10
  have D10 : DefIn K mg "_law_text" s__law_text ["_law_thing_here"] := ⟨_, _, F10, PySem.W.mg_of X G a10, F10.binds fun _ _ _ _ _ _ us hl => match us, hl with | [_], _ => rfl⟩
  have F11 := fun_mk (x := "_law_spoilt") (qual := "_law_spoilt") (st := s__law_spoilt) l11 cc11 k11
  have D11 : DefIn K mg "_law_spoilt" s__law_spoilt ["_law_text_here", "_law_cell_here"] := ⟨_, _, F11, PySem.W.mg_of X G a11, F11.binds fun _ _ _ _ _ _ us hl => match us, hl with | [_, _], _ => rfl⟩
  have F12 := fun_mk (x := "_law_read") (qual := "_law_read") (st := s__law_read) l12 cc12 k12
  have D12 : DefIn K mg "_law_read" s__law_read ["_law_text_here", "_law_many"] := ⟨_, _, F12, PySem.W.mg_of X G a12, F12.binds fun _ _ _ _ _ _ us hl => match us, hl with | [_, _], _ => rfl⟩
  have F13 := fun_mk (x := "law") (qual := "law") (st := s_law) l13 cc13 k13
  have D13 : DefIn K mg "law" s_law ["_law_script"] := ⟨_, _, F13, PySem.W.mg_of X G a13, F13.binds fun _ _ _ _ _ _ us hl => match us, hl with | [_], _ => rfl⟩
  have m_ValueError := PySem.W.mg_none_of X G z_ValueError
  have m_all := PySem.W.mg_none_of X G z_all
  have m_bool := PySem.W.mg_none_of X G z_bool
  have m_int := PySem.W.mg_none_of X G z_int
  have m_isinstance := PySem.W.mg_none_of X G z_isinstance
  have m_len := PySem.W.mg_none_of X G z_len
  have m_range := PySem.W.mg_none_of X G z_range
  have m_str := PySem.W.mg_none_of X G z_str
  have m_tuple := PySem.W.mg_none_of X G z_tuple
  have d_SIZES : DicIn K w mg "SIZES" T_SIZES := dicIn_of (PySem.W.mg_of X G aq_SIZES) lq_SIZES sq_SIZES eq_SIZES
  have x_HallError : XIn K mg "HallError" C_HallError := ⟨PySem.W.mg_of X G xa_HallError, xe_HallError, xk_HallError, xs_HallError, xt_HallError⟩
  have x_NoText : XIn K mg "NoText" C_NoText := ⟨PySem.W.mg_of X G xa_NoText, xe_NoText, xk_NoText, xs_NoText, xt_NoText⟩
  have x_NoWorld : XIn K mg "NoWorld" C_NoWorld := ⟨PySem.W.mg_of X G xa_NoWorld, xe_NoWorld, xk_NoWorld, xs_NoWorld, xt_NoWorld⟩
  have ct_HallError_NoText_NoWorld : ∀ c : Nat, Caught K ((fun _ => Value.ref C_NoText) c) C_HallError C_NoText C_NoWorld := fun _ => caught_of ⟨yg, yk, xs_NoText, xd_NoText, ya, yn, yt, ym⟩ xs_HallError xd_HallError xt_HallError yh_HallError xd_NoWorld xt_NoWorld yb_NoWorld yd yv
  refine ⟨PySem.W.fnOf "law" "law" (defArgs s_law) (defBody s_law) (defScope s_law) .none kV13 dc13 pm13 an13 cd13 ct13, fun s v => .of_eq rfl, fun base _ _ => ?_⟩
  have c_is_number : Cal P w K mg base (fun _ => Value.ref C_NoText) "is_number" 1 2 F_is_number := cal_is_number (k := 0) D0 m_bool m_int m_isinstance
  have c_is_thing : Cal P w K mg base (fun _ => Value.ref C_NoText) "is_thing" 41 2 (F_is_thing 40) := cal_is_thing (k := 1) D1 (c_is_number.mono (by decide)) m_all m_isinstance m_len m_str m_tuple d_SIZES 40
  have c_number_at : Cal P w K mg base (fun _ => Value.ref C_NoText) "number_at" 1 3 F_number_at := cal_number_at (k := 0) D2 m_range m_str x_NoText rfl
  have c_thing_at : Cal P w K mg base (fun _ => Value.ref C_NoText) "thing_at" 41 3 (F_thing_at 40) := cal_thing_at (k := 1) D3 (c_number_at.mono (by decide)) m_len x_NoText rfl d_SIZES 40
  have c_read : Cal P w K mg base (fun _ => Value.ref C_NoText) "read" 42 2 F_read := cal_read (k := 41) D4 (c_thing_at.mono (by decide)) m_len x_NoText rfl
  have c_written : Cal P w K mg base (fun _ => Value.ref C_NoText) "written" 12 1 (F_written 12) := cal_written (k := 0) D5 12
  have c__law_cell : Cal P w K mg base (fun _ => Value.ref C_NoText) "_law_cell" 1 2 F__law_cell := cal__law_cell (k := 0) D6 m_len
  have c__law_mix : Cal P w K mg base (fun _ => Value.ref C_NoText) "_law_mix" 1 3 F__law_mix := cal__law_mix (k := 0) D7
  have c__law_thing : Cal P w K mg base (fun _ => Value.ref C_NoText) "_law_thing" 6 3 (F__law_thing 5) := cal__law_thing (k := 1) D8 (c__law_mix.mono (by decide)) 5
  have c__law_hall : Cal P w K mg base (fun _ => Value.ref C_NoText) "_law_hall" 7 1 F__law_hall := cal__law_hall (k := 6) D9 (c__law_cell.mono (by decide)) (c__law_mix.mono (by decide)) (c__law_thing.mono (by decide)) m_range m_tuple
  have c__law_text : Cal P w K mg base (fun _ => Value.ref C_NoText) "_law_text" 40 1 (F__law_text 40) := cal__law_text (k := 0) D10 m_isinstance m_str m_tuple 40
  have c__law_spoilt : Cal P w K mg base (fun _ => Value.ref C_NoText) "_law_spoilt" 1 2 F__law_spoilt := cal__law_spoilt (k := 0) D11 m_len
  have c__law_read : Cal P w K mg base (fun _ => Value.ref C_NoText) "_law_read" 43 2 F__law_read := cal__law_read (k := 42) D12 (c_read.mono (by decide)) m_ValueError m_isinstance x_HallError x_NoText x_NoWorld rfl ct_HallError_NoText_NoWorld
  exact ⟨(fun _ => Value.ref C_NoText), cal_law (k := 43) F13 (c_is_thing.mono (by decide)) (c_read.mono (by decide)) (c_written.mono (by decide)) (c__law_thing.mono (by decide)) (c__law_hall.mono (by decide)) (c__law_text.mono (by decide)) (c__law_spoilt.mono (by decide)) (c__law_read.mono (by decide)) m_str⟩
end K02

namespace K02
open PySem PySem.Spec PyProof.Rows L2 Pu Kc
/-! ### words, joined -/
abbrev SP : Str := Str.ofString " "
def num (k : Nat) : Str := Str.ofString (toString (k : Int))
theorem fmt_num {k : Nat} (h : k ≤ 9) : fmtD (.int k) = some (.str (num k)) := by
  show (if (k : Int).natAbs < 1000000 then some (PyData.str (num k)) else none) = _
  rw [if_pos (by omega)]
theorem cStr_num {k : Nat} (h : k ≤ 9) : cStr [.int k] = some (.str (num k)) := by
  show (if (k : Int).natAbs < 1000000 then some (PyData.str (num k)) else none) = _
  rw [if_pos (by omega)]
@[simp] theorem tyN_str (x : Str) : tyN (.str x) = "str" := rfl
def J (ws : List Str) : Str := Str.join SP ws
def wok (w : Str) : Bool := (!(w.cps.toList.contains 32)) && PySem.PyData.canLay0 (.str w) && decide (w.length ≤ 5)
theorem wok_num {k : Nat} (h : k ≤ 9) : wok (num k) = true := by
  have : k = 0 ∨ k = 1 ∨ k = 2 ∨ k = 3 ∨ k = 4 ∨ k = 5 ∨ k = 6 ∨ k = 7 ∨ k = 8 ∨ k = 9 := by omega
  rcases this with rfl | rfl | rfl | rfl | rfl | rfl | rfl | rfl | rfl | rfl <;> decide +kernel
theorem num_inj {j k : Nat} (h : num j = num k) : j = k := by
  have e := congrArg (fun x : Str => x.cps.toList) h
  exact TL.numL_inj (by rw [← TL.tl_num j, ← TL.tl_num k]; exact e)
theorem wok_sp {w : Str} (h : wok w = true) : 32 ∉ w.cps.toList := by
  unfold wok at h
  simp only [Bool.and_eq_true, Bool.not_eq_true', List.contains_eq_mem, decide_eq_false_iff_not] at h
  exact h.1.1
theorem wok_lay {w : Str} (h : wok w = true) : PySem.PyData.canLay0 (.str w) = true := by
  unfold wok at h
  rw [Bool.and_eq_true, Bool.and_eq_true] at h
  exact h.1.2
theorem wok_len {w : Str} (h : wok w = true) : w.length ≤ 5 := by
  unfold wok at h
  rw [Bool.and_eq_true, decide_eq_true_eq] at h
  exact h.2
theorem J_one (x : Str) : J [x] = x := rfl
theorem J_cons (x : Str) {ys : List Str} (h : ys ≠ []) : J (x :: ys) = x ++ SP ++ J ys := by
  cases ys with
  | nil => exact absurd rfl h
  | cons y ys => rfl
theorem J_app : ∀ {xs ys : List Str}, xs ≠ [] → ys ≠ [] → J (xs ++ ys) = J xs ++ SP ++ J ys
  | [], _, h, _ => absurd rfl h
  | [x], ys, _, h => J_cons x h
  | x :: z :: xs, ys, _, h => by
    rw [List.cons_append, J_cons x (by simp), J_app (xs := z :: xs) (by simp) h, J_cons x (by simp)]
    simp only [Str.append_assoc]
theorem J_len : ∀ {ws : List Str}, (∀ w ∈ ws, w.length ≤ 5) → (J ws).length ≤ 6 * ws.length
  | [], _ => Nat.zero_le _
  | [x], h => by
    have := h x (by simp)
    show x.length ≤ 6
    omega
  | x :: z :: ws, h => by
    have h1 := h x (by simp)
    have h2 := J_len (ws := z :: ws) fun w hw => h w (by simp [hw])
    have h3 : SP.length = 1 := by decide +kernel
    rw [J_cons x (by simp), Str.length_append, Str.length_append, List.length_cons]
    omega
theorem split_J {ws : List Str} (h : ws ≠ []) (hw : ∀ w ∈ ws, wok w = true) : Txt.split (J ws) SP = ws := by
  have := TL.split_join (y := SP) (s := 32) (S := []) (by decide +kernel) (by decide +kernel) (parts := ws) h fun p hp => wok_sp (hw p hp)
  rw [TL.join_eq] at this
  exact this
/-! ### the words of a thing -/
def wr : Th → List Str
  | .is g => ["is", num g]
  | .many k => ["many", num k]
  | .nt t => "not" :: wr t
  | .says g t => "says" :: num g :: wr t
  | .an a b => "and" :: (wr a ++ wr b)
  | .ors a b => "or" :: (wr a ++ wr b)
  | .al a b => "alike" :: (wr a ++ wr b)
theorem wr_ne (t : Th) : wr t ≠ [] := by cases t <;> simp [wr]
theorem wr_pos (t : Th) : 2 ≤ (wr t).length := by
  induction t with
  | is g => exact Nat.le_refl _
  | many g => exact Nat.le_refl _
  | nt t ih => simp [wr]; omega
  | says g t ih => simp [wr]
  | an a b i1 i2 => simp [wr]; omega
  | ors a b i1 i2 => simp [wr]; omega
  | al a b i1 i2 => simp [wr]; omega
theorem wr_depth (t : Th) : t.depth + 2 ≤ (wr t).length := by
  induction t with
  | is g => exact Nat.le_refl _
  | many g => exact Nat.le_refl _
  | nt t ih => simp only [wr, Th.depth, List.length_cons]; omega
  | says g t ih => simp only [wr, Th.depth, List.length_cons]; omega
  | an a b i1 i2 => simp only [wr, Th.depth, List.length_cons, List.length_append]; omega
  | ors a b i1 i2 => simp only [wr, Th.depth, List.length_cons, List.length_append]; omega
  | al a b i1 i2 => simp only [wr, Th.depth, List.length_cons, List.length_append]; omega
/-- how many words at most, by the depth -/
def nwd : Nat → Nat
  | 0 => 2
  | d + 1 => 2 * nwd d + 1
theorem nwd_mono : ∀ {a b : Nat}, a ≤ b → nwd a ≤ nwd b
  | 0, 0, _ => Nat.le_refl _
  | 0, b + 1, _ => by have := nwd_mono (Nat.zero_le b); simp only [nwd] at *; omega
  | a + 1, 0, h => absurd h (Nat.not_succ_le_zero _)
  | a + 1, b + 1, h => by have := nwd_mono (Nat.le_of_succ_le_succ h); simp only [nwd]; omega
theorem nwd_pos (d : Nat) : 2 ≤ nwd d := nwd_mono (Nat.zero_le d)
theorem wr_len : ∀ t : Th, (wr t).length ≤ nwd t.depth
  | .is _ => Nat.le_refl _
  | .many _ => Nat.le_refl _
  | .nt t => by
    have := wr_len t
    have := nwd_pos t.depth
    simp only [wr, Th.depth, nwd, List.length_cons]; omega
  | .says _ t => by
    have := wr_len t
    have := nwd_pos t.depth
    simp only [wr, Th.depth, nwd, List.length_cons]; omega
  | .an a b => by
    have := wr_len a
    have := wr_len b
    have := nwd_mono (Nat.le_max_left a.depth b.depth)
    have := nwd_mono (Nat.le_max_right a.depth b.depth)
    simp only [wr, Th.depth, nwd, List.length_cons, List.length_append]; omega
  | .ors a b => by
    have := wr_len a
    have := wr_len b
    have := nwd_mono (Nat.le_max_left a.depth b.depth)
    have := nwd_mono (Nat.le_max_right a.depth b.depth)
    simp only [wr, Th.depth, nwd, List.length_cons, List.length_append]; omega
  | .al a b => by
    have := wr_len a
    have := wr_len b
    have := nwd_mono (Nat.le_max_left a.depth b.depth)
    have := nwd_mono (Nat.le_max_right a.depth b.depth)
    simp only [wr, Th.depth, nwd, List.length_cons, List.length_append]; omega
theorem wok_is : wok "is" = true := by decide +kernel
theorem wok_many : wok "many" = true := by decide +kernel
theorem wok_not : wok "not" = true := by decide +kernel
theorem wok_says : wok "says" = true := by decide +kernel
theorem wok_and : wok "and" = true := by decide +kernel
theorem wok_or : wok "or" = true := by decide +kernel
theorem wok_alike : wok "alike" = true := by decide +kernel
theorem wr_wok {m : Nat} (hm : m ≤ 9) : ∀ {t : Th}, t.ok m → ∀ w ∈ wr t, wok w = true
  | .is g, h, w, hw => by
    have h : g < m := h
    simp only [wr, List.mem_cons, List.not_mem_nil, or_false] at hw
    rcases hw with rfl | rfl
    · exact wok_is
    · exact wok_num (by omega)
  | .many g, h, w, hw => by
    have h : g ≤ 7 := h
    simp only [wr, List.mem_cons, List.not_mem_nil, or_false] at hw
    rcases hw with rfl | rfl
    · exact wok_many
    · exact wok_num (by omega)
  | .nt t, h, w, hw => by
    simp only [wr, List.mem_cons] at hw
    rcases hw with rfl | hw
    · exact wok_not
    · exact wr_wok (t := t) hm h w hw
  | .says g t, h, w, hw => by
    have h1 : g < m := h.1
    simp only [wr, List.mem_cons] at hw
    rcases hw with rfl | rfl | hw
    · exact wok_says
    · exact wok_num (by omega)
    · exact wr_wok (t := t) hm h.2 w hw
  | .an a b, h, w, hw => by
    simp only [wr, List.mem_cons, List.mem_append] at hw
    rcases hw with rfl | hw | hw
    · exact wok_and
    · exact wr_wok (t := a) hm h.1 w hw
    · exact wr_wok (t := b) hm h.2 w hw
  | .ors a b, h, w, hw => by
    simp only [wr, List.mem_cons, List.mem_append] at hw
    rcases hw with rfl | hw | hw
    · exact wok_or
    · exact wr_wok (t := a) hm h.1 w hw
    · exact wr_wok (t := b) hm h.2 w hw
  | .al a b, h, w, hw => by
    simp only [wr, List.mem_cons, List.mem_append] at hw
    rcases hw with rfl | hw | hw
    · exact wok_alike
    · exact wr_wok (t := a) hm h.1 w hw
    · exact wr_wok (t := b) hm h.2 w hw
abbrev txt (t : Th) : Str := J (wr t)
@[simp] theorem txt_nt (t : Th) : txt (.nt t) = J ("not" :: wr t) := rfl
@[simp] theorem txt_says (g : Nat) (t : Th) : txt (.says g t) = J ("says" :: num g :: wr t) := rfl
@[simp] theorem txt_an (a b : Th) : txt (.an a b) = J ("and" :: (wr a ++ wr b)) := rfl
@[simp] theorem txt_ors (a b : Th) : txt (.ors a b) = J ("or" :: (wr a ++ wr b)) := rfl
@[simp] theorem txt_al (a b : Th) : txt (.al a b) = J ("alike" :: (wr a ++ wr b)) := rfl
theorem txt_len {m : Nat} (hm : m ≤ 9) {t : Th} (h : t.ok m) (hl : (wr t).length ≤ 100) : (txt t).length ≤ 600 := by
  have := J_len fun w hw => wok_len (wr_wok hm h w hw)
  show (J (wr t)).length ≤ 600
  omega
/-! ### written, by the program and by hand -/
theorem in_is : oIn (.str "is") (.tuple [.str "is", .str "many"]) = some (.bool true) := by rfl
theorem in_many : oIn (.str "many") (.tuple [.str "is", .str "many"]) = some (.bool true) := by rfl
theorem in_not : oIn (.str "not") (.tuple [.str "is", .str "many"]) = some (.bool false) := by rfl
theorem in_says : oIn (.str "says") (.tuple [.str "is", .str "many"]) = some (.bool false) := by rfl
theorem in_and : oIn (.str "and") (.tuple [.str "is", .str "many"]) = some (.bool false) := by rfl
theorem in_or : oIn (.str "or") (.tuple [.str "is", .str "many"]) = some (.bool false) := by rfl
theorem in_alike : oIn (.str "alike") (.tuple [.str "is", .str "many"]) = some (.bool false) := by rfl
theorem mJ2 {a b : Str} (ha : a.length ≤ 1000) (hb : b.length ≤ 1000) : mJoin (.str SP) [.list [.str a, .str b]] = some (.str (J [a, b])) := by
  have e : strsOf [.str a, .str b] = some [a, b] := strsOf_map [a, b]
  have e2 : SP.length ≤ 10 := by decide +kernel
  simp [mJoin, e, ha, hb, e2, TL.join_eq, J]
theorem mJ3 {a b c : Str} (ha : a.length ≤ 1000) (hb : b.length ≤ 1000) (hc : c.length ≤ 1000) : mJoin (.str SP) [.list [.str a, .str b, .str c]] = some (.str (J [a, b, c])) := by
  have e : strsOf [.str a, .str b, .str c] = some [a, b, c] := strsOf_map [a, b, c]
  have e2 : SP.length ≤ 10 := by decide +kernel
  simp [mJoin, e, ha, hb, hc, e2, TL.join_eq, J]
theorem J2 (x : Str) (t : Th) : J [x, txt t] = J (x :: wr t) := by
  rw [J_cons x (by simp), J_one, J_cons x (wr_ne t)]
theorem J3 (x : Str) (a b : Th) : J [x, txt a, txt b] = J (x :: (wr a ++ wr b)) := by
  rw [J_cons x (by simp), J_cons _ (by simp), J_one, J_cons x (by simp [wr_ne]), J_app (wr_ne a) (wr_ne b)]
theorem J3' (x y : Str) (t : Th) : J [x, y, txt t] = J (x :: y :: wr t) := by
  rw [J_cons x (by simp), J_cons _ (by simp), J_one, J_cons x (by simp), J_cons y (wr_ne t)]
theorem eJ3 {f g h : Rho → R PyData} {ρ : Rho} {x y z : Str} (hf : f ρ = .ok (.str x)) (hg : g ρ = .ok (.str y)) (hh : h ρ = .ok (.str z)) (hl : x.length + y.length + z.length ≤ 1000000) : eJoin [f, g, h] ρ = .ok (.str (x ++ y ++ z)) := by
  have h1 : x.length ≤ 1000000 := by omega
  have h2 : (x ++ y).length ≤ 1000000 := by rw [Str.length_append]; omega
  have h3 : (x ++ y ++ z).length ≤ 1000000 := by rw [Str.length_append, Str.length_append]; omega
  simp [hf, hg, hh, Str.empty_append, h1, h2, h3]
theorem num_len {k : Nat} (h : k ≤ 9) : (num k).length ≤ 5 := wok_len (wok_num h)
theorem e_is {w : Str} {k : Nat} {r : List PyData} {s1 : Pu.Slot} (hw : w.length ≤ 5) (hk : k ≤ 9) : eJoin [eFmt (eOp oIx (eVar 0) (eK (.int 0))), eK (.str " "), eFmt (eOp oIx (eVar 0) (eK (.int 1)))] [.d (.tuple (.str w :: .int k :: r)), s1] = .ok (.str (J [w, num k])) := by
  have h1 := num_len hk
  have h3 : SP.length = 1 := by decide +kernel
  have a1 : w.length ≤ 1000000 := by omega
  have a2 := fmt_num hk
  refine eJ3 (x := w) (y := SP) (z := num k) ?_ rfl ?_ (by omega)
  · simp [a1]
  · simp [a2, -s_fmtI]
theorem e_says {w : PyData} {k : Nat} {r : List PyData} {s1 : Pu.Slot} (hk : k ≤ 9) : eJoin [eK (.str "says "), eFmt (eOp oIx (eVar 0) (eK (.int 1))), eK (.str " ")] [.d (.tuple (w :: .int k :: r)), s1] = .ok (.str (Str.ofString "says " ++ num k ++ SP)) := by
  have h1 := num_len hk
  have h3 : SP.length = 1 := by decide +kernel
  have h4 : (Str.ofString "says ").length = 5 := by decide +kernel
  have a2 := fmt_num hk
  refine eJ3 (x := Str.ofString "says ") (y := num k) (z := SP) rfl ?_ rfl (by omega)
  simp [a2, -s_fmtI]
theorem says_sp : Str.ofString "says " = Str.ofString "says" ++ SP := by decide +kernel
theorem len_says : (Str.ofString "says ").length = 5 := by decide +kernel
theorem len_SP : SP.length = 1 := by decide +kernel
theorem F_written_ok {m : Nat} (hm : m ≤ 9) : ∀ (t : Th) (n : Nat), t.ok m → (wr t).length ≤ 100 → t.depth < n → F_written n [enc t] = .ok (.str (txt t))
  | _, 0, _, _, h => absurd h (Nat.not_lt_zero _)
  | .is g, n + 1, ho, hl, h => by
    have ho : g < m := ho
    have e := e_is (w := "is") (k := g) (r := []) (s1 := .un) (by decide +kernel) (by omega)
    simp [F_written, runD, b_written, enc, in_is, e, txt, wr, -s_eJoin]
  | .many g, n + 1, ho, hl, h => by
    have ho : g ≤ 7 := ho
    have e := e_is (w := "many") (k := g) (r := []) (s1 := .un) (by decide +kernel) (by omega)
    simp [F_written, runD, b_written, enc, in_many, e, txt, wr, -s_eJoin]
  | .nt t, n + 1, ho, hl, h => by
    simp only [wr, List.length_cons] at hl
    have ih := F_written_ok hm t n ho (by omega) (by simp only [Th.depth] at h; omega)
    have hlen := txt_len hm (t := t) ho (by omega)
    have ej := mJ2 (a := "not") (b := txt t) (by decide +kernel) (by omega)
    rw [J2] at ej
    simp [F_written, runD, b_written, enc, in_not, ih, lcD, ej, wr]
  | .says g t, n + 1, ho, hl, h => by
    simp only [wr, List.length_cons] at hl
    have ho1 : g < m := ho.1
    have ih := F_written_ok hm t n ho.2 (by omega) (by simp only [Th.depth] at h; omega)
    have hlen := txt_len hm (t := t) ho.2 (by omega)
    have e := e_says (w := .str "says") (k := g) (r := [enc t]) (s1 := .un) (by omega)
    have h1 := num_len (k := g) (by omega)
    have hle : (Str.ofString "says " ++ num g ++ SP).length + (txt t).length ≤ 1000000 := by
      rw [Str.length_append, Str.length_append, len_says, len_SP]
      omega
    have ej : Str.ofString "says " ++ num g ++ SP ++ txt t = J ("says" :: num g :: wr t) := by
      rw [J_cons _ (by simp), J_cons _ (wr_ne t), says_sp]
      simp only [Str.append_assoc]
    simp [F_written, runD, b_written, enc, in_says, ih, e, hle, ej, wr, -s_eJoin]
  | .an a b, n + 1, ho, hl, h => by
    simp only [wr, List.length_cons, List.length_append] at hl
    have i1 := F_written_ok hm a n ho.1 (by omega) (by simp only [Th.depth] at h; omega)
    have i2 := F_written_ok hm b n ho.2 (by omega) (by simp only [Th.depth] at h; omega)
    have l1 := txt_len hm (t := a) ho.1 (by omega)
    have l2 := txt_len hm (t := b) ho.2 (by omega)
    have ej := mJ3 (a := "and") (b := txt a) (c := txt b) (by decide +kernel) (by omega) (by omega)
    rw [J3] at ej
    simp [F_written, runD, b_written, enc, in_and, i1, i2, lcD, ej, wr]
  | .ors a b, n + 1, ho, hl, h => by
    simp only [wr, List.length_cons, List.length_append] at hl
    have i1 := F_written_ok hm a n ho.1 (by omega) (by simp only [Th.depth] at h; omega)
    have i2 := F_written_ok hm b n ho.2 (by omega) (by simp only [Th.depth] at h; omega)
    have l1 := txt_len hm (t := a) ho.1 (by omega)
    have l2 := txt_len hm (t := b) ho.2 (by omega)
    have ej := mJ3 (a := "or") (b := txt a) (c := txt b) (by decide +kernel) (by omega) (by omega)
    rw [J3] at ej
    simp [F_written, runD, b_written, enc, in_or, i1, i2, lcD, ej, wr]
  | .al a b, n + 1, ho, hl, h => by
    simp only [wr, List.length_cons, List.length_append] at hl
    have i1 := F_written_ok hm a n ho.1 (by omega) (by simp only [Th.depth] at h; omega)
    have i2 := F_written_ok hm b n ho.2 (by omega) (by simp only [Th.depth] at h; omega)
    have l1 := txt_len hm (t := a) ho.1 (by omega)
    have l2 := txt_len hm (t := b) ho.2 (by omega)
    have ej := mJ3 (a := "alike") (b := txt a) (c := txt b) (by decide +kernel) (by omega) (by omega)
    rw [J3] at ej
    simp [F_written, runD, b_written, enc, in_alike, i1, i2, lcD, ej, wr]
theorem isi_enc (t : Th) : isiD "tuple" (enc t) = true := by cases t <;> rfl
theorem isi_int (i : Int) : isiD "tuple" (.int i) = false := rfl
theorem F__law_text_ok {m : Nat} (hm : m ≤ 9) : ∀ (t : Th) (n : Nat), t.ok m → (wr t).length ≤ 100 → t.depth < n → F__law_text n [enc t] = .ok (.str (txt t))
  | _, 0, _, _, h => absurd h (Nat.not_lt_zero _)
  | .is g, n + 1, ho, hl, h => by
    have ho : g < m := ho
    have ej := mJ2 (a := "is") (b := num g) (by decide +kernel) (by have := num_len (k := g) (by omega); omega)
    have a2 := cStr_num (k := g) (by omega)
    simp [F__law_text, runD, b__law_text, enc, l1__law_text, forD_cons, forD_nil, isi_int, a2, ej, txt, wr]
  | .many g, n + 1, ho, hl, h => by
    have ho : g ≤ 7 := ho
    have ej := mJ2 (a := "many") (b := num g) (by decide +kernel) (by have := num_len (k := g) (by omega); omega)
    have a2 := cStr_num (k := g) (by omega)
    simp [F__law_text, runD, b__law_text, enc, l1__law_text, forD_cons, forD_nil, isi_int, a2, ej, txt, wr]
  | .nt t, n + 1, ho, hl, h => by
    simp only [wr, List.length_cons] at hl
    have ih := F__law_text_ok hm t n ho (by omega) (by simp only [Th.depth] at h; omega)
    have hlen := txt_len hm (t := t) ho (by omega)
    have ej := mJ2 (a := "not") (b := txt t) (by decide +kernel) (by omega)
    rw [J2] at ej
    simp [F__law_text, runD, b__law_text, enc, l1__law_text, forD_cons, forD_nil, isi_enc, ih, ej, wr]
  | .says g t, n + 1, ho, hl, h => by
    simp only [wr, List.length_cons] at hl
    have ho1 : g < m := ho.1
    have ih := F__law_text_ok hm t n ho.2 (by omega) (by simp only [Th.depth] at h; omega)
    have hlen := txt_len hm (t := t) ho.2 (by omega)
    have ej := mJ3 (a := "says") (b := num g) (c := txt t) (by decide +kernel) (by have := num_len (k := g) (by omega); omega) (by omega)
    rw [J3'] at ej
    have a2 := cStr_num (k := g) (by omega)
    simp [F__law_text, runD, b__law_text, enc, l1__law_text, forD_cons, forD_nil, isi_enc, isi_int, a2, ih, ej, wr]
  | .an a b, n + 1, ho, hl, h => by
    simp only [wr, List.length_cons, List.length_append] at hl
    have i1 := F__law_text_ok hm a n ho.1 (by omega) (by simp only [Th.depth] at h; omega)
    have i2 := F__law_text_ok hm b n ho.2 (by omega) (by simp only [Th.depth] at h; omega)
    have l1 := txt_len hm (t := a) ho.1 (by omega)
    have l2 := txt_len hm (t := b) ho.2 (by omega)
    have ej := mJ3 (a := "and") (b := txt a) (c := txt b) (by decide +kernel) (by omega) (by omega)
    rw [J3] at ej
    simp [F__law_text, runD, b__law_text, enc, l1__law_text, forD_cons, forD_nil, isi_enc, i1, i2, ej, wr]
  | .ors a b, n + 1, ho, hl, h => by
    simp only [wr, List.length_cons, List.length_append] at hl
    have i1 := F__law_text_ok hm a n ho.1 (by omega) (by simp only [Th.depth] at h; omega)
    have i2 := F__law_text_ok hm b n ho.2 (by omega) (by simp only [Th.depth] at h; omega)
    have l1 := txt_len hm (t := a) ho.1 (by omega)
    have l2 := txt_len hm (t := b) ho.2 (by omega)
    have ej := mJ3 (a := "or") (b := txt a) (c := txt b) (by decide +kernel) (by omega) (by omega)
    rw [J3] at ej
    simp [F__law_text, runD, b__law_text, enc, l1__law_text, forD_cons, forD_nil, isi_enc, i1, i2, ej, wr]
  | .al a b, n + 1, ho, hl, h => by
    simp only [wr, List.length_cons, List.length_append] at hl
    have i1 := F__law_text_ok hm a n ho.1 (by omega) (by simp only [Th.depth] at h; omega)
    have i2 := F__law_text_ok hm b n ho.2 (by omega) (by simp only [Th.depth] at h; omega)
    have l1 := txt_len hm (t := a) ho.1 (by omega)
    have l2 := txt_len hm (t := b) ho.2 (by omega)
    have ej := mJ3 (a := "alike") (b := txt a) (c := txt b) (by decide +kernel) (by omega) (by omega)
    rw [J3] at ej
    simp [F__law_text, runD, b__law_text, enc, l1__law_text, forD_cons, forD_nil, isi_enc, i1, i2, ej, wr]
/-! ### a loop that answers at the first hit -/
theorem forD_findE {α : Type} {en : α → PyData} {g : Bnd} {body : Rho → R Out} {I : Rho → Prop} {q : α → PyData} {p : α → Bool} : ∀ (xs : List α) (ρ : Rho), (∀ x ∈ xs, ∀ ρ, I ρ → ∃ ρ1, g (en x) ρ = some ρ1 ∧ if p x = true then body ρ1 = .ok (.rt (q x)) else ∃ ρ2, body ρ1 = .ok (.nx ρ2) ∧ I ρ2) → I ρ →
    match xs.find? p with
    | some x => forD g body (xs.map en) ρ = .ok (.rt (q x))
    | none => ∃ ρ', forD g body (xs.map en) ρ = .ok (.nx ρ') ∧ I ρ'
  | [], ρ, _, h => ⟨ρ, rfl, h⟩
  | d :: ds, ρ, hs, h => by
    obtain ⟨ρ1, e1, e2⟩ := hs d (by simp) ρ h
    rw [List.map_cons, forD_cons, e1, lift_some, R.bind_ok]
    cases hp : p d with
    | true =>
      rw [hp, if_pos rfl] at e2
      rw [List.find?_cons_of_pos hp, e2]
      rfl
    | false =>
      rw [hp, if_neg Bool.false_ne_true] at e2
      obtain ⟨ρ2, e3, h3⟩ := e2
      rw [List.find?_cons_of_neg (by rw [hp]; exact Bool.false_ne_true), e3]
      exact forD_findE ds ρ2 (fun d hd => hs d (by simp [hd])) h3
/-! ### reading words -/
def hit (s : List Str) (k : Nat) : Bool := match s with
  | [] => false
  | w :: _ => w == num k
def rdN (b : Nat) (s : List Str) : Option Nat := (List.range b).find? (hit s)
theorem rdN_some {b k : Nat} {s : List Str} (h : rdN b s = some k) : k < b ∧ ∃ r, s = num k :: r := by
  have h1 := List.mem_range.mp (List.mem_of_find?_eq_some h)
  have h2 := List.find?_some h
  cases s with
  | nil => cases h2
  | cons w r =>
    have h2 : (w == num k) = true := h2
    exact ⟨h1, r, by rw [beq_iff_eq.mp h2]⟩
theorem rdN_num {b k : Nat} (r : List Str) (h : k < b) : rdN b (num k :: r) = some k := by
  unfold rdN
  cases hf : (List.range b).find? (hit (num k :: r)) with
  | some j =>
    have h2 : hit (num k :: r) j = true := List.find?_some hf
    have h2 : (num k == num j) = true := h2
    rw [num_inj (beq_iff_eq.mp h2)]
  | none =>
    have := List.find?_eq_none.mp hf k (List.mem_range.mpr h)
    exact absurd (show (num k == num k) = true from beq_self_eq_true _) this
theorem rdN_none {b : Nat} {s : List Str} (h : ∀ k, k < b → ∀ r, s ≠ num k :: r) : rdN b s = none := by
  cases hf : rdN b s with
  | none => rfl
  | some k =>
    obtain ⟨h1, r, h2⟩ := rdN_some hf
    exact absurd h2 (h k h1 r)
abbrev encR (ws : List Str) : PyData := .list (ws.map .str)
theorem sh_R {ws : List Str} (h : ∀ w ∈ ws, wok w = true) {n : Nat} : Sh (n + 1) (encR ws) := sh_list (sh_all _ fun d hd => by
  obtain ⟨w, hw, rfl⟩ := List.mem_map.mp hd
  exact sh_str (wok_lay (h w hw)))
theorem at_cut (ws : List Str) (a : Nat) : cutL (ws.map PyData.str) (some (a : Int)) (some ((a : Int) + 1)) = ((ws.drop a).take 1).map .str := by
  have h : ((a : Int) + 1) = ((a + 1 : Nat) : Int) := by omega
  rw [h, cut_mid, ← List.map_take, ← List.map_drop, List.drop_take, show a + 1 - a = 1 by omega]
theorem eq_hit {s : List Str} (h : ∀ w ∈ s, wok w = true) {k : Nat} (hk : k ≤ 9) : oEq (.list ((s.take 1).map .str)) (.list [.str (num k)]) = some (.bool (hit s k)) := by
  have h1 : Sh 1 (encR (s.take 1)) := sh_R fun w hw => h w (List.mem_of_mem_take hw)
  have h2 : Sh 1 (encR [num k]) := sh_R fun w hw => by
    have : w = num k := by simpa using hw
    rw [this]
    exact wok_num hk
  have := oEq_sh h1 h2 (by omega) (by omega)
  rw [eqv_list] at this
  show oEq (encR (s.take 1)) (encR [num k]) = _
  rw [this]
  cases s with
  | nil => rfl
  | cons w r =>
    show some (PyData.bool (PyData.eqvAll [PyData.str w] [PyData.str (num k)])) = _
    rw [eqvAll_cons, eqvAll_nil, eqv_str, Bool.and_true]
    rfl
theorem F_number_at_ok {ws : List Str} (h : ∀ w ∈ ws, wok w = true) (a : Nat) {b : Nat} (hb : b ≤ 9) : F_number_at [encR ws, .int a, .int b] = match rdN b (ws.drop a) with
    | some k => .ok (.int k)
    | none => .ex 0 := by
  have hs : ∀ w ∈ ws.drop a, wok w = true := fun w hw => h w (List.mem_of_mem_drop hw)
  have e := forD_findE (en := encI) (g := bN 3) (body := l1_number_at) (q := encI) (p := hit (ws.drop a)) (I := fun ρ => ∃ s3, ρ = [.d (encR ws), .d (.int a), .d (.int b), s3]) (List.range b) [.d (encR ws), .d (.int a), .d (.int b), .un] (fun x hx ρ ⟨s3, hρ⟩ => by
    subst hρ
    have hx := List.mem_range.mp hx
    have e1 := eq_hit hs (k := x) (by omega)
    have e2 := cStr_num (k := x) (by omega)
    rw [List.map_take, List.map_drop] at e1
    refine ⟨_, rfl, ?_⟩
    cases hh : hit (ws.drop a) x with
    | true =>
      rw [hh] at e1
      simp [l1_number_at, at_cut, e1, e2]
    | false =>
      rw [hh] at e1
      simp [l1_number_at, at_cut, e1, e2]) ⟨_, rfl⟩
  have hr := s_range (n := b) (by omega)
  unfold rdN
  cases hf : (List.range b).find? (hit (ws.drop a)) with
  | some k =>
    rw [hf] at e
    dsimp only at e
    simp [F_number_at, runD, b_number_at, hr, e]
  | none =>
    rw [hf] at e
    dsimp only at e
    obtain ⟨ρ', e, _⟩ := e
    simp [F_number_at, runD, b_number_at, hr, e]
/-- the thing that begins a list of words, and how many words it takes -/
def pa (m : Nat) : Nat → List Str → Option (Th × Nat)
  | 0, _ => none
  | _ + 1, [] => none
  | n + 1, w :: r =>
    if w = "is" then (rdN m r).map fun k => (.is k, 2)
    else if w = "many" then (rdN 8 r).map fun k => (.many k, 2)
    else if w = "not" then (pa m n r).map fun p => (.nt p.1, p.2 + 1)
    else if w = "says" then (rdN m r).bind fun k => (pa m n (r.drop 1)).map fun p => (.says k p.1, p.2 + 2)
    else if w = "and" then (pa m n r).bind fun p => (pa m n (r.drop p.2)).map fun q => (.an p.1 q.1, p.2 + q.2 + 1)
    else if w = "or" then (pa m n r).bind fun p => (pa m n (r.drop p.2)).map fun q => (.ors p.1 q.1, p.2 + q.2 + 1)
    else if w = "alike" then (pa m n r).bind fun p => (pa m n (r.drop p.2)).map fun q => (.al p.1 q.1, p.2 + q.2 + 1)
    else none
/-- what is read is what is written -/
theorem pa_sound {m : Nat} : ∀ (n : Nat) (s : List Str) (t : Th) (c : Nat), pa m n s = some (t, c) → ∃ r, s = wr t ++ r ∧ c = (wr t).length ∧ t.ok m
  | 0, _, _, _, h => by cases h
  | _ + 1, [], _, _, h => by cases h
  | n + 1, w :: r, t, c, h => by
    unfold pa at h
    split at h
    · rename_i hw
      obtain ⟨k, hk, e⟩ := Option.map_eq_some_iff.mp h
      cases e
      obtain ⟨h1, r', rfl⟩ := rdN_some hk
      exact ⟨r', by rw [hw]; rfl, rfl, h1⟩
    · split at h
      · rename_i hw
        obtain ⟨k, hk, e⟩ := Option.map_eq_some_iff.mp h
        cases e
        obtain ⟨h1, r', rfl⟩ := rdN_some hk
        exact ⟨r', by rw [hw]; rfl, rfl, by show k ≤ 7; omega⟩
      · split at h
        · rename_i hw
          obtain ⟨⟨t1, c1⟩, h1, e⟩ := Option.map_eq_some_iff.mp h
          cases e
          obtain ⟨r1, rfl, rfl, o1⟩ := pa_sound n _ _ _ h1
          exact ⟨r1, by rw [hw]; rfl, rfl, o1⟩
        · split at h
          · rename_i hw
            obtain ⟨k, hk, h⟩ := Option.bind_eq_some_iff.mp h
            obtain ⟨⟨t1, c1⟩, h1, e⟩ := Option.map_eq_some_iff.mp h
            cases e
            obtain ⟨hk1, r', rfl⟩ := rdN_some hk
            rw [List.drop_succ_cons, List.drop_zero] at h1
            obtain ⟨r1, rfl, rfl, o1⟩ := pa_sound n _ _ _ h1
            exact ⟨r1, by rw [hw]; rfl, rfl, hk1, o1⟩
          · have two : ∀ {f : Th → Th → Th} {t : Th} {c : Nat}, ((pa m n r).bind fun p => (pa m n (r.drop p.2)).map fun q => (f p.1 q.1, p.2 + q.2 + 1)) = some (t, c) → ∃ a b r', t = f a b ∧ r = wr a ++ (wr b ++ r') ∧ c = (wr a).length + (wr b).length + 1 ∧ a.ok m ∧ b.ok m := by
              intro f t c h
              obtain ⟨⟨a, c1⟩, h1, h⟩ := Option.bind_eq_some_iff.mp h
              obtain ⟨⟨b, c2⟩, h2, e⟩ := Option.map_eq_some_iff.mp h
              cases e
              obtain ⟨r1, rfl, rfl, o1⟩ := pa_sound n _ _ _ h1
              rw [List.drop_left] at h2
              obtain ⟨r2, rfl, rfl, o2⟩ := pa_sound n _ _ _ h2
              exact ⟨a, b, r2, rfl, rfl, rfl, o1, o2⟩
            split at h
            · rename_i hw
              obtain ⟨a, b, r', rfl, rfl, rfl, o1, o2⟩ := two h
              exact ⟨r', by rw [hw]; simp [wr], by simp [wr], o1, o2⟩
            · split at h
              · rename_i hw
                obtain ⟨a, b, r', rfl, rfl, rfl, o1, o2⟩ := two h
                exact ⟨r', by rw [hw]; simp [wr], by simp [wr], o1, o2⟩
              · split at h
                · rename_i hw
                  obtain ⟨a, b, r', rfl, rfl, rfl, o1, o2⟩ := two h
                  exact ⟨r', by rw [hw]; simp [wr], by simp [wr], o1, o2⟩
                · cases h
/-- what is written is read -/
theorem pa_wr {m : Nat} : ∀ (t : Th) (n : Nat) (r : List Str), t.ok m → t.depth < n → pa m n (wr t ++ r) = some (t, (wr t).length)
  | _, 0, _, _, h => absurd h (Nat.not_lt_zero _)
  | .is g, n + 1, r, ho, h => by
    have ho : g < m := ho
    simp [pa, wr, rdN_num r ho]
  | .many g, n + 1, r, ho, h => by
    have ho : g ≤ 7 := ho
    simp [pa, wr, rdN_num (b := 8) (k := g) r (by omega)]
  | .nt t, n + 1, r, ho, h => by
    have ih := pa_wr t n r ho (by simp only [Th.depth] at h; omega)
    simp [pa, wr, ih]
  | .says g t, n + 1, r, ho, h => by
    have ih := pa_wr t n r ho.2 (by simp only [Th.depth] at h; omega)
    simp [pa, wr, ih, rdN_num _ ho.1]
  | .an a b, n + 1, r, ho, h => by
    have i1 := pa_wr a n (wr b ++ r) ho.1 (by simp only [Th.depth] at h; omega)
    have i2 := pa_wr b n r ho.2 (by simp only [Th.depth] at h; omega)
    simp [pa, wr, i1, i2]
  | .ors a b, n + 1, r, ho, h => by
    have i1 := pa_wr a n (wr b ++ r) ho.1 (by simp only [Th.depth] at h; omega)
    have i2 := pa_wr b n r ho.2 (by simp only [Th.depth] at h; omega)
    simp [pa, wr, i1, i2]
  | .al a b, n + 1, r, ho, h => by
    have i1 := pa_wr a n (wr b ++ r) ho.1 (by simp only [Th.depth] at h; omega)
    have i2 := pa_wr b n r ho.2 (by simp only [Th.depth] at h; omega)
    simp [pa, wr, i1, i2]
/-! ### thing_at -/
section
variable {m a a2 sz k : Nat} {ws : List Str} {w : Str} {found : List PyData} {p : PyData} {s5 : Pu.Slot} {f : List PyData → R PyData}
theorem lp_test (hs : T_SIZES.lookup w = some (sz : Int)) : t1_thing_at [.d (encR ws), .d (.int a), .d (.int m), .d (.str w), .d (.tuple found), s5] = .ok (decide (found.length < sz)) := by
  simp [t1_thing_at, hs]
theorem lp_go (hs : T_SIZES.lookup w = some (sz : Int)) (hl : found.length < sz) (h3 : sz ≤ 3) (hf : f [encR ws, .int a, .int m] = .ok (.tuple [p, .int a2])) :
    whileD t1_thing_at (l1_thing_at f) (k + 1) [.d (encR ws), .d (.int a), .d (.int m), .d (.str w), .d (.tuple found), s5] = whileD t1_thing_at (l1_thing_at f) k [.d (encR ws), .d (.int a2), .d (.int m), .d (.str w), .d (.tuple (found ++ [p])), .d p] := by
  have h6 : found.length + 1 ≤ 1000000 := by omega
  have hb : l1_thing_at f [.d (encR ws), .d (.int a), .d (.int m), .d (.str w), .d (.tuple found), s5] = .ok (.nx [.d (encR ws), .d (.int a2), .d (.int m), .d (.str w), .d (.tuple (found ++ [p])), .d p]) := by
    simp [l1_thing_at, hf, h6]
  show ((t1_thing_at _).bind fun b => if b = true then (l1_thing_at f _).bind fun o => match o with
    | .nx ρ2 => whileD t1_thing_at (l1_thing_at f) k ρ2
    | .ct ρ2 => whileD t1_thing_at (l1_thing_at f) k ρ2
    | .bk ρ2 => .ok (.nx ρ2)
    | .rt d => .ok (.rt d)
    else .ok (.nx _)) = _
  rw [lp_test hs, R.bind_ok, decide_eq_true hl, if_pos rfl, hb]
  rfl
theorem lp_ex {e : Nat} (hs : T_SIZES.lookup w = some (sz : Int)) (hl : found.length < sz) (hf : f [encR ws, .int a, .int m] = .ex e) :
    whileD t1_thing_at (l1_thing_at f) (k + 1) [.d (encR ws), .d (.int a), .d (.int m), .d (.str w), .d (.tuple found), s5] = .ex e := by
  have hb : l1_thing_at f [.d (encR ws), .d (.int a), .d (.int m), .d (.str w), .d (.tuple found), s5] = .ex e := by
    simp [l1_thing_at, hf]
  show ((t1_thing_at _).bind fun b => if b = true then (l1_thing_at f _).bind fun o => match o with
    | .nx ρ2 => whileD t1_thing_at (l1_thing_at f) k ρ2
    | .ct ρ2 => whileD t1_thing_at (l1_thing_at f) k ρ2
    | .bk ρ2 => .ok (.nx ρ2)
    | .rt d => .ok (.rt d)
    else .ok (.nx _)) = _
  rw [lp_test hs, R.bind_ok, decide_eq_true hl, if_pos rfl, hb]
  rfl
theorem lp_end (hs : T_SIZES.lookup w = some (sz : Int)) (hl : ¬ found.length < sz) :
    whileD t1_thing_at (l1_thing_at f) (k + 1) [.d (encR ws), .d (.int a), .d (.int m), .d (.str w), .d (.tuple found), s5] = .ok (.nx [.d (encR ws), .d (.int a), .d (.int m), .d (.str w), .d (.tuple found), s5]) := by
  show ((t1_thing_at _).bind fun b => if b = true then (l1_thing_at f _).bind fun o => match o with
    | .nx ρ2 => whileD t1_thing_at (l1_thing_at f) k ρ2
    | .ct ρ2 => whileD t1_thing_at (l1_thing_at f) k ρ2
    | .bk ρ2 => .ok (.nx ρ2)
    | .rt d => .ok (.rt d)
    else .ok (.nx _)) = _
  rw [lp_test hs, R.bind_ok, decide_eq_false hl, if_neg Bool.false_ne_true]
end
theorem lk_none {w : Str} (h1 : w ≠ "is") (h2 : w ≠ "many") (h3 : w ≠ "not") (h4 : w ≠ "says") (h5 : w ≠ "and") (h6 : w ≠ "or") (h7 : w ≠ "alike") : T_SIZES.lookup w = none := by
  have n : ∀ {x : Str}, w ≠ x → (w == x) = false := fun h => beq_eq_false_iff_ne.mpr h
  unfold T_SIZES
  rw [List.lookup_cons, n h1, List.lookup_cons, n h2, List.lookup_cons, n h3, List.lookup_cons, n h5, List.lookup_cons, n h6, List.lookup_cons, n h7, List.lookup_cons, n h4]
  rfl
/-- what thing_at answers, of what is read -/
def ansT (a : Nat) : Option (Th × Nat) → R PyData
  | some p => .ok (.tuple [enc p.1, .int ((a + p.2 : Nat) : Int)])
  | none => .ex 0
theorem F_thing_at_ok {m : Nat} (hm : m ≤ 9) {ws : List Str} (hw : ∀ w ∈ ws, wok w = true) : ∀ (n a : Nat), ws.length - a < n → F_thing_at n [encR ws, .int a, .int m] = ansT a (pa m n (ws.drop a))
  | 0, _, h => absurd h (Nat.not_lt_zero _)
  | n + 1, a, h => by
    by_cases ha : a < ws.length
    · obtain ⟨w, r, hd⟩ : ∃ w r, ws.drop a = w :: r := ⟨ws[a], ws.drop (a + 1), List.drop_eq_getElem_cons ha⟩
      have hr : r = ws.drop (a + 1) := by
        rw [← List.drop_drop, hd]
        rfl
      have hat : atI (ws.map PyData.str) (a : Int) = some (.str w) := by
        refine atI_nat ?_
        have := congrArg List.head? hd
        rw [List.head?_drop] at this
        rw [List.getElem?_map, this]
        rfl
      have ha' : ((ws.length : Int) ≤ (a : Int)) = False := eq_false (by omega)
      have hn1 : F_number_at [encR ws, .int ((a : Int) + 1), .int m] = (match rdN m r with | some k => .ok (.int k) | none => .ex 0) := by
        have := F_number_at_ok hw (a + 1) (b := m) hm
        rw [← hr, show ((a + 1 : Nat) : Int) = (a : Int) + 1 by omega] at this
        exact this
      have hn8 : F_number_at [encR ws, .int ((a : Int) + 1), .int 8] = (match rdN 8 r with | some k => .ok (.int k) | none => .ex 0) := by
        have := F_number_at_ok hw (a + 1) (b := 8) (by omega)
        rw [← hr, show ((a + 1 : Nat) : Int) = (a : Int) + 1 by omega] at this
        exact this
      rw [hd]
      by_cases h1 : w = "is"
      · subst h1
        cases hk : rdN m r with
        | none =>
          rw [hk] at hn1
          simp [F_thing_at, runD, b_thing_at, hat, ha', hn1, pa, hk, ansT]
        | some k =>
          rw [hk] at hn1
          simp [F_thing_at, runD, b_thing_at, hat, ha', hn1, pa, hk, ansT, enc]
      · by_cases h2 : w = "many"
        · subst h2
          cases hk : rdN 8 r with
          | none =>
            rw [hk] at hn8
            simp [F_thing_at, runD, b_thing_at, hat, ha', hn8, pa, hk, ansT]
          | some k =>
            rw [hk] at hn8
            simp [F_thing_at, runD, b_thing_at, hat, ha', hn8, pa, hk, ansT, enc]
        · -- the words with things behind them
          have next : ∀ c : Nat, F_thing_at n [encR ws, .int ((a + 1 + c : Nat) : Int), .int m] = ansT (a + 1 + c) (pa m n (r.drop c)) := fun c => by
            rw [F_thing_at_ok hm hw n (a + 1 + c) (by omega), hr, List.drop_drop]
          have next0 : F_thing_at n [encR ws, .int ((a : Int) + 1), .int m] = ansT (a + 1) (pa m n r) := by
            have := next 0
            rw [List.drop_zero, show ((a + 1 + 0 : Nat) : Int) = (a : Int) + 1 by omega] at this
            exact this
          by_cases h3 : w = "not"
          · subst h3
            cases hp : pa m n r with
            | none =>
              rw [hp] at next0
              have e : ∀ s5, whileD t1_thing_at (l1_thing_at (F_thing_at n)) 64 [.d (encR ws), .d (.int ((a : Int) + 1)), .d (.int m), .d (.str "not"), .d (.tuple [.str "not"]), s5] = .ex 0 := fun s5 => by
                rw [show ((a : Int) + 1) = ((a + 1 : Nat) : Int) by omega] at next0 ⊢
                exact lp_ex (k := 63) (sz := 2) sz_not (by simp) next0
              simp [F_thing_at, runD, b_thing_at, hat, ha', pa, hp, ansT, e]
            | some q =>
              obtain ⟨t, c⟩ := q
              rw [hp] at next0
              have e : ∀ s5, whileD t1_thing_at (l1_thing_at (F_thing_at n)) 64 [.d (encR ws), .d (.int ((a : Int) + 1)), .d (.int m), .d (.str "not"), .d (.tuple [.str "not"]), s5] = .ok (.nx [.d (encR ws), .d (.int ((a + 1 + c : Nat) : Int)), .d (.int m), .d (.str "not"), .d (.tuple [.str "not", enc t]), .d (enc t)]) := fun s5 => by
                rw [show ((a : Int) + 1) = ((a + 1 : Nat) : Int) by omega] at next0 ⊢
                exact (lp_go (k := 63) (sz := 2) sz_not (by simp) (by omega) next0).trans (lp_end (k := 62) (sz := 2) sz_not (by simp))
              have ec : ((a + 1 + c : Nat) : Int) = (a : Int) + ((c : Int) + 1) := by omega
              rw [ec] at e
              simp [F_thing_at, runD, b_thing_at, hat, ha', pa, hp, ansT, e, enc]
          · by_cases h4 : w = "says"
            · subst h4
              cases hk : rdN m r with
              | none =>
                rw [hk] at hn1
                simp [F_thing_at, runD, b_thing_at, hat, ha', hn1, pa, hk, ansT]
              | some k =>
                rw [hk] at hn1
                have next1 : F_thing_at n [encR ws, .int ((a + 2 : Nat) : Int), .int m] = ansT (a + 2) (pa m n (r.drop 1)) := next 1
                have ea : ((a : Int) + 1 + 1) = ((a + 2 : Nat) : Int) := by omega
                cases hp : pa m n (r.drop 1) with
                | none =>
                  rw [hp] at next1
                  have e : ∀ s5, whileD t1_thing_at (l1_thing_at (F_thing_at n)) 64 [.d (encR ws), .d (.int ((a : Int) + 1 + 1)), .d (.int m), .d (.str "says"), .d (.tuple [.str "says", .int k]), s5] = .ex 0 := fun s5 => by
                    rw [ea]
                    exact lp_ex (k := 63) (sz := 3) sz_says (by simp) next1
                  simp [F_thing_at, runD, b_thing_at, hat, ha', hn1, pa, hk, hp, ansT, e, -List.drop_one]
                | some q =>
                  obtain ⟨t, c⟩ := q
                  rw [hp] at next1
                  have e : ∀ s5, whileD t1_thing_at (l1_thing_at (F_thing_at n)) 64 [.d (encR ws), .d (.int ((a : Int) + 1 + 1)), .d (.int m), .d (.str "says"), .d (.tuple [.str "says", .int k]), s5] = .ok (.nx [.d (encR ws), .d (.int ((a + 2 + c : Nat) : Int)), .d (.int m), .d (.str "says"), .d (.tuple [.str "says", .int k, enc t]), .d (enc t)]) := fun s5 => by
                    rw [ea]
                    exact (lp_go (k := 63) (sz := 3) sz_says (by simp) (by omega) next1).trans (lp_end (k := 62) (sz := 3) sz_says (by simp))
                  have ec : ((a + 2 + c : Nat) : Int) = (a : Int) + ((c : Int) + 2) := by omega
                  rw [ec] at e
                  simp [F_thing_at, runD, b_thing_at, hat, ha', hn1, pa, hk, hp, ansT, e, enc, -List.drop_one]
            · -- two things
              have bin : ∀ (x : Str) (s5 : Pu.Slot), T_SIZES.lookup x = some 3 → whileD t1_thing_at (l1_thing_at (F_thing_at n)) 64 [.d (encR ws), .d (.int ((a : Int) + 1)), .d (.int m), .d (.str x), .d (.tuple [.str x]), s5] =
                  (match pa m n r with
                  | none => .ex 0
                  | some p => match pa m n (r.drop p.2) with
                    | none => .ex 0
                    | some q => .ok (.nx [.d (encR ws), .d (.int ((a : Int) + ((p.2 : Int) + (q.2 : Int) + 1))), .d (.int m), .d (.str x), .d (.tuple [.str x, enc p.1, enc q.1]), .d (enc q.1)])) := fun x s5 hx => by
                rw [show ((a : Int) + 1) = ((a + 1 : Nat) : Int) by omega] at next0 ⊢
                cases hp : pa m n r with
                | none =>
                  rw [hp] at next0
                  exact lp_ex (k := 63) (sz := 3) hx (by simp) next0
                | some p =>
                  rw [hp] at next0
                  have nx2 := next p.2
                  refine (lp_go (k := 63) (sz := 3) hx (by simp) (by omega) next0).trans ?_
                  dsimp only
                  cases hq : pa m n (r.drop p.2) with
                  | none =>
                    rw [hq] at nx2
                    exact lp_ex (k := 62) (sz := 3) hx (by simp) nx2
                  | some q =>
                    rw [hq] at nx2
                    have ec : (a : Int) + ((p.2 : Int) + (q.2 : Int) + 1) = ((a + 1 + p.2 + q.2 : Nat) : Int) := by omega
                    dsimp only
                    rw [ec]
                    exact (lp_go (k := 62) (sz := 3) hx (by simp) (by omega) nx2).trans (lp_end (k := 61) (sz := 3) hx (by simp))
              by_cases h5 : w = "and"
              · subst h5
                have e := bin "and" .un sz_and
                cases hp : pa m n r with
                | none =>
                  rw [hp] at e
                  simp [F_thing_at, runD, b_thing_at, hat, ha', pa, hp, ansT, e]
                | some p =>
                  cases hq : pa m n (r.drop p.2) with
                  | none =>
                    rw [hp] at e
                    dsimp only at e
                    rw [hq] at e
                    simp [F_thing_at, runD, b_thing_at, hat, ha', pa, hp, hq, ansT, e]
                  | some q =>
                    rw [hp] at e
                    dsimp only at e
                    rw [hq] at e
                    simp [F_thing_at, runD, b_thing_at, hat, ha', pa, hp, hq, ansT, e, enc]
              · by_cases h6 : w = "or"
                · subst h6
                  have e := bin "or" .un sz_or
                  cases hp : pa m n r with
                  | none =>
                    rw [hp] at e
                    simp [F_thing_at, runD, b_thing_at, hat, ha', pa, hp, ansT, e]
                  | some p =>
                    cases hq : pa m n (r.drop p.2) with
                    | none =>
                      rw [hp] at e
                      dsimp only at e
                      rw [hq] at e
                      simp [F_thing_at, runD, b_thing_at, hat, ha', pa, hp, hq, ansT, e]
                    | some q =>
                      rw [hp] at e
                      dsimp only at e
                      rw [hq] at e
                      simp [F_thing_at, runD, b_thing_at, hat, ha', pa, hp, hq, ansT, e, enc]
                · by_cases h7 : w = "alike"
                  · subst h7
                    have e := bin "alike" .un sz_alike
                    cases hp : pa m n r with
                    | none =>
                      rw [hp] at e
                      simp [F_thing_at, runD, b_thing_at, hat, ha', pa, hp, ansT, e]
                    | some p =>
                      cases hq : pa m n (r.drop p.2) with
                      | none =>
                        rw [hp] at e
                        dsimp only at e
                        rw [hq] at e
                        simp [F_thing_at, runD, b_thing_at, hat, ha', pa, hp, hq, ansT, e]
                      | some q =>
                        rw [hp] at e
                        dsimp only at e
                        rw [hq] at e
                        simp [F_thing_at, runD, b_thing_at, hat, ha', pa, hp, hq, ansT, e, enc]
                  · have hl := lk_none h1 h2 h3 h4 h5 h6 h7
                    simp [F_thing_at, runD, b_thing_at, hat, ha', hl, pa, h1, h2, h3, h4, h5, h6, h7, ansT]
    · have hd : ws.drop a = [] := List.drop_eq_nil_of_le (by omega)
      have ha' : ((ws.length : Int) ≤ (a : Int)) = True := eq_true (by omega)
      rw [hd]
      simp [F_thing_at, runD, b_thing_at, ha', pa, ansT]
/-! ### read -/
def okW (ws : List Str) : Prop := ws ≠ [] ∧ (∀ w ∈ ws, wok w = true) ∧ ws.length < 39
theorem J_big {ws : List Str} (h : okW ws) : (J ws).length ≤ 1000 := by
  have := J_len fun w hw => wok_len (h.2.1 w hw)
  have := h.2.2
  omega
def rdT (m : Nat) (ws : List Str) : Option Th := match pa m 40 ws with
  | some p => if p.2 = ws.length then some p.1 else none
  | none => none
theorem rdT_e {m : Nat} {ws : List Str} {t : Th} (h : rdT m ws = some t) : ws = wr t ∧ t.ok m := by
  unfold rdT at h
  cases hp : pa m 40 ws with
  | none => rw [hp] at h; cases h
  | some p =>
    obtain ⟨t', c⟩ := p
    rw [hp] at h
    dsimp only at h
    by_cases hc : c = ws.length
    · rw [if_pos hc] at h
      cases h
      obtain ⟨r, h1, h2, h3⟩ := pa_sound 40 ws _ _ hp
      have : r = [] := by
        have := congrArg List.length h1
        rw [List.length_append] at this
        exact List.length_eq_zero_iff.mp (by omega)
      rw [this, List.append_nil] at h1
      exact ⟨h1, h3⟩
    · rw [if_neg hc] at h
      cases h
theorem rdT_wr {m : Nat} {t : Th} (h : t.ok m) (hd : t.depth < 40) : rdT m (wr t) = some t := by
  have := pa_wr t 40 [] h hd
  rw [List.append_nil] at this
  unfold rdT
  rw [this]
  exact if_pos rfl
theorem rdT_more {m : Nat} {t : Th} (h : t.ok m) (hd : t.depth < 40) {r : List Str} (hr : r ≠ []) : rdT m (wr t ++ r) = none := by
  unfold rdT
  rw [pa_wr t 40 r h hd]
  refine if_neg fun q => ?_
  rw [List.length_append] at q
  exact hr (List.length_eq_zero_iff.mp (by dsimp only at q; omega))
theorem F_read_ok {m : Nat} (hm : m ≤ 9) {ws : List Str} (h : okW ws) : F_read [.str (J ws), .int m] = match rdT m ws with
    | some t => .ok (enc t)
    | none => .ex 0 := by
  have hsp : mSplit (.str (J ws)) [.str SP] = some (encR ws) := by
    have hl := J_big h
    show (if SP.length ≠ 0 ∧ (J ws).length ≤ 1000000 then some (PyData.list ((Txt.split (J ws) SP).map .str)) else none) = _
    rw [if_pos ⟨by decide +kernel, by omega⟩, split_J h.1 h.2.1]
  have e := F_thing_at_ok hm h.2.1 40 0 (by have := h.2.2; omega)
  rw [List.drop_zero] at e
  unfold rdT
  cases hp : pa m 40 ws with
  | none =>
    rw [hp] at e
    have e : F_thing_at 40 [encR ws, .int 0, .int m] = .ex 0 := e
    simp [F_read, runD, b_read, hsp, e]
  | some p =>
    rw [hp] at e
    have e : F_thing_at 40 [encR ws, .int 0, .int m] = .ok (.tuple [enc p.1, .int (p.2 : Nat)]) := by
      have e : F_thing_at 40 [encR ws, .int 0, .int m] = .ok (.tuple [enc p.1, .int ((0 + p.2 : Nat) : Int)]) := e
      rwa [Nat.zero_add] at e
    by_cases hc : p.2 = ws.length
    · simp [F_read, runD, b_read, hsp, e, hc]
    · simp [F_read, runD, b_read, hsp, e, hc, show ((p.2 : Int) = (ws.length : Int)) = False from eq_false (by omega)]
def ansN (m : Nat) (ws : List Str) : PyData := match rdT m ws with
  | some t => enc t
  | none => .none
theorem F__law_read_ok {m : Nat} (hm : m ≤ 9) {ws : List Str} (h : okW ws) : F__law_read [.str (J ws), .int m] = .ok (ansN m ws) := by
  have e := F_read_ok hm h
  unfold ansN
  cases hr : rdT m ws with
  | none =>
    rw [hr] at e
    simp [F__law_read, runD, b__law_read, e]
  | some t =>
    rw [hr] at e
    simp [F__law_read, runD, b__law_read, e]
/-! ### what is refused -/
theorem read_no {m : Nat} (hm : m ≤ 9) {ws : List Str} {x : Str} (h : okW ws) (hx : x = J ws) (hr : rdT m ws = none) : F__law_read [.str x, .int m] = .ok .none := by
  rw [hx, F__law_read_ok hm h]
  unfold ansN
  rw [hr]
theorem okW_wr {m : Nat} (hm : m ≤ 9) {t : Th} (h : t.ok m) (hd : t.depth ≤ 3) : okW (wr t) := by
  refine ⟨wr_ne t, wr_wok hm h, ?_⟩
  have h1 := wr_len t
  have h2 := nwd_mono hd
  have h3 : nwd 3 = 23 := rfl
  omega
theorem wr_23 {t : Th} (hd : t.depth ≤ 3) : (wr t).length ≤ 23 := by
  have h1 := wr_len t
  have h2 := nwd_mono hd
  have h3 : nwd 3 = 23 := rfl
  omega
theorem wok_e : wok "" = true := by decide +kernel
theorem empty_J : Str.ofString "" = Str.empty := by decide +kernel
theorem pa_bad {m n : Nat} {w : Str} {r : List Str} (h : T_SIZES.lookup w = none) : pa m (n + 1) (w :: r) = none := by
  have key : ∀ {x : Str} {i : Int}, T_SIZES.lookup x = some i → w ≠ x := fun h1 e => by rw [e, h1] at h; cases h
  unfold pa
  rw [if_neg (key sz_is), if_neg (key sz_many), if_neg (key sz_not), if_neg (key sz_says), if_neg (key sz_and), if_neg (key sz_or), if_neg (key sz_alike)]
theorem refused {m : Nat} (hm : m ≤ 8) {t : Th} (ho : t.ok m) (hd : t.depth ≤ 3) : ∀ d ∈ ([.str (txt t ++ SP), .str (SP ++ txt t), .str (txt t ++ Str.ofString " is 0"), .str (Str.ofString "not"), .str (Str.ofString ""), .str (Str.ofString "is " ++ num m), .str (Str.ofString "many 8"), .str (Str.ofString "is 0 is 0"), .str (Str.ofString "is")] : List PyData),
    F__law_read [d, .int m] = .ok .none := by
  have hm9 : m ≤ 9 := by omega
  have hw := wr_wok hm9 ho
  have hl := wr_23 hd
  have w8 : wok (num 8) = true := wok_num (by omega)
  have w0 : wok (num 0) = true := wok_num (by omega)
  intro d hd'
  simp only [List.mem_cons, List.not_mem_nil, or_false] at hd'
  rcases hd' with rfl | rfl | rfl | rfl | rfl | rfl | rfl | rfl | rfl
  · refine read_no hm9 (ws := wr t ++ [Str.ofString ""]) ⟨by simp, fun w hw' => ?_, by simp; omega⟩ ?_ (rdT_more ho (by omega) (by simp))
    · rcases List.mem_append.mp hw' with q | q
      · exact hw w q
      · rw [List.mem_singleton.mp q]; exact wok_e
    · rw [J_app (wr_ne t) (by simp), J_one, empty_J, Str.append_empty]
  · refine read_no hm9 (ws := "" :: wr t) ⟨by simp, fun w hw' => ?_, by simp; omega⟩ ?_ ?_
    · rcases List.mem_cons.mp hw' with q | q
      · rw [q]; exact wok_e
      · exact hw w q
    · rw [J_cons _ (wr_ne t), empty_J, Str.empty_append]
    · unfold rdT
      rw [pa_bad (by decide +kernel)]
  · refine read_no hm9 (ws := wr t ++ [Str.ofString "is", num 0]) ⟨by simp, fun w hw' => ?_, by simp; omega⟩ ?_ (rdT_more ho (by omega) (by simp))
    · rcases List.mem_append.mp hw' with q | q
      · exact hw w q
      · rcases List.mem_cons.mp q with q | q
        · rw [q]; exact wok_is
        · rw [List.mem_singleton.mp q]; exact w0
    · rw [J_app (wr_ne t) (by simp), Str.append_assoc]
      have : Str.ofString " is 0" = SP ++ J ["is", num 0] := by decide +kernel
      rw [this]
  · exact read_no hm9 (ws := ["not"]) ⟨by simp, fun w hw' => by rw [List.mem_singleton.mp hw']; exact wok_not, by simp⟩ rfl (by simp [rdT, pa])
  · exact read_no hm9 (ws := [""]) ⟨by simp, fun w hw' => by rw [List.mem_singleton.mp hw']; exact wok_e, by simp⟩ rfl (by unfold rdT; rw [pa_bad (by decide +kernel)])
  · refine read_no hm9 (ws := ["is", num m]) ⟨by simp, fun w hw' => ?_, by simp⟩ ?_ ?_
    · rcases List.mem_cons.mp hw' with q | q
      · rw [q]; exact wok_is
      · rw [List.mem_singleton.mp q]; exact wok_num hm9
    · rw [J_cons _ (by simp), J_one]
      have : Str.ofString "is " = Str.ofString "is" ++ SP := by decide +kernel
      rw [this]
    · have : rdN m [num m] = none := rdN_none fun k hk r e => by
        have := num_inj (List.cons.inj e).1
        omega
      simp [rdT, pa, this]
  · refine read_no hm9 (ws := ["many", num 8]) ⟨by simp, fun w hw' => ?_, by simp⟩ (by decide +kernel) ?_
    · rcases List.mem_cons.mp hw' with q | q
      · rw [q]; exact wok_many
      · rw [List.mem_singleton.mp q]; exact w8
    · have : rdN 8 [num 8] = none := rdN_none fun k hk r e => by
        have := num_inj (List.cons.inj e).1
        omega
      simp [rdT, pa, this]
  · refine read_no hm9 (ws := ["is", num 0, "is", num 0]) ⟨by simp, fun w hw' => ?_, by simp⟩ (by decide +kernel) ?_
    · simp only [List.mem_cons, List.not_mem_nil, or_false] at hw'
      rcases hw' with rfl | rfl | rfl | rfl
      · exact wok_is
      · exact w0
      · exact wok_is
      · exact w0
    · cases hk : rdN m [num 0, "is", num 0] with
      | none => simp [rdT, pa, hk]
      | some k => simp [rdT, pa, hk]
  · have : rdN m [] = none := rdN_none fun k hk r e => by cases e
    exact read_no hm9 (ws := ["is"]) ⟨by simp, fun w hw' => by rw [List.mem_singleton.mp hw']; exact wok_is, by simp⟩ rfl (by simp [rdT, pa, this])
/-! ### spoilt -/
theorem mJn {ws : List Str} (h : okW ws) : mJoin (.str SP) [.list (ws.map .str)] = some (.str (J ws)) := by
  have e := strsOf_map ws
  have e2 : SP.length ≤ 10 := by decide +kernel
  have h1 : ws.length ≤ 1000 := by have := h.2.2; omega
  have h2 : ∀ z ∈ ws, z.length ≤ 1000 := fun z hz => by have := wok_len (h.2.1 z hz); omega
  simp only [mJoin, e, Option.bind_some]
  rw [if_pos ⟨h1, h2, e2⟩, TL.join_eq]
  rfl
theorem J_blank (xs : List Str) (w : Str) (zs : List Str) : J (xs ++ (w ++ SP) :: zs) = J (xs ++ w :: Str.ofString "" :: zs) := by
  have h1 : J ((w ++ SP) :: zs) = J (w :: Str.ofString "" :: zs) := by
    cases zs with
    | nil => rw [J_one, J_cons _ (by simp), J_one, empty_J, Str.append_empty]
    | cons z zs => rw [J_cons (w ++ SP) (ys := z :: zs) (by simp), J_cons w (ys := Str.ofString "" :: z :: zs) (by simp), J_cons (Str.ofString "") (ys := z :: zs) (by simp), empty_J, Str.empty_append, Str.append_assoc (w ++ SP)]
  cases xs with
  | nil => exact h1
  | cons x xs => rw [J_app (by simp) (by simp), J_app (by simp) (by simp), h1]
theorem word_at (j : Nat) (h : j < 12) : ∃ v : Str, wok v = true ∧ atI ([.str (Str.ofString "is"), .str (Str.ofString "not"), .str (Str.ofString "and"), .str (Str.ofString "0"), .str (Str.ofString "7"), .str (Str.ofString "9"), .str (Str.ofString "says"), .str (Str.ofString ""), .str (Str.ofString "IS"), .str (Str.ofString "many"), .str (Str.ofString "00"), .str (Str.ofString "-1")] : List PyData) (j : Int) = some (.str v) := by
  have : j = 0 ∨ j = 1 ∨ j = 2 ∨ j = 3 ∨ j = 4 ∨ j = 5 ∨ j = 6 ∨ j = 7 ∨ j = 8 ∨ j = 9 ∨ j = 10 ∨ j = 11 := by omega
  rcases this with rfl | rfl | rfl | rfl | rfl | rfl | rfl | rfl | rfl | rfl | rfl | rfl <;> exact ⟨_, by decide +kernel, rfl⟩
theorem F__law_spoilt_ok {ws : List Str} (hw : ∀ w ∈ ws, wok w = true) (h2 : 2 ≤ ws.length) (hl : ws.length ≤ 23) (c : Int) : ∃ ws' : List Str, okW ws' ∧ ws'.length ≤ 24 ∧ F__law_spoilt [.str (J ws), .int c] = .ok (.str (J ws')) := by
  have hne : ws ≠ [] := fun e => by rw [e] at h2; simp at h2
  have hJ := J_big (ws := ws) ⟨hne, hw, by omega⟩
  have hsp := split_J hne hw
  have hJ6 : (J ws).length ≤ 1000000 := by omega
  have hSP : SP.length ≠ 0 := by decide +kernel
  have hSP' : ¬ (Str.length SP = 0) := hSP
  obtain ⟨k, ek, hk⟩ : ∃ k : Nat, c / 5 % (ws.length : Int) = (k : Int) ∧ k < ws.length := by
    have h1 := Int.emod_nonneg (c / 5) (show (ws.length : Int) ≠ 0 by omega)
    have h2 := Int.emod_lt_of_pos (c / 5) (show 0 < (ws.length : Int) by omega)
    exact ⟨(c / 5 % (ws.length : Int)).toNat, by omega, by omega⟩
  obtain ⟨j, ej, hj⟩ : ∃ j : Nat, c / 97 % 12 = (j : Int) ∧ j < 12 := ⟨(c / 97 % 12).toNat, by omega, by omega⟩
  obtain ⟨v, hv, ev⟩ := word_at j hj
  have hl0 : 0 < ws.length := by omega
  have hk1 : ((k : Int) + 1) = ((k + 1 : Nat) : Int) := by omega
  have sT : ∀ a : Nat, cutL (ws.map PyData.str) none (some (a : Int)) = (ws.take a).map .str := fun a => by rw [cut_take, List.map_take]
  have sD : ∀ a : Nat, cutL (ws.map PyData.str) (some (a : Int)) none = (ws.drop a).map .str := fun a => by rw [cut_drop, List.map_drop]
  have sT1 : cutL (ws.map PyData.str) none (some ((k : Int) + 1)) = (ws.take (k + 1)).map .str := by rw [hk1]; exact sT (k + 1)
  have sD1 : cutL (ws.map PyData.str) (some ((k : Int) + 1)) none = (ws.drop (k + 1)).map .str := by rw [hk1]; exact sD (k + 1)
  have sT0 := sT k
  have sD0 := sD k
  have tw : ∀ a, ∀ w ∈ ws.take a, wok w = true := fun a w q => hw w (List.mem_of_mem_take q)
  have dw : ∀ a, ∀ w ∈ ws.drop a, wok w = true := fun a w q => hw w (List.mem_of_mem_drop q)
  have hc : c % 5 = 0 ∨ c % 5 = 1 ∨ c % 5 = 2 ∨ c % 5 = 3 ∨ c % 5 = 4 := by omega
  rcases hc with h | h | h | h | h
  · have o : okW (ws.take k ++ ws.drop (k + 1)) := ⟨fun e => by
      have := congrArg List.length e
      rw [List.length_append, List.length_take, List.length_drop, List.length_nil] at this
      omega, fun w q => (List.mem_append.mp q).elim (tw _ w) (dw _ w), by simp; omega⟩
    refine ⟨ws.take k ++ ws.drop (k + 1), o, by simp; omega, ?_⟩
    have e := mJn o
    have hh : min k ws.length + (ws.length - (k + 1)) ≤ 1000000 := by omega
    rw [List.map_append] at e
    simp [F__law_spoilt, runD, b__law_spoilt, splD, hsp, hJ6, hSP', ek, ej, ev, flatD, h, hl0, sT0, sD0, sT1, sD1, hh, e, -List.map_take, -List.map_drop]
  · have o : okW (ws.take (k + 1) ++ ws.drop k) := ⟨fun e => by
      have := congrArg List.length e
      rw [List.length_append, List.length_take, List.length_drop, List.length_nil] at this
      omega, fun w q => (List.mem_append.mp q).elim (tw _ w) (dw _ w), by simp; omega⟩
    refine ⟨ws.take (k + 1) ++ ws.drop k, o, by simp; omega, ?_⟩
    have e := mJn o
    have hh : min (k + 1) ws.length + (ws.length - k) ≤ 1000000 := by omega
    rw [List.map_append] at e
    simp [F__law_spoilt, runD, b__law_spoilt, splD, hsp, hJ6, hSP', ek, ej, ev, flatD, h, hl0, sT0, sD0, sT1, sD1, hh, e, -List.map_take, -List.map_drop]
  · have o : okW (ws.take k ++ [v] ++ ws.drop (k + 1)) := ⟨by simp, fun w q => by
      rcases List.mem_append.mp q with q | q
      · rcases List.mem_append.mp q with q | q
        · exact tw _ w q
        · rw [List.mem_singleton.mp q]; exact hv
      · exact dw _ w q, by simp; omega⟩
    refine ⟨ws.take k ++ [v] ++ ws.drop (k + 1), o, by simp; omega, ?_⟩
    have e := mJn o
    have hh : min k ws.length + 1 ≤ 1000000 := by omega
    have hh2 : min k ws.length + (ws.length - (k + 1) + 1) ≤ 1000000 := by omega
    have hh3 : min k ws.length + 1 + (ws.length - (k + 1)) ≤ 1000000 := by omega
    rw [List.map_append, List.map_append] at e
    simp [F__law_spoilt, runD, b__law_spoilt, splD, hsp, hJ6, hSP', ek, ej, ev, flatD, h, hl0, sT0, sD0, sT1, sD1, hh, hh2, hh3, -List.map_take, -List.map_drop]
    simp at e
    simp [e]
  · have o : okW (ws.take k ++ [v] ++ ws.drop k) := ⟨by simp, fun w q => by
      rcases List.mem_append.mp q with q | q
      · rcases List.mem_append.mp q with q | q
        · exact tw _ w q
        · rw [List.mem_singleton.mp q]; exact hv
      · exact dw _ w q, by simp; omega⟩
    refine ⟨ws.take k ++ [v] ++ ws.drop k, o, by simp; omega, ?_⟩
    have e := mJn o
    have hh : min k ws.length + 1 ≤ 1000000 := by omega
    have hh2 : min k ws.length + (ws.length - k + 1) ≤ 1000000 := by omega
    have hh3 : min k ws.length + 1 + (ws.length - k) ≤ 1000000 := by omega
    rw [List.map_append, List.map_append] at e
    simp [F__law_spoilt, runD, b__law_spoilt, splD, hsp, hJ6, hSP', ek, ej, ev, flatD, h, hl0, sT0, sD0, sT1, sD1, hh, hh2, hh3, -List.map_take, -List.map_drop]
    simp at e
    simp [e]
  · obtain ⟨w, hwk⟩ : ∃ w, ws[k]? = some w := ⟨ws[k], List.getElem?_eq_getElem hk⟩
    have hwm : wok w = true := hw w (List.mem_of_getElem? hwk)
    have hat : atI (ws.map PyData.str) (k : Int) = some (.str w) := by
      refine atI_nat ?_
      rw [List.getElem?_map, hwk]
      rfl
    have o : okW (ws.take k ++ w :: Str.ofString "" :: ws.drop (k + 1)) := ⟨by simp, fun z q => by
      rcases List.mem_append.mp q with q | q
      · exact tw _ z q
      · rcases List.mem_cons.mp q with q | q
        · rw [q]; exact hwm
        · rcases List.mem_cons.mp q with q | q
          · rw [q]; exact wok_e
          · exact dw _ z q, by simp; omega⟩
    refine ⟨ws.take k ++ w :: Str.ofString "" :: ws.drop (k + 1), o, by simp; omega, ?_⟩
    rw [← J_blank]
    have hset : ws.set k (w ++ SP) = ws.take k ++ (w ++ SP) :: ws.drop (k + 1) := by
      rw [List.set_eq_take_append_cons_drop, if_pos hk]
    rw [← hset]
    have hw5 := wok_len hwm
    have h1 : SP.length = 1 := by decide +kernel
    have hws : w.length + SP.length ≤ 1000000 := by omega
    have e : mJoin (.str SP) [.list ((ws.map PyData.str).set k (.str (w ++ SP)))] = some (.str (J (ws.set k (w ++ SP)))) := by
      rw [← List.map_set]
      have e1 := strsOf_map (ws.set k (w ++ SP))
      have e2 : SP.length ≤ 10 := by omega
      have q1 : (ws.set k (w ++ SP)).length ≤ 1000 := by rw [List.length_set]; omega
      have q2 : ∀ z ∈ ws.set k (w ++ SP), z.length ≤ 1000 := fun z hz => by
        rcases List.mem_or_eq_of_mem_set hz with q | q
        · have := wok_len (hw z q); omega
        · rw [q, Str.length_append]; omega
      simp only [mJoin, e1, Option.bind_some]
      rw [if_pos ⟨q1, q2, e2⟩, TL.join_eq]
      rfl
    simp [F__law_spoilt, runD, b__law_spoilt, splD, hsp, hJ6, hSP', ek, ej, ev, flatD, h, hl0, hat, hws, hk, e]
/-! ### the law -/
theorem sh_w (x : Str) (h : PyData.canLay0 (.str x) = true := by decide +kernel) {n : Nat} : Sh n (.str x) := sh_str h
theorem sh_enc : ∀ (t : Th), Sh (t.depth + 1) (enc t)
  | .is g => sh_tup (sh_cons (sh_w "is") (sh_cons (sh_int _) sh_nil))
  | .many g => sh_tup (sh_cons (sh_w "many") (sh_cons (sh_int _) sh_nil))
  | .nt t => sh_tup (sh_cons (sh_w "not") (sh_cons (sh_enc t) sh_nil))
  | .says g t => sh_tup (sh_cons (sh_w "says") (sh_cons (sh_int _) (sh_cons (sh_enc t) sh_nil)))
  | .an a b => sh_tup (sh_cons (sh_w "and") (sh_cons ((sh_enc a).mono (by simp only [Th.depth]; omega)) (sh_cons ((sh_enc b).mono (by simp only [Th.depth]; omega)) sh_nil)))
  | .ors a b => sh_tup (sh_cons (sh_w "or") (sh_cons ((sh_enc a).mono (by simp only [Th.depth]; omega)) (sh_cons ((sh_enc b).mono (by simp only [Th.depth]; omega)) sh_nil)))
  | .al a b => sh_tup (sh_cons (sh_w "alike") (sh_cons ((sh_enc a).mono (by simp only [Th.depth]; omega)) (sh_cons ((sh_enc b).mono (by simp only [Th.depth]; omega)) sh_nil)))
theorem isN_enc (t : Th) : isNoneD (enc t) = false := by cases t <;> rfl
theorem law_true (ns : List Int) (_ : ns.length ≤ 63) : F_law [.list (ns.map .int)] = .ok (.bool true) := by
  obtain ⟨m, ss, h, e⟩ := F__law_hall_ok ns
  obtain ⟨hlo, hhi, _, _⟩ := h
  have body : ∀ (c : Int) (s0 s3 s4 s5 s6 s7 : Pu.Slot), ∃ s3' s4' s5' s6' s7', l2_law (F__law_thing 5) (F__law_text 40) (F_written 12) F_read F__law_spoilt F__law_read (F_is_thing 40) [s0, .d (.int m), .d (.int c), s3, s4, s5, s6, s7] = .ok (.nx [s0, .d (.int m), .d (.int c), s3', s4', s5', s6', s7']) := by
    intro c s0 s3 s4 s5 s6 s7
    obtain ⟨t, et, ot, dt⟩ := F__law_thing_ok 5 3 c m (by omega) hlo (by omega)
    have et' : F__law_thing 5 [.int c, .int m, .int 3] = .ok (enc t) := et
    have h23 := wr_23 dt
    have e1 := F__law_text_ok (m := m) (by omega) t 40 ot (by omega) (by omega)
    have e2 := F_written_ok (m := m) (by omega) t 12 ot (by omega) (by omega)
    have okt := okW_wr (m := m) (by omega) ot dt
    have e3 : F_read [.str (txt t), .int m] = .ok (enc t) := by
      have := F_read_ok (m := m) (by omega) okt
      rw [rdT_wr ot (by omega)] at this
      exact this
    have ne := oNe_self (sh_enc t) (by omega)
    obtain ⟨ws', ok', hl', e4⟩ := F__law_spoilt_ok (ws := wr t) okt.2.1 (wr_pos t) h23 c
    have e4 : F__law_spoilt [.str (txt t), .int c] = .ok (.str (J ws')) := e4
    have e5 := F__law_read_ok (m := m) (by omega) ok'
    have rf := refused (m := m) (by omega) ot dt
    have hcs : cStr [.int m] = some (.str (num m)) := cStr_num (by omega)
    have lT : (txt t).length ≤ 600 := txt_len (m := m) (by omega) ot (by omega)
    have l1 : SP.length = 1 := by decide +kernel
    have l2 : (Str.ofString " is 0").length = 5 := by decide +kernel
    have l3 : (Str.ofString "is ").length = 3 := by decide +kernel
    have l4 := num_len (k := m) (by omega)
    have a1 : (txt t).length + SP.length ≤ 1000000 := by omega
    have a2 : SP.length + (txt t).length ≤ 1000000 := by omega
    have a3 : (txt t).length + (Str.ofString " is 0").length ≤ 1000000 := by omega
    have a4 : (Str.ofString "is ").length + (num m).length ≤ 1000000 := by omega
    have loop : ∀ (u3 u4 u5 u6 u7 : Pu.Slot), ∃ ρ', forD (bN 7) (l1_law F__law_read) [.str (txt t ++ SP), .str (SP ++ txt t), .str (txt t ++ Str.ofString " is 0"), .str (Str.ofString "not"), .str (Str.ofString ""), .str (Str.ofString "is " ++ num m), .str (Str.ofString "many 8"), .str (Str.ofString "is 0 is 0"), .str (Str.ofString "is")] [s0, .d (.int m), .d (.int c), u3, u4, u5, u6, u7] = .ok (.nx ρ') ∧ ∃ v7, ρ' = [s0, .d (.int m), .d (.int c), u3, u4, u5, u6, v7] := by
      intro u3 u4 u5 u6 u7
      refine forD_keep (I := fun ρ => ∃ v7, ρ = [s0, .d (.int m), .d (.int c), u3, u4, u5, u6, v7]) _ _ (fun d hd ρ ⟨v7, hρ⟩ => ?_) ⟨_, rfl⟩
      subst hρ
      have := rf d hd
      refine ⟨_, _, rfl, ?_, .d d, rfl⟩
      simp [l1_law, this, isNoneD]
    cases hr : rdT m ws' with
    | none =>
      unfold ansN at e5
      rw [hr] at e5
      obtain ⟨ρ', e6, v7, rfl⟩ := loop (.d (enc t)) (.d (.str (txt t))) (.d (.str (J ws'))) (.d .none) s7
      refine ⟨.d (enc t), .d (.str (txt t)), .d (.str (J ws')), .d .none, v7, ?_⟩
      simp [l2_law, et', e1, e2, e3, ne, e4, e5, isNoneD, hcs, a1, a2, a3, a4, e6]
    | some t' =>
      unfold ansN at e5
      rw [hr] at e5
      obtain ⟨hw', ot'⟩ := rdT_e hr
      have hd' := wr_depth t'
      rw [hw'] at hl'
      have e7 := F__law_text_ok (m := m) (by omega) t' 40 ot' (by omega) (by omega)
      have e8 : F_is_thing 40 [enc t', .int m] = .ok (.bool true) := by
        rw [F_is_thing_ok m 40 (enc t') (by have := enc_depth t'; omega), isT_enc m t' 40 ot' (by omega)]
      have e9 : txt t' = J ws' := by rw [hw']
      rw [e9] at e7
      obtain ⟨ρ', e6, v7, rfl⟩ := loop (.d (enc t)) (.d (.str (txt t))) (.d (.str (J ws'))) (.d (enc t')) s7
      refine ⟨.d (enc t), .d (.str (txt t)), .d (.str (J ws')), .d (enc t'), v7, ?_⟩
      simp [l2_law, et', e1, e2, e3, ne, e4, e5, isN_enc, e7, e8, hcs, a1, a2, a3, a4, e6]
  have hcut : cutL (ns.map PyData.int) (some 1) (some 9) = (cutL ns (some 1) (some 9)).map .int := cut_map ..
  obtain ⟨ρ', e1, s2, s3, s4, s5, s6, s7, rfl⟩ := forD_keepE (en := PyData.int) (g := bN 2) (body := l2_law (F__law_thing 5) (F__law_text 40) (F_written 12) F_read F__law_spoilt F__law_read (F_is_thing 40))
    (I := fun ρ => ∃ s2 s3 s4 s5 s6 s7 : Pu.Slot, ρ = [.d (.list (ns.map .int)), .d (.int m), s2, s3, s4, s5, s6, s7]) (cutL ns (some 1) (some 9)) [.d (.list (ns.map .int)), .d (.int m), .un, .un, .un, .un, .un, .un] (fun c _ ρ ⟨s2, s3, s4, s5, s6, s7, hρ⟩ => by
      subst hρ
      obtain ⟨s3', s4', s5', s6', s7', q⟩ := body c (.d (.list (ns.map .int))) s3 s4 s5 s6 s7
      exact ⟨_, _, rfl, q, _, _, _, _, _, _, rfl⟩) ⟨_, _, _, _, _, _, rfl⟩
  unfold encH at e
  simp [F_law, runD, b_law, e, hcut, e1]
end K02

open PySem PySem.W PyProof.Rows in
set_option maxRecDepth 100000 in
set_option maxHeartbeats 0 in
theorem PySem.Challenge.cw_knavehall_k02_whole_texts_holds : PySem.Challenge.rw_knavehall_k02_whole_texts.Holds := by
  w_on; o_law; k_head; (case hw => w_witness2)
  k_fill
  refine Pu.law_walk (k := 44) (F := K02.F_law) (x := "_law_script") (l := PySem.Challenge.rw_knavehall_k02_whole_texts) rfl (by decide) rfl ⟨rfl, by decide, by decide⟩ (fun w h Y => PySem.W.kIn_of Y) ?F K02.law_true
  case F =>
    intro w mg fa h KX G hmg
    refine' K02.all_mk KX G hmg ?a0 ?l0 ?cc0 ?k0 ?a1 ?l1 ?cc1 ?k1 ?a2 ?l2 ?cc2 ?k2 ?a3 ?l3 ?cc3 ?k3 ?a4 ?l4 ?cc4 ?k4 ?a5 ?l5 ?cc5 ?k5 ?a6 ?l6 ?cc6 ?k6 ?a7 ?l7 ?cc7 ?k7 ?a8 ?l8 ?cc8 ?k8 ?a9 ?l9 ?cc9 ?k9 ?a10 ?l10 ?cc10 ?k10 ?a11 ?l11 ?cc11 ?k11 ?a12 ?l12 ?cc12 ?k12 ?a13 ?l13 ?cc13 ?k13 ?aq_SIZES ?lq_SIZES ?sq_SIZES ?eq_SIZES ?xa_HallError ?xe_HallError ?xk_HallError ?xs_HallError ?xt_HallError ?xd_HallError ?xa_NoText ?xe_NoText ?xk_NoText ?xs_NoText ?xt_NoText ?xd_NoText ?xa_NoWorld ?xe_NoWorld ?xk_NoWorld ?xs_NoWorld ?xt_NoWorld ?xd_NoWorld ?yg ?yk ?ya ?yn ?yt ?ym ?yd ?yv ?yh_HallError ?yb_NoWorld ?z_ValueError ?z_all ?z_bool ?z_int ?z_isinstance ?z_len ?z_range ?z_str ?z_tuple
    (case a0 => k_is); (case l0 => k_is); (case cc0 => k_is); (case k0 => k_is)
    (case a1 => k_is); (case l1 => k_is); (case cc1 => k_is); (case k1 => k_is)
    (case a2 => k_is); (case l2 => k_is); (case cc2 => k_is); (case k2 => k_is)
    (case a3 => k_is); (case l3 => k_is); (case cc3 => k_is); (case k3 => k_is)
    (case a4 => k_is); (case l4 => k_is); (case cc4 => k_is); (case k4 => k_is)
    (case a5 => k_is); (case l5 => k_is); (case cc5 => k_is); (case k5 => k_is)
    (case a6 => k_is); (case l6 => k_is); (case cc6 => k_is); (case k6 => k_is)
    (case a7 => k_is); (case l7 => k_is); (case cc7 => k_is); (case k7 => k_is)
    (case a8 => k_is); (case l8 => k_is); (case cc8 => k_is); (case k8 => k_is)
    (case a9 => k_is); (case l9 => k_is); (case cc9 => k_is); (case k9 => k_is)
    (case a10 => k_is); (case l10 => k_is); (case cc10 => k_is); (case k10 => k_is)
    (case a11 => k_is); (case l11 => k_is); (case cc11 => k_is); (case k11 => k_is)
    (case a12 => k_is); (case l12 => k_is); (case cc12 => k_is); (case k12 => k_is)
    (case a13 => k_is); (case l13 => k_is); (case cc13 => k_is); (case k13 => k_is)
    (case aq_SIZES => k_is); (case lq_SIZES => k_is); (case sq_SIZES => rfl); (case eq_SIZES => rfl)
    (case xa_HallError => k_is)
    (case xe_HallError => k_exc)
    (case xk_HallError => k_is)
    (case xs_HallError => k_is)
    (case xt_HallError => k_is)
    (case xd_HallError => k_is)
    (case xa_NoText => k_is)
    (case xe_NoText => k_exc)
    (case xk_NoText => k_is)
    (case xs_NoText => k_is)
    (case xt_NoText => k_is)
    (case xd_NoText => k_is)
    (case xa_NoWorld => k_is)
    (case xe_NoWorld => k_exc)
    (case xk_NoWorld => k_is)
    (case xs_NoWorld => k_is)
    (case xt_NoWorld => k_is)
    (case xd_NoWorld => k_is)
    (case yg => k_is)
    (case yk => k_is)
    (case ya => k_is)
    (case yn => k_is)
    (case yt => k_is)
    (case ym => k_is)
    (case yd => k_is)
    (case yv => k_is)
    (case yh_HallError => k_is)
    (case yb_NoWorld => k_is)
    (case z_ValueError => k_is)
    (case z_all => k_is)
    (case z_bool => k_is)
    (case z_int => k_is)
    (case z_isinstance => k_is)
    (case z_len => k_is)
    (case z_range => k_is)
    (case z_str => k_is)
    (case z_tuple => k_is)
