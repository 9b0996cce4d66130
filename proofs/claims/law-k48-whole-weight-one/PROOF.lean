import PyProof.Rows.All
import Wide.All
import OpenK.AllK
import Wide.FinOn
import PySem.Challenge.RW_boxparts_k48_whole_weight_one
import HandS.DeepEq
import HandS.Defaults
import HandS.DictEq
import HandS.EndBits
import HandS.EndTab
import HandS.Exc
import HandS.ExcCtx
import HandS.ExcField
import HandS.ExcInit
import HandS.ExcIs
import HandS.ExcOwn
import HandS.ExcValue
import HandS.Flow
import HandS.ForMost
import HandS.Head0
import HandS.Head1
import HandS.Head2
import HandS.HeadHook1
import HandS.HeadHook2
import HandS.HeadHook3
import HandS.HeadHook4
import HandS.HeadWalk
import HandS.IsInst
import HandS.Lambda
import HandS.SetFor
import HandS.SetKeys
import HandS.SortKw
import HandS.Star
import HandS.Style
import HandS.TupAny
import HandS.Zip
import KE.DataMinMax
import KE.GoesEnum
import KE.KDictCopyH
import KE.KDictDisplayH
import KE.KDictPairs
import KE.KEqDict
import KE.KExcIs
import KE.KExcSuper
import KE.KNestM
import KE.KSuper
import KE.SortData
import Lean
import PyProof.EqAt
import PyProof.EqKinds
import PyProof.ReprRoads
import PyProof.TupleCall

-- part BxA
section
set_option Elab.async false
set_option linter.all false
set_option maxRecDepth 100000
set_option maxHeartbeats 4000000
/-! Boxparts, part A: data D, what a value means in a heap (Rep), the judgements Ev, EvT, EvA over the hand layer. -/
namespace Bx
open PySem PySem.Spec PyProof.Rows L2

/-- plain data: numbers, texts, tuples, frozen lists, frozen dicts (keys and values side by side), or an object of one's own at an address -/
inductive D where
  | non | bl (b : Bool) | int (i : Int) | str (x : Str) | ty (n : String) | adr (a : Addr)
  | tup (xs : List D) | lst (xs : List D) | dK (ks : List Key) (vs : List D) | dT (ks : List (List Key)) (vs : List D)
  | exc (cls : Addr) (fs : Option (List (Str × V)))
  | sem (φ : V → Prop)
/-- an exception object that is kept -/
def ExV (cls : Value) (d : Option Addr) (a : Addr) : HO := .ext fun h => ∃ (oe : Obj) (vs : Array Value), h.get? a = some oe ∧ Zc cls d oe ∧ oe.data = .fields vs
/-- a is a kept exception of class D; its fields, where it has a dict -/
def Kept (H : Hp) (a D : Addr) (fs : Option (List (Str × V))) : Prop := ∃ d, H a = some (ExV (.ref D) d a) ∧ match d, fs with
  | none, none => True
  | some dd, some fs => H dd = some (.xd fs)
  | _, _ => False

mutual
def Rep (H : Hp) : D → V → Prop
  | .non, v => v = .non
  | .bl b, v => v = .bl b
  | .int i, v => v = .int i
  | .str x, v => v = .str x
  | .ty n, v => v = .ty n
  | .adr a, v => v = .ref a
  | .tup ds, v => ∃ a vs, v = .ref a ∧ H a = some (.tup vs) ∧ RepL H ds vs
  | .lst ds, v => ∃ a o vs, v = .ref a ∧ H a = some (.frz o (.lst vs)) ∧ RepL H ds vs
  | .dK ks ds, v => ∃ a o kvs, v = .ref a ∧ H a = some (.frz o (.dK kvs)) ∧ kvs.map (·.1) = ks ∧ RepL H ds (kvs.map (·.2))
  | .dT ks ds, v => ∃ a o kvs, v = .ref a ∧ H a = some (.frz o (.dT kvs)) ∧ kvs.map (·.1) = ks ∧ RepL H ds (kvs.map (·.2))
  | .exc C fs, v => ∃ a, v = .ref a ∧ Kept H a C fs
  | .sem φ, v => φ v
def RepL (H : Hp) : List D → List V → Prop
  | [], vs => vs = []
  | d :: ds, vs => ∃ v ws, vs = v :: ws ∧ Rep H d v ∧ RepL H ds ws
end

/-- what never changes once it stands -/
def Frn : HO → Prop
  | .tup _ => True
  | .frz _ _ => True
  | .ext _ => True
  | .xd _ => True
  | _ => False
def Fz (H H' : Hp) : Prop := ∀ a o, H a = some o → Frn o → H' a = some o
/-- all that is tracked stands -/
def Ex (H H' : Hp) : Prop := ∀ a o, H a = some o → H' a = some o
theorem Fz.refl (H : Hp) : Fz H H := fun _ _ h _ => h
theorem Fz.trans {H H1 H2 : Hp} (a : Fz H H1) (b : Fz H1 H2) : Fz H H2 := fun c o h f => b c o (a c o h f) f
theorem Ex.refl (H : Hp) : Ex H H := fun _ _ h => h
theorem Ex.trans {H H1 H2 : Hp} (a : Ex H H1) (b : Ex H1 H2) : Ex H H2 := fun c o h => b c o (a c o h)
theorem Ex.fz {H H' : Hp} (e : Ex H H') : Fz H H' := fun a o h _ => e a o h
theorem Ex.new {H : Hp} {p : Addr} {o : HO} (h : H p = none) : Ex H (upd H p o) := fun a u e => by
  rw [upd_ne (ne_of_none e h)]; exact e
theorem Ex.free {H H' : Hp} {p : Addr} (e : Ex H H') (h : H' p = none) : H p = none := by
  cases q : H p with
  | none => rfl
  | some o => rw [e p o q] at h; cases h

theorem Kept.mono {H H' : Hp} (e : Fz H H') {a C : Addr} {fs : Option (List (Str × V))} (k : Kept H a C fs) : Kept H' a C fs := by
  obtain ⟨d, h1, h2⟩ := k
  refine ⟨d, e _ _ h1 trivial, ?_⟩
  cases d with
  | none => cases fs with
    | none => trivial
    | some _ => exact h2
  | some dd => cases fs with
    | none => exact h2
    | some fs => exact e _ _ h2 trivial
mutual
theorem Rep.mono {H H' : Hp} (e : Fz H H') : ∀ (d : D) (v : V), Rep H d v → Rep H' d v
  | .non, _, h => h
  | .bl _, _, h => h
  | .int _, _, h => h
  | .str _, _, h => h
  | .ty _, _, h => h
  | .adr _, _, h => h
  | .tup ds, v, h => by
    obtain ⟨a, vs, rfl, h1, h2⟩ := h
    exact ⟨a, vs, rfl, e _ _ h1 trivial, RepL.mono e ds vs h2⟩
  | .lst ds, v, h => by
    obtain ⟨a, o, vs, rfl, h1, h2⟩ := h
    exact ⟨a, o, vs, rfl, e _ _ h1 trivial, RepL.mono e ds vs h2⟩
  | .dK ks ds, v, h => by
    obtain ⟨a, o, vs, rfl, h1, h3, h2⟩ := h
    exact ⟨a, o, vs, rfl, e _ _ h1 trivial, h3, RepL.mono e ds _ h2⟩
  | .dT ks ds, v, h => by
    obtain ⟨a, o, vs, rfl, h1, h3, h2⟩ := h
    exact ⟨a, o, vs, rfl, e _ _ h1 trivial, h3, RepL.mono e ds _ h2⟩
  | .exc C fs, v, h => by
    obtain ⟨a, rfl, h1⟩ := h
    exact ⟨a, rfl, h1.mono e⟩
  | .sem _, _, h => h
theorem RepL.mono {H H' : Hp} (e : Fz H H') : ∀ (ds : List D) (vs : List V), RepL H ds vs → RepL H' ds vs
  | [], _, h => h
  | d :: ds, vs, h => by
    obtain ⟨v, ws, rfl, h1, h2⟩ := h
    exact ⟨v, ws, rfl, Rep.mono e d v h1, RepL.mono e ds ws h2⟩
end
theorem Rep.ex {H H' : Hp} {d : D} {v : V} (e : Ex H H') (h : Rep H d v) : Rep H' d v := Rep.mono e.fz d v h
theorem RepL.ex {H H' : Hp} {d : List D} {v : List V} (e : Ex H H') (h : RepL H d v) : RepL H' d v := RepL.mono e.fz d v h
theorem RepL.len {H : Hp} : ∀ {ds : List D} {vs : List V}, RepL H ds vs → vs.length = ds.length
  | [], _, h => by
    have e : _ = [] := h
    rw [e]; rfl
  | d :: ds, vs, h => by
    obtain ⟨v, ws, rfl, _, h2⟩ := h
    simp [RepL.len h2]
theorem RepL.get {H : Hp} : ∀ {ds : List D} {vs : List V} {i : Nat} {d : D}, RepL H ds vs → ds[i]? = some d → ∃ v, vs[i]? = some v ∧ Rep H d v
  | [], _, i, d, h, e => by simp at e
  | d0 :: ds, vs, 0, d, h, e => by
    obtain ⟨v, ws, rfl, h1, _⟩ := h
    simp at e; subst e
    exact ⟨v, rfl, h1⟩
  | d0 :: ds, vs, i + 1, d, h, e => by
    obtain ⟨v, ws, rfl, _, h2⟩ := h
    obtain ⟨u, e1, e2⟩ := RepL.get (i := i) (d := d) h2 (by simpa using e)
    exact ⟨u, by simpa using e1, e2⟩
theorem RepL.get' {H : Hp} : ∀ {ds : List D} {vs : List V} {i : Nat} {v : V}, RepL H ds vs → vs[i]? = some v → ∃ d, ds[i]? = some d ∧ Rep H d v
  | [], _, i, v, h, e => by
    have q : _ = [] := h
    rw [q] at e; simp at e
  | d0 :: ds, vs, 0, v, h, e => by
    obtain ⟨w, ws, rfl, h1, _⟩ := h
    simp at e; subst e
    exact ⟨d0, rfl, h1⟩
  | d0 :: ds, vs, i + 1, v, h, e => by
    obtain ⟨w, ws, rfl, _, h2⟩ := h
    obtain ⟨u, e1, e2⟩ := RepL.get' (i := i) (v := v) h2 (by simpa using e)
    exact ⟨u, by simpa using e1, e2⟩
theorem RepL.nil {H : Hp} : RepL H [] [] := rfl
theorem RepL.cons {H : Hp} {d : D} {v : V} {ds : List D} {vs : List V} (a : Rep H d v) (b : RepL H ds vs) : RepL H (d :: ds) (v :: vs) := ⟨v, vs, rfl, a, b⟩
theorem RepL.app {H : Hp} : ∀ {ds es : List D} {vs ws : List V}, RepL H ds vs → RepL H es ws → RepL H (ds ++ es) (vs ++ ws)
  | [], _, _, _, h, k => by
    have e : _ = [] := h
    rw [e]; exact k
  | d :: ds, es, vs, ws, h, k => by
    obtain ⟨v, vs', rfl, h1, h2⟩ := h
    exact ⟨v, vs' ++ ws, rfl, h1, RepL.app h2 k⟩
theorem RepL.take {H : Hp} : ∀ (n : Nat) {ds : List D} {vs : List V}, RepL H ds vs → RepL H (ds.take n) (vs.take n)
  | 0, _, _, _ => rfl
  | n + 1, [], _, h => by
    have e : _ = [] := h
    rw [e]; rfl
  | n + 1, d :: ds, _, h => by
    obtain ⟨v, vs', rfl, h1, h2⟩ := h
    exact ⟨v, _, rfl, h1, RepL.take n h2⟩
theorem RepL.drop {H : Hp} : ∀ (n : Nat) {ds : List D} {vs : List V}, RepL H ds vs → RepL H (ds.drop n) (vs.drop n)
  | 0, _, _, h => h
  | n + 1, [], _, h => by
    have e : _ = [] := h
    rw [e]; rfl
  | n + 1, d :: ds, _, h => by
    obtain ⟨v, vs', rfl, h1, h2⟩ := h
    exact RepL.drop n h2
theorem RepL.rev {H : Hp} : ∀ {ds : List D} {vs : List V}, RepL H ds vs → RepL H ds.reverse vs.reverse
  | [], _, h => by
    have e : _ = [] := h
    rw [e]; rfl
  | d :: ds, _, h => by
    obtain ⟨v, vs', rfl, h1, h2⟩ := h
    rw [List.reverse_cons, List.reverse_cons]
    exact RepL.app (RepL.rev h2) (.cons h1 .nil)
theorem RepL.one {H : Hp} {d : D} {vs : List V} (h : RepL H [d] vs) : ∃ v, vs = [v] ∧ Rep H d v := by
  obtain ⟨v, ws, rfl, h1, h2⟩ := h
  have e : ws = [] := h2
  subst e
  exact ⟨v, rfl, h1⟩
theorem RepL.ints {H : Hp} : ∀ {s : List Int} {vs : List V}, RepL H (s.map D.int) vs → vs = s.map V.int
  | [], _, h => h
  | i :: s, _, h => by
    obtain ⟨v, ws, rfl, h1, h2⟩ := h
    have e : v = V.int i := h1
    subst e
    rw [RepL.ints h2]; rfl
theorem RepL.ofInts {H : Hp} : ∀ (s : List Int), RepL H (s.map D.int) (s.map V.int)
  | [] => rfl
  | i :: s => ⟨_, _, rfl, rfl, RepL.ofInts s⟩
theorem RepL.bls {H : Hp} : ∀ {s : List Bool} {vs : List V}, RepL H (s.map D.bl) vs → vs = s.map V.bl
  | [], _, h => h
  | i :: s, _, h => by
    obtain ⟨v, ws, rfl, h1, h2⟩ := h
    have e : v = V.bl i := h1
    subst e
    rw [RepL.bls h2]; rfl
/-- a tuple of ints -/
abbrev sh (s : List Int) : D := .tup (s.map D.int)
/-- a list of ints -/
abbrev li (s : List Int) : D := .lst (s.map D.int)

/-! ### objects of one's own -/
inductive C where
  | lst (ds : List D) | dK (ks : List Key) (vs : List D) | dT (ks : List (List Key)) (vs : List D)
  | tab (q : Str)
def RepC (H : Hp) (a : Addr) : C → Prop
  | .lst ds => ∃ vs, H a = some (.lst vs) ∧ RepL H ds vs
  | .dK ks ds => ∃ kvs, H a = some (.dK kvs) ∧ kvs.map (·.1) = ks ∧ RepL H ds (kvs.map (·.2))
  | .dT ks ds => ∃ kvs, H a = some (.dT kvs) ∧ kvs.map (·.1) = ks ∧ RepL H ds (kvs.map (·.2))
  | .tab q => LamX.TabS H a q
theorem RepC.keep {H H' : Hp} {a : Addr} {c : C} (e : Fz H H') (ea : ∀ o, H a = some o → H' a = some o) (h : RepC H a c) : RepC H' a c := by
  cases c with
  | lst ds => obtain ⟨vs, h1, h2⟩ := h; exact ⟨vs, ea _ h1, RepL.mono e _ _ h2⟩
  | dK ks ds => obtain ⟨vs, h1, h3, h2⟩ := h; exact ⟨vs, ea _ h1, h3, RepL.mono e _ _ h2⟩
  | dT ks ds => obtain ⟨vs, h1, h3, h2⟩ := h; exact ⟨vs, ea _ h1, h3, RepL.mono e _ _ h2⟩
  | tab q => obtain ⟨ps, h1, h2, h3⟩ := h; exact ⟨ps, ea _ h1, h2, fun pos cv hc => let ⟨c, e1, e2⟩ := h3 pos cv hc; ⟨c, e1, e _ _ e2 trivial⟩⟩
theorem RepC.some {H : Hp} {a : Addr} {c : C} (h : RepC H a c) : ∃ o, H a = some o ∧ ¬ Frn o ∧ ((∀ q, c ≠ .tab q) → Mut (some o)) := by
  cases c with
  | lst ds => obtain ⟨vs, h1, _⟩ := h; exact ⟨_, h1, fun z => z, fun _ => trivial⟩
  | dK ks ds => obtain ⟨vs, h1, _⟩ := h; exact ⟨_, h1, fun z => z, fun _ => trivial⟩
  | dT ks ds => obtain ⟨vs, h1, _⟩ := h; exact ⟨_, h1, fun z => z, fun _ => trivial⟩
  | tab q => obtain ⟨ps, h1, _⟩ := h; exact ⟨_, h1, fun z => z, fun z => (z q rfl).elim⟩
abbrev Mem := List (Addr × C)
abbrev De := List (Option D)
structure Cfg (δ : De) (μ : Mem) (σ : L2.St) (H : Hp) : Prop where
  len : δ.length ≤ σ.length
  env : ∀ (i : Nat) (d : D), δ[i]? = some (some d) → ∃ v, σ[i]? = some (some v) ∧ Rep H d v
  cel : ∀ p, p ∈ μ → RepC H p.1 p.2
  nd : (μ.map (·.1)).Nodup
theorem Cfg.ex {δ : De} {μ : Mem} {σ : L2.St} {H H' : Hp} (c : Cfg δ μ σ H) (e : Ex H H') : Cfg δ μ σ H' :=
  ⟨c.len, fun i d h => let ⟨v, h1, h2⟩ := c.env i d h; ⟨v, h1, h2.ex e⟩, fun p hp => (c.cel p hp).keep e.fz fun o h => e _ o h, c.nd⟩
theorem Cfg.get {δ : De} {μ : Mem} {σ : L2.St} {H : Hp} (c : Cfg δ μ σ H) {i : Nat} {d : D} (h : δ[i]? = some (some d)) : ∃ v, σ[i]? = some (some v) ∧ Rep H d v := c.env i d h

/-! ### the judgements -/
/-- what an expression's run asks, as it is -/
def tw (X : Cx) (e : Expr) : TE := fun σ H Q => ∀ (pins : List (Addr × Obj)) (s : Shared), Inv X pins σ H s → wpAny (model X.prog X.w) X.A (eval e X.env) (EP X pins σ Q) X.xe s
theorem pe_tw (X : Cx) (e : Expr) : PE X e (tw X e) := ⟨fun pins s σ H Q I h => h pins s I⟩
def twT (X : Cx) (e : Expr) : TT := fun σ H Q => ∀ (pins : List (Addr × Obj)) (s : Shared), Inv X pins σ H s → wpAny (model X.prog X.w) X.A (isTrue e X.env (eval e X.env)) (TP X pins σ Q) X.xe s
theorem pt_tw (X : Cx) (e : Expr) : PT X e (twT X e) := ⟨fun pins s σ H Q I h => h pins s I⟩
def twW (X : Cx) (e : Expr) : TT := fun σ H Q => ∀ (whole : Sem Value) (pins : List (Addr × Obj)) (s : Shared), Inv X pins σ H s → wpAny (model X.prog X.w) X.A (isTrue e X.env whole) (TP X pins σ Q) X.xe s
theorem pw_tw (X : Cx) (e : Expr) : PW X e (twW X e) := ⟨fun wh pins s σ H Q I h => h wh pins s I⟩
def twC (X : Cx) (op : CmpOp) (a b : Expr) : TE := fun σ H Q => ∀ (pins : List (Addr × Obj)) (s : Shared), Inv X pins σ H s →
  wpAny (model X.prog X.w) X.A (eval a X.env) (fun v s₁ => wpAny (model X.prog X.w) X.A (eval b X.env) (fun u s₂ => wpAny (model X.prog X.w) X.A (compareOp op v u) (EP X pins σ Q) X.xe s₂) X.xe s₁) X.xe s
theorem pc_tw (X : Cx) (op : CmpOp) (a b : Expr) : PC X op a b (twC X op a b) := ⟨fun pins s σ H Q I h => h pins s I⟩
def twA (X : Cx) (es : List Expr) : TA := fun σ H Q => ∀ (pos : Pos) (pins : List (Addr × Obj)) (s : Shared), Inv X pins σ H s → wpAny (model X.prog X.w) X.A (spliced (backTo pos (starEach es X.env))) (AP X pins σ Q) X.xe s
theorem pa_tw (X : Cx) (es : List Expr) : PA X es (twA X es) := ⟨fun pos pins s σ H Q I h => h pos pins s I⟩

def Ev (X : Cx) (δ : De) (μ : Mem) (e : Expr) (d : D) : Prop := ∀ σ H (Q : VK), Cfg δ μ σ H → (∀ v H', Ex H H' → Rep H' d v → Q v H') → tw X e σ H Q
/-- a comparison, to be taken as a value (ev_c) or as a test (et_c) -/
def EvC (X : Cx) (δ : De) (μ : Mem) (op : CmpOp) (a b : Expr) (d : D) : Prop := ∀ σ H (Q : VK), Cfg δ μ σ H → (∀ v H', Ex H H' → Rep H' d v → Q v H') → twC X op a b σ H Q
def EvT (X : Cx) (δ : De) (μ : Mem) (e : Expr) (b : Bool) : Prop := ∀ σ H (Q : Bool → Hp → Prop), Cfg δ μ σ H → (∀ H', Ex H H' → Q b H') → twT X e σ H Q
def EvW (X : Cx) (δ : De) (μ : Mem) (e : Expr) (b : Bool) : Prop := ∀ σ H (Q : Bool → Hp → Prop), Cfg δ μ σ H → (∀ H', Ex H H' → Q b H') → twW X e σ H Q
def EvA (X : Cx) (δ : De) (μ : Mem) (es : List Expr) (ds : List D) : Prop := ∀ σ H (Q : List V → Hp → Prop), Cfg δ μ σ H → (∀ vs H', Ex H H' → RepL H' ds vs → Q vs H') → twA X es σ H Q

section
variable {X : Cx} {δ : De} {μ : Mem} {e a b c : Expr} {es : List Expr} {pos : Pos} {d : D}
theorem ev_pe {te : TE} (h : PE X e te) (k : ∀ σ H (Q : VK), Cfg δ μ σ H → (∀ v H', Ex H H' → Rep H' d v → Q v H') → te σ H Q) : Ev X δ μ e d :=
  fun σ H Q c q pins s I => h.run pins s σ H Q I (k σ H Q c q)
theorem evt_pt {te : TT} {r : Bool} (h : PT X e te) (k : ∀ σ H (Q : Bool → Hp → Prop), Cfg δ μ σ H → (∀ H', Ex H H' → Q r H') → te σ H Q) : EvT X δ μ e r :=
  fun σ H Q c q pins s I => h.run pins s σ H Q I (k σ H Q c q)
theorem evw_pw {te : TT} {r : Bool} (h : PW X e te) (k : ∀ σ H (Q : Bool → Hp → Prop), Cfg δ μ σ H → (∀ H', Ex H H' → Q r H') → te σ H Q) : EvW X δ μ e r :=
  fun σ H Q c q wh pins s I => h.run wh pins s σ H Q I (k σ H Q c q)
theorem eva_pa {te : TA} {ds : List D} (h : PA X es te) (k : ∀ σ H (Q : List V → Hp → Prop), Cfg δ μ σ H → (∀ vs H', Ex H H' → RepL H' ds vs → Q vs H') → te σ H Q) : EvA X δ μ es ds :=
  fun σ H Q c q pos pins s I => h.run pos pins s σ H Q I (k σ H Q c q)
theorem Ev.is {d' : D} (h : Ev X δ μ e d) (q : d = d') : Ev X δ μ e d' := q ▸ h
theorem EvT.is {b' b : Bool} (h : EvT X δ μ e b) (q : b = b') : EvT X δ μ e b' := q ▸ h

/-! names and constants -/
theorem ev_var (i : Nat) {x : Str} (h : δ[i]? = some (some d) := by rfl) (hN : X.N[i]? = some x := by rfl) (hv : Vis X.env.scope x := by first | exact Or.inl rfl | exact Or.inr (Or.inl rfl) | exact Or.inr (Or.inr rfl)) (hd : (x == ("__debug__" : Str)) = false := by decide)
    (hcd : (x == ("__classdict__" : Str)) = false := by decide) : Ev X δ μ (.Name x pos) d :=
  ev_pe (pe_var hN hv hd hcd) fun σ H Q c k => by
    obtain ⟨v, h1, h2⟩ := c.get h
    exact ⟨v, h1, k v H (Ex.refl H) h2⟩
theorem ev_int {i : Int} {j : Nat} : Ev X δ μ (.Constant (.int i) j pos) (.int i) := ev_pe pe_int fun σ H Q c k => k _ H (Ex.refl H) rfl
theorem ev_bl {i : Bool} {j : Nat} : Ev X δ μ (.Constant (.bool i) j pos) (.bl i) := ev_pe pe_bl fun σ H Q c k => k _ H (Ex.refl H) rfl
theorem ev_non {j : Nat} : Ev X δ μ (.Constant .none j pos) .non := ev_pe pe_non fun σ H Q c k => k _ H (Ex.refl H) rfl
theorem ev_str {i : Str} {j : Nat} : Ev X δ μ (.Constant (.str i) j pos) (.str i) := ev_pe pe_str fun σ H Q c k => k _ H (Ex.refl H) rfl
theorem ev_glob {x : Str} {i : Int} {t : Tok} (hm : X.mg x = some (.int i t)) (hg : Gl X x := by rfl) (hd : (x == ("__debug__" : Str)) = false := by decide) : Ev X δ μ (.Name x pos) (.int i) :=
  ev_pe (pe_glob hg hm (v := .int i) ⟨_, rfl⟩ hd) fun σ H Q c k => k _ H (Ex.refl H) rfl

/-! arithmetic -/
theorem ev_bin {op : Operator} {r : R2} {x y z : D} (ho : OpR X (binaryOp op) r) (ha : Ev X δ μ a x) (hb : Ev X δ μ b y)
    (k : ∀ u v H (Q : VK), Rep H x u → Rep H y v → (∀ w H', Ex H H' → Rep H' z w → Q w H') → r u v H Q) : Ev X δ μ (.BinOp a op b pos) z :=
  ev_pe (pe_op ho (pe_tw X a) (pe_tw X b)) fun σ H Q c q => ha σ H _ c fun u H1 e1 r1 => hb σ H1 _ (c.ex e1) fun v H2 e2 r2 =>
    k u v H2 Q (r1.ex e2) r2 fun w H3 e3 r3 => q w H3 ((e1.trans e2).trans e3) r3
theorem ec_of {op : CmpOp} {r : R2} {x y z : D} (ho : OpR X (compareOp op) r) (ha : Ev X δ μ a x) (hb : Ev X δ μ b y)
    (k : ∀ u v H (Q : VK), Rep H x u → Rep H y v → (∀ w H', Ex H H' → Rep H' z w → Q w H') → r u v H Q) : EvC X δ μ op a b z :=
  fun σ H Q c q pins s I => bin (pe_tw X a) (pe_tw X b) I (R := fun u v H2 => r u v H2 Q) (ha σ H _ c fun u H1 e1 r1 => hb σ H1 _ (c.ex e1) fun v H2 e2 r2 =>
    k u v H2 Q (r1.ex e2) r2 fun w H3 e3 r3 => q w H3 ((e1.trans e2).trans e3) r3) fun v u s2 x y H2 I2 rx ry hq => ho pins s2 σ H2 x y v u Q I2 rx ry hq
theorem ev_c {op : CmpOp} (h : EvC X δ μ op a b d) (hm : behindInMarks op b = false := by exact nomark _) : Ev X δ μ (.Compare a [op] [b] pos) d :=
  ev_pe (pe_cmp (pc_tw X op a b) hm) h
theorem et_c {op : CmpOp} {r : Bool} (h : EvC X δ μ op a b (.bl r)) (hm : behindInMarks op b = false := by exact nomark _) : EvT X δ μ (.Compare a [op] [b] pos) r :=
  evt_pt (pt_cmp (pc_tw X op a b) hm) fun σ H Q c q => h σ H _ c fun u H1 e1 r1 => ⟨r, r1, q H1 e1⟩
theorem EvC.is {op : CmpOp} {d' : D} (h : EvC X δ μ op a b d) (q : d = d') : EvC X δ μ op a b d' := q ▸ h
variable {i j : Int}
theorem ev_add (ha : Ev X δ μ a (.int i)) (hb : Ev X δ μ b (.int j)) : Ev X δ μ (.BinOp a .Add b pos) (.int (i + j)) :=
  ev_bin op_add ha hb fun u v H Q h1 h2 k => ⟨i, j, h1, h2, k _ H (Ex.refl H) rfl⟩
theorem ev_sub (ha : Ev X δ μ a (.int i)) (hb : Ev X δ μ b (.int j)) : Ev X δ μ (.BinOp a .Sub b pos) (.int (i - j)) :=
  ev_bin op_sub ha hb fun u v H Q h1 h2 k => ⟨i, j, h1, h2, k _ H (Ex.refl H) rfl⟩
theorem ev_mul (ha : Ev X δ μ a (.int i)) (hb : Ev X δ μ b (.int j)) (h : CMul i j) : Ev X δ μ (.BinOp a .Mult b pos) (.int (i * j)) :=
  ev_bin op_mul ha hb fun u v H Q h1 h2 k => ⟨i, j, h1, h2, h, k _ H (Ex.refl H) rfl⟩
theorem ev_mod (ha : Ev X δ μ a (.int i)) (hb : Ev X δ μ b (.int j)) (h : 0 < j) : Ev X δ μ (.BinOp a .Mod b pos) (.int (i % j)) :=
  ev_bin op_mod ha hb fun u v H Q h1 h2 k => ⟨i, j, h1, h2, h, k _ H (Ex.refl H) rfl⟩
theorem ev_fdiv (ha : Ev X δ μ a (.int i)) (hb : Ev X δ μ b (.int j)) (h : 0 < j ∧ j < 1073741824) : Ev X δ μ (.BinOp a .FloorDiv b pos) (.int (i / j)) :=
  ev_bin op_fdiv ha hb fun u v H Q h1 h2 k => ⟨i, j, h1, h2, h, k _ H (Ex.refl H) rfl⟩
theorem ev_neg (ha : Ev X δ μ a (.int i)) : Ev X δ μ (.UnaryOp .USub a pos) (.int (-i)) :=
  ev_pe (pe_un un_neg (pe_tw X a)) fun σ H Q c q => ha σ H _ c fun u H1 e1 r1 => ⟨i, r1, q _ H1 e1 rfl⟩
theorem ec_lt (ha : Ev X δ μ a (.int i)) (hb : Ev X δ μ b (.int j)) : EvC X δ μ .Lt a b (.bl (decide (i < j))) :=
  ec_of op_lt ha hb fun u v H Q h1 h2 k => ⟨i, j, h1, h2, k _ H (Ex.refl H) rfl⟩
theorem ec_le (ha : Ev X δ μ a (.int i)) (hb : Ev X δ μ b (.int j)) : EvC X δ μ .LtE a b (.bl (decide (i ≤ j))) :=
  ec_of op_le ha hb fun u v H Q h1 h2 k => ⟨i, j, h1, h2, k _ H (Ex.refl H) rfl⟩
theorem ec_gt (ha : Ev X δ μ a (.int i)) (hb : Ev X δ μ b (.int j)) : EvC X δ μ .Gt a b (.bl (decide (j < i))) :=
  ec_of op_gt ha hb fun u v H Q h1 h2 k => ⟨i, j, h1, h2, k _ H (Ex.refl H) rfl⟩
theorem ec_ge (ha : Ev X δ μ a (.int i)) (hb : Ev X δ μ b (.int j)) : EvC X δ μ .GtE a b (.bl (decide (j ≤ i))) :=
  ec_of op_ge ha hb fun u v H Q h1 h2 k => ⟨i, j, h1, h2, k _ H (Ex.refl H) rfl⟩
theorem ec_eqI (ha : Ev X δ μ a (.int i)) (hb : Ev X δ μ b (.int j)) : EvC X δ μ .Eq a b (.bl (decide (i = j))) :=
  ec_of op_eq ha hb fun u v H Q h1 h2 k => by
    obtain rfl : u = V.int i := h1
    obtain rfl : v = V.int j := h2
    exact ⟨rfl, k _ H (Ex.refl H) (by rw [dec_int, Bool.beq_eq_decide_eq]; rfl)⟩
theorem ec_neI (ha : Ev X δ μ a (.int i)) (hb : Ev X δ μ b (.int j)) : EvC X δ μ .NotEq a b (.bl (!decide (i = j))) :=
  ec_of op_ne ha hb fun u v H Q h1 h2 k => by
    obtain rfl : u = V.int i := h1
    obtain rfl : v = V.int j := h2
    exact ⟨rfl, k _ H (Ex.refl H) (by rw [dec_int, Bool.beq_eq_decide_eq]; rfl)⟩
theorem ec_eqS {x y : Str} (ha : Ev X δ μ a (.str x)) (hb : Ev X δ μ b (.str y)) : EvC X δ μ .Eq a b (.bl (x == y)) :=
  ec_of op_eq ha hb fun u v H Q h1 h2 k => by
    obtain rfl : u = V.str x := h1
    obtain rfl : v = V.str y := h2
    exact ⟨rfl, k _ H (Ex.refl H) (by rw [dec_str]; rfl)⟩
theorem ec_neS {x y : Str} (ha : Ev X δ μ a (.str x)) (hb : Ev X δ μ b (.str y)) : EvC X δ μ .NotEq a b (.bl (!(x == y))) :=
  ec_of op_ne ha hb fun u v H Q h1 h2 k => by
    obtain rfl : u = V.str x := h1
    obtain rfl : v = V.str y := h2
    exact ⟨rfl, k _ H (Ex.refl H) (by rw [dec_str]; rfl)⟩
theorem ec_neB {x y : Bool} (ha : Ev X δ μ a (.bl x)) (hb : Ev X δ μ b (.bl y)) : EvC X δ μ .NotEq a b (.bl (!(x == y))) :=
  ec_of op_ne ha hb fun u v H Q h1 h2 k => by
    obtain rfl : u = V.bl x := h1
    obtain rfl : v = V.bl y := h2
    exact ⟨rfl, k _ H (Ex.refl H) (by rw [dec_bl]; rfl)⟩
/-- low <= x <= high -/
theorem ev_chain {k : Int} (ha : Ev X δ μ a (.int i)) (hb : Ev X δ μ b (.int j)) (hc : Ev X δ μ c (.int k)) (hm : lastMarks [.LtE, .LtE] [b, c] = false := by with_unfolding_all rfl) :
    Ev X δ μ (.Compare a [.LtE, .LtE] [b, c] pos) (.bl (decide (i ≤ j) && decide (j ≤ k))) :=
  ev_pe (pe_chain op_le op_le (pe_tw X a) (pe_tw X b) (pe_tw X c) hm) fun σ H Q g q => ha σ H _ g fun u H1 e1 r1 => hb σ H1 _ (g.ex e1) fun v H2 e2 r2 => by
    refine ⟨i, j, r1, r2, _, rfl, ?_⟩
    by_cases h : i ≤ j
    · rw [if_pos (decide_eq_true h)]
      exact hc σ H2 _ ((g.ex e1).ex e2) fun w H3 e3 r3 => ⟨j, k, r2, r3, q _ H3 ((e1.trans e2).trans e3) (by rw [decide_eq_true h]; rfl)⟩
    · rw [if_neg (by rw [decide_eq_false h]; exact Bool.false_ne_true)]
      exact q _ H2 (e1.trans e2) (by rw [decide_eq_false h]; rfl)

/-! truth -/
theorem evt_val {r : Bool} (h : Ev X δ μ e (.bl r)) (he : ∀ whole, isTrue e X.env whole = (do let v ← whole; standAt e.pos; holding [v] (truthy v)) := by intro _; rfl) : EvT X δ μ e r :=
  evt_pt (pt_val (pe_tw X e) he) fun σ H Q c q => h σ H _ c fun u H1 e1 r1 => ⟨r, r1, q H1 e1⟩
theorem evt_not {r : Bool} (h : EvT X δ μ a r) : EvT X δ μ (.UnaryOp .Not a pos) (!r) :=
  evt_pt (pt_not (pt_tw X a)) fun σ H Q c q => h σ H _ c fun H1 e1 => q H1 e1
theorem evw_and1 {r : Bool} (h : EvT X δ μ a r) : EvW X δ μ (.BoolOp .And [a] pos) r := evw_pw (pw_and1 (pt_tw X a)) fun σ H Q c q => h σ H _ c fun H1 e1 => q H1 e1
theorem evw_or1 {r : Bool} (h : EvT X δ μ a r) : EvW X δ μ (.BoolOp .Or [a] pos) r := evw_pw (pw_or1 (pt_tw X a)) fun σ H Q c q => h σ H _ c fun H1 e1 => q H1 e1
theorem evw_and {r t : Bool} (h : EvT X δ μ a r) (k : r = true → EvW X δ μ (.BoolOp .And (b :: es) pos) t) : EvW X δ μ (.BoolOp .And (a :: b :: es) pos) (r && t) :=
  evw_pw (pw_and (pt_tw X a) (pw_tw X _)) fun σ H Q c q => h σ H _ c fun H1 e1 => by
    cases r with
    | true => rw [if_pos rfl]; exact k rfl σ H1 _ (c.ex e1) fun H2 e2 => q H2 (e1.trans e2)
    | false => rw [if_neg Bool.false_ne_true]; exact q H1 e1
theorem evw_or {r t : Bool} (h : EvT X δ μ a r) (k : r = false → EvW X δ μ (.BoolOp .Or (b :: es) pos) t) : EvW X δ μ (.BoolOp .Or (a :: b :: es) pos) (r || t) :=
  evw_pw (pw_or (pt_tw X a) (pw_tw X _)) fun σ H Q c q => h σ H _ c fun H1 e1 => by
    cases r with
    | true => rw [if_pos rfl]; exact q H1 e1
    | false => rw [if_neg Bool.false_ne_true]; exact k rfl σ H1 _ (c.ex e1) fun H2 e2 => q H2 (e1.trans e2)
theorem evt_w {r : Bool} (h : EvW X δ μ e r) : EvT X δ μ e r := evt_pt (PW.pt (pw_tw X e)) h
theorem ev_and {r t : Bool} (h : Ev X δ μ a (.bl r)) (k : r = true → Ev X δ μ (.BoolOp .And (b :: es) pos) (.bl t)) : Ev X δ μ (.BoolOp .And (a :: b :: es) pos) (.bl (r && t)) :=
  ev_pe (pe_and (pe_tw X a) (pe_tw X _)) fun σ H Q c q => h σ H _ c fun u H1 e1 r1 => ⟨r, r1, by
    cases r with
    | true => rw [if_pos rfl]; exact k rfl σ H1 _ (c.ex e1) fun v H2 e2 => q v H2 (e1.trans e2)
    | false => rw [if_neg Bool.false_ne_true]; exact q _ H1 e1 rfl⟩
theorem ev_or {r t : Bool} (h : Ev X δ μ a (.bl r)) (k : r = false → Ev X δ μ (.BoolOp .Or (b :: es) pos) (.bl t)) : Ev X δ μ (.BoolOp .Or (a :: b :: es) pos) (.bl (r || t)) :=
  ev_pe (pe_or (pe_tw X a) (pe_tw X _)) fun σ H Q c q => h σ H _ c fun u H1 e1 r1 => ⟨r, r1, by
    cases r with
    | true => rw [if_pos rfl]; exact q _ H1 e1 rfl
    | false => rw [if_neg Bool.false_ne_true]; exact k rfl σ H1 _ (c.ex e1) fun v H2 e2 => q v H2 (e1.trans e2)⟩
theorem ev_one {op : BoolOp} (h : Ev X δ μ a d) : Ev X δ μ (.BoolOp op [a] pos) d := ev_pe (pe_one (pe_tw X a)) fun σ H Q c q => h σ H Q c q
theorem ev_not {r : Bool} (h : Ev X δ μ a (.bl r)) : Ev X δ μ (.UnaryOp .Not a pos) (.bl (!r)) :=
  ev_pe (pe_not (pe_tw X a)) fun σ H Q c q => h σ H _ c fun u H1 e1 r1 => ⟨r, r1, q _ H1 e1 rfl⟩
theorem ev_if {r : Bool} {d1 d2 : D} (h : EvT X δ μ c r) (k1 : r = true → Ev X δ μ a d1) (k2 : r = false → Ev X δ μ b d2) : Ev X δ μ (.IfExp c a b pos) (if r then d1 else d2) :=
  ev_pe (pe_ifExp (pt_tw X c) (pe_tw X a) (pe_tw X b)) fun σ H Q g q => h σ H _ g fun H1 e1 => by
    cases r with
    | true => rw [if_pos rfl]; exact k1 rfl σ H1 _ (g.ex e1) fun v H2 e2 => q v H2 (e1.trans e2)
    | false => rw [if_neg Bool.false_ne_true]; exact k2 rfl σ H1 _ (g.ex e1) fun v H2 e2 => q v H2 (e1.trans e2)

/-! arguments, displays -/
theorem ea_nil : EvA X δ μ [] [] := eva_pa pa_nil fun σ H Q c q => q [] H (Ex.refl H) rfl
theorem ea_cons {ds : List D} (h : Ev X δ μ e d) (k : EvA X δ μ es ds) (hs : starEach (e :: es) X.env = (false, eval e X.env) :: starEach es X.env := by rfl) : EvA X δ μ (e :: es) (d :: ds) :=
  eva_pa (pa_cons (pe_tw X e) (pa_tw X es) hs) fun σ H Q c q => h σ H _ c fun v H1 e1 r1 => k σ H1 _ (c.ex e1) fun vs H2 e2 r2 => q _ H2 (e1.trans e2) ⟨v, vs, rfl, r1.ex e2, r2⟩
theorem ev_tup {k : Nat} {ds : List D} (h : EvA X δ μ es ds) (hz : ds.length ≤ 100000 := by first | decide | exact Nat.le_of_ble_eq_true rfl) : Ev X δ μ (.Tuple es k pos) (.tup ds) :=
  ev_pe (pe_tup (pa_tw X es)) fun σ H Q c q => h σ H _ c fun vs H1 e1 r1 => ⟨by rw [r1.len]; exact Nat.le_trans hz (by decide), fun p hp => q _ _ (e1.trans (Ex.new hp)) ⟨p, vs, rfl, upd_same, r1.ex (Ex.new hp)⟩⟩

/-! freezing: a new thing may be locked for good -/
def tFz (t : TE) : TE := fun σ H Q => t σ H fun x H1 => ∃ a u, x = .ref a ∧ H1 a = some u ∧ Mut (some u) ∧ ∀ od, Q x (upd H1 a (.frz od u))
theorem pe_fz {t : TE} (h : PE X e t) : PE X e (tFz t) := ⟨fun pins s σ H Q I hw => thn (h.run pins s σ H _ I hw) fun u s1 ⟨x, H1, I1, r1, a, w, ex, hw1, mu, q⟩ => by
  obtain ⟨od, I2⟩ := I1.lock hw1 mu
  exact ⟨x, _, I2, r1, q od⟩⟩
theorem Ex.frz {H H1 : Hp} {p : Addr} {o : HO} (e : Ex H H1) (h : H p = none) : Ex H (upd H1 p o) := fun a u q => by
  rw [upd_ne (ne_of_none q h)]; exact e a u q
theorem Fz.upd {H : Hp} {p : Addr} {o : HO} (h : ∀ u, H p = some u → ¬ Frn u) : Fz H (upd H p o) := fun a u q f => by
  rw [upd_ne (fun z => by subst z; exact h u q f)]; exact q
/-- a reading that lays a new list of these data, not yet frozen -/
def NewL (t : TE) (σ : L2.St) (H : Hp) (ds : List D) : Prop := ∀ Q : VK, (∀ p vs H', H p = none → Ex H H' → H' p = some (.lst vs) → RepL H' ds vs → Q (.ref p) H') → t σ H Q
theorem ev_newL {t : TE} {ds : List D} (h : PE X e t) (k : ∀ σ H, Cfg δ μ σ H → NewL t σ H ds) : Ev X δ μ e (.lst ds) :=
  ev_pe (pe_fz h) fun σ H Q c q => k σ H c _ fun p vs H1 hp e1 h1 r1 => ⟨p, _, rfl, h1, trivial, fun od => by
    refine q _ _ (e1.frz hp) ⟨p, od, vs, rfl, upd_same, RepL.mono (Fz.upd fun u e => ?_) _ _ r1⟩
    rw [h1] at e; cases e; exact fun z => z⟩
theorem ev_lst {ds : List D} (h : EvA X δ μ es ds) (hz : ds.length ≤ 100000 := by first | decide | exact Nat.le_of_ble_eq_true rfl) : Ev X δ μ (.List es pos) (.lst ds) :=
  ev_newL (pe_lst (pa_tw X es)) fun σ H c Q q => h σ H _ c fun vs H1 e1 r1 => ⟨by rw [r1.len]; exact Nat.le_trans hz (by decide), fun p hp => q p vs _ (e1.free hp) (e1.trans (Ex.new hp)) upd_same (r1.ex (Ex.new hp))⟩
end
end Bx
end

-- part BxB
section
set_option Elab.async false
set_option linter.all false
set_option maxRecDepth 100000
set_option maxHeartbeats 4000000
/-! Boxparts, part B: more expressions (places, slices, built-ins, equality of data), calls of defs. -/
namespace Bx
open PySem PySem.Spec PyProof.Rows L2

theorem RepL.at {H : Hp} {ds : List D} {vs : List V} {i : Int} {d : D} (h : RepL H ds vs) (e : atI ds i = some d) : ∃ v, atI vs i = some v ∧ Rep H d v := by
  unfold atI at e ⊢
  rw [h.len]
  cases q : ixN ds.length i with
  | none => rw [q] at e; cases e
  | some j => rw [q] at e; exact RepL.get h e
/-- the cut of a slice -/
def cutD {α : Type} (xs : List α) (lo hi : Option Int) : List α := (xs.drop (HT.sIx xs.length 0 lo)).take (HT.sIx xs.length xs.length hi - HT.sIx xs.length 0 lo)
theorem RepL.cut {H : Hp} {ds : List D} {vs : List V} (h : RepL H ds vs) (lo hi : Option Int) : RepL H (cutD ds lo hi) (cutV vs lo hi) := by
  unfold cutD cutV
  rw [h.len]
  exact RepL.take _ (RepL.drop _ h)
theorem cutD_map {α β : Type} (f : α → β) (xs : List α) (lo hi : Option Int) : cutD (xs.map f) lo hi = (cutD xs lo hi).map f := by
  unfold cutD
  rw [List.length_map, List.map_take, List.map_drop]
theorem cutD_whole {α : Type} {xs : List α} {lo hi : Option Int} (h : HT.sIx xs.length 0 lo = 0 ∧ HT.sIx xs.length xs.length hi = xs.length) : cutD xs lo hi = xs := by
  unfold cutD
  rw [h.1, h.2]
  simp
/-- the built-in names are the built-ins -/
structure Bi (mg : Str → Option Value) : Prop where
  len : mg "len" = none
  sum : mg "sum" = none
  min : mg "min" = none
  max : mg "max" = none
  range : mg "range" = none
  sorted : mg "sorted" = none
  tuple : mg "tuple" = none
  list : mg "list" = none
  dict : mg "dict" = none
  all : mg "all" = none
  zip : mg "zip" = none
  enumerate : mg "enumerate" = none
  isinstance : mg "isinstance" = none
  int : mg "int" = none
  bool : mg "bool" = none
  abs : mg "abs" = none
  repr : mg "repr" = none
  super : mg "super" = none
  verr : mg "ValueError" = none

def EvO (X : Cx) (δ : De) (μ : Mem) (o : Option Expr) (r : Option Int) : Prop := match o, r with
  | none, none => True
  | some e, some i => Ev X δ μ e (.int i)
  | _, _ => False
section
variable {X : Cx} {δ : De} {μ : Mem} {e a b c : Expr} {es : List Expr} {pos : Pos} {d : D}
theorem po_ev {o : Option Expr} {r : Option Int} (h : EvO X δ μ o r) : ∃ t, PO X o t ∧ ∀ σ H (Q : Option Int → Hp → Prop), Cfg δ μ σ H → (∀ H', Ex H H' → Q r H') → t σ H Q := by
  cases o with
  | none =>
    cases r with
    | none => exact ⟨_, po_none, fun σ H Q c k => k H (Ex.refl H)⟩
    | some i => exact h.elim
  | some e =>
    cases r with
    | none => exact h.elim
    | some i =>
      have h : Ev X δ μ e (.int i) := h
      exact ⟨_, po_some (pe_tw X e), fun σ H Q c k => h σ H _ c fun v H1 e1 r1 => ⟨i, r1, k H1 e1⟩⟩
/-- t[i] of a tuple | of a frozen list | of an own list -/
theorem ev_ixT {ds : List D} {i : Int} (ha : Ev X δ μ a (.tup ds)) (hb : Ev X δ μ b (.int i)) (h : atI ds i = some d) (hs : PlainIx b := by exact fun _ _ => rfl) : Ev X δ μ (.Subscript a b pos) d :=
  ev_pe (pe_ix ix_tup (pe_tw X a) (pe_tw X b) hs) fun σ H Q c q => ha σ H _ c fun u H1 e1 r1 => hb σ H1 _ (c.ex e1) fun v H2 e2 r2 => by
    obtain ⟨p, vs, rfl, hp, hr⟩ := r1
    obtain ⟨w, hw, rw'⟩ := hr.at h
    exact ⟨p, vs, i, w, rfl, r2, SqT.of (e2 _ _ hp), hw, q w H2 (e1.trans e2) (rw'.ex e2)⟩
theorem ev_ixL {ds : List D} {i : Int} (ha : Ev X δ μ a (.lst ds)) (hb : Ev X δ μ b (.int i)) (h : atI ds i = some d) (hs : PlainIx b := by exact fun _ _ => rfl) : Ev X δ μ (.Subscript a b pos) d :=
  ev_pe (pe_ix ix_list (pe_tw X a) (pe_tw X b) hs) fun σ H Q c q => ha σ H _ c fun u H1 e1 r1 => hb σ H1 _ (c.ex e1) fun v H2 e2 r2 => by
    obtain ⟨p, o, vs, rfl, hp, hr⟩ := r1
    obtain ⟨w, hw, rw'⟩ := hr.at h
    exact ⟨p, vs, i, w, rfl, r2, .inl (.inr ⟨o, e2 _ _ hp⟩), hw, q w H2 (e1.trans e2) (rw'.ex e2)⟩
theorem ev_ixA {l : Addr} {ds : List D} {i : Int} (ha : Ev X δ μ a (.adr l)) (hl : (l, C.lst ds) ∈ μ) (hb : Ev X δ μ b (.int i)) (h : atI ds i = some d) (hs : PlainIx b := by exact fun _ _ => rfl) : Ev X δ μ (.Subscript a b pos) d :=
  ev_pe (pe_ix ix_list (pe_tw X a) (pe_tw X b) hs) fun σ H Q c q => ha σ H _ c fun u H1 e1 r1 => hb σ H1 _ (c.ex e1) fun v H2 e2 r2 => by
    obtain ⟨vs, hp, hr⟩ := ((c.ex e1).ex e2).cel _ hl
    obtain ⟨w, hw, rw'⟩ := hr.at h
    exact ⟨l, vs, i, w, r1, r2, .inl (.inl hp), hw, q w H2 (e1.trans e2) rw'⟩
/-- slices -/
theorem ev_slT {ds : List D} {lo hi : Option Expr} {i j : Option Int} {p2 : Pos} (ha : Ev X δ μ a (.tup ds)) (h1 : EvO X δ μ lo i) (h2 : EvO X δ μ hi j) : Ev X δ μ (.Subscript a (.Slice lo hi none p2) pos) (.tup (cutD ds i j)) := by
  obtain ⟨tl, pl, kl⟩ := po_ev h1
  obtain ⟨th, ph, kh⟩ := po_ev h2
  refine ev_pe (pe_slice sl_tupA (pe_tw X a) pl ph) fun σ H Q c q => ha σ H _ c fun u H1 e1 r1 => kl σ H1 _ (c.ex e1) fun H2 e2 => kh σ H2 _ ((c.ex e1).ex e2) fun H3 e3 => ?_
  obtain ⟨p, vs, rfl, hp, hr⟩ := r1
  refine ⟨p, vs, rfl, SqT.of (e3 _ _ (e2 _ _ hp)), fun hw => ?_, fun hw p' hp' => ?_⟩
  · refine q _ H3 ((e1.trans e2).trans e3) ⟨p, vs, rfl, e3 _ _ (e2 _ _ hp), ?_⟩
    rw [cutD_whole (by rw [← hr.len]; exact hw)]
    exact hr.ex (e2.trans e3)
  · exact q _ _ (((e1.trans e2).trans e3).trans (Ex.new hp')) ⟨p', _, rfl, upd_same, (hr.cut i j).ex ((e2.trans e3).trans (Ex.new hp'))⟩
theorem ev_slL {ds : List D} {lo hi : Option Expr} {i j : Option Int} {p2 : Pos} (ha : Ev X δ μ a (.lst ds)) (h1 : EvO X δ μ lo i) (h2 : EvO X δ μ hi j) : Ev X δ μ (.Subscript a (.Slice lo hi none p2) pos) (.lst (cutD ds i j)) := by
  obtain ⟨tl, pl, kl⟩ := po_ev h1
  obtain ⟨th, ph, kh⟩ := po_ev h2
  refine ev_newL (pe_slice sl_list (pe_tw X a) pl ph) fun σ H c Q q => ha σ H _ c fun u H1 e1 r1 => kl σ H1 _ (c.ex e1) fun H2 e2 => kh σ H2 _ ((c.ex e1).ex e2) fun H3 e3 => ?_
  obtain ⟨p, o, vs, rfl, hp, hr⟩ := r1
  exact ⟨p, vs, rfl, .inl (.inr ⟨o, e3 _ _ (e2 _ _ hp)⟩), fun p' hp' => q p' _ _ (((e1.trans e2).trans e3).free hp') (((e1.trans e2).trans e3).trans (Ex.new hp')) upd_same ((hr.cut i j).ex ((e2.trans e3).trans (Ex.new hp')))⟩
theorem ev_revL {ds : List D} {k : Nat} {p1 p2 p3 : Pos} (ha : Ev X δ μ a (.lst ds)) : Ev X δ μ (.Subscript a (.Slice none none (some (.UnaryOp .USub (.Constant (.int 1) k p1) p2)) p3) pos) (.lst ds.reverse) :=
  ev_newL (pe_revL (pe_tw X a)) fun σ H c Q q => ha σ H _ c fun u H1 e1 r1 => by
    obtain ⟨p, o, vs, rfl, hp, hr⟩ := r1
    exact ⟨p, vs, rfl, .inl (.inr ⟨o, hp⟩), fun p' hp' => q p' _ _ (e1.free hp') (e1.trans (Ex.new hp')) upd_same (hr.rev.ex (Ex.new hp'))⟩
/-- t + u -/
theorem ev_catT {ds fs : List D} (ha : Ev X δ μ a (.tup ds)) (hb : Ev X δ μ b (.tup fs)) (hz : ds.length + fs.length ≤ 100000) : Ev X δ μ (.BinOp a .Add b pos) (.tup (ds ++ fs)) :=
  ev_bin op_catA ha hb fun u v H Q h1 h2 k => by
    obtain ⟨p, vs, rfl, hp, hr⟩ := h1
    obtain ⟨q, ws, rfl, hq, hs⟩ := h2
    refine ⟨p, q, vs, ws, rfl, rfl, SqT.of hp, SqT.of hq, by rw [hr.len, hs.len]; exact Nat.le_trans hz (by decide), fun e => ?_, fun e e2 => ?_, fun e e2 p' hp' => ?_⟩
    · subst e
      have e3 : ds = [] := List.length_eq_zero_iff.mp (hr.len.symm)
      subst e3
      exact k _ H (Ex.refl H) ⟨q, ws, rfl, hq, hs⟩
    · subst e2
      have e3 : fs = [] := List.length_eq_zero_iff.mp (hs.len.symm)
      subst e3
      exact k _ H (Ex.refl H) ⟨p, vs, rfl, hp, by rw [List.append_nil]; exact hr⟩
    · exact k _ _ (Ex.new hp') ⟨p', _, rfl, upd_same, (hr.app hs).ex (Ex.new hp')⟩
end
/-! lists that are read (tracked or frozen) -/
section
variable {X : Cx} {pins : List (Addr × Obj)} {σ : L2.St} {H : Hp} {s : Shared} {l : Addr} {xs : List V}
theorem lstR (I : Inv X pins σ H s) (hH : Rd H l (.lst xs)) : xs.length ≤ sizeLine ∧ ∃ (its : List Value) (n : Nat), Vals xs its ∧ xs.length = its.length ∧ s.heap.get? l = some { cls := .type "list", data := .seq its.toArray n } := by
  obtain ⟨z, its, n, r, e⟩ := hH.ok I.hok
  exact ⟨z, its, n, r, r.length, e⟩
def rCatS : R2 := fun x y H Q => ∃ l b xs zs, x = .ref l ∧ y = .ref b ∧ Rd H l (.lst xs) ∧ Rd H b (.lst zs) ∧ xs.length + zs.length ≤ sizeLine ∧ ∀ p, H p = none → Q (.ref p) (upd H p (.lst (xs ++ zs)))
theorem op_catS : OpR X (binaryOp .Add) rCatS := by
  intro pins s σ H x y v u Q I rx ry h
  obtain ⟨l, b, xs, zs, rfl, rfl, hH, hB, hz, q⟩ := h
  cases rx
  cases ry
  obtain ⟨z, its, n, r, hl, e⟩ := lstR I hH
  obtain ⟨z2, its2, n2, r2, hl2, e2⟩ := lstR I hB
  refine PySem.P.add_list e e2 ?_ (by rw [List.size_toArray, List.size_toArray]; omega)
  have ea : its.toArray ++ its2.toArray = (its ++ its2).toArray := by simp
  rw [ea]
  exact ⟨.ref _, _, I.lnew (t' := s.toks) (r.append r2) (by rw [List.length_append]; omega), rfl, q _ I.fresh⟩
def rRepS : R2 := fun x y H Q => ∃ l k xs, x = .ref l ∧ y = .int k ∧ Rd H l (.lst xs) ∧ -(2 ^ 63) ≤ k ∧ k < 2 ^ 63 ∧ xs.length * k.toNat ≤ sizeLine ∧
  ∀ p, H p = none → Q (.ref p) (upd H p (.lst (List.replicate k.toNat xs).flatten))
theorem op_repS : OpR X (binaryOp .Mult) rRepS := by
  intro pins s σ H x y v u Q I rx ry h
  obtain ⟨l, k, xs, rfl, rfl, hH, h1, h2, hz, q⟩ := h
  cases rx
  obtain ⟨t, rfl⟩ := ry
  obtain ⟨z, its, n, r, hl, e⟩ := lstR I hH
  have hlen : its.toArray.size * k.toNat ≤ sizeLine := by rw [List.size_toArray, ← hl]; exact hz
  have hcap : ¬ its.toArray.size * k.toNat > (2 ^ 63 - 1) / 8 := by
    have : (sizeLine : Nat) ≤ (2 ^ 63 - 1) / 8 := by decide
    omega
  have hfit : ¬ (!Builtin.List.listFitsIndex k) = true := by
    rw [fitsIndex_both h1 h2]
    exact Bool.false_ne_true
  have hlong : ¬ Builtin.List.listTooLong (its.toArray.size * k.toNat) = true := by
    rw [notLongL hlen]
    exact Bool.false_ne_true
  have hnew : List.foldl (fun x1 x2 => x1 ++ x2) #[] (List.replicate (if its.toArray.isEmpty = true then 0 else k.toNat) its.toArray) = (List.replicate k.toNat its).flatten.toArray := by
    have f0 : ∀ m : Nat, List.foldl (fun x1 x2 => x1 ++ x2) #[] (List.replicate m its.toArray) = (List.replicate m its).flatten.toArray := fun m => by
      have := foldl_rep its m []
      rw [List.nil_append] at this
      exact this
    rw [f0]
    cases its with
    | nil => simp
    | cons a r' => rw [if_neg (by simp)]
  refine wpAny_binaryOp_repeat_ref (T := "list") (U := "int") (by decide) ⟨_, e, rfl⟩ (fun s' => typeIs_int s' k t) noFill_list_mul F.fills_int_mul F.slot_int_rmul repeat_list F.slot_int_index.lookup
    (call_meets F.slot_int_rmul (typeIs_int s k t) F.entry_int_rmul (F.args_int_rmul_2 _ _) (int___rmul___int_list k t l its.toArray n)
      ⟨e, rfl, ⟨_, e, rfl⟩, call_meets F.slot_list_mul ⟨_, e, rfl⟩ F.entry_list_mul (F.args_list_mul_2 _ _) (AutoListH.list___mul___list_int_3 l its.toArray n k t hfit hcap hlong) ⟨e, ?_⟩⟩)
  rw [hnew]
  exact ⟨.ref _, _, I.lnew (t' := s.toks) (r.rep k.toNat) (by rw [PyProof.Rows.lm_len_rep_flat, Nat.mul_comm]; exact hz), rfl, q _ I.fresh⟩
end
section
variable {X : Cx} {δ : De} {μ : Mem} {e a b c : Expr} {es : List Expr} {p pos : Pos} {d : D}
theorem RepL.rep {H : Hp} {ds : List D} {vs : List V} (h : RepL H ds vs) : ∀ k : Nat, RepL H (List.replicate k ds).flatten (List.replicate k vs).flatten
  | 0 => rfl
  | k + 1 => by
    rw [List.replicate_succ, List.replicate_succ, List.flatten_cons, List.flatten_cons]
    exact h.app (RepL.rep h k)
theorem rep_flat {ds : List D} : ∀ k : Nat, (List.replicate k ds).flatten.length = k * ds.length
  | 0 => by simp
  | k + 1 => by rw [List.replicate_succ, List.flatten_cons, List.length_append, rep_flat k, Nat.succ_mul]; omega
theorem ev_catL {ds fs : List D} (ha : Ev X δ μ a (.lst ds)) (hb : Ev X δ μ b (.lst fs)) (hz : ds.length + fs.length ≤ 100000) : Ev X δ μ (.BinOp a .Add b pos) (.lst (ds ++ fs)) :=
  ev_newL (pe_op op_catS (pe_tw X a) (pe_tw X b)) fun σ H c Q q => ha σ H _ c fun u H1 e1 r1 => hb σ H1 _ (c.ex e1) fun v H2 e2 r2 => by
    obtain ⟨p, o, vs, rfl, hp, hr⟩ := r1
    obtain ⟨p2, o2, ws, rfl, hp2, hs⟩ := r2
    exact ⟨p, p2, vs, ws, rfl, rfl, .inr ⟨o, e2 _ _ hp⟩, .inr ⟨o2, hp2⟩, by rw [hr.len, hs.len]; exact Nat.le_trans hz (by decide), fun p' hp' =>
      q p' _ _ ((e1.trans e2).free hp') ((e1.trans e2).trans (Ex.new hp')) upd_same (((hr.ex e2).app hs).ex (Ex.new hp'))⟩
/-- own list + new list: a new list -/
theorem ev_catA {l : Addr} {ds fs : List D} (ha : Ev X δ μ a (.adr l)) (hl : (l, C.lst ds) ∈ μ) (hb : Ev X δ μ b (.lst fs)) (hz : ds.length + fs.length ≤ 100000) : Ev X δ μ (.BinOp a .Add b pos) (.lst (ds ++ fs)) :=
  ev_newL (pe_op op_catS (pe_tw X a) (pe_tw X b)) fun σ H c Q q => ha σ H _ c fun u H1 e1 r1 => hb σ H1 _ (c.ex e1) fun v H2 e2 r2 => by
    obtain ⟨vs, hp, hr⟩ := ((c.ex e1).ex e2).cel _ hl
    obtain ⟨p2, o2, ws, rfl, hp2, hs⟩ := r2
    exact ⟨l, p2, vs, ws, r1, rfl, .inl hp, .inr ⟨o2, hp2⟩, by rw [hr.len, hs.len]; exact Nat.le_trans hz (by decide), fun p' hp' =>
      q p' _ _ ((e1.trans e2).free hp') ((e1.trans e2).trans (Ex.new hp')) upd_same ((hr.app hs).ex (Ex.new hp'))⟩
theorem ev_repL {ds : List D} {k : Int} (ha : Ev X δ μ a (.lst ds)) (hb : Ev X δ μ b (.int k)) (hk : -100000 ≤ k ∧ k ≤ 100000) (hz : ds.length * k.toNat ≤ 100000) : Ev X δ μ (.BinOp a .Mult b pos) (.lst (List.replicate k.toNat ds).flatten) :=
  ev_newL (pe_op op_repS (pe_tw X a) (pe_tw X b)) fun σ H c Q q => ha σ H _ c fun u H1 e1 r1 => hb σ H1 _ (c.ex e1) fun v H2 e2 r2 => by
    obtain ⟨p, o, vs, rfl, hp, hr⟩ := r1
    exact ⟨p, k, vs, rfl, r2, .inr ⟨o, e2 _ _ hp⟩, by omega, by omega, by rw [hr.len]; exact Nat.le_trans hz (by decide), fun p' hp' =>
      q p' _ _ ((e1.trans e2).free hp') ((e1.trans e2).trans (Ex.new hp')) upd_same (((hr.ex e2).rep _).ex (Ex.new hp'))⟩
/-! built-ins -/
variable {nm : String} {x : Str} {r : List V → Hp → VK → Prop}
theorem ev_callB {ds : List D} (hc : CallR X (.builtin nm) r) (hm : X.mg x = none) (hv : bootBuiltins x = some (.builtin nm)) (ha : EvA X δ μ (e :: es) ds)
    (k : ∀ vs H (Q : VK), RepL H ds vs → (∀ v H', Ex H H' → Rep H' d v → Q v H') → r vs H Q) (hg : Gl X x := by rfl) (hn : x ≠ "__name__" := by decide) (hdb : (x == ("__debug__" : Str)) = false := by decide)
    (he : starEach (e :: es) X.env = (false, eval e X.env) :: starEach es X.env := by rfl) (hpl : (backTo pos (starEach es X.env)).any (·.1) = false := by rfl) : Ev X δ μ (.Call (.Name x p) (e :: es) [] pos) d :=
  ev_pe (pe_callB hc hg hm hv (pa_tw X _) hn hdb he hpl) fun σ H Q c q => ha σ H _ c fun vs H1 e1 r1 => k vs H1 Q r1 fun v H2 e2 r2 => q v H2 (e1.trans e2) r2
theorem ev_callTy {T : String} {ds : List D} (hc : CallR X (.type T) r) (hm : X.mg x = none) (hv : bootBuiltins x = some (.type T)) (ha : EvA X δ μ (e :: es) ds)
    (k : ∀ vs H (Q : VK), RepL H ds vs → (∀ v H', Ex H H' → Rep H' d v → Q v H') → r vs H Q) (hg : Gl X x := by rfl) (hn : x ≠ "__name__" := by decide) (hdb : (x == ("__debug__" : Str)) = false := by decide)
    (he : starEach (e :: es) X.env = (false, eval e X.env) :: starEach es X.env := by rfl) (hpl : (backTo pos (starEach es X.env)).any (·.1) = false := by rfl) : Ev X δ μ (.Call (.Name x p) (e :: es) [] pos) d :=
  ev_pe (pe_callTy hc hg hm hv (pa_tw X _) hn hdb he hpl) fun σ H Q c q => ha σ H _ c fun vs H1 e1 r1 => k vs H1 Q r1 fun v H2 e2 r2 => q v H2 (e1.trans e2) r2
theorem ev_lenT {ds : List D} (B : Bi X.mg) (ha : Ev X δ μ e (.tup ds)) (hg : Gl X "len" := by rfl) (he : starEach [e] X.env = (false, eval e X.env) :: starEach [] X.env := by rfl) (hpl : (backTo pos (starEach [] X.env)).any (·.1) = false := by rfl) :
    Ev X δ μ (.Call (.Name "len" p) [e] [] pos) (.int (ds.length : Int)) :=
  ev_callB call_len_seq B.len PySem.boot_len (ea_cons ha ea_nil he) (fun vs H Q hr k => by
    obtain ⟨v, rfl, a, ws, rfl, ha, hs⟩ := hr.one
    exact ⟨a, ws, rfl, .inr (SqT.of ha), k _ H (Ex.refl H) (by rw [hs.len]; rfl)⟩) hg (by decide) (by decide) he hpl
theorem ev_lenL {ds : List D} (B : Bi X.mg) (ha : Ev X δ μ e (.lst ds)) (hg : Gl X "len" := by rfl) (he : starEach [e] X.env = (false, eval e X.env) :: starEach [] X.env := by rfl) (hpl : (backTo pos (starEach [] X.env)).any (·.1) = false := by rfl) :
    Ev X δ μ (.Call (.Name "len" p) [e] [] pos) (.int (ds.length : Int)) :=
  ev_callB call_len_seq B.len PySem.boot_len (ea_cons ha ea_nil he) (fun vs H Q hr k => by
    obtain ⟨v, rfl, a, o, ws, rfl, ha, hs⟩ := hr.one
    exact ⟨a, ws, rfl, .inl (.inl (.inr ⟨o, ha⟩)), k _ H (Ex.refl H) (by rw [hs.len]; rfl)⟩) hg (by decide) (by decide) he hpl
theorem boot_min : bootBuiltins "min" = some (.builtin "min") := by decide +kernel
theorem boot_max : bootBuiltins "max" = some (.builtin "max") := by decide +kernel
theorem boot_abs : bootBuiltins "abs" = some (.builtin "abs") := by decide +kernel
theorem boot_all : bootBuiltins "all" = some (.builtin "all") := by decide +kernel
theorem boot_sum : bootBuiltins "sum" = some (.builtin "sum") := by decide +kernel
theorem boot_sorted : bootBuiltins "sorted" = some (.builtin "sorted") := by decide +kernel
theorem boot_repr : bootBuiltins "repr" = some (.builtin "repr") := by decide +kernel
theorem boot_isinstance : bootBuiltins "isinstance" = some (.builtin "isinstance") := by decide +kernel
variable {i j : Int}
theorem ev_min2 (hc : X.calm = true) (B : Bi X.mg) (ha : Ev X δ μ a (.int i)) (hb : Ev X δ μ b (.int j)) (hg : Gl X "min" := by rfl) (he : starEach [a, b] X.env = (false, eval a X.env) :: starEach [b] X.env := by rfl)
    (he2 : starEach [b] X.env = (false, eval b X.env) :: starEach [] X.env := by rfl) (hpl : (backTo pos (starEach [b] X.env)).any (·.1) = false := by rfl) : Ev X δ μ (.Call (.Name "min" p) [a, b] [] pos) (.int (if j < i then j else i)) :=
  ev_callB (call_min2 hc) B.min boot_min (ea_cons ha (ea_cons hb ea_nil he2) he) (fun vs H Q hr k => by
    obtain ⟨v, ws, rfl, h1, h2⟩ := hr
    obtain ⟨u, rfl, h3⟩ := h2.one
    exact ⟨i, j, by rw [show v = V.int i from h1, show u = V.int j from h3], k _ H (Ex.refl H) rfl⟩) hg (by decide) (by decide) he hpl
theorem ev_max2 (hc : X.calm = true) (B : Bi X.mg) (ha : Ev X δ μ a (.int i)) (hb : Ev X δ μ b (.int j)) (hg : Gl X "max" := by rfl) (he : starEach [a, b] X.env = (false, eval a X.env) :: starEach [b] X.env := by rfl)
    (he2 : starEach [b] X.env = (false, eval b X.env) :: starEach [] X.env := by rfl) (hpl : (backTo pos (starEach [b] X.env)).any (·.1) = false := by rfl) : Ev X δ μ (.Call (.Name "max" p) [a, b] [] pos) (.int (if j > i then j else i)) :=
  ev_callB (call_max2 hc) B.max boot_max (ea_cons ha (ea_cons hb ea_nil he2) he) (fun vs H Q hr k => by
    obtain ⟨v, ws, rfl, h1, h2⟩ := hr
    obtain ⟨u, rfl, h3⟩ := h2.one
    exact ⟨i, j, by rw [show v = V.int i from h1, show u = V.int j from h3], k _ H (Ex.refl H) rfl⟩) hg (by decide) (by decide) he hpl
theorem ev_abs (B : Bi X.mg) (ha : Ev X δ μ a (.int i)) (hg : Gl X "abs" := by rfl) (he : starEach [a] X.env = (false, eval a X.env) :: starEach [] X.env := by rfl) (hpl : (backTo pos (starEach [] X.env)).any (·.1) = false := by rfl) :
    Ev X δ μ (.Call (.Name "abs" p) [a] [] pos) (.int (if i < 0 then -i else i)) :=
  ev_callB call_abs B.abs boot_abs (ea_cons ha ea_nil he) (fun vs H Q hr k => by
    obtain ⟨v, rfl, h1⟩ := hr.one
    exact ⟨i, by rw [show v = V.int i from h1], k _ H (Ex.refl H) rfl⟩) hg (by decide) (by decide) he hpl
theorem ev_int1 (B : Bi X.mg) (ha : Ev X δ μ a (.int i)) (hg : Gl X "int" := by rfl) (he : starEach [a] X.env = (false, eval a X.env) :: starEach [] X.env := by rfl) (hpl : (backTo pos (starEach [] X.env)).any (·.1) = false := by rfl) :
    Ev X δ μ (.Call (.Name "int" p) [a] [] pos) (.int i) :=
  ev_callTy call_int1 B.int boot_int (ea_cons ha ea_nil he) (fun vs H Q hr k => by
    obtain ⟨v, rfl, h1⟩ := hr.one
    exact .inl ⟨i, by rw [show v = V.int i from h1], k _ H (Ex.refl H) rfl⟩) hg (by decide) (by decide) he hpl
/-- tuple(list) -/
theorem ev_tupleOf {ds : List D} (B : Bi X.mg) (ha : Ev X δ μ e (.lst ds)) (hg : Gl X "tuple" := by rfl) (he : starEach [e] X.env = (false, eval e X.env) :: starEach [] X.env := by rfl) (hpl : (backTo pos (starEach [] X.env)).any (·.1) = false := by rfl) :
    Ev X δ μ (.Call (.Name "tuple" p) [e] [] pos) (.tup ds) :=
  ev_callTy call_tuple_of B.tuple PyProof.Rows.boot_tuple (ea_cons ha ea_nil he) (fun vs H Q hr k => by
    obtain ⟨v, rfl, a, o, ws, rfl, ha, hs⟩ := hr.one
    exact ⟨a, ws, rfl, .inl ⟨.inl (.inr ⟨o, ha⟩), fun l hl => k _ _ (Ex.new hl) ⟨l, ws, rfl, upd_same, hs.ex (Ex.new hl)⟩⟩⟩) hg (by decide) (by decide) he hpl
/-- list(tuple) -/
theorem ev_listOf {ds : List D} (B : Bi X.mg) (ha : Ev X δ μ e (.tup ds)) (hg : Gl X "list" := by rfl) (he : starEach [e] X.env = (false, eval e X.env) :: starEach [] X.env := by rfl) (hpl : (backTo pos (starEach [] X.env)).any (·.1) = false := by rfl) :
    Ev X δ μ (.Call (.Name "list" p) [e] [] pos) (.lst ds) :=
  ev_newL (pe_callTy call_list_of hg B.list PyProof.Rows.boot_list (pa_tw X [e]) (by decide) (by decide) he hpl) fun σ H c Q q => ea_cons ha ea_nil he σ H _ c fun vs H1 e1 r1 => by
    obtain ⟨v, rfl, a, ws, rfl, ha, hs⟩ := r1.one
    exact ⟨a, ws, rfl, .inr (SqT.of ha), fun l hl => q l ws _ (e1.free hl) (e1.trans (Ex.new hl)) upd_same (hs.ex (Ex.new hl))⟩
/-- all(list of bools) -/
theorem ev_all {bs : List Bool} (hc : X.calm = true) (B : Bi X.mg) (ha : Ev X δ μ e (.lst (bs.map D.bl))) (hg : Gl X "all" := by rfl) (he : starEach [e] X.env = (false, eval e X.env) :: starEach [] X.env := by rfl) (hpl : (backTo pos (starEach [] X.env)).any (·.1) = false := by rfl) :
    Ev X δ μ (.Call (.Name "all" p) [e] [] pos) (.bl (bs.all id)) :=
  ev_callB (cr_all hc) B.all boot_all (ea_cons ha ea_nil he) (fun vs H Q hr k => by
    obtain ⟨v, rfl, a, o, ws, rfl, ha, hs⟩ := hr.one
    rw [RepL.bls hs] at ha
    exact ⟨a, bs, rfl, .inl (.inr ⟨o, ha⟩), k _ H (Ex.refl H) rfl⟩) hg (by decide) (by decide) he hpl
theorem ev_sumL {ns : List Int} (hc : X.calm = true) (B : Bi X.mg) (ha : Ev X δ μ e (li ns)) (hg : Gl X "sum" := by rfl) (he : starEach [e] X.env = (false, eval e X.env) :: starEach [] X.env := by rfl) (hpl : (backTo pos (starEach [] X.env)).any (·.1) = false := by rfl) :
    Ev X δ μ (.Call (.Name "sum" p) [e] [] pos) (.int ns.sum) :=
  ev_callB (cr_sum hc) B.sum boot_sum (ea_cons ha ea_nil he) (fun vs H Q hr k => by
    obtain ⟨v, rfl, a, o, ws, rfl, ha, hs⟩ := hr.one
    rw [RepL.ints hs] at ha
    exact ⟨a, ns, rfl, .inl (.inr ⟨o, ha⟩), k _ H (Ex.refl H) rfl⟩) hg (by decide) (by decide) he hpl

/-! ### equality of data -/
mutual
def py : D → PyData
  | .non => .none
  | .bl b => .bool b
  | .int i => .int i
  | .str x => .str x
  | .tup ds => .tuple (pyL ds)
  | .lst ds => .list (pyL ds)
  | _ => .none
def pyL : List D → List PyData
  | [] => []
  | d :: ds => py d :: pyL ds
end
mutual
def pure? : D → Bool
  | .non => true
  | .bl _ => true
  | .int _ => true
  | .str _ => true
  | .tup ds => pureL ds
  | .lst ds => pureL ds
  | _ => false
def pureL : List D → Bool
  | [] => true
  | d :: ds => pure? d && pureL ds
end
mutual
theorem Rep.dp {K : PySem.W.Frag} {H : Hp} : ∀ (d : D) (v : V), Rep H d v → pure? d = true → Dp K H v (py d)
  | .non, _, h, _ => by obtain rfl : _ = V.non := h; exact .non
  | .bl b, _, h, _ => by obtain rfl : _ = V.bl b := h; exact .bl b
  | .int b, _, h, _ => by obtain rfl : _ = V.int b := h; exact .int b
  | .str b, _, h, _ => by obtain rfl : _ = V.str b := h; exact .str b
  | .tup ds, _, h, q => by
    obtain ⟨a, vs, rfl, h1, h2⟩ := h
    exact .tup (SqT.of h1) (RepL.dp ds vs h2 q)
  | .lst ds, _, h, q => by
    obtain ⟨a, o, vs, rfl, h1, h2⟩ := h
    exact .lst (.inl (.inr ⟨o, h1⟩)) (RepL.dp ds vs h2 q)
  | .ty _, _, _, q => by cases q
  | .adr _, _, _, q => by cases q
  | .dK _ _, _, _, q => by cases q
  | .dT _ _, _, _, q => by cases q
theorem RepL.dp {K : PySem.W.Frag} {H : Hp} : ∀ (d : List D) (v : List V), RepL H d v → pureL d = true → DpAll K H v (pyL d)
  | [], _, h, _ => by obtain rfl : _ = [] := h; exact .nil
  | d :: ds, _, h, q => by
    obtain ⟨v, ws, rfl, h1, h2⟩ := h
    have q2 := Bool.and_eq_true_iff.mp (show (pure? d && pureL ds) = true from q)
    exact .cons (Rep.dp d v h1 q2.1) (RepL.dp ds ws h2 q2.2)
end
theorem pureL_of {α : Type} {f : α → D} (h : ∀ a, pure? (f a) = true) : ∀ xs : List α, pureL (xs.map f) = true
  | [] => rfl
  | x :: xs => by
    show (pure? (f x) && pureL (xs.map f)) = true
    rw [h x, pureL_of h xs]; rfl
theorem pure_sh (s : List Int) : pure? (sh s) = true := pureL_of (fun _ => rfl) s
theorem pyL_map {α : Type} {f : α → D} : ∀ xs : List α, pyL (xs.map f) = xs.map fun a => py (f a)
  | [] => rfl
  | x :: xs => by
    show py (f x) :: pyL (xs.map f) = py (f x) :: xs.map fun a => py (f a)
    rw [pyL_map xs]
theorem eqvAll_map {α : Type} [DecidableEq α] {f : α → PyData} (h : ∀ a b, PyData.eqv (f a) (f b) = decide (a = b)) : ∀ xs ys : List α, PyData.eqvAll (xs.map f) (ys.map f) = decide (xs = ys)
  | [], [] => by simp [PyData.eqvAll]
  | [], _ :: _ => by simp [PyData.eqvAll]
  | _ :: _, [] => by simp [PyData.eqvAll]
  | x :: xs, y :: ys => by
    rw [List.map_cons, List.map_cons, PyData.eqvAll, h, eqvAll_map h xs ys]
    by_cases e : x = y <;> by_cases e2 : xs = ys <;> simp [e, e2]
theorem eqv_sh (s t : List Int) : PyData.eqv (py (sh s)) (py (sh t)) = decide (s = t) := by
  show PyData.eqv (.tuple (pyL (s.map D.int))) (.tuple (pyL (t.map D.int))) = _
  rw [PyData.eqv, pyL_map, pyL_map]
  refine eqvAll_map (fun a b => ?_) s t
  show PyData.eqv (.int a) (.int b) = _
  rw [PyData.eqv]
  first | rfl | exact Bool.beq_eq_decide_eq _ _
/-- tuples of shapes | lists of shapes -/
theorem eqv_shsT (s t : List (List Int)) : PyData.eqv (py (.tup (s.map sh))) (py (.tup (t.map sh))) = decide (s = t) := by
  show PyData.eqv (.tuple (pyL (s.map sh))) (.tuple (pyL (t.map sh))) = _
  rw [PyData.eqv, pyL_map, pyL_map]
  exact eqvAll_map eqv_sh s t
theorem eqv_nilL (ds : List D) : PyData.eqv (py (.lst ds)) (py (.lst [])) = ds.isEmpty := by
  show PyData.eqv (.list (pyL ds)) (.list []) = _
  rw [PyData.eqv]
  cases ds with
  | nil => rfl
  | cons d ds => rfl
theorem eqv_nilT (ds : List D) : PyData.eqv (py (.tup ds)) (py (.tup [])) = ds.isEmpty := by
  show PyData.eqv (.tuple (pyL ds)) (.tuple []) = _
  rw [PyData.eqv]
  cases ds with
  | nil => rfl
  | cons d ds => rfl
section
variable {x y : D} {k : Nat}
theorem ec_eqD (hr : Room k X.A) (ha : Ev X δ μ a x) (hb : Ev X δ μ b y) (px : pure? x = true) (py' : pure? y = true) (sx : SeqAt.shaped (py x) = true) (sy : SeqAt.shaped (py y) = true) : EvC X δ μ .Eq a b (.bl (PyData.eqv (py x) (py y))) :=
  ec_of (op_eqD hr.units) ha hb fun u v H Q h1 h2 k => ⟨py x, py y, Rep.dp _ _ h1 px, Rep.dp _ _ h2 py', sx, sy, k _ H (Ex.refl H) rfl⟩
theorem ec_neD (hr : Room k X.A) (ha : Ev X δ μ a x) (hb : Ev X δ μ b y) (px : pure? x = true) (py' : pure? y = true) (sx : SeqAt.shaped (py x) = true) (sy : SeqAt.shaped (py y) = true) : EvC X δ μ .NotEq a b (.bl (!PyData.eqv (py x) (py y))) :=
  ec_of (op_neD hr.units) ha hb fun u v H Q h1 h2 k => ⟨py x, py y, Rep.dp _ _ h1 px, Rep.dp _ _ h2 py', sx, sy, k _ H (Ex.refl H) rfl⟩
end
theorem canLayL_of {α : Type} {f : α → PyData} (h : ∀ a, (f a).canLay0 = true) : ∀ xs : List α, PyData.canLayAll0 (xs.map f) = true
  | [] => rfl
  | x :: xs => by
    show ((f x).canLay0 && PyData.canLayAll0 (xs.map f)) = true
    rw [h x, canLayL_of h xs]; rfl
end
end Bx
end

-- part BxC
section
set_option Elab.async false
set_option linter.all false
set_option maxRecDepth 100000
set_option maxHeartbeats 4000000
/-! Boxparts, part C: what is walked (EvI), targets, comprehensions. -/
namespace Bx
open PySem PySem.Spec PyProof.Rows L2

/-! ### shapes of data for == -/
structure Shp (n : Nat) (d : D) : Prop where
  pu : pure? d = true
  cl : (py d).canLay0 = true
  dp : (py d).depth ≤ n
theorem Shp.shaped {n : Nat} {d : D} (h : Shp n d) (hn : n ≤ 64) : SeqAt.shaped (py d) = true := Bool.and_eq_true_iff.mpr ⟨h.cl, decide_eq_true (Nat.le_trans h.dp hn)⟩
theorem shpL {n : Nat} : ∀ {ds : List D}, (∀ d ∈ ds, Shp n d) → pureL ds = true ∧ PyData.canLayAll0 (pyL ds) = true ∧ PyData.depthAll (pyL ds) ≤ n
  | [], _ => ⟨rfl, rfl, Nat.zero_le _⟩
  | d :: ds, h => by
    have h1 := h d List.mem_cons_self
    obtain ⟨a, b, c⟩ := shpL (ds := ds) fun e he => h e (List.mem_cons_of_mem _ he)
    refine ⟨?_, ?_, ?_⟩
    · show (pure? d && pureL ds) = true
      rw [h1.pu, a]; rfl
    · show ((py d).canLay0 && PyData.canLayAll0 (pyL ds)) = true
      rw [h1.cl, b]; rfl
    · show max (py d).depth (PyData.depthAll (pyL ds)) ≤ n
      exact Nat.max_le.mpr ⟨h1.dp, c⟩
theorem Shp.lst {n : Nat} {ds : List D} (h : ∀ d ∈ ds, Shp n d) : Shp (n + 1) (.lst ds) := by
  obtain ⟨a, b, c⟩ := shpL h
  exact ⟨a, b, Nat.succ_le_succ c⟩
theorem Shp.tup {n : Nat} {ds : List D} (h : ∀ d ∈ ds, Shp n d) : Shp (n + 1) (.tup ds) := by
  obtain ⟨a, b, c⟩ := shpL h
  exact ⟨a, b, Nat.succ_le_succ c⟩
theorem Shp.int (i : Int) : Shp 0 (.int i) := ⟨rfl, rfl, Nat.le_refl _⟩
theorem Shp.mono {n m : Nat} {d : D} (h : Shp n d) (e : n ≤ m) : Shp m d := ⟨h.pu, h.cl, Nat.le_trans h.dp e⟩
theorem Shp.sh (s : List Int) : Shp 1 (sh s) := .tup fun d hd => by
  obtain ⟨i, _, rfl⟩ := List.mem_map.mp hd
  exact .int i
theorem Shp.shs (s : List (List Int)) : Shp 2 (.tup (s.map Bx.sh)) := .tup fun d hd => by
  obtain ⟨i, _, rfl⟩ := List.mem_map.mp hd
  exact .sh i
theorem Shp.nilL : Shp 1 (.lst []) := .lst fun d hd => nomatch hd
theorem Shp.nilT : Shp 1 (.tup []) := .tup fun d hd => nomatch hd

section
variable {X : Cx} {δ : De} {μ : Mem} {e a b c : Expr} {es : List Expr} {p pos : Pos} {d : D} {k : Nat}
theorem ec_eqSh {s t : List Int} (hr : Room k X.A) (ha : Ev X δ μ a (sh s)) (hb : Ev X δ μ b (sh t)) : EvC X δ μ .Eq a b (.bl (decide (s = t))) :=
  (ec_eqD hr ha hb (pure_sh s) (pure_sh t) ((Shp.sh s).shaped (by decide)) ((Shp.sh t).shaped (by decide))).is (by rw [eqv_sh])
theorem ec_neSh {s t : List Int} (hr : Room k X.A) (ha : Ev X δ μ a (sh s)) (hb : Ev X δ μ b (sh t)) : EvC X δ μ .NotEq a b (.bl (!decide (s = t))) :=
  (ec_neD hr ha hb (pure_sh s) (pure_sh t) ((Shp.sh s).shaped (by decide)) ((Shp.sh t).shaped (by decide))).is (by rw [eqv_sh])
theorem ec_neNilT {ds : List D} {n : Nat} (hr : Room k X.A) (ha : Ev X δ μ a (.tup ds)) (hb : Ev X δ μ b (.tup [])) (hp : Shp n (.tup ds)) (hn : n ≤ 64 := by decide) : EvC X δ μ .NotEq a b (.bl (!ds.isEmpty)) :=
  (ec_neD hr ha hb hp.pu rfl (hp.shaped hn) (Shp.nilT.shaped (by decide))).is (by rw [eqv_nilT])
theorem ec_neNilL {ds : List D} {n : Nat} (hr : Room k X.A) (ha : Ev X δ μ a (.lst ds)) (hb : Ev X δ μ b (.lst [])) (hp : Shp n (.lst ds)) (hn : n ≤ 64 := by decide) : EvC X δ μ .NotEq a b (.bl (!ds.isEmpty)) :=
  (ec_neD hr ha hb hp.pu rfl (hp.shaped hn) (Shp.nilL.shaped (by decide))).is (by rw [eqv_nilL])
theorem ec_eqNilL {ds : List D} {n : Nat} (hr : Room k X.A) (ha : Ev X δ μ a (.lst ds)) (hb : Ev X δ μ b (.lst [])) (hp : Shp n (.lst ds)) (hn : n ≤ 64 := by decide) : EvC X δ μ .Eq a b (.bl ds.isEmpty) :=
  (ec_eqD hr ha hb hp.pu rfl (hp.shaped hn) (Shp.nilL.shaped (by decide))).is (by rw [eqv_nilL])

/-! ### what is walked -/
structure Gd (J : It) (ds : List D) (H0 : Hp) : Prop where
  go : ∀ H i d, Fz H0 H → ds[i]? = some d → J.go i H ∧ ∀ x H', J.yld i H x H' → Ex H H' ∧ Rep H' d x
  stop : ∀ H i, Fz H0 H → ds.length ≤ i → J.stop i H
def tI (X : Cx) (tg iter : Expr) : TI := fun σ H R => ∀ (pins : List (Addr × Obj)) (s : Shared), Inv X pins σ H s → wpAny (model X.prog X.w) X.A (eval iter X.env) (fun v s1 => wpAny (model X.prog X.w) X.A (pyIter v) (PIE X pins σ tg R) X.xe s1) X.xe s
theorem pi_tI (X : Cx) (tg iter : Expr) : PI X tg iter (tI X tg iter) := ⟨fun pins s σ H R I h => h pins s I⟩
def EvI (X : Cx) (δ : De) (μ : Mem) (tg iter : Expr) (ds : List D) : Prop := ∀ σ H (R : It → Hp → Prop), Cfg δ μ σ H → (∀ J H', Ex H H' → Gd J ds H' → ds.length ≤ sizeLine → R J H') → tI X tg iter σ H R
variable {tg iter : Expr} {ds : List D}
theorem ei_pi {wi : TI} (h : PI X tg iter wi) (k : ∀ σ H (R : It → Hp → Prop), Cfg δ μ σ H → (∀ J H', Ex H H' → Gd J ds H' → (∀ pins s, Inv X pins σ H' s → ds.length ≤ sizeLine) → R J H') → wi σ H R) : EvI X δ μ tg iter ds :=
  fun σ H R c q pins s I => thn (h.run pins s σ H (fun J H' => Ex H H' ∧ Gd J ds H' ∧ ∀ pins s, Inv X pins σ H' s → ds.length ≤ sizeLine) I (k σ H _ c fun J H' e g z => ⟨e, g, z⟩)) fun v s1 h1 =>
    thn h1 fun itv s2 ⟨it, fp, tn, J, H', e, I2, T, st, fo, x, g, z⟩ => ⟨it, fp, tn, J, H', e, I2, T, st, fo, q J H' x g (z _ _ I2)⟩
theorem fz_lst {H H' : Hp} (e : Fz H H') {a : Addr} {o : Obj} {u : HO} (h : H a = some (.frz o u)) : H' a = some (.frz o u) := e _ _ h trivial
theorem fz_tup {H H' : Hp} (e : Fz H H') {a : Addr} {vs : List V} (h : H a = some (.tup vs)) : H' a = some (.tup vs) := e _ _ h trivial
theorem ei_list (h : Ev X δ μ iter (.lst ds)) : EvI X δ μ tg iter ds :=
  ei_pi (pi_list (pe_tw X iter)) fun σ H R c q => h σ H _ c fun v H1 e1 r1 => by
    obtain ⟨a, o, vs, rfl, ha, hr⟩ := r1
    refine ⟨a, rfl, ⟨vs, .inl (.inr ⟨o, ha⟩)⟩, q _ _ e1 ⟨fun H i d f hd => ?_, fun H i f hi => ?_⟩ fun pins s I => ?_⟩
    · obtain ⟨v, hv, rv⟩ := hr.get hd
      refine ⟨⟨vs, v, .inl (.inr ⟨o, fz_lst f ha⟩), hv⟩, fun x H' y => ?_⟩
      obtain ⟨rfl, y⟩ := y
      have e := y vs (.inl (.inr ⟨o, fz_lst f ha⟩))
      rw [hv] at e; cases e
      exact ⟨Ex.refl _, Rep.mono f _ _ rv⟩
    · exact ⟨vs, .inl (.inr ⟨o, fz_lst f ha⟩), by rw [hr.len]; exact hi⟩
    · obtain ⟨z, _⟩ := lstR I (.inr ⟨o, ha⟩)
      rw [← hr.len]; exact z
theorem ei_tup (h : Ev X δ μ iter (.tup ds)) : EvI X δ μ tg iter ds :=
  ei_pi (pi_tup (pe_tw X iter)) fun σ H R c q => h σ H _ c fun v H1 e1 r1 => by
    obtain ⟨a, vs, rfl, ha, hr⟩ := r1
    refine ⟨a, rfl, ⟨vs, SqT.of ha⟩, q _ _ e1 ⟨fun H i d f hd => ?_, fun H i f hi => ?_⟩ fun pins s I => ?_⟩
    · obtain ⟨v, hv, rv⟩ := hr.get hd
      refine ⟨⟨vs, v, SqT.of (fz_tup f ha), hv⟩, fun x H' y => ?_⟩
      obtain ⟨rfl, y⟩ := y
      have e := y vs (SqT.of (fz_tup f ha))
      rw [hv] at e; cases e
      exact ⟨Ex.refl _, Rep.mono f _ _ rv⟩
    · exact ⟨vs, SqT.of (fz_tup f ha), by rw [hr.len]; exact hi⟩
    · obtain ⟨_, _, _, z⟩ := I.tuple (SqT.of ha)
      rw [← hr.len]; exact z
/-- lo, lo + 1, .. (n of them) -/
def rngD (lo : Int) (n : Nat) : List D := (List.range n).map fun (i : Nat) => .int (lo + (i : Int))
theorem rngD_get {lo : Int} {n i : Nat} {d : D} (h : (rngD lo n)[i]? = some d) : i < n ∧ d = .int (lo + i) := by
  unfold rngD at h
  rw [List.getElem?_map] at h
  by_cases hi : i < n
  · rw [List.getElem?_range hi] at h
    exact ⟨hi, (Option.some.inj h).symm⟩
  · rw [List.getElem?_eq_none (by simpa using hi)] at h; cases h
theorem gd_rng (lo : Int) (n : Nat) (H0 : Hp) : Gd (Itr lo n) (rngD lo n) H0 :=
  ⟨fun H i d _ hd => by
    obtain ⟨h1, rfl⟩ := rngD_get hd
    refine ⟨h1, fun x H' y => ?_⟩
    obtain ⟨rfl, rfl⟩ := y
    exact ⟨Ex.refl _, rfl⟩, fun H i _ hi => by
    have e : (rngD lo n).length = n := by unfold rngD; simp
    rw [e] at hi; exact hi⟩
theorem rngD_len (lo : Int) (n : Nat) : (rngD lo n).length = n := by unfold rngD; simp
theorem ei_range1 {n : Int} (B : Bi X.mg) (h : Ev X δ μ a (.int n)) (hz : n ≤ 100000) (hl : -100000 ≤ n) (hg : Gl X "range" := by rfl) (he : starEach [a] X.env = (false, eval a X.env) :: starEach [] X.env := by rfl) (hs : starEach [a] X.env = [(false, eval a X.env)] := by rfl) :
    EvI X δ μ tg (.Call (.Name "range" p) [a] [] pos) (rngD 0 n.toNat) :=
  ei_pi (pi_range1 hg B.range (pa_tw X [a]) hs) fun σ H R c q => ea_cons h ea_nil he σ H _ c fun vs H1 e1 r1 => by
    obtain ⟨v, rfl, hv⟩ := r1.one
    exact ⟨n, by rw [show v = V.int n from hv], by omega, by omega, q _ _ e1 (gd_rng 0 _ _) fun _ _ _ => by rw [rngD_len]; exact Nat.le_trans (show n.toNat ≤ 100000 by omega) (by decide)⟩
theorem ei_range2 {m n : Int} (B : Bi X.mg) (h : Ev X δ μ a (.int m)) (h2 : Ev X δ μ b (.int n)) (hz : n ≤ 100000) (hl : -100000 ≤ n) (hz2 : m ≤ 100000) (hl2 : -100000 ≤ m) (hg : Gl X "range" := by rfl)
    (he : starEach [a, b] X.env = (false, eval a X.env) :: starEach [b] X.env := by rfl) (he2 : starEach [b] X.env = (false, eval b X.env) :: starEach [] X.env := by rfl)
    (hs : starEach [a, b] X.env = [(false, eval a X.env), (false, eval b X.env)] := by rfl) (hs2 : starEach [b] X.env = [(false, eval b X.env)] := by rfl) :
    EvI X δ μ tg (.Call (.Name "range" p) [a, b] [] pos) (rngD m (n - m).toNat) :=
  ei_pi (pi_range2 hg B.range (pa_tw X [a, b]) hs hs2) fun σ H R c q => ea_cons h (ea_cons h2 ea_nil he2) he σ H _ c fun vs H1 e1 r1 => by
    obtain ⟨v, ws, rfl, hv, hw⟩ := r1
    obtain ⟨u, rfl, hu⟩ := hw.one
    exact ⟨m, n, by rw [show v = V.int m from hv, show u = V.int n from hu], ⟨by omega, by omega, by omega, by omega⟩, q _ _ e1 (gd_rng m _ _) fun _ _ _ => by rw [rngD_len]; exact Nat.le_trans (show (n - m).toNat ≤ 200000 by omega) (by decide)⟩
/-- zip of two tuples -/
theorem ei_zipT {elts : List Expr} {kk : Nat} {tpos : Pos} {fs : List D} (B : Bi X.mg) (h : Ev X δ μ a (.tup ds)) (h2 : Ev X δ μ b (.tup fs)) (hg : Gl X "zip" := by rfl)
    (he : starEach [a, b] X.env = (false, eval a X.env) :: starEach [b] X.env := by rfl) (he2 : starEach [b] X.env = (false, eval b X.env) :: starEach [] X.env := by rfl) (hpl : (backTo pos (starEach [b] X.env)).any (·.1) = false := by rfl) :
    EvI X δ μ (.Tuple elts kk tpos) (.Call (.Name "zip" p) [a, b] [] pos) ((ds.zip fs).map fun q => .tup [q.1, q.2]) :=
  ei_pi (RZ.pi_zipA hg B.zip (pa_tw X [a, b]) he hpl) fun σ H R c q => ea_cons h (ea_cons h2 ea_nil he2) he σ H _ c fun vs H1 e1 r1 => by
    obtain ⟨v, ws, rfl, hv, hw⟩ := r1
    obtain ⟨u, rfl, hu⟩ := hw.one
    obtain ⟨l, xs, rfl, hl, hr⟩ := hv
    obtain ⟨l2, ys, rfl, hl2, hr2⟩ := hu
    refine ⟨l, l2, xs, ys, rfl, .inr ⟨SqT.of hl, SqT.of hl2, q _ _ e1 ⟨fun H i d f hd => ?_, fun H i f hi => ?_⟩ fun pins s I => ?_⟩⟩
    · rw [List.getElem?_map] at hd
      cases hz : (ds.zip fs)[i]? with
      | none => rw [hz] at hd; cases hd
      | some pr =>
        rw [hz] at hd
        obtain rfl : D.tup [pr.1, pr.2] = d := Option.some.inj hd
        obtain ⟨z1, z2⟩ := List.getElem?_zip_eq_some.mp hz
        obtain ⟨x, hx, rx⟩ := hr.get z1
        obtain ⟨y, hy, ry⟩ := hr2.get z2
        refine ⟨⟨xs, ys, x, y, SqT.of (fz_tup f hl), SqT.of (fz_tup f hl2), hx, hy⟩, fun v H' w => ?_⟩
        obtain ⟨T, x', y', rfl, hT, rfl, k1, k2⟩ := w
        have ex := k1 xs (SqT.of (fz_tup f hl))
        have ey := k2 ys (SqT.of (fz_tup f hl2))
        rw [hx] at ex; cases ex
        rw [hy] at ey; cases ey
        have f2 : Fz H1 (upd H T (.tup [x, y])) := f.trans (Ex.new hT).fz
        exact ⟨Ex.new hT, T, [x, y], rfl, upd_same, .cons (Rep.mono f2 _ _ rx) (.cons (Rep.mono f2 _ _ ry) .nil)⟩
    · refine ⟨xs, ys, SqT.of (fz_tup f hl), SqT.of (fz_tup f hl2), ?_⟩
      rw [List.length_map, List.length_zip] at hi
      rw [hr.len, hr2.len]
      omega
    · obtain ⟨_, _, _, z⟩ := I.tuple (SqT.of hl)
      rw [List.length_map, List.length_zip, ← hr.len]
      exact Nat.le_trans (Nat.min_le_left _ _) z

/-! ### targets -/
/-- the target takes a value that means d; the slots sl may change; what is known then: f -/
def TgOk (g : TG) (d : D) (f : De → De) (sl : List Nat) : Prop := ∀ δ μ v σ H (Q : L2.St → Hp → Prop), Cfg δ μ σ H → Rep H d v →
  (∀ σ', Cfg (f δ) μ σ' H → (∀ i, i ∉ sl → σ'[i]? = σ[i]?) → σ'.length = σ.length → Q σ' H) → g v σ H Q
theorem Cfg.set {δ : De} {μ : Mem} {σ : L2.St} {H : Hp} (c : Cfg δ μ σ H) {i : Nat} {d : D} {v : V} (r : Rep H d v) : Cfg (δ.set i (some d)) μ (σ.set i (some v)) H := by
  refine ⟨by rw [List.length_set, List.length_set]; exact c.len, fun j d' h => ?_, c.cel, c.nd⟩
  by_cases hj : i = j
  · subst hj
    have hi : i < δ.length := by
      have := (List.getElem?_eq_some_iff.mp h).1
      rwa [List.length_set] at this
    rw [List.getElem?_set_self hi] at h
    cases h
    exact ⟨v, List.getElem?_set_self (Nat.lt_of_lt_of_le hi c.len), r⟩
  · rw [List.getElem?_set_ne hj] at h ⊢
    exact c.env j d' h
theorem Cfg.unset {δ : De} {μ : Mem} {σ : L2.St} {H : Hp} (c : Cfg δ μ σ H) (i : Nat) (w : Option V) : Cfg (δ.set i none) μ (σ.set i w) H := by
  refine ⟨by rw [List.length_set, List.length_set]; exact c.len, fun j d' h => ?_, c.cel, c.nd⟩
  by_cases hj : i = j
  · subst hj
    have hi : i < δ.length := by
      have := (List.getElem?_eq_some_iff.mp h).1
      rwa [List.length_set] at this
    rw [List.getElem?_set_self hi] at h
    cases h
  · rw [List.getElem?_set_ne hj] at h ⊢
    exact c.env j d' h
theorem tg_name (i : Nat) (d : D) : TgOk (gName i) d (fun δ => δ.set i (some d)) [i] := fun δ μ v σ H Q c r q =>
  q _ (c.set r) (fun j hj => List.getElem?_set_ne (fun e => hj (by simp [e]))) (by rw [List.length_set])
theorem tg_two (K : PySem.W.Frag) (i j : Nat) (d1 d2 : D) : TgOk (gTup K 2 (gCons (gName i) (gCons (gName j) gNil))) (.tup [d1, d2]) (fun δ => (δ.set i (some d1)).set j (some d2)) [i, j] := fun δ μ v σ H Q c r q => by
  obtain ⟨a, vs, rfl, ha, hr⟩ := r
  obtain ⟨x, ws, rfl, rx, hr⟩ := hr
  obtain ⟨y, rfl, ry⟩ := hr.one
  refine ⟨a, [x, y], rfl, SqT.of ha, rfl, x, [y], rfl, y, [], rfl, rfl, q _ ((c.set rx).set ry) (fun k hk => ?_) (by rw [List.length_set, List.length_set])⟩
  rw [List.getElem?_set_ne (fun e => hk (by simp [e])), List.getElem?_set_ne (fun e => hk (by simp [e]))]
/-! wiping -/
def wipeD : De → List Nat → De
  | δ, [] => δ
  | δ, v :: vs => (wipeD δ vs).set v none
theorem wipe_at (σ : L2.St) : ∀ (vs : List Nat) (i : Nat), (wipe σ vs)[i]? = if i ∈ vs ∧ i < σ.length then some none else σ[i]?
  | [], i => by simp [wipe]
  | v :: vs, i => by
    show ((wipe σ vs).set v none)[i]? = _
    by_cases hi : v = i
    · subst hi
      by_cases hv : v < σ.length
      · rw [List.getElem?_set_self (by rw [wipe_length]; exact hv), if_pos ⟨by simp, hv⟩]
      · rw [List.getElem?_eq_none (by rw [List.length_set, wipe_length]; omega), if_neg (fun z => hv z.2), List.getElem?_eq_none (by omega)]
    · rw [List.getElem?_set_ne hi, wipe_at σ vs i]
      have e : (i ∈ v :: vs) ↔ i ∈ vs := by
        simp only [List.mem_cons]
        exact ⟨fun z => z.elim (fun e => absurd e.symm hi) id, Or.inr⟩
      simp only [e]
theorem wipe_eq {σ τ : L2.St} {vs : List Nat} (hl : τ.length = σ.length) (h : ∀ i, i ∉ vs → τ[i]? = σ[i]?) : wipe τ vs = wipe σ vs := by
  apply List.ext_getElem?
  intro i
  rw [wipe_at, wipe_at, hl]
  by_cases hi : i ∈ vs
  · by_cases hi2 : i < σ.length
    · rw [if_pos ⟨hi, hi2⟩, if_pos ⟨hi, hi2⟩]
    · rw [if_neg (fun z => hi2 z.2), if_neg (fun z => hi2 z.2), List.getElem?_eq_none (by omega), List.getElem?_eq_none (by omega)]
  · rw [if_neg (fun z => hi z.1), if_neg (fun z => hi z.1)]
    exact h i hi
theorem Cfg.wipe {δ : De} {μ : Mem} {σ : L2.St} {H : Hp} (c : Cfg δ μ σ H) : ∀ vs : List Nat, Cfg (wipeD δ vs) μ (L2.wipe σ vs) H
  | [] => c
  | v :: vs => (Cfg.wipe c vs).unset v none

/-! ### comprehensions -/
abbrev bk (X : Cx) (scope : Scope) (s : Shared) (H : Hp) (C : Addr) (cl : List (Str × Addr)) (fp : List Addr) : Cx := X.blk s H scope (compEnvC scope cl C X.env) fp
def twB (X : Cx) (scope : Scope) (e : Expr) : TE := fun σ H Q => ∀ s H0 C cl fp, tw (bk X scope s H0 C cl fp) e σ H Q
def twsB (X : Cx) (scope : Scope) (ifs : List Expr) : TT := fun σ H Q => ∀ (s : Shared) (H0 : Hp) (C : Addr) (cl : List (Str × Addr)) (fp : List Addr) (pins : List (Addr × Obj)) (s1 : Shared), Inv (bk X scope s H0 C cl fp) pins σ H s1 →
  wpAny (model X.prog X.w) X.A (forIn ifs true fun c r => if r = true then do let ok ← isTrue c (compEnvC scope cl C X.env) (eval c (compEnvC scope cl C X.env)); pure (ForInStep.yield ok) else pure (ForInStep.yield r)) (TP (bk X scope s H0 C cl fp) pins σ Q) (fun _ _ => False) s1
def EvTs (X : Cx) (δ : De) (μ : Mem) (ifs : List Expr) (b : Bool) : Prop := match ifs with
  | [] => b = true
  | [c] => EvT X δ μ c b
  | _ => False
theorem pts_tws (X : Cx) (scope : Scope) (ifs : List Expr) (s : Shared) (H0 : Hp) (C : Addr) (cl : List (Str × Addr)) (fp : List Addr) : PTs (bk X scope s H0 C cl fp) ifs (twsB X scope ifs) := ⟨fun pins s1 σ H Q I h => h s H0 C cl fp pins s1 I⟩
theorem evts_run {scope : Scope} {ifs : List Expr} {r : Bool} (h : ∀ s H C cl fp, EvTs (bk X scope s H C cl fp) δ μ ifs r) {σ : L2.St} {H : Hp} {Q : Bool → Hp → Prop} (c : Cfg δ μ σ H) (k : ∀ H', Ex H H' → Q r H') : twsB X scope ifs σ H Q := by
  intro s H0 C cl fp pins s1 I
  have h1 := h s H0 C cl fp
  cases ifs with
  | nil =>
    obtain rfl : r = true := h1
    exact pts_nil.run pins s1 σ H Q I (k H (Ex.refl H))
  | cons e es =>
    cases es with
    | nil =>
      have h2 : EvT (bk X scope s H0 C cl fp) δ μ e r := h1
      exact (pts_one (pt_tw _ e)).run pins s1 σ H Q I (h2 σ H Q c k)
    | cons _ _ => exact h1.elim
theorem take_fm {α β : Type} {xs : List α} {i : Nat} {x : α} (g : α → Option β) (h : xs[i]? = some x) : (xs.take (i + 1)).filterMap g = (xs.take i).filterMap g ++ (g x).toList := by
  rw [List.take_add_one, h, List.filterMap_append]
  cases hg : g x <;> simp [hg]
/-- [elt for tg in iter if ..], any target, over things that mean enc x for the x of xs: the new list, not yet frozen -/
theorem lc_new {α : Type} {xs : List α} {enc : α → D} {g : α → Option D} {elt tg iter : Expr} {ifs : List Expr} {scope : Scope} {own : List (Str × Nat)} {gt : TG} {f : α → De → De} {sl : List Nat} (hc : X.calm = true) (hN : X.N.Nodup)
    (hi : EvI X δ μ tg iter (xs.map enc)) (ok : BlkOk X.N X.env.scope scope own) (hg : ∀ (s : Shared) (H : Hp) (C : Addr) (cl : List (Str × Addr)) (fp : List Addr), PG (bk X scope s H C cl fp) tg gt) (hT : ∀ x ∈ xs, TgOk gt (enc x) (f x) sl) (hsl : ∀ i ∈ sl, i ∈ own.map (·.2))
    (ht : ∀ x ∈ xs, ∀ s H C cl fp, EvTs (bk X scope s H C cl fp) (f x (wipeD δ (own.map (·.2)))) μ ifs (g x).isSome)
    (he : ∀ x ∈ xs, ∀ y, g x = some y → ∀ s H C cl fp, Ev (bk X scope s H C cl fp) (f x (wipeD δ (own.map (·.2)))) μ elt y)
    : ∀ σ H, Cfg δ μ σ H → NewL (tLc (tI X tg iter) gt (twsB X scope ifs) (twB X scope elt) (own.map (·.2))) σ H (xs.filterMap g) := by
  intro σ H c Q q
  refine hi σ H _ c fun J H1 e1 gd hz L hL => ?_
  rw [List.length_map] at hz
  refine ⟨fun i m H' => i ≤ xs.length ∧ m = xs.length - i ∧ Ex H1 H' ∧ ∃ vs, H' L = some (.lst vs) ∧ RepL H' ((xs.take i).filterMap g) vs, ⟨_, Nat.zero_le _, rfl, Ex.new hL, [], upd_same, rfl⟩, ?_⟩
  rintro i m H' ⟨hi', rfl, ex, vs, hLv, hr⟩
  by_cases hlt : i < xs.length
  · obtain ⟨x, hx⟩ : ∃ x, xs[i]? = some x := ⟨xs[i], List.getElem?_eq_getElem hlt⟩
    have hxm : x ∈ xs := List.mem_of_getElem? hx
    obtain ⟨h1, h2⟩ := gd.go H' i (enc x) ex.fz (by rw [List.getElem?_map, hx]; rfl)
    refine .inr ⟨h1, fun H'' => Ex H1 H'' ∧ ∃ vs, H'' L = some (.lst vs) ∧ RepL H'' ((xs.take (i + 1)).filterMap g) vs, fun H'' ⟨a, b⟩ => ⟨xs.length - (i + 1), by omega, hlt, rfl, a, b⟩, fun v H2 y => ?_⟩
    obtain ⟨e2, rv⟩ := h2 v H2 y
    have c2 : Cfg δ μ σ H2 := c.ex ((e1.trans ex).trans e2)
    refine hT x hxm _ μ v _ H2 _ (c2.wipe (own.map (·.2))) rv fun σ2 c3 k1 k2 => ⟨?_, ?_⟩
    · rw [wipe_eq (σ := L2.wipe σ (own.map (·.2))) (by rw [k2]) (fun i hi => k1 i fun z => hi (hsl i z))]
      refine wipe_eq (by rw [wipe_length]) fun i hi => ?_
      rw [wipe_at, if_neg (fun z => hi z.1)]
    · refine evts_run (ht x hxm) c3 fun H3 e3 => ?_
      cases hgx : g x with
      | none =>
        rw [show (Option.none : Option D).isSome = false from rfl, if_neg Bool.false_ne_true]
        refine ⟨(ex.trans e2).trans e3, vs, e3 _ _ (e2 _ _ hLv), ?_⟩
        rw [take_fm g hx, hgx]
        rw [show (Option.none : Option D).toList = [] from rfl, List.append_nil]
        exact hr.ex (e2.trans e3)
      | some w =>
        rw [show (Option.some w : Option D).isSome = true from rfl, if_pos rfl]
        intro s H0 C cl fp
        refine he x hxm w hgx s H0 C cl fp σ2 H3 _ (c3.ex e3) fun u H4 e4 ru => ⟨vs, e4 _ _ (e3 _ _ (e2 _ _ hLv)), ?_, ?_, ?_⟩
        · have l1 := hr.len
          have l2 : ((xs.take i).filterMap g).length ≤ (xs.take i).length := List.length_filterMap_le _ _
          rw [List.length_take] at l2
          omega
        · exact (((ex.trans e2).trans e3).trans e4).frz hL
        · refine ⟨_, upd_same, ?_⟩
          rw [take_fm g hx, hgx]
          have f4 : Fz H4 (upd H4 L (.lst (vs ++ [u]))) := Fz.upd fun o ho => by
            rw [e4 _ _ (e3 _ _ (e2 _ _ hLv))] at ho; cases ho; exact fun z => z
          exact RepL.mono f4 _ _ ((hr.ex ((e2.trans e3).trans e4)).app (.cons ru .nil))
  · have hi2 : i = xs.length := by omega
    subst hi2
    rw [List.take_length] at hr
    exact .inl ⟨gd.stop H' _ ex.fz (by rw [List.length_map]; exact Nat.le_refl _), q L vs H' (e1.free hL) (e1.trans ex) hLv hr⟩
theorem ev_lcG {α : Type} {xs : List α} {enc : α → D} {g : α → Option D} {elt tg iter : Expr} {ifs : List Expr} {scope : Scope} {own : List (Str × Nat)} {gt : TG} {f : α → De → De} {sl : List Nat} (hc : X.calm = true) (hN : X.N.Nodup)
    (hi : EvI X δ μ tg iter (xs.map enc)) (ok : BlkOk X.N X.env.scope scope own) (hg : ∀ (s : Shared) (H : Hp) (C : Addr) (cl : List (Str × Addr)) (fp : List Addr), PG (bk X scope s H C cl fp) tg gt) (hT : ∀ x ∈ xs, TgOk gt (enc x) (f x) sl) (hsl : ∀ i ∈ sl, i ∈ own.map (·.2))
    (ht : ∀ x ∈ xs, ∀ s H C cl fp, EvTs (bk X scope s H C cl fp) (f x (wipeD δ (own.map (·.2)))) μ ifs (g x).isSome)
    (he : ∀ x ∈ xs, ∀ y, g x = some y → ∀ s H C cl fp, Ev (bk X scope s H C cl fp) (f x (wipeD δ (own.map (·.2)))) μ elt y)
    (hs : ∀ x, foldedSetIterable iter X.env x = pure x := by intro _; rfl) : Ev X δ μ (.ListComp elt [⟨tg, iter, ifs, 0⟩] scope pos) (.lst (xs.filterMap g)) :=
  ev_newL (pe_lc (tt := twsB X scope ifs) (te := twB X scope elt) hc hN (pi_tI X tg iter) ok hg (fun s H C cl fp => pts_tws X scope ifs s H C cl fp) (fun s H C cl fp => ⟨fun pins s1 σ H1 Q I h => h s H C cl fp pins s1 I⟩) hs) (lc_new hc hN hi ok hg hT hsl ht he)
theorem fm_map {α β : Type} (f : α → β) : ∀ xs : List α, xs.filterMap (fun x => some (f x)) = xs.map f
  | [] => rfl
  | x :: xs => by simp
theorem fm_filter {α β : Type} (p : α → Bool) (f : α → β) : ∀ xs : List α, xs.filterMap (fun x => if p x then some (f x) else none) = (xs.filter p).map f
  | [] => rfl
  | x :: xs => by
    have ih := fm_filter p f xs
    by_cases h : p x = true
    · simp [h, ih]
    · simp [h, ih]
/-- [elt for x in iter] -/
theorem ev_lcM {α : Type} {xs : List α} {enc : α → D} {fe : α → D} {elt tg iter : Expr} {scope : Scope} {own : List (Str × Nat)} {gt : TG} {f : α → De → De} {sl : List Nat} (hc : X.calm = true) (hN : X.N.Nodup)
    (hi : EvI X δ μ tg iter (xs.map enc)) (ok : BlkOk X.N X.env.scope scope own) (hg : ∀ (s : Shared) (H : Hp) (C : Addr) (cl : List (Str × Addr)) (fp : List Addr), PG (bk X scope s H C cl fp) tg gt) (hT : ∀ x ∈ xs, TgOk gt (enc x) (f x) sl) (hsl : ∀ i ∈ sl, i ∈ own.map (·.2))
    (he : ∀ x ∈ xs, ∀ s H C cl fp, Ev (bk X scope s H C cl fp) (f x (wipeD δ (own.map (·.2)))) μ elt (fe x))
    (hs : ∀ x, foldedSetIterable iter X.env x = pure x := by intro _; rfl) : Ev X δ μ (.ListComp elt [⟨tg, iter, [], 0⟩] scope pos) (.lst (xs.map fe)) := by
  rw [← fm_map fe xs]
  exact ev_lcG hc hN hi ok hg hT hsl (fun x _ s H C cl fp => rfl) (fun x hx y hy s H C cl fp => by cases hy; exact he x hx s H C cl fp) hs
/-- [elt for x in iter if c] -/
theorem ev_lcF {α : Type} {xs : List α} {enc : α → D} {p : α → Bool} {fe : α → D} {elt tg iter c : Expr} {scope : Scope} {own : List (Str × Nat)} {gt : TG} {f : α → De → De} {sl : List Nat} (hc : X.calm = true) (hN : X.N.Nodup)
    (hi : EvI X δ μ tg iter (xs.map enc)) (ok : BlkOk X.N X.env.scope scope own) (hg : ∀ (s : Shared) (H : Hp) (C : Addr) (cl : List (Str × Addr)) (fp : List Addr), PG (bk X scope s H C cl fp) tg gt) (hT : ∀ x ∈ xs, TgOk gt (enc x) (f x) sl) (hsl : ∀ i ∈ sl, i ∈ own.map (·.2))
    (ht : ∀ x ∈ xs, ∀ s H C cl fp, EvT (bk X scope s H C cl fp) (f x (wipeD δ (own.map (·.2)))) μ c (p x))
    (he : ∀ x ∈ xs, p x = true → ∀ s H C cl fp, Ev (bk X scope s H C cl fp) (f x (wipeD δ (own.map (·.2)))) μ elt (fe x))
    (hs : ∀ x, foldedSetIterable iter X.env x = pure x := by intro _; rfl) : Ev X δ μ (.ListComp elt [⟨tg, iter, [c], 0⟩] scope pos) (.lst ((xs.filter p).map fe)) := by
  rw [← fm_filter p fe xs]
  refine ev_lcG hc hN hi ok hg hT hsl (fun x hx s H C cl fp => ?_) (fun x hx y hy s H C cl fp => ?_) hs
  · show EvT (bk X scope s H C cl fp) (f x (wipeD δ (own.map (·.2)))) μ c _
    by_cases h : p x = true
    · rw [if_pos h]; exact (ht x hx s H C cl fp).is h
    · rw [if_neg h]; exact (ht x hx s H C cl fp).is (by simpa using h)
  · by_cases h : p x = true
    · rw [if_pos h] at hy; cases hy; exact he x hx h s H C cl fp
    · rw [if_neg h] at hy; cases hy
end
end Bx
end

-- part BxD
section
set_option Elab.async false
set_option linter.all false
set_option maxRecDepth 100000
set_option maxHeartbeats 4000000
/-! Boxparts, part D: statements, blocks, loops, defs and their calls. -/
namespace Bx
open PySem PySem.Spec PyProof.Rows L2

inductive Out where
  | nx (δ : De) (μ : Mem) | rt (d : D) (μ : Mem) | bk (δ : De) (μ : Mem) | ct (δ : De) (μ : Mem) | nxs (P : De → Mem → Prop)
def dm (μ : Mem) : List Addr := μ.map (·.1)
/-- what stood and is not one's own stands; what is one's own now was so or is new -/
structure Xs (μ : Mem) (H : Hp) (μ' : Mem) (H' : Hp) : Prop where
  keep : ∀ a o, H a = some o → a ∉ dm μ → H' a = some o
  new : ∀ a, a ∈ dm μ' → a ∈ dm μ ∨ H a = none
theorem Xs.trans {μ μ1 μ2 : Mem} {H H1 H2 : Hp} (a : Xs μ H μ1 H1) (b : Xs μ1 H1 μ2 H2) : Xs μ H μ2 H2 := by
  refine ⟨fun x o h hx => ?_, fun x hx => ?_⟩
  · refine b.keep x o (a.keep x o h hx) fun z => ?_
    rcases a.new x z with z | z
    · exact hx z
    · rw [z] at h; cases h
  · rcases b.new x hx with z | z
    · exact a.new x z
    · by_cases hm : x ∈ dm μ
      · exact .inl hm
      · refine .inr ?_
        cases q : H x with
        | none => rfl
        | some o => rw [a.keep x o q hm] at z; cases z
theorem Xs.of {μ : Mem} {H H' : Hp} (e : Ex H H') : Xs μ H μ H' := ⟨fun a o h _ => e a o h, fun a h => .inl h⟩
theorem Xs.nil {μ μ' : Mem} {H H' : Hp} (x : Xs μ H μ' H') : Xs μ H [] H' := ⟨x.keep, fun _ h => nomatch h⟩
theorem Xs.fz {δ : De} {μ μ' : Mem} {σ : L2.St} {H H' : Hp} (c : Cfg δ μ σ H) (x : Xs μ H μ' H') : Fz H H' := fun a o h f => x.keep a o h fun z => by
  obtain ⟨p, hp, rfl⟩ := List.mem_map.mp z
  obtain ⟨o', h', nf, _⟩ := (c.cel p hp).some
  rw [h] at h'; cases h'
  exact nf f
/-- one's own objects stand -/
structure Cel (μ : Mem) (H : Hp) : Prop where
  cel : ∀ p, p ∈ μ → RepC H p.1 p.2
  nd : (μ.map (·.1)).Nodup
theorem Cfg.celAll {δ : De} {μ : Mem} {σ : L2.St} {H : Hp} (c : Cfg δ μ σ H) : Cel μ H := ⟨c.cel, c.nd⟩
theorem Cel.sub {μ μ' : Mem} {H : Hp} (c : Cel μ H) (s : List.Sublist μ' μ) : Cel μ' H := ⟨fun p hp => c.cel p (s.subset hp), (s.map (·.1)).nodup c.nd⟩
theorem Xs.sub {μ μ1 μ' : Mem} {H H' : Hp} (x : Xs μ H μ1 H') (s : List.Sublist μ' μ1) : Xs μ H μ' H' := ⟨x.keep, fun a ha => x.new a ((s.map (·.1)).subset ha)⟩
def Out.ok (D : Ends) (μ : Mem) (H : Hp) : Out → Prop
  | .nx δ' μ' => ∀ σ' H', Cfg δ' μ' σ' H' → Xs μ H μ' H' → D.nx σ' H'
  | .nxs P => ∀ δ' μ' σ' H', P δ' μ' → Cfg δ' μ' σ' H' → Xs μ H μ' H' → D.nx σ' H'
  | .bk δ' μ' => ∀ σ' H', Cfg δ' μ' σ' H' → Xs μ H μ' H' → D.bk σ' H'
  | .ct δ' μ' => ∀ σ' H', Cfg δ' μ' σ' H' → Xs μ H μ' H' → D.ct σ' H'
  | .rt d μ' => ∀ v H', Rep H' d v → Cel μ' H' → Xs μ H μ' H' → D.rt v H'
theorem okt {D : Ends} {μ μ1 : Mem} {H H1 : Hp} {o : Out} (h : o.ok D μ H) (x : Xs μ H μ1 H1) : o.ok D μ1 H1 := by
  cases o with
  | nx δ' μ' => exact fun σ' H' c x' => h σ' H' c (x.trans x')
  | bk δ' μ' => exact fun σ' H' c x' => h σ' H' c (x.trans x')
  | nxs P => exact fun δ' μ' σ' H' hp c x' => h δ' μ' σ' H' hp c (x.trans x')
  | ct δ' μ' => exact fun σ' H' c x' => h σ' H' c (x.trans x')
  | rt d μ' => exact fun v H' r cc x' => h v H' r cc (x.trans x')
def twS (X : Cx) (st : Stmt) : TS := fun D σ H => ∀ (pins : List (Addr × Obj)) (s : Shared), Inv X pins σ H s → wpAny (model X.prog X.w) X.A (exec st X.env) (SP X pins D) X.xe s
theorem ps_tw (X : Cx) (st : Stmt) : PS X st (twS X st) := ⟨fun pins s σ H D I h => h pins s I⟩
def twSs (X : Cx) (sts : List Stmt) : TS := fun D σ H => ∀ (pins : List (Addr × Obj)) (s : Shared), Inv X pins σ H s → wpAny (model X.prog X.w) X.A (execs sts X.env) (SP X pins D) X.xe s
theorem pss_tw (X : Cx) (sts : List Stmt) : PSs X sts (twSs X sts) := ⟨fun pins s σ H D I h => h pins s I⟩
/-- a statement, a block: from what is known of the slots and one's own objects to an outcome -/
def S1 (X : Cx) (δ : De) (μ : Mem) (st : Stmt) (o : Out) : Prop := ∀ σ H (D : Ends), Cfg δ μ σ H → o.ok D μ H → twS X st D σ H
def Sv (X : Cx) (δ : De) (μ : Mem) (sts : List Stmt) (o : Out) : Prop := ∀ σ H (D : Ends), Cfg δ μ σ H → o.ok D μ H → twSs X sts D σ H
section
variable {X : Cx} {δ δ1 : De} {μ μ1 : Mem} {st : Stmt} {rest sts : List Stmt} {o : Out} {e a b c : Expr} {es : List Expr} {p pos : Pos} {d : D}
theorem s1_ps {t : TS} (h : PS X st t) (k : ∀ σ H (D : Ends), Cfg δ μ σ H → o.ok D μ H → t D σ H) : S1 X δ μ st o := fun σ H D c q pins s I => h.run pins s σ H D I (k σ H D c q)
theorem sv_pss {t : TS} (h : PSs X sts t) (k : ∀ σ H (D : Ends), Cfg δ μ σ H → o.ok D μ H → t D σ H) : Sv X δ μ sts o := fun σ H D c q pins s I => h.run pins s σ H D I (k σ H D c q)
theorem sv_nil : Sv X δ μ [] (.nx δ μ) := sv_pss pss_nil fun σ H D c q => q σ H c (.of (Ex.refl H))
theorem sv_cons (h1 : S1 X δ μ st (.nx δ1 μ1)) (h2 : Sv X δ1 μ1 rest o) : Sv X δ μ (st :: rest) o :=
  sv_pss (pss_cons (ps_tw X st) (pss_tw X rest)) fun σ H D c q => h1 σ H _ c fun σ' H' c' x => h2 σ' H' D c' (okt q x)
theorem sv_one (h : S1 X δ μ st o) : Sv X δ μ [st] o := sv_pss (pss_one (ps_tw X st)) fun σ H D c q => h σ H D c q
theorem sv_rt (h1 : S1 X δ μ st (.rt d μ1)) : Sv X δ μ (st :: rest) (.rt d μ1) :=
  sv_pss (pss_cons (ps_tw X st) (pss_tw X rest)) fun σ H D c q => h1 σ H _ c q
theorem sv_bk (h1 : S1 X δ μ st (.bk δ1 μ1)) : Sv X δ μ (st :: rest) (.bk δ1 μ1) :=
  sv_pss (pss_cons (ps_tw X st) (pss_tw X rest)) fun σ H D c q => h1 σ H _ c q
theorem sv_ct (h1 : S1 X δ μ st (.ct δ1 μ1)) : Sv X δ μ (st :: rest) (.ct δ1 μ1) :=
  sv_pss (pss_cons (ps_tw X st) (pss_tw X rest)) fun σ H D c q => h1 σ H _ c q
/-- forgetting -/
inductive Le : De → De → Prop
  | nil : Le [] []
  | same {x : Option D} {δ δ' : De} : Le δ δ' → Le (x :: δ) (x :: δ')
  | skip {x : Option D} {δ δ' : De} : Le δ δ' → Le (x :: δ) (none :: δ')
theorem Le.refl : ∀ δ : De, Le δ δ
  | [] => .nil
  | _ :: δ => .same (Le.refl δ)
theorem Le.get {δ δ' : De} (h : Le δ δ') : ∀ {i : Nat} {d : D}, δ'[i]? = some (some d) → δ[i]? = some (some d) := by
  induction h with
  | nil => intro i d e; exact e
  | same _ ih =>
    intro i d e
    cases i with
    | zero => exact e
    | succ i => simp only [List.getElem?_cons_succ] at e ⊢; exact ih e
  | skip _ ih =>
    intro i d e
    cases i with
    | zero => simp at e
    | succ i => simp only [List.getElem?_cons_succ] at e ⊢; exact ih e
theorem Le.len {δ δ' : De} (h : Le δ δ') : δ'.length = δ.length := by
  induction h with
  | nil => rfl
  | same _ ih => simp [ih]
  | skip _ ih => simp [ih]
theorem Cfg.le {δ δ' : De} {μ : Mem} {σ : L2.St} {H : Hp} (c : Cfg δ μ σ H) (h : Le δ δ') : Cfg δ' μ σ H := ⟨by rw [h.len]; exact c.len, fun i d e => c.env i d (h.get e), c.cel, c.nd⟩
theorem sv_le {δ2 : De} (h : Sv X δ μ sts (.nx δ1 μ1)) (l : Le δ1 δ2) : Sv X δ μ sts (.nx δ2 μ1) := fun σ H D c q => h σ H D c fun σ' H' c' x => q σ' H' (c'.le l) x
theorem s1_le {δ2 : De} (h : S1 X δ μ st (.nx δ1 μ1)) (l : Le δ1 δ2) : S1 X δ μ st (.nx δ2 μ1) := fun σ H D c q => h σ H D c fun σ' H' c' x => q σ' H' (c'.le l) x
theorem sv_pre {δ' : De} (l : Le δ δ') (h : Sv X δ' μ sts o) : Sv X δ μ sts o := fun σ H D c q => h σ H D (c.le l) q
/-- an own object is no longer watched -/
theorem Cfg.dropHead {q : Addr × C} {σ : L2.St} {H : Hp} (c : Cfg δ (q :: μ) σ H) : Cfg δ μ σ H := ⟨c.len, c.env, fun p hp => c.cel p (List.mem_cons_of_mem _ hp), (List.nodup_cons.mp c.nd).2⟩
theorem sv_drop {q : Addr × C} (h : Sv X δ μ sts (.nx δ1 (q :: μ1))) : Sv X δ μ sts (.nx δ1 μ1) := fun σ H D c k => h σ H D c fun σ' H' c' x => k σ' H' c'.dropHead ⟨x.keep, fun a ha => x.new a (List.mem_cons_of_mem _ ha)⟩
theorem sv_is {o' : Out} (h : Sv X δ μ sts o) (e : o = o') : Sv X δ μ sts o' := e ▸ h
theorem s1_is {o' : Out} (h : S1 X δ μ st o) (e : o = o') : S1 X δ μ st o' := e ▸ h

/-- some state that P tells -/
theorem sv_ex {P : De → Mem → Prop} (h : Sv X δ μ sts (.nx δ1 μ1)) (hp : P δ1 μ1) : Sv X δ μ sts (.nxs P) := fun σ H D c q => h σ H D c fun σ' H' c' x => q δ1 μ1 σ' H' hp c' x
theorem sv_exs {P : De → Mem → Prop} (h1 : S1 X δ μ st (.nxs P)) (h2 : ∀ δ1 μ1, P δ1 μ1 → Sv X δ1 μ1 rest o) : Sv X δ μ (st :: rest) o :=
  sv_pss (pss_cons (ps_tw X st) (pss_tw X rest)) fun σ H D c q => h1 σ H _ c fun δ' μ' σ' H' hp c' x => h2 δ' μ' hp σ' H' D c' (okt q x)
/-- one's own objects in another order -/
theorem sv_pm {μ' : Mem} (hp : μ.Perm μ') (h : Sv X δ μ' sts o) : Sv X δ μ sts o := fun σ H D c q =>
  h σ H D ⟨c.len, c.env, fun p hq => c.cel p (hp.mem_iff.mpr hq), (hp.map (·.1)).nodup_iff.mp c.nd⟩ (okt q ⟨fun a o e _ => e, fun a ha => .inl ((hp.map (·.1)).mem_iff.mpr ha)⟩)
/-! small statements -/
theorem s_pass : S1 X δ μ (.Pass pos) (.nx δ μ) := s1_ps ps_pass fun σ H D c q => q σ H c (.of (Ex.refl H))
theorem s_ret (h : Ev X δ μ e d) (hs : List.Sublist μ1 μ := by first | exact List.nil_sublist _ | exact List.Sublist.refl _) : S1 X δ μ (.Return (some e) pos) (.rt d μ1) := s1_ps (ps_ret (pe_tw X e)) fun σ H D c q => h σ H _ c fun v H' ex r => q v H' r ((c.ex ex).celAll.sub hs) ((Xs.of ex).sub hs)
theorem s_set (i : Nat) {x : Str} {p' : Pos} (hN : X.N.Nodup) (he : Ev X δ μ e d) (hi : X.N[i]? = some x := by rfl) (hx : Loc X.env.scope x := by first | exact .inl rfl | exact .inr rfl)
    (hs : swapsWith e (some (.Name x p')) pos.line X.env = pure false := by rfl) (hf : X.fn x = true ∨ X.env.scope.names.lookup x = some .local := by first | exact .inl rfl | exact .inr rfl) : S1 X δ μ (.Assign [.Name x p'] e pos) (.nx (δ.set i (some d)) μ) :=
  s1_ps (ps_set hN hi hx (pe_tw X e) hs hf) fun σ H D c q => he σ H _ c fun v H' ex r => q _ H' ((c.ex ex).set r) (.of ex)
/-- a, b = x, y -/
theorem s_par {d1 d2 : D} {i j : Nat} {x y : Str} {px py pt : Pos} {kt k2 pt2} (hc : X.calm = true) (hN : X.N.Nodup) (ha : Ev X δ μ a d1) (hb : Ev X δ μ b d2) (hij : i ≠ j) (hi : X.N[i]? = some x := by rfl) (hj : X.N[j]? = some y := by rfl)
    (hx : X.env.scope.names.lookup x = some .local := by rfl) (hy : X.env.scope.names.lookup y = some .local := by rfl) (hw : swappedStores [.Tuple [.Name x px, .Name y py] kt pt] (.Tuple [a, b] k2 pt2) X.env = pure (some [x, y]) := by rfl)
    (hs : swapsWithSole [.Tuple [.Name x px, .Name y py] kt pt] (.Tuple [a, b] k2 pt2) pos.line X.env = pure false := by rfl)
    (he : starEach [a, b] X.env = (false, eval a X.env) :: starEach [b] X.env := by rfl) (he2 : starEach [b] X.env = (false, eval b X.env) :: starEach [] X.env := by rfl) :
    S1 X δ μ (.Assign [.Tuple [.Name x px, .Name y py] kt pt] (.Tuple [a, b] k2 pt2) pos) (.nx ((δ.set i (some d1)).set j (some d2)) μ) :=
  s1_ps (ps_par hc hN hi hj hij hx hy (pa_tw X [a, b]) hw hs) fun σ H D c q => ea_cons ha (ea_cons hb ea_nil he2) he σ H _ c fun vs H1 e1 r1 => by
    obtain ⟨v, ws, rfl, r, r2⟩ := r1
    obtain ⟨w, rfl, r3⟩ := r2.one
    exact ⟨v, w, rfl, q _ H1 (((c.ex e1).set r).set r3) (.of e1)⟩
/-- a, b = e, e a tuple of two -/
theorem s_two {d1 d2 : D} {i j : Nat} {x y : Str} {px py pt : Pos} {kt} (hc : X.calm = true) (hN : X.N.Nodup) (he : Ev X δ μ e (.tup [d1, d2])) (hi : X.N[i]? = some x := by rfl) (hj : X.N[j]? = some y := by rfl)
    (hx : Loc X.env.scope x := by first | exact .inl rfl | exact .inr rfl) (hy : Loc X.env.scope y := by first | exact .inl rfl | exact .inr rfl) (hf : X.fn x = true ∨ X.env.scope.names.lookup x = some .local := by first | exact .inl rfl | exact .inr rfl) (hf2 : X.fn y = true ∨ X.env.scope.names.lookup y = some .local := by first | exact .inl rfl | exact .inr rfl)
    (hs1 : (assignEach [.Name x px, .Name y py] X.env).map (·.2) = assign (.Name x px) X.env :: (assignEach [.Name y py] X.env).map (·.2) := by rfl) (hs2 : (assignEach [.Name y py] X.env).map (·.2) = assign (.Name y py) X.env :: (assignEach [] X.env).map (·.2) := by rfl)
    (hn : (assignEach [.Name x px, .Name y py] X.env).length = 2 := by rfl) (hst : (assignEach [.Name x px, .Name y py] X.env).findIdx? (·.1) = none := by rfl)
    (hs : swapsWithSole [.Tuple [.Name x px, .Name y py] kt pt] e pos.line X.env = pure false := by rfl) (hw : swappedStores [.Tuple [.Name x px, .Name y py] kt pt] e X.env = pure none := by rfl)
    (h1 : (assignEach [.Tuple [.Name x px, .Name y py] kt pt] X.env).map (·.2) = [assign (.Tuple [.Name x px, .Name y py] kt pt) X.env] := by rfl) :
    S1 X δ μ (.Assign [.Tuple [.Name x px, .Name y py] kt pt] e pos) (.nx ((δ.set i (some d1)).set j (some d2)) μ) :=
  s1_ps (ps_asg (pe_tw X e) (pg_tup hc (pgs_cons (pg_name hN hi hx hf) (pgs_cons (pg_name hN hj hy hf2) pgs_nil hs2) hs1) hn hst) hs hw h1) fun σ H D c q => he σ H _ c fun v H1 e1 r1 =>
    tg_two X.K i j d1 d2 δ μ v σ H1 _ (c.ex e1) r1 fun σ' c' _ _ => q σ' H1 c' (.of e1)
/-- x += e -/
theorem s_aug (i : Nat) {x : Str} {p' : Pos} {m n : Int} (hN : X.N.Nodup) (h0 : δ[i]? = some (some (.int m))) (he : Ev X δ μ e (.int n)) (hi : X.N[i]? = some x := by rfl) (hx : Loc X.env.scope x := by first | exact .inl rfl | exact .inr rfl)
    (hf : X.fn x = true ∨ X.env.scope.names.lookup x = some .local := by first | exact .inl rfl | exact .inr rfl) : S1 X δ μ (.AugAssign (.Name x p') .Add e pos) (.nx (δ.set i (some (.int (m + n)))) μ) :=
  s1_ps (ps_aug hN hi hx (pe_tw X e) ip_add hf) fun σ H D c q => by
    obtain ⟨v, h1, h2⟩ := c.get h0
    exact ⟨v, h1, he σ H _ c fun w H' ex r => ⟨m, n, h2, r, q _ H' ((c.ex ex).set (d := .int (m + n)) rfl) (.of ex)⟩⟩
theorem s_ifT {A B : List Stmt} (hc : EvT X δ μ c true) (h : Sv X δ μ A o) : S1 X δ μ (.If c A B pos) o :=
  s1_ps (ps_if (pt_tw X c) (pss_tw X A) (pss_tw X B)) fun σ H D g q => hc σ H _ g fun H1 e1 => by
    rw [if_pos rfl]; exact h σ H1 D (g.ex e1) (okt q (.of e1))
theorem s_ifF {A B : List Stmt} (hc : EvT X δ μ c false) (h : Sv X δ μ B o) : S1 X δ μ (.If c A B pos) o :=
  s1_ps (ps_if (pt_tw X c) (pss_tw X A) (pss_tw X B)) fun σ H D g q => hc σ H _ g fun H1 e1 => by
    rw [if_neg Bool.false_ne_true]; exact h σ H1 D (g.ex e1) (okt q (.of e1))
/-- both ways reach the same -/
theorem s_if {A B : List Stmt} {r : Bool} (hc : EvT X δ μ c r) (h1 : r = true → Sv X δ μ A o) (h2 : r = false → Sv X δ μ B o) : S1 X δ μ (.If c A B pos) o := by
  cases r with
  | true => exact s_ifT hc (h1 rfl)
  | false => exact s_ifF hc (h2 rfl)

/-! one's own lists -/
inductive Mup : Mem → Addr → C → C → Mem → Prop
  | here {l : Addr} {c c' : C} {μ : Mem} : Mup ((l, c) :: μ) l c c' ((l, c') :: μ)
  | there {l : Addr} {c c' : C} {μ μ' : Mem} {q : Addr × C} : Mup μ l c c' μ' → Mup (q :: μ) l c c' (q :: μ')
theorem Mup.mem {μ μ' : Mem} {l : Addr} {c c' : C} (h : Mup μ l c c' μ') : (l, c) ∈ μ := by
  induction h with
  | here => exact List.mem_cons_self
  | there _ ih => exact List.mem_cons_of_mem _ ih
theorem Mup.dm {μ μ' : Mem} {l : Addr} {c c' : C} (h : Mup μ l c c' μ') : dm μ' = dm μ := by
  induction h with
  | here => rfl
  | there _ ih => exact congrArg (_ :: ·) ih
theorem Mup.in' {μ μ' : Mem} {l : Addr} {c c' : C} (h : Mup μ l c c' μ') (nd : (μ.map (·.1)).Nodup) : ∀ p ∈ μ', p = (l, c') ∨ (p ∈ μ ∧ p.1 ≠ l) := by
  induction h with
  | here =>
    intro p hp
    rcases List.mem_cons.mp hp with e | hp
    · exact .inl e
    · refine .inr ⟨List.mem_cons_of_mem _ hp, fun z => ?_⟩
      exact (List.nodup_cons.mp nd).1 (by rw [← z]; exact List.mem_map_of_mem (f := (·.1)) hp)
  | @there l c c' μ μ' q h ih =>
    intro p hp
    have nd' := List.nodup_cons.mp nd
    rcases List.mem_cons.mp hp with e | hp
    · subst e
      refine .inr ⟨List.mem_cons_self, fun z => nd'.1 ?_⟩
      have e := List.mem_map_of_mem (f := (fun x : Addr × C => x.1)) h.mem
      show p.1 ∈ _
      rw [z]
      exact e
    · rcases ih nd'.2 p hp with z | ⟨z, z2⟩
      · exact .inl z
      · exact .inr ⟨List.mem_cons_of_mem _ z, z2⟩
/-- an own object is changed -/
theorem Cfg.mup {μ' : Mem} {σ : L2.St} {H : Hp} {l : Addr} {c c' : C} {u : HO} (g : Cfg δ μ σ H) (m : Mup μ l c c' μ') (r : RepC (upd H l u) l c') : Cfg δ μ' σ (upd H l u) ∧ Xs μ H μ' (upd H l u) ∧ Fz H (upd H l u) := by
  obtain ⟨o, ho, nf, _⟩ := (g.cel _ m.mem).some
  have f : Fz H (upd H l u) := Fz.upd fun w hw => by
    have ho' : H l = some o := ho
    rw [ho'] at hw; cases hw; exact nf
  refine ⟨⟨g.len, fun i d h => ?_, fun p hp => ?_, ?_⟩, ⟨fun a o' h hn => ?_, fun a h => .inl (by rw [← m.dm]; exact h)⟩, f⟩
  · obtain ⟨v, h1, h2⟩ := g.env i d h
    exact ⟨v, h1, Rep.mono f _ _ h2⟩
  · rcases m.in' g.nd p hp with rfl | ⟨h1, h2⟩
    · exact r
    · exact (g.cel p h1).keep f fun o' h => by rw [upd_ne h2]; exact h
  · have e : μ'.map (·.1) = μ.map (·.1) := m.dm
    rw [e]; exact g.nd
  · rw [upd_ne (fun z => hn (by rw [z]; exact List.mem_map_of_mem (f := (·.1)) m.mem))]
    exact h
theorem Cfg.new {σ : L2.St} {H : Hp} {l : Addr} {u : HO} {c : C} (g : Cfg δ μ σ H) (hl : H l = none) (r : RepC (upd H l u) l c) : Cfg δ ((l, c) :: μ) σ (upd H l u) ∧ Xs μ H ((l, c) :: μ) (upd H l u) := by
  have g' := g.ex (Ex.new (o := u) hl)
  refine ⟨⟨g'.len, g'.env, fun p hp => ?_, ?_⟩, ⟨fun a o h _ => Ex.new hl a o h, fun a ha => ?_⟩⟩
  · rcases List.mem_cons.mp hp with rfl | hp
    · exact r
    · exact g'.cel p hp
  · refine List.nodup_cons.mpr ⟨fun z => ?_, g.nd⟩
    obtain ⟨p, hp, e⟩ := List.mem_map.mp z
    obtain ⟨o, h, _⟩ := (g.cel p hp).some
    rw [e, hl] at h; cases h
  · rcases List.mem_cons.mp ha with e | ha
    · exact .inr (by rw [e]; exact hl)
    · exact .inl ha
/-- x = [a, b ..]: an own list -/
theorem sv_new (i : Nat) {x : Str} {p' : Pos} {ds : List D} (hN : X.N.Nodup) (he : EvA X δ μ es ds) (k : ∀ l, Sv X (δ.set i (some (.adr l))) ((l, .lst ds) :: μ) rest o) (hz : ds.length ≤ 100000 := by first | decide | exact Nat.le_of_ble_eq_true rfl) (hi : X.N[i]? = some x := by rfl) (hx : Loc X.env.scope x := by first | exact .inl rfl | exact .inr rfl)
    (hs : swapsWith (.List es p) (some (.Name x p')) pos.line X.env = pure false := by rfl) (hf : X.fn x = true ∨ X.env.scope.names.lookup x = some .local := by first | exact .inl rfl | exact .inr rfl) : Sv X δ μ (.Assign [.Name x p'] (.List es p) pos :: rest) o :=
  sv_pss (pss_cons (ps_set hN hi hx (pe_lst (pa_tw X es)) hs hf) (pss_tw X rest)) fun σ H D c q => he σ H _ c fun vs H1 e1 r1 => ⟨by rw [r1.len]; exact Nat.le_trans hz (by decide), fun l hl => by
    obtain ⟨g, x⟩ := (c.ex e1).new (c := .lst ds) hl ⟨vs, upd_same, r1.ex (Ex.new hl)⟩
    exact k l _ _ D (g.set (d := .adr l) rfl) (okt q ((Xs.of e1).trans x))⟩
/-- a, b = [..], e -/
theorem sv_parNew1 {d2 : D} {i j : Nat} {x y : Str} {px py pt pl : Pos} {kt k2 pt2} {ds : List D} (hc : X.calm = true) (hN : X.N.Nodup) (ha : EvA X δ μ es ds) (hb : Ev X δ μ b d2) (hij : i ≠ j) (k : ∀ l, Sv X ((δ.set i (some (.adr l))).set j (some d2)) ((l, .lst ds) :: μ) rest o) (hz : ds.length ≤ 100000 := by first | decide | exact Nat.le_of_ble_eq_true rfl)
    (hi : X.N[i]? = some x := by rfl) (hj : X.N[j]? = some y := by rfl)
    (hx : X.env.scope.names.lookup x = some .local := by rfl) (hy : X.env.scope.names.lookup y = some .local := by rfl) (hw : swappedStores [.Tuple [.Name x px, .Name y py] kt pt] (.Tuple [.List es pl, b] k2 pt2) X.env = pure (some [x, y]) := by rfl)
    (hs : swapsWithSole [.Tuple [.Name x px, .Name y py] kt pt] (.Tuple [.List es pl, b] k2 pt2) pos.line X.env = pure false := by rfl)
    (he : starEach [.List es pl, b] X.env = (false, eval (.List es pl) X.env) :: starEach [b] X.env := by rfl) (he2 : starEach [b] X.env = (false, eval b X.env) :: starEach [] X.env := by rfl) :
    Sv X δ μ (.Assign [.Tuple [.Name x px, .Name y py] kt pt] (.Tuple [.List es pl, b] k2 pt2) pos :: rest) o :=
  sv_pss (pss_cons (ps_par hc hN hi hj hij hx hy (pa_cons (pe_lst (pa_tw X es)) (pa_cons (pe_tw X b) pa_nil he2) he) hw hs) (pss_tw X rest)) fun σ H D c q => ha σ H _ c fun vs H1 e1 r1 => ⟨by rw [r1.len]; exact Nat.le_trans hz (by decide), fun l hl => by
    obtain ⟨g, xx⟩ := (c.ex e1).new (c := .lst ds) hl ⟨vs, upd_same, r1.ex (Ex.new hl)⟩
    refine hb σ _ _ (c.ex (e1.trans (Ex.new hl))) fun w H2 e2 r2 => ⟨_, w, rfl, ?_⟩
    exact k l _ _ D (((g.ex e2).set (d := .adr l) rfl).set r2) (okt q (((Xs.of e1).trans xx).trans (.of e2)))⟩
/-- a, b = e, [..] -/
theorem sv_parNew2 {d1 : D} {i j : Nat} {x y : Str} {px py pt pl : Pos} {kt k2 pt2} {ds : List D} (hc : X.calm = true) (hN : X.N.Nodup) (ha : Ev X δ μ a d1) (hb : EvA X δ μ es ds) (hij : i ≠ j) (k : ∀ l, Sv X ((δ.set i (some d1)).set j (some (.adr l))) ((l, .lst ds) :: μ) rest o) (hz : ds.length ≤ 100000 := by first | decide | exact Nat.le_of_ble_eq_true rfl)
    (hi : X.N[i]? = some x := by rfl) (hj : X.N[j]? = some y := by rfl)
    (hx : X.env.scope.names.lookup x = some .local := by rfl) (hy : X.env.scope.names.lookup y = some .local := by rfl) (hw : swappedStores [.Tuple [.Name x px, .Name y py] kt pt] (.Tuple [a, .List es pl] k2 pt2) X.env = pure (some [x, y]) := by rfl)
    (hs : swapsWithSole [.Tuple [.Name x px, .Name y py] kt pt] (.Tuple [a, .List es pl] k2 pt2) pos.line X.env = pure false := by rfl)
    (he : starEach [a, .List es pl] X.env = (false, eval a X.env) :: starEach [.List es pl] X.env := by rfl) (he2 : starEach [.List es pl] X.env = (false, eval (.List es pl) X.env) :: starEach [] X.env := by rfl) :
    Sv X δ μ (.Assign [.Tuple [.Name x px, .Name y py] kt pt] (.Tuple [a, .List es pl] k2 pt2) pos :: rest) o :=
  sv_pss (pss_cons (ps_par hc hN hi hj hij hx hy (pa_cons (pe_tw X a) (pa_cons (pe_lst (pa_tw X es)) pa_nil he2) he) hw hs) (pss_tw X rest)) fun σ H D c q => ha σ H _ c fun v H1 e1 r1 => hb σ H1 _ (c.ex e1) fun vs H2 e2 r2 => ⟨by rw [r2.len]; exact Nat.le_trans hz (by decide), fun l hl => by
    obtain ⟨g, xx⟩ := ((c.ex e1).ex e2).new (c := .lst ds) hl ⟨vs, upd_same, r2.ex (Ex.new hl)⟩
    exact ⟨v, _, rfl, k l _ _ D ((g.set (r1.ex (e2.trans (Ex.new hl)))).set (d := .adr l) rfl) (okt q ((Xs.of (e1.trans e2)).trans xx))⟩⟩
/-- a, b = [..], [..] -/
theorem sv_parNew12 {i j : Nat} {x y : Str} {px py pt pl pl2 : Pos} {kt k2 pt2} {fs : List Expr} {ds gs : List D} (hc : X.calm = true) (hN : X.N.Nodup) (ha : EvA X δ μ es ds) (hb : EvA X δ μ fs gs) (hij : i ≠ j)
    (k : ∀ l m, Sv X ((δ.set i (some (.adr l))).set j (some (.adr m))) ((m, .lst gs) :: (l, .lst ds) :: μ) rest o) (hz : ds.length ≤ 100000 := by first | decide | exact Nat.le_of_ble_eq_true rfl) (hz2 : gs.length ≤ 100000 := by first | decide | exact Nat.le_of_ble_eq_true rfl)
    (hi : X.N[i]? = some x := by rfl) (hj : X.N[j]? = some y := by rfl)
    (hx : X.env.scope.names.lookup x = some .local := by rfl) (hy : X.env.scope.names.lookup y = some .local := by rfl) (hw : swappedStores [.Tuple [.Name x px, .Name y py] kt pt] (.Tuple [.List es pl, .List fs pl2] k2 pt2) X.env = pure (some [x, y]) := by rfl)
    (hs : swapsWithSole [.Tuple [.Name x px, .Name y py] kt pt] (.Tuple [.List es pl, .List fs pl2] k2 pt2) pos.line X.env = pure false := by rfl)
    (he : starEach [.List es pl, .List fs pl2] X.env = (false, eval (.List es pl) X.env) :: starEach [.List fs pl2] X.env := by rfl) (he2 : starEach [.List fs pl2] X.env = (false, eval (.List fs pl2) X.env) :: starEach [] X.env := by rfl) :
    Sv X δ μ (.Assign [.Tuple [.Name x px, .Name y py] kt pt] (.Tuple [.List es pl, .List fs pl2] k2 pt2) pos :: rest) o :=
  sv_pss (pss_cons (ps_par hc hN hi hj hij hx hy (pa_cons (pe_lst (pa_tw X es)) (pa_cons (pe_lst (pa_tw X fs)) pa_nil he2) he) hw hs) (pss_tw X rest)) fun σ H D c q => ha σ H _ c fun vs H1 e1 r1 => ⟨by rw [r1.len]; exact Nat.le_trans hz (by decide), fun l hl => by
    obtain ⟨g, xx⟩ := (c.ex e1).new (c := .lst ds) hl ⟨vs, upd_same, r1.ex (Ex.new hl)⟩
    refine hb σ _ _ (c.ex (e1.trans (Ex.new hl))) fun ws H2 e2 r2 => ⟨by rw [r2.len]; exact Nat.le_trans hz2 (by decide), fun m hm => ?_⟩
    obtain ⟨g2, xx2⟩ := (g.ex e2).new (c := .lst gs) hm ⟨ws, upd_same, r2.ex (Ex.new hm)⟩
    exact ⟨_, _, rfl, k l m _ _ D ((g2.set (d := .adr l) rfl).set (d := .adr m) rfl) (okt q ((((Xs.of e1).trans xx).trans (.of e2)).trans xx2))⟩⟩
/-- l.append(e) -/
theorem s_app {l : Addr} {ds : List D} {μ' : Mem} {apos cpos : Pos} (ha : Ev X δ μ a (.adr l)) (m : Mup μ l (.lst ds) (.lst (ds ++ [d])) μ') (he : Ev X δ μ e d) (hz : ds.length < 100000)
    (h : ∀ (te : TE) (ta : TE), PE X a ta → PE X e te → PE X (.Call (.Attribute a "append" apos) [e] [] cpos) (tBM X.K "list" rAppend ta (tCons te tNil)))
    (hs : swapsWith (.Call (.Attribute a "append" apos) [e] [] cpos) none pos.line X.env = pure false := by rfl) : S1 X δ μ (.Expr (.Call (.Attribute a "append" apos) [e] [] cpos) pos) (.nx δ μ') :=
  s1_ps (ps_expr (h _ _ (pe_tw X a) (pe_tw X e)) hs) fun σ H D c q => ha σ H _ c fun u H1 e1 r1 => by
    obtain rfl : u = V.ref l := r1
    obtain ⟨vs0, hp0, _⟩ := (c.ex e1).cel _ m.mem
    refine ⟨.inl ⟨rfl, vs0, SqL.of hp0⟩, he σ H1 _ (c.ex e1) fun w H2 e2 r2 => ?_⟩
    obtain ⟨vs, hp, hr⟩ := ((c.ex e1).ex e2).cel _ m.mem
    refine ⟨l, vs, w, rfl, rfl, hp, by rw [hr.len]; exact Nat.lt_of_lt_of_le hz (by decide), ?_⟩
    have f2 : Fz H2 (upd H2 l (.lst (vs ++ [w]))) := Fz.upd fun o ho => by
      have hp' : H2 l = some (.lst vs) := hp
      rw [hp'] at ho; cases ho; exact fun z => z
    obtain ⟨g, x, f⟩ := ((c.ex e1).ex e2).mup (u := .lst (vs ++ [w])) m ⟨_, upd_same, RepL.mono f2 _ _ (hr.app (.cons r2 .nil))⟩
    exact q σ _ g ((Xs.of (e1.trans e2)).trans x)
/-- the def's end: an own list is handed back, frozen -/
theorem s_retA {l : Addr} {ds : List D} (ha : Ev X δ μ a (.adr l)) (hl : (l, C.lst ds) ∈ μ) : S1 X δ μ (.Return (some a) pos) (.rt (.lst ds) []) :=
  s1_ps (ps_ret (pe_fz (pe_tw X a))) fun σ H D c q => ha σ H _ c fun u H1 e1 r1 => by
    obtain rfl : u = V.ref l := r1
    obtain ⟨vs, hp, hr⟩ := (c.ex e1).cel _ hl
    have hp' : H1 l = some (.lst vs) := hp
    refine ⟨l, _, rfl, hp', trivial, fun od => ?_⟩
    have f2 : Fz H1 (upd H1 l (.frz od (.lst vs))) := Fz.upd fun o ho => by rw [hp'] at ho; cases ho; exact fun z => z
    refine q _ _ ⟨l, od, vs, rfl, upd_same, RepL.mono f2 _ _ hr⟩ ⟨(fun _ h => nomatch h), List.nodup_nil⟩ ⟨fun a o h hn => ?_, fun _ h => nomatch h⟩
    rw [upd_ne (fun z => hn (by rw [z]; exact List.mem_map_of_mem (f := (·.1)) hl))]
    exact e1 _ _ h

/-! loops -/
theorem s_while {n : Nat} (S : Nat → De) (M : Nat → Mem) {body : List Stmt} (hp : PassesOwn (model X.prog X.w) X.A X.env X.xe) (hc : ∀ i, i < n → EvT X (S i) (M i) c true) (hb : ∀ i, i < n → Sv X (S i) (M i) body (.nx (S (i + 1)) (M (i + 1))))
    (he : EvT X (S n) (M n) c false) : S1 X (S 0) (M 0) (.While c body [] pos) (.nx (S n) (M n)) :=
  s1_ps (ps_while hp (pt_tw X c) (pss_tw X body)) fun σ H D g q => by
    refine ⟨fun m σ' H' => ∃ i, i ≤ n ∧ m = n - i ∧ Cfg (S i) (M i) σ' H' ∧ Xs (M 0) H (M i) H', ⟨n, 0, Nat.zero_le _, rfl, g, .of (Ex.refl H)⟩, ?_⟩
    rintro m σ' H' ⟨i, hi, rfl, c', x⟩
    by_cases hlt : i < n
    · refine hc i hlt σ' H' _ c' fun H1 e1 => ?_
      rw [if_pos rfl]
      exact ⟨fun σ2 H2 => Cfg (S (i + 1)) (M (i + 1)) σ2 H2 ∧ Xs (M 0) H (M (i + 1)) H2, fun σ2 H2 ⟨a, b⟩ => ⟨n - (i + 1), by omega, i + 1, hlt, rfl, a, b⟩, hb i hlt σ' H1 _ (c'.ex e1) fun σ2 H2 c2 x2 => ⟨c2, (x.trans (.of e1)).trans x2⟩⟩
    · have e : i = n := by omega
      subst e
      refine he σ' H' _ c' fun H1 e1 => ?_
      rw [if_neg Bool.false_ne_true]
      exact q σ' H1 (c'.ex e1) (x.trans (.of e1))
/-- a while whose body hands back at turn n -/
theorem s_whileR {n : Nat} (S : Nat → De) (M : Nat → Mem) {body : List Stmt} (hp : PassesOwn (model X.prog X.w) X.A X.env X.xe) (hc : ∀ i, i ≤ n → EvT X (S i) (M i) c true) (hb : ∀ i, i < n → Sv X (S i) (M i) body (.nx (S (i + 1)) (M (i + 1))))
    (he : Sv X (S n) (M n) body (.rt d μ1)) : S1 X (S 0) (M 0) (.While c body [] pos) (.rt d μ1) :=
  s1_ps (ps_while hp (pt_tw X c) (pss_tw X body)) fun σ H D g q => by
    refine ⟨fun m σ' H' => ∃ i, i ≤ n ∧ m = n - i ∧ Cfg (S i) (M i) σ' H' ∧ Xs (M 0) H (M i) H', ⟨n, 0, Nat.zero_le _, rfl, g, .of (Ex.refl H)⟩, ?_⟩
    rintro m σ' H' ⟨i, hi, rfl, c', x⟩
    refine hc i hi σ' H' _ c' fun H1 e1 => ?_
    rw [if_pos rfl]
    by_cases hlt : i < n
    · exact ⟨fun σ2 H2 => Cfg (S (i + 1)) (M (i + 1)) σ2 H2 ∧ Xs (M 0) H (M (i + 1)) H2, fun σ2 H2 ⟨a, b⟩ => ⟨n - (i + 1), by omega, i + 1, hlt, rfl, a, b⟩, hb i hlt σ' H1 _ (c'.ex e1) fun σ2 H2 c2 x2 => ⟨c2, (x.trans (.of e1)).trans x2⟩⟩
    · have e : i = n := by omega
      subst e
      exact ⟨fun _ _ => False, fun _ _ z => z.elim, he σ' H1 _ (c'.ex e1) fun v H2 r cc x2 => q v H2 r cc ((x.trans (.of e1)).trans x2)⟩
/-- for: S i, M i behind i turns; n turns are gone through, then either the things are at an end or the body hands back (or breaks) -/
theorem s_forG {α : Type} {xs : List α} {enc : α → D} {tg iter : Expr} {body : List Stmt} {gt : TG} {f : α → De → De} {sl : List Nat} (S : Nat → De) (M : Nat → Mem) (n : Nat) (hp : PassesOwn (model X.prog X.w) X.A X.env X.xe) (hc : X.calm = true)
    (hi : EvI X (S 0) (M 0) tg iter (xs.map enc)) (hg : PG X tg gt) (hT : ∀ x ∈ xs, TgOk gt (enc x) (f x) sl) (hb : ∀ i x, i < n → xs[i]? = some x → Sv X (f x (S i)) (M i) body (.nx (S (i + 1)) (M (i + 1))))
    (hn : n ≤ xs.length) (he : (n = xs.length ∧ o = .nx (S n) (M n)) ∨ ∃ x, xs[n]? = some x ∧ ((∃ d μ1, o = .rt d μ1 ∧ Sv X (f x (S n)) (M n) body (.rt d μ1)) ∨ ∃ δ' μ', o = .nx δ' μ' ∧ Sv X (f x (S n)) (M n) body (.bk δ' μ')))
    (hs : ∀ x, foldedSetIterable iter X.env x = pure x := by intro _; rfl) : S1 X (S 0) (M 0) (.For tg iter body [] pos) o :=
  s1_ps (ps_for hp hc (pi_tI X tg iter) hg (pss_tw X body) hs) fun σ H D g q => hi σ H _ g fun J H1 e1 gd hz => by
    refine ⟨fun i m σ' H' => i ≤ n ∧ m = n - i ∧ Cfg (S i) (M i) σ' H' ∧ Xs (M 0) H1 (M i) H', ⟨n, Nat.zero_le _, rfl, g.ex e1, .of (Ex.refl H1)⟩, ?_⟩
    rintro i m σ' H' ⟨hin, rfl, c', x⟩
    have q1 := okt q (Xs.of (μ := M 0) e1)
    have fz : Fz H1 H' := x.fz (g.ex e1)
    by_cases hlt : i < n
    · obtain ⟨y, hy⟩ : ∃ y, xs[i]? = some y := ⟨xs[i]'(by omega), List.getElem?_eq_getElem (by omega)⟩
      obtain ⟨h1, h2⟩ := gd.go H' i (enc y) fz (by rw [List.getElem?_map, hy]; rfl)
      refine .inr ⟨h1, fun σ2 H2 => Cfg (S (i + 1)) (M (i + 1)) σ2 H2 ∧ Xs (M 0) H1 (M (i + 1)) H2, fun σ2 H2 ⟨a, b⟩ => ⟨n - (i + 1), by omega, hlt, rfl, a, b⟩, fun v H2 w => ?_⟩
      obtain ⟨e2, rv⟩ := h2 v H2 w
      exact hT y (List.mem_of_getElem? hy) _ _ v σ' H2 _ (c'.ex e2) rv fun σ2 c2 _ _ => hb i y hlt hy σ2 H2 _ c2 fun σ3 H3 c3 x3 => ⟨c3, (x.trans (.of e2)).trans x3⟩
    · have e : i = n := by omega
      subst e
      rcases he with ⟨hl, rfl⟩ | ⟨y, hy, he⟩
      · exact .inl ⟨gd.stop H' _ fz (by rw [List.length_map]; omega), q1 σ' H' c' x⟩
      · obtain ⟨h1, h2⟩ := gd.go H' i (enc y) fz (by rw [List.getElem?_map, hy]; rfl)
        refine .inr ⟨h1, fun _ _ => False, fun _ _ z => z.elim, fun v H2 w => ?_⟩
        obtain ⟨e2, rv⟩ := h2 v H2 w
        refine hT y (List.mem_of_getElem? hy) _ _ v σ' H2 _ (c'.ex e2) rv fun σ2 c2 _ _ => ?_
        rcases he with ⟨d, μ1, rfl, hb'⟩ | ⟨δ', μ', rfl, hb'⟩
        · exact hb' σ2 H2 _ c2 fun w H3 r cc x3 => q1 w H3 r cc ((x.trans (.of e2)).trans x3)
        · exact hb' σ2 H2 _ c2 fun σ3 H3 c3 x3 => q1 σ3 H3 c3 ((x.trans (.of e2)).trans x3)
/-- for to its end -/
theorem s_for {α : Type} {xs : List α} {enc : α → D} {tg iter : Expr} {body : List Stmt} {gt : TG} {f : α → De → De} {sl : List Nat} (S : Nat → De) (M : Nat → Mem) (hp : PassesOwn (model X.prog X.w) X.A X.env X.xe) (hc : X.calm = true)
    (hi : EvI X (S 0) (M 0) tg iter (xs.map enc)) (hg : PG X tg gt) (hT : ∀ x ∈ xs, TgOk gt (enc x) (f x) sl) (hb : ∀ i x, xs[i]? = some x → Sv X (f x (S i)) (M i) body (.nx (S (i + 1)) (M (i + 1))))
    (hs : ∀ x, foldedSetIterable iter X.env x = pure x := by intro _; rfl) : S1 X (S 0) (M 0) (.For tg iter body [] pos) (.nx (S xs.length) (M xs.length)) :=
  s_forG S M xs.length hp hc hi hg hT (fun i x _ hx => hb i x hx) (Nat.le_refl _) (.inl ⟨rfl, rfl⟩) hs

/-- for to its end, over states that P tells -/
theorem s_forE {α : Type} {xs : List α} {enc : α → D} {tg iter : Expr} {body : List Stmt} {gt : TG} {f : α → De → De} {sl : List Nat} (P : Nat → De → Mem → Prop) (hp : PassesOwn (model X.prog X.w) X.A X.env X.xe) (hc : X.calm = true)
    (hi : EvI X δ μ tg iter (xs.map enc)) (h0 : P 0 δ μ) (hg : PG X tg gt) (hT : ∀ x ∈ xs, TgOk gt (enc x) (f x) sl) (hb : ∀ i x δ' μ', xs[i]? = some x → P i δ' μ' → Sv X (f x δ') μ' body (.nxs (P (i + 1))))
    (hs : ∀ x, foldedSetIterable iter X.env x = pure x := by intro _; rfl) : S1 X δ μ (.For tg iter body [] pos) (.nxs (P xs.length)) :=
  s1_ps (ps_for hp hc (pi_tI X tg iter) hg (pss_tw X body) hs) fun σ H D g q => hi σ H _ g fun J H1 e1 gd hz => by
    refine ⟨fun i m σ' H' => i ≤ xs.length ∧ m = xs.length - i ∧ ∃ δ' μ', P i δ' μ' ∧ Cfg δ' μ' σ' H' ∧ Xs μ H1 μ' H', ⟨xs.length, Nat.zero_le _, rfl, δ, μ, h0, g.ex e1, .of (Ex.refl H1)⟩, ?_⟩
    rintro i m σ' H' ⟨hin, rfl, δ', μ', hP, c', x⟩
    have fz : Fz H1 H' := x.fz (g.ex e1)
    by_cases hlt : i < xs.length
    · obtain ⟨y, hy⟩ : ∃ y, xs[i]? = some y := ⟨xs[i], List.getElem?_eq_getElem hlt⟩
      obtain ⟨h1, h2⟩ := gd.go H' i (enc y) fz (by rw [List.getElem?_map, hy]; rfl)
      refine .inr ⟨h1, fun σ2 H2 => ∃ δ2 μ2, P (i + 1) δ2 μ2 ∧ Cfg δ2 μ2 σ2 H2 ∧ Xs μ H1 μ2 H2, fun σ2 H2 a => ⟨xs.length - (i + 1), by omega, hlt, rfl, a⟩, fun v H2 w => ?_⟩
      obtain ⟨e2, rv⟩ := h2 v H2 w
      exact hT y (List.mem_of_getElem? hy) _ _ v σ' H2 _ (c'.ex e2) rv fun σ2 c2 _ _ => hb i y _ _ hy hP σ2 H2 _ c2 fun δ3 μ3 σ3 H3 hP3 c3 x3 => ⟨δ3, μ3, hP3, c3, (x.trans (.of e2)).trans x3⟩
    · have e : i = xs.length := by omega
      subst e
      exact .inl ⟨gd.stop H' _ fz (by rw [List.length_map]; exact Nat.le_refl _), q δ' μ' σ' H' hP c' ((Xs.of e1).trans x)⟩
/-! defs -/
/-- the promise of a def over data: R arguments result -/
def spR (R : List D → D → Prop) : Sp := fun vs H Q _ => ∃ ds d, R ds d ∧ RepL H ds vs ∧ ∀ v H', Ex H H' → Rep H' d v → Q v H'
structure Cal (P : Program) (w : World) (K : PySem.W.Frag) (mg : Str → Option Value) (base : Heap) (k : Nat) (x : Str) (ps : List Str) (sp : Sp) : Prop where
  ex : ∃ f fd, FnOk P w K mg base CX0 k f fd ps sp ∧ mg x = some (.ref f) ∧ PySem.W.keepIn K (.ref f) = true ∧ Binds K fd ps []
theorem ev_call {R : List D → D → Prop} {k : Nat} {x : Str} {ps : List Str} {ds : List D} (F : Cal X.prog X.w X.K X.mg X.base k x ps (spR R)) (hr : Room k X.A) (ha : EvA X δ μ (e :: es) ds) (h : R ds d) (hg : Gl X x := by rfl)
    (hdb : (x == ("__debug__" : Str)) = false := by decide) (he : starEach (e :: es) X.env = (false, eval e X.env) :: starEach es X.env := by rfl) (hpl : (backTo pos (starEach es X.env)).any (·.1) = false := by rfl) : Ev X δ μ (.Call (.Name x p) (e :: es) [] pos) d := by
  obtain ⟨f, fd, F, hm, hk, hb⟩ := F.ex
  exact ev_pe (pe_call F hr hg hm hk hb .nil (pass0) (pa_tw X _) hdb he hpl) fun σ H Q c q => ha σ H _ c fun vs H1 e1 r1 => by
    show spR R (vs ++ []) H1 Q E0
    rw [List.append_nil]
    exact ⟨ds, d, h, r1, fun v H2 e2 r2 => q v H2 (e1.trans e2) r2⟩
def init (N : List Str) (ds : List D) : De := ds.map some ++ List.replicate (N.length - ds.length) none
theorem cfg_start {N : List Str} {ds : List D} {vs : List V} {H : Hp} (h : RepL H ds vs) : Cfg (init N ds) [] (L2.start N vs) H := by
  have hl := h.len
  refine ⟨by unfold init L2.start; simp [hl], fun i d e => ?_, fun p hp => (nomatch hp), List.nodup_nil⟩
  unfold init at e
  by_cases hi : i < ds.length
  · rw [List.getElem?_append_left (by simpa using hi), List.getElem?_map] at e
    cases q : ds[i]? with
    | none => rw [q] at e; cases e
    | some d' =>
      rw [q] at e
      have e' : d' = d := Option.some.inj (Option.some.inj e)
      subst e'
      obtain ⟨v, hv, r⟩ := h.get q
      refine ⟨v, ?_, r⟩
      unfold L2.start
      rw [List.getElem?_append_left (by rw [List.length_map, hl]; exact hi), List.getElem?_map, hv]
      rfl
  · rw [List.getElem?_append_right (by simpa using Nat.le_of_not_lt hi), List.getElem?_replicate] at e
    split at e <;> cases e
abbrev FnP (K : PySem.W.Frag) (x : Str) (st : Stmt) (f : Addr) (fd : FuncData) : Prop := FunD K x x (defArgs st) (defBody st) (defScope st) [] [] f fd
/-- the context of a body from which nothing is raised -/
abbrev cx0 (P : Program) (w : World) (K : PySem.W.Frag) (mg : Str → Option Value) (base : Heap) (N : List Str) (qual : Str) (scope : Scope) (f : Addr) (cd : Value) (A : Around) (outer : List Env) (s : Shared) (H : Hp) (E : XK) : Cx := (cxOf CX0 P w K mg base N qual scope f cd A outer s H E).nox
theorem fn_R {P : Program} {w : World} {K : PySem.W.Frag} {mg : Str → Option Value} {base : Heap} {x : Str} {st : Stmt} {f : Addr} {fd : FuncData} {N ps : List Str} {k : Nat} {R : List D → D → Prop} (F : FnP K x st f fd) (g : mg x = some (.ref f)) (S : FnScope N ps (defScope st)) (hl : ∀ ds d, R ds d → ds.length = ps.length)
    (hbd : ∀ (kV doc pm : Value) (an : Option Addr) (cdv ct : Value) (us : List Value), us.length = ps.length → bindArgs (PySem.W.fnOf x x (defArgs st) (defBody st) (defScope st) .none kV doc pm an cdv ct) ⟨us, []⟩ = pure (ps.zip us))
    (hb : ∀ (cdv : Value) (A : Around) (outer : List Env) (s : Shared) (H : Hp) (E : XK), Room k (A.deeper (envOfC x (defScope st) s.heap.objs.size f cdv)) → ∀ ds d, R ds d → Sv (cx0 P w K mg base N x (defScope st) f cdv A outer s H E) (init N ds) [] (defBody st) (.rt d [])) :
    Cal P w K mg base (k + 1) x ps (spR R) := by
  refine ⟨f, fd, ?_, g, F.kp, F.bindsN hbd⟩
  refine F.ok S (fun vs H Q E h => ?_) fun cdv A outer s H vs Q E hr h => ?_
  · obtain ⟨ds, d, h1, h2, _⟩ := h
    rw [h2.len]; exact hl ds d h1
  · obtain ⟨ds, d, h1, h2, h3⟩ := h
    refine ⟨_, PSs.nox (pss_tw _ _), hb cdv A outer s H E hr ds d h1 _ H _ (cfg_start h2) fun v H' r _ x => h3 v H' (fun a o e => x.keep a o e (fun z => nomatch z)) r⟩
end
end Bx
end

-- part BxF
section
set_option Elab.async false
set_option linter.all false
set_option maxRecDepth 100000
set_option maxHeartbeats 4000000
/-! Boxparts, part F: stars in displays, enumerate and sum of a tuple, two-clause comprehensions, name = [..]. -/
namespace Bx
open PySem PySem.Spec PyProof.Rows L2
section
variable {X : Cx} {δ : De} {μ : Mem} {e a b c : Expr} {es : List Expr} {p pos : Pos} {d : D}
theorem ea_starT {ds fs : List D} (h : Ev X δ μ e (.tup fs)) (k : EvA X δ μ es ds) (hs : starEach (.Starred e p :: es) X.env = (true, eval e X.env) :: starEach es X.env := by rfl) : EvA X δ μ (.Starred e p :: es) (fs ++ ds) :=
  eva_pa (StX.pa_star (pe_tw X e) (pa_tw X es) hs) fun σ H Q c q => h σ H _ c fun v H1 e1 r1 => by
    obtain ⟨l, vs, rfl, hl, hr⟩ := r1
    exact ⟨l, vs, rfl, .inl (SqT.of hl), k σ H1 _ (c.ex e1) fun ws H2 e2 r2 => q _ H2 (e1.trans e2) ((hr.ex e2).app r2)⟩
theorem ea_starL {ds fs : List D} (h : Ev X δ μ e (.lst fs)) (k : EvA X δ μ es ds) (hs : starEach (.Starred e p :: es) X.env = (true, eval e X.env) :: starEach es X.env := by rfl) : EvA X δ μ (.Starred e p :: es) (fs ++ ds) :=
  eva_pa (StX.pa_star (pe_tw X e) (pa_tw X es) hs) fun σ H Q c q => h σ H _ c fun v H1 e1 r1 => by
    obtain ⟨l, o, vs, rfl, hl, hr⟩ := r1
    exact ⟨l, vs, rfl, .inr (.inl (.inr ⟨o, hl⟩)), k σ H1 _ (c.ex e1) fun ws H2 e2 r2 => q _ H2 (e1.trans e2) ((hr.ex e2).app r2)⟩
end
/-! ### enumerate of a tuple -/
theorem meets_enumerate_newT (l : Addr) (items : Array Value) (n : Nat) (dct : Option Addr) (sl : Array (Option Value)) :
    Meets (Builtin.«enumerate.__new__» ⟨[.type "enumerate", .ref l], []⟩) (fun _ R s => s.heap.get? l = some { cls := .type "tuple", dict := dct, data := .seq items n, slots := sl } ∧
      R (.ok (.ret (.ref (s.heap.push { cls := .type "tuple_iterator", data := .fields #[.ref l, .int 0 0] }).objs.size)))
        { s with heap := (s.heap.push { cls := .type "tuple_iterator", data := .fields #[.ref l, .int 0 0] }).push { cls := .type "enumerate", data := .fields #[.none, .bool false, .ref s.heap.objs.size, rawInt 0, .none, .none] } }) :=
  .of_wp fun prog w A R s h => by
    obtain ⟨hp, g, d, tk, os⟩ := s; obtain ⟨hl, h⟩ := h
    have hsub := sub_enumerate
    have hL : Heap.IsTuple (Shared.heap ⟨hp, g, d, tk, os⟩) l items := ⟨_, hl, rfl, n, rfl⟩
    wp_walk using AutoSeq1.wpAny_loadPart' hl
    refine wpAny_stack_any fun st => wpAny_pure ?_
    split
    · rename_i c _ _ _ _ _
      cases (c == Value.type "enumerate")
      · wp_walk using AutoSeq1.wpAny_loadPart' hl, wpAny_pyIter_tuple hL
        exact ⟨_, rfl, h⟩
      · wp_walk using AutoSeq1.wpAny_loadPart' hl, wpAny_pyIter_tuple hL
        exact ⟨_, rfl, h⟩
    · wp_walk using AutoSeq1.wpAny_loadPart' hl, wpAny_pyIter_tuple hL
      exact ⟨_, rfl, h⟩
section
variable {prog : Program} {w : World} {A : Around} {E : Value → Shared → Prop} {s : Shared}
theorem call_enumerate_tuple {l : Addr} {items : Array Value} {Q : Value → Shared → Prop} (hL : s.heap.IsTuple l items)
    (h : ∀ h', IsEnum h' (s.heap.objs.size + 1) s.heap.objs.size 0 .none → h'.IsTupleIter s.heap.objs.size l 0 → h'.objs.size = s.heap.objs.size + 2 →
      (∀ b o, s.heap.get? b = some o → h'.get? b = some o) → Q (.ref (s.heap.objs.size + 1)) { s with heap := h' }) :
    wpAny (model prog w) A (call (.type "enumerate") [.ref l]) Q E s := by
  obtain ⟨⟨c, dct, dt, sl⟩, hl, hc, n, hd⟩ := hL
  replace hc : c = .type "tuple" := hc
  replace hd : dt = .seq items n := hd
  subst hc hd
  refine callType_new F.called_enumerate (by decide) (F.typeCall_enumerate_1 _) (F.newCall_enumerate_1 _) (fun obj => F.args_object_init_2 obj _) F.entry_enumerate_new
    (meets_enumerate_newT l items n dct sl) ⟨hl, ?_⟩
  have hz : (s.heap.push { cls := .type "tuple_iterator", data := .fields #[.ref l, .int 0 0] }).objs.size = s.heap.objs.size + 1 := Heap.size_push ..
  show _ ∧ _
  rw [hz]
  have he : IsEnum ((s.heap.push { cls := .type "tuple_iterator", data := .fields #[.ref l, .int 0 0] }).push
      { cls := .type "enumerate", data := .fields #[.none, .bool false, .ref s.heap.objs.size, rawInt 0, .none, .none] }) (s.heap.objs.size + 1) s.heap.objs.size 0 .none := by
    have := Heap.get?_push_size (s.heap.push { cls := .type "tuple_iterator", data := .fields #[.ref l, .int 0 0] })
      (o := { cls := .type "enumerate", data := .fields #[.none, .bool false, .ref s.heap.objs.size, rawInt 0, .none, .none] }) rfl
    rw [hz] at this; exact this
  refine ⟨⟨_, he, rfl⟩, h _ he ⟨_, Heap.get?_push_of_some _ (Heap.get?_push_size _ rfl), rfl, rfl⟩ (by rw [Heap.size_push, hz]) fun b o y => Heap.get?_push_of_some _ (Heap.get?_push_of_some _ y)⟩
end
def IteT (K : PySem.W.Frag) (a : Addr) : It :=
  ⟨fun i H => ∃ (xs : List V) (x : V), SqT K H a xs ∧ xs[i]? = some x, fun i H v H' => ∃ T x, v = .ref T ∧ H T = none ∧ H' = upd H T (.tup [.int (i : Nat), x]) ∧ ∀ xs, SqT K H a xs → xs[i]? = some x, fun i H => ∃ xs : List V, SqT K H a xs ∧ xs.length ≤ i⟩
theorem turn_enumT {P : Program} {w : World} {K : PySem.W.Frag} {elts : List Expr} {kk : Nat} {tpos : Pos} (a e it : Addr) (hae : a ≠ e) (hai : a ≠ it) :
    Turn P w K (.Tuple elts kk tpos) (IteT K a) [e, it] e (fun i h => (∃ old, IsEnum h e it ((i : Nat) : Int) old) ∧ h.IsTupleIter it a i ∧ e ≠ it) where
  mem := by simp
  obj := fun i h st b hb => by
    obtain ⟨⟨old, he⟩, ⟨o, ho, hc, hd⟩, _⟩ := st
    have e' : b = e ∨ b = it := by simpa using hb
    rcases e' with z | z
    · rw [z]; exact ⟨_, he, fun v q => nomatch q⟩
    · rw [z]; exact ⟨o, ho, fun v q => by rw [hd] at q; cases q⟩
  keep := fun i h h' st k => let ⟨⟨old, he⟩, hi, hne⟩ := st; ⟨⟨old, k e (by simp) _ he⟩, hi.at fun o q => k it (by simp) o q, hne⟩
  item := by
    intro X hP hw hK hc i pins s σ H E I hf st hg
    subst hP hw hK
    obtain ⟨⟨old, he⟩, hit, hne⟩ := st
    obtain ⟨xs, x, hq, hx⟩ := hg
    obtain ⟨its, rv, p, hz⟩ := I.tuple hq
    obtain ⟨u, hu, ru⟩ := rv.get hx
    have hel : e < s.heap.objs.size := Heap.lt_size he
    have hil : it < s.heap.objs.size := by obtain ⟨_, q, _⟩ := hit; exact Heap.lt_size q
    have hu' : its.toArray[i]? = some u := by simpa using hu
    have hlt : i < its.toArray.size := (Array.getElem?_eq_some_iff.mp hu').1
    refine wpAny_pyNext_enum_itemD (Draws.tuple (A := X.A.in1) (I.ok.hd hc) it a hai its.toArray) he ⟨hit, p⟩ hlt hne (by simp [hne, Ne.symm hae]) fun y h' tk hy ho hit' hT hsz hk => ?_
    obtain rfl : u = y := Option.some.inj (hu'.symm.trans hy)
    refine ⟨_, rfl, wpAny_letOwnedTupleGo_enum (s := { s with heap := h', toks := tk + 1 }) ho fun h'' he' sb => ?_⟩
    have hT2 : h''.get? s.heap.objs.size = some { cls := .type "tuple", data := .seq #[.int i tk, u] } := (sb.2 _ (Nat.ne_of_gt hel)).trans hT
    have new : ObjOk X.prog X.w (upd H s.heap.objs.size (.tup [.int (i : Nat), x])) h'' s.heap.objs.size (.tup [.int (i : Nat), x]) :=
      ⟨by show 2 ≤ sizeLine; decide, [.int i tk, u], .cons ⟨_, rfl⟩ (.cons ru .nil), ⟨_, hT2, rfl, _, rfl⟩⟩
    have I1 : Inv X pins σ (upd H s.heap.objs.size (.tup [.int (i : Nat), x])) { s with heap := h'', toks := tk + 1 } :=
      I.turnedNew (ch := [e, it]) (fun b ob hb q => (sb.2 b (fun z => hb (by simp [z]))).trans (hk b ob (fun z => hb (by simp [z])) (fun z => hb (by simp [z])) q)) hf (Nat.le_refl _) new
    refine ⟨.ref s.heap.objs.size, _, I1, rfl, ⟨_, x, rfl, I.hok.fresh (Nat.le_refl _), rfl, fun ys hy => by rw [I.tuple_inj hy hq]; exact hx⟩, ⟨⟨u, ?_⟩, hit'.1.at fun o q => (sb.2 it (Ne.symm hne)).trans q, hne⟩, fun b hb => ?_⟩
    · have e1 : ((i + 1 : Nat) : Int) = (i : Int) + 1 := by omega
      rw [e1]; exact he'
    · have hb' : b < s.heap.objs.size := by
        have e' : b = e ∨ b = it := by simpa using hb
        rcases e' with z | z
        · rw [z]; exact hel
        · rw [z]; exact hil
      rw [upd_ne (Nat.ne_of_lt hb')]
      exact (hf b hb).1
  done := by
    intro X hP hw hK hc i pins s σ H E I hf st hg
    subst hP hw hK
    obtain ⟨⟨old, he⟩, hit, hne⟩ := st
    obtain ⟨xs, hq, hx⟩ := hg
    obtain ⟨its, rv, p, hz⟩ := I.tuple hq
    obtain ⟨f0, f1, f2, f3, f4, f5⟩ := hf it (by simp)
    have hl := rv.length
    have hT : s.TypeIs (.ref e) "enumerate" := ⟨_, he, rfl⟩
    unfold pyNext
    refine wpAny_bind (wpAny_attempt (wpAny_callSpecial?_slot (name := Str.ofString "__next__") hT F.slot_enumerate_next
      (wpAny_call_entry F.slot_enumerate_next hT F.entry_enumerate_next ?_ (F.args_enumerate_next_1 _))))
    show wpAny _ _ (field (.ref e) 2 >>= _) _ _ _
    refine wpAny_bind (wpAny_field he rfl (x := .ref it) rfl ?_)
    refine wpAny_bind (wpAny_nextOf_tuple_end (I.ok.hd hc) hit p (by simp; omega) fun h' x he' hx' => ?_)
    obtain ⟨o, ho, hc'⟩ := hx'
    refine wpAny_bind (wpAny_isInstance (T := "StopIteration") (b := true) ⟨o, ho, hc'⟩ isSubtype_stop ?_)
    exact wpAny_pure ⟨rfl, I.turned (t' := s.toks) (fun b o hb q => he' b o hb q) f0 f1 f3 f4 f5⟩
  self := fun A i s Q E st h => let ⟨⟨_, he⟩, _⟩ := st; wpAny_pyIter_enum he h
def iEnumT (K : PySem.W.Frag) (ta : TA) : TI := fun σ H R => ta σ H fun vs H1 => ∃ a xs, vs = [.ref a] ∧ SqT K H1 a xs ∧ R (IteT K a) H1
theorem pi_enumT {X : Cx} {e : Expr} {ta : TA} {p pos tpos : Pos} {elts : List Expr} {kk : Nat} (hg : Gl X "enumerate") (hm : X.mg "enumerate" = none) (ha : PA X [e] ta) (hs : starEach [e] X.env = [(false, eval e X.env)] := by rfl) :
    PI X (.Tuple elts kk tpos) (.Call (.Name "enumerate" p) [e] [] pos) (iEnumT X.K ta) := by
  refine ⟨fun pins s σ H R I h => ?_⟩
  refine Call_ (ld_blt I hg hm boot_enumerate (PyProof.Rows.callWith_type1 (thn (ha.run pos pins s σ H _ I h) fun us s1 ⟨vs, H1, I1, r1, q1⟩ => ?_) hs rfl))
  obtain ⟨a, xs, ex, hq, q⟩ := q1
  subst ex
  cases r1 with
  | cons r rr =>
    cases rr
    cases r
    obtain ⟨its, rv, p', hz⟩ := I1.tuple hq
    have hal : a < s1.heap.objs.size := p'.lt
    refine call_enumerate_tuple (show s1.heap.IsTuple a its.toArray from p') fun h' he hit hsz hk => wpAny_pyIter_enum he ?_
    have I2 : Inv X pins σ H1 { s1 with heap := h' } := I1.kept (t' := s1.toks) hk
    refine ⟨s1.heap.objs.size + 1, [s1.heap.objs.size + 1, s1.heap.objs.size], _, _, H1, rfl, I2, turn_enumT a (s1.heap.objs.size + 1) s1.heap.objs.size (Nat.ne_of_lt (Nat.lt_succ_of_lt hal)) (Nat.ne_of_lt hal), ⟨⟨.none, he⟩, hit, Nat.succ_ne_self _⟩, fun b hb => ?_, q⟩
    have e' : b = s1.heap.objs.size + 1 ∨ b = s1.heap.objs.size := by simpa using hb
    have hle : s1.heap.objs.size ≤ b := by
      rcases e' with z | z
      · rw [z]; exact Nat.le_add_right _ _
      · rw [z]; exact Nat.le_refl _
    exact I1.fpOk hle (I1.hok.fresh hle)
section
variable {X : Cx} {δ : De} {μ : Mem} {e a b c : Expr} {es : List Expr} {p pos : Pos} {d : D}
/-- the pairs (place, item) -/
def enumD (ds : List D) : List D := (List.range ds.length).map fun i => .tup [.int (i : Nat), ds.getD i .non]
theorem ei_enumT {elts : List Expr} {kk : Nat} {tpos : Pos} {ds : List D} (B : Bi X.mg) (h : Ev X δ μ a (.tup ds)) (hg : Gl X "enumerate" := by rfl) (he : starEach [a] X.env = (false, eval a X.env) :: starEach [] X.env := by rfl) (hs : starEach [a] X.env = [(false, eval a X.env)] := by rfl) :
    EvI X δ μ (.Tuple elts kk tpos) (.Call (.Name "enumerate" p) [a] [] pos) (enumD ds) :=
  ei_pi (pi_enumT hg B.enumerate (pa_tw X [a]) hs) fun σ H R c q => ea_cons h ea_nil he σ H _ c fun vs H1 e1 r1 => by
    obtain ⟨v, rfl, hv⟩ := r1.one
    obtain ⟨l, xs, rfl, hl, hr⟩ := hv
    refine ⟨l, xs, rfl, SqT.of hl, q _ _ e1 ⟨fun H i d f hd => ?_, fun H i f hi => ?_⟩ fun pins s I => ?_⟩
    · unfold enumD at hd
      rw [List.getElem?_map] at hd
      by_cases hi : i < ds.length
      · rw [List.getElem?_range hi] at hd
        obtain rfl : D.tup [.int (i : Nat), ds.getD i .non] = d := Option.some.inj hd
        have hds : ds[i]? = some (ds.getD i .non) := by rw [List.getD_eq_getElem?_getD, List.getElem?_eq_getElem hi]; rfl
        obtain ⟨x, hx, rx⟩ := hr.get hds
        refine ⟨⟨xs, x, SqT.of (fz_tup f hl), hx⟩, fun v H' w => ?_⟩
        obtain ⟨T, x', rfl, hT, rfl, k1⟩ := w
        have ex := k1 xs (SqT.of (fz_tup f hl))
        rw [hx] at ex; cases ex
        have f2 : Fz H1 (upd H T (.tup [.int (i : Nat), x])) := f.trans (Ex.new hT).fz
        exact ⟨Ex.new hT, T, _, rfl, upd_same, .cons rfl (.cons (Rep.mono f2 _ _ rx) .nil)⟩
      · rw [List.getElem?_eq_none (by simpa using hi)] at hd; cases hd
    · refine ⟨xs, SqT.of (fz_tup f hl), ?_⟩
      unfold enumD at hi
      rw [List.length_map, List.length_range] at hi
      rw [hr.len]; exact hi
    · obtain ⟨_, _, _, z⟩ := I.tuple (SqT.of hl)
      unfold enumD
      rw [List.length_map, List.length_range, ← hr.len]; exact z
end
/-! ### sum of a tuple of ints -/
section
variable {prog : Program} {w : World} {A : Around} {E : Value → Shared → Prop} {s : Shared} {l : Addr} {its : List Value} {ns : List Int} {Q : Value → Shared → Prop}
theorem sumT_raw (hh : A.handled = none) (hl : s.heap.IsTuple l its.toArray) (hi : IntsAre its ns)
    (h : ∀ h' tk t', (∀ b o, s.heap.get? b = some o → h'.get? b = some o) → Q (.int ns.sum t') { s with heap := h', toks := tk }) : wpAny (model prog w) A (call (.builtin "sum") [.ref l]) Q E s := by
  obtain ⟨xs, e⟩ := hi.allInts.items
  have hn : numsOf (intItems xs).toList = ns := by rw [← e]; exact hi.numsOf
  rw [nums_intItems] at hn
  rw [e] at hl
  have hll : l < s.heap.objs.size := by obtain ⟨_, q, _⟩ := id hl; exact Heap.lt_size q
  refine call_sum_walkG (wpAny_pyIter_tuple hl ?_)
  refine ⟨_, _, _, _, _, _, numAt xs, rfl, Walks.tuple (A := A.in1) hh _ l (Nat.ne_of_lt hll) (intItems xs), ⟨⟨_, Heap.get?_push_size _ rfl, rfl, rfl⟩, hl.at fun o q => Heap.get?_push_of_some _ q⟩, fun b hb => ?_, (fun _ _ => intItems_at), fun h' tk t' hk => ?_⟩
  · rw [Heap.size_push]
    have e' : b = s.heap.objs.size ∨ b = l := by simpa using hb
    rcases e' with z | z
    · rw [z]; exact Nat.lt_succ_self _
    · rw [z]; exact Nat.lt_succ_of_lt hll
  · have q := h h' tk t' fun b o e => hk b o (by simpa using Nat.ne_of_lt (Heap.lt_size e)) (Heap.get?_push_of_some _ e)
    have e2 : preSum (numAt xs) (intItems xs).size = ns.sum := by
      rw [show (intItems xs).size = xs.size by simp [intItems], preSum_eq, List.take_of_length_le (by simp), hn]
    rw [e2]; exact q
end
section
variable {X : Cx} {δ : De} {μ : Mem} {e a b c : Expr} {es : List Expr} {p pos : Pos} {d : D}
def rSumT (K : PySem.W.Frag) : List V → Hp → VK → Prop := fun vs H Q => ∃ (a : Addr) (ns : List Int), vs = [V.ref a] ∧ SqT K H a (ns.map V.int) ∧ Q (.int ns.sum) H
theorem cr_sumT (hc : X.calm = true) : CallR X (.builtin "sum") (rSumT X.K) := by
  intro pins s σ H xs us Q I r h
  obtain ⟨a, ns, rfl, hs, q⟩ := h
  rw [Vals.ref1 r]
  obtain ⟨its, rv, p, _⟩ := I.tuple hs
  exact sumT_raw (I.ok.hd hc) p rv.ints fun h' tk t' hk => ⟨.int ns.sum, H, I.kept (t' := tk) hk, ⟨_, rfl⟩, q⟩
theorem ev_sumT {ns : List Int} (hc : X.calm = true) (B : Bi X.mg) (ha : Ev X δ μ e (sh ns)) (hg : Gl X "sum" := by rfl) (he : starEach [e] X.env = (false, eval e X.env) :: starEach [] X.env := by rfl) (hpl : (backTo pos (starEach [] X.env)).any (·.1) = false := by rfl) :
    Ev X δ μ (.Call (.Name "sum" p) [e] [] pos) (.int ns.sum) :=
  ev_callB (cr_sumT hc) B.sum boot_sum (ea_cons ha ea_nil he) (fun vs H Q hr k => by
    obtain ⟨v, rfl, a, ws, rfl, ha, hs⟩ := hr.one
    rw [RepL.ints hs] at ha
    exact ⟨a, ns, rfl, SqT.of ha, k _ H (Ex.refl H) rfl⟩) hg (by decide) (by decide) he hpl
/-- l.count(k), l a frozen list of ints -/
theorem ev_countL {ns : List Int} {k : Int} {apos cpos : Pos} (ha : Ev X δ μ a (li ns)) (hb : Ev X δ μ b (.int k)) (h : ∀ (te : TE) (ta : TE), PE X a ta → PE X b te → PE X (.Call (.Attribute a "count" apos) [b] [] cpos) (tBM X.K "list" (rCntI X.K) ta (tCons te tNil))) :
    Ev X δ μ (.Call (.Attribute a "count" apos) [b] [] cpos) (.int (ns.count k : Nat)) :=
  ev_pe (h _ _ (pe_tw X a) (pe_tw X b)) fun σ H Q c q => ha σ H _ c fun u H1 e1 r1 => by
    obtain ⟨l, o, vs, rfl, hl, hr⟩ := r1
    rw [RepL.ints hr] at hl
    refine ⟨.inl ⟨rfl, _, .inl (.inr ⟨o, hl⟩)⟩, hb σ H1 _ (c.ex e1) fun w H2 e2 r2 => ?_⟩
    obtain rfl : w = V.int k := r2
    exact ⟨l, ns, k, rfl, rfl, .inl (.inr ⟨o, e2 _ _ hl⟩), q _ H2 (e1.trans e2) rfl⟩
end
end Bx
end

-- part BxG
section
set_option Elab.async false
set_option linter.all false
set_option maxRecDepth 100000
set_option maxHeartbeats 4000000
/-! Boxparts, part G: name = [..], two clauses, sorted lists of shapes. -/
namespace Bx
open PySem PySem.Spec PyProof.Rows L2
section
variable {X : Cx} {δ : De} {μ : Mem} {e a b c : Expr} {es : List Expr} {p pos : Pos} {d : D}
/-! ### name = [..] -/
def tFzS (t : TS) : TS := fun D σ H => t { D with nx := fun σ1 H1 => ∃ a u, H1 a = some u ∧ Mut (some u) ∧ ∀ od, D.nx σ1 (upd H1 a (.frz od u)) } σ H
theorem ps_fzS {st : Stmt} {t : TS} (h : PS X st t) : PS X st (tFzS t) := ⟨fun pins s σ H D I hw => thn (h.run pins s σ H _ I hw) fun f s1 q => by
  cases f with
  | next =>
    obtain ⟨σ1, H1, I1, a, u, h1, mu, k⟩ := q
    obtain ⟨od, I2⟩ := I1.lock h1 mu
    exact ⟨σ1, _, I2, k od⟩
  | ret u => exact q
  | brk => exact q
  | cont => exact q⟩
theorem s_newL {st : Stmt} {t : TE} {i : Nat} {ds : List D} (h : PS X st (tAsg t (gName i))) (k : ∀ σ H, Cfg δ μ σ H → NewL t σ H ds) : S1 X δ μ st (.nx (δ.set i (some (.lst ds))) μ) :=
  s1_ps (ps_fzS h) fun σ H D c q => k σ H c _ fun p vs H1 hp e1 h1 r1 => ⟨p, _, h1, trivial, fun od => by
    have f : Fz H1 (upd H1 p (.frz od (.lst vs))) := Fz.upd fun u e => by rw [h1] at e; cases e; exact fun z => z
    have e2 : Ex H (upd H1 p (.frz od (.lst vs))) := e1.frz hp
    exact q _ _ ((c.ex e2).set ⟨p, od, vs, rfl, upd_same, RepL.mono f _ _ r1⟩) (.of e2)⟩
/-- y = [elt for tg in iter if ..] on one line -/
theorem s_lcG (i : Nat) {y : Str} {py : Pos} {α : Type} {xs : List α} {enc : α → D} {g : α → Option D} {elt tg iter : Expr} {ifs : List Expr} {scope : Scope} {own : List (Str × Nat)} {gt : TG} {f : α → De → De} {sl : List Nat} {spos : Pos} (hc : X.calm = true) (hN : X.N.Nodup)
    (hi : EvI X δ μ tg iter (xs.map enc)) (ok : BlkOk X.N X.env.scope scope own) (hg : ∀ (s : Shared) (H : Hp) (C : Addr) (cl : List (Str × Addr)) (fp : List Addr), PG (bk X scope s H C cl fp) tg gt) (hT : ∀ x ∈ xs, TgOk gt (enc x) (f x) sl) (hsl : ∀ i ∈ sl, i ∈ own.map (·.2))
    (ht : ∀ x ∈ xs, ∀ s H C cl fp, EvTs (bk X scope s H C cl fp) (f x (wipeD δ (own.map (·.2)))) μ ifs (g x).isSome)
    (he : ∀ x ∈ xs, ∀ y, g x = some y → ∀ s H C cl fp, Ev (bk X scope s H C cl fp) (f x (wipeD δ (own.map (·.2)))) μ elt y)
    (hy : X.N[i]? = some y := by rfl) (hyl : X.env.scope.names.lookup y = some .local := by rfl) (hsw : swapsWith (.ListComp elt [⟨tg, iter, ifs, 0⟩] scope pos) (some (.Name y py)) spos.line X.env = pure true := by exact sw_true rfl rfl rfl (by decide +kernel))
    (hs : ∀ x, foldedSetIterable iter X.env x = pure x := by intro _; rfl) : S1 X δ μ (.Assign [.Name y py] (.ListComp elt [⟨tg, iter, ifs, 0⟩] scope pos) spos) (.nx (δ.set i (some (.lst (xs.filterMap g)))) μ) :=
  s_newL (ps_setLc (tt := twsB X scope ifs) (te := twB X scope elt) hc hN hy hyl hsw (pi_tI X tg iter) ok hg (fun s H C cl fp => pts_tws X scope ifs s H C cl fp) (fun s H C cl fp => ⟨fun pins s1 σ H1 Q I h => h s H C cl fp pins s1 I⟩) hs) (lc_new hc hN hi ok hg hT hsl ht he)
theorem s_lcM (i : Nat) {y : Str} {py : Pos} {α : Type} {xs : List α} {enc : α → D} {fe : α → D} {elt tg iter : Expr} {scope : Scope} {own : List (Str × Nat)} {gt : TG} {f : α → De → De} {sl : List Nat} {spos : Pos} (hc : X.calm = true) (hN : X.N.Nodup)
    (hi : EvI X δ μ tg iter (xs.map enc)) (ok : BlkOk X.N X.env.scope scope own) (hg : ∀ (s : Shared) (H : Hp) (C : Addr) (cl : List (Str × Addr)) (fp : List Addr), PG (bk X scope s H C cl fp) tg gt) (hT : ∀ x ∈ xs, TgOk gt (enc x) (f x) sl) (hsl : ∀ i ∈ sl, i ∈ own.map (·.2))
    (he : ∀ x ∈ xs, ∀ s H C cl fp, Ev (bk X scope s H C cl fp) (f x (wipeD δ (own.map (·.2)))) μ elt (fe x))
    (hy : X.N[i]? = some y := by rfl) (hyl : X.env.scope.names.lookup y = some .local := by rfl) (hsw : swapsWith (.ListComp elt [⟨tg, iter, [], 0⟩] scope pos) (some (.Name y py)) spos.line X.env = pure true := by exact sw_true rfl rfl rfl (by decide +kernel))
    (hs : ∀ x, foldedSetIterable iter X.env x = pure x := by intro _; rfl) : S1 X δ μ (.Assign [.Name y py] (.ListComp elt [⟨tg, iter, [], 0⟩] scope pos) spos) (.nx (δ.set i (some (.lst (xs.map fe)))) μ) := by
  rw [← fm_map fe xs]
  exact s_lcG i hc hN hi ok hg hT hsl (fun x _ s H C cl fp => rfl) (fun x hx y hy s H C cl fp => by cases hy; exact he x hx s H C cl fp) hy hyl hsw hs
theorem s_lcF (i : Nat) {y : Str} {py : Pos} {α : Type} {xs : List α} {enc : α → D} {p : α → Bool} {fe : α → D} {elt tg iter c : Expr} {scope : Scope} {own : List (Str × Nat)} {gt : TG} {f : α → De → De} {sl : List Nat} {spos : Pos} (hc : X.calm = true) (hN : X.N.Nodup)
    (hi : EvI X δ μ tg iter (xs.map enc)) (ok : BlkOk X.N X.env.scope scope own) (hg : ∀ (s : Shared) (H : Hp) (C : Addr) (cl : List (Str × Addr)) (fp : List Addr), PG (bk X scope s H C cl fp) tg gt) (hT : ∀ x ∈ xs, TgOk gt (enc x) (f x) sl) (hsl : ∀ i ∈ sl, i ∈ own.map (·.2))
    (ht : ∀ x ∈ xs, ∀ s H C cl fp, EvT (bk X scope s H C cl fp) (f x (wipeD δ (own.map (·.2)))) μ c (p x))
    (he : ∀ x ∈ xs, p x = true → ∀ s H C cl fp, Ev (bk X scope s H C cl fp) (f x (wipeD δ (own.map (·.2)))) μ elt (fe x))
    (hy : X.N[i]? = some y := by rfl) (hyl : X.env.scope.names.lookup y = some .local := by rfl) (hsw : swapsWith (.ListComp elt [⟨tg, iter, [c], 0⟩] scope pos) (some (.Name y py)) spos.line X.env = pure true := by exact sw_true rfl rfl rfl (by decide +kernel))
    (hs : ∀ x, foldedSetIterable iter X.env x = pure x := by intro _; rfl) : S1 X δ μ (.Assign [.Name y py] (.ListComp elt [⟨tg, iter, [c], 0⟩] scope pos) spos) (.nx (δ.set i (some (.lst ((xs.filter p).map fe)))) μ) := by
  rw [← fm_filter p fe xs]
  refine s_lcG i hc hN hi ok hg hT hsl (fun x hx s H C cl fp => ?_) (fun x hx y hy s H C cl fp => ?_) hy hyl hsw hs
  · show EvT (bk X scope s H C cl fp) (f x (wipeD δ (own.map (·.2)))) μ c _
    by_cases h : p x = true
    · rw [if_pos h]; exact (ht x hx s H C cl fp).is h
    · rw [if_neg h]; exact (ht x hx s H C cl fp).is (by simpa using h)
  · by_cases h : p x = true
    · rw [if_pos h] at hy; cases hy; exact he x hx h s H C cl fp
    · rw [if_neg h] at hy; cases hy

/-! ### two clauses, no tests -/
def tIB (X : Cx) (scope : Scope) (tg iter : Expr) : TI := fun σ H R => ∀ s H0 C cl fp, tI (bk X scope s H0 C cl fp) tg iter σ H R
theorem take_flat {α β : Type} {xs : List α} {i : Nat} {x : α} (g : α → List β) (h : xs[i]? = some x) : (xs.take (i + 1)).flatMap g = (xs.take i).flatMap g ++ g x := by
  rw [List.take_add_one, h, List.flatMap_append]
  simp
theorem take_map {α β : Type} {xs : List α} {i : Nat} {x : α} (g : α → β) (h : xs[i]? = some x) : (xs.take (i + 1)).map g = (xs.take i).map g ++ [g x] := by
  rw [List.take_add_one, h, List.map_append]
  simp
theorem ev_lc2 {α β : Type} {xs : List α} {ys : α → List β} {enc : α → D} {enc1 : α → β → D} {fe : α → β → D} {elt tg iter tg1 iter1 : Expr} {scope : Scope} {own : List (Str × Nat)} {vs1 : List Nat} {gt gt1 : TG} {f : α → De → De} {f1 : α → β → De → De} {sl sl1 : List Nat} (hc : X.calm = true) (hN : X.N.Nodup)
    (hi : EvI X δ μ tg iter (xs.map enc)) (ok : BlkOk X.N X.env.scope scope own) (hv : ∀ i ∈ vs1, i ∈ own.map (·.2)) (hg : ∀ (s : Shared) (H : Hp) (C : Addr) (cl : List (Str × Addr)) (fp : List Addr), PG (bk X scope s H C cl fp) tg gt) (hT : ∀ x ∈ xs, TgOk gt (enc x) (f x) sl) (hsl : ∀ i ∈ sl, i ∈ own.map (·.2))
    (hi1 : ∀ x ∈ xs, ∀ s H C cl fp, EvI (bk X scope s H C cl fp) (f x (wipeD δ (own.map (·.2)))) μ tg1 iter1 ((ys x).map (enc1 x)))
    (hg1 : ∀ (s : Shared) (H : Hp) (C : Addr) (cl : List (Str × Addr)) (fp : List Addr), PG (bk X scope s H C cl fp) tg1 gt1) (hT1 : ∀ x ∈ xs, ∀ y ∈ ys x, TgOk gt1 (enc1 x y) (f1 x y) sl1) (hsl1 : ∀ i ∈ sl1, i ∈ vs1)
    (he : ∀ x ∈ xs, ∀ y ∈ ys x, ∀ s H C cl fp, Ev (bk X scope s H C cl fp) (f1 x y (wipeD (f x (wipeD δ (own.map (·.2)))) vs1)) μ elt (fe x y)) (hz : (xs.flatMap ys).length < 100000)
    (hs : ∀ x, foldedSetIterable iter X.env x = pure x := by intro _; rfl) (hs1 : ∀ env x, foldedSetIterable iter1 env x = pure x := by intro _ _; rfl) :
    Ev X δ μ (.ListComp elt [⟨tg, iter, [], 0⟩, ⟨tg1, iter1, [], 0⟩] scope pos) (.lst (xs.flatMap fun x => (ys x).map (fe x))) := by
  refine ev_newL (pe_lc2 (tt := tYes) (tt1 := tYes) (te := twB X scope elt) hc hN (pi_tI X tg iter) ok hv hg (fun s H C cl fp => pts_nil) (fun s H C cl fp => ⟨fun pins s1 σ H1 R I h => h s H C cl fp pins s1 I⟩ : ∀ s H C cl fp, PI (bk X scope s H C cl fp) tg1 iter1 (tIB X scope tg1 iter1)) hg1 (fun s H C cl fp => pts_nil)
    (fun s H C cl fp => ⟨fun pins s1 σ H1 Q I h => h s H C cl fp pins s1 I⟩) hs hs1) fun σ H c Q q => ?_
  refine hi σ H _ c fun J H1 e1 gd hzz L hL => ?_
  have bound : ∀ (i : Nat) (x : α) (j : Nat), xs[i]? = some x → ((xs.take i).flatMap fun x => (ys x).map (fe x)).length + (((ys x).take j).map (fe x)).length ≤ (xs.flatMap ys).length := fun i x j hx => by
    have h1 : ((xs.take (i + 1)).flatMap ys).length ≤ (xs.flatMap ys).length := by
      have e : xs = xs.take (i + 1) ++ xs.drop (i + 1) := (List.take_append_drop _ _).symm
      rw [e, List.flatMap_append, List.length_append, ← e]
      exact Nat.le_add_right _ _
    rw [take_flat ys hx, List.length_append] at h1
    have e2 : ((xs.take i).flatMap fun x => (ys x).map (fe x)).length = ((xs.take i).flatMap ys).length := by
      rw [List.length_flatMap, List.length_flatMap]
      congr 1
      apply List.map_congr_left
      intro z _
      rw [List.length_map]
    rw [e2, List.length_map, List.length_take]
    omega
  refine ⟨fun i m H' => i ≤ xs.length ∧ m = xs.length - i ∧ Ex H1 H' ∧ ∃ vs, H' L = some (.lst vs) ∧ RepL H' ((xs.take i).flatMap fun x => (ys x).map (fe x)) vs, ⟨_, Nat.zero_le _, rfl, Ex.new hL, [], upd_same, rfl⟩, ?_⟩
  rintro i m H' ⟨hi', rfl, ex, vs, hLv, hr⟩
  by_cases hlt : i < xs.length
  · obtain ⟨x, hx⟩ : ∃ x, xs[i]? = some x := ⟨xs[i], List.getElem?_eq_getElem hlt⟩
    have hxm : x ∈ xs := List.mem_of_getElem? hx
    obtain ⟨h1, h2⟩ := gd.go H' i (enc x) ex.fz (by rw [List.getElem?_map, hx]; rfl)
    refine .inr ⟨h1, fun H'' => Ex H1 H'' ∧ ∃ vs, H'' L = some (.lst vs) ∧ RepL H'' ((xs.take (i + 1)).flatMap fun x => (ys x).map (fe x)) vs, fun H'' ⟨a, b⟩ => ⟨xs.length - (i + 1), by omega, hlt, rfl, a, b⟩, fun v H2 y => ?_⟩
    obtain ⟨e2, rv⟩ := h2 v H2 y
    have c2 : Cfg δ μ σ H2 := c.ex ((e1.trans ex).trans e2)
    refine hT x hxm _ μ v _ H2 _ (c2.wipe (own.map (·.2))) rv fun σ2 c3 k1 k2 => ⟨?_, ?_⟩
    · rw [wipe_eq (σ := L2.wipe σ (own.map (·.2))) (by rw [k2]) (fun i hi => k1 i fun z => hi (hsl i z))]
      refine wipe_eq (by rw [wipe_length]) fun i hi => ?_
      rw [wipe_at, if_neg (fun z => hi z.1)]
    · (unfold tYes; refine iteT ?_)
      intro s H0 C cl fp
      refine hi1 x hxm s H0 C cl fp σ2 H2 _ c3 fun J1 H3 e3 gd1 hz1 => ?_
      refine ⟨fun j m H' => j ≤ (ys x).length ∧ m = (ys x).length - j ∧ Ex H1 H' ∧ Fz H3 H' ∧ Cfg (f x (wipeD δ (own.map (·.2)))) μ σ2 H' ∧ ∃ vs, H' L = some (.lst vs) ∧ RepL H' (((xs.take i).flatMap fun x => (ys x).map (fe x)) ++ ((ys x).take j).map (fe x)) vs,
        ⟨_, Nat.zero_le _, rfl, (ex.trans e2).trans e3, Fz.refl _, c3.ex e3, vs, e3 _ _ (e2 _ _ hLv), by rw [List.take_zero, List.map_nil, List.append_nil]; exact hr.ex (e2.trans e3)⟩, ?_⟩
      rintro j k H4 ⟨hj', rfl, ex4, fz4, c4, ws, hLw, hrw⟩
      by_cases hjl : j < (ys x).length
      · obtain ⟨y, hy⟩ : ∃ y, (ys x)[j]? = some y := ⟨(ys x)[j], List.getElem?_eq_getElem hjl⟩
        have hym : y ∈ ys x := List.mem_of_getElem? hy
        obtain ⟨g1, g2⟩ := gd1.go H4 j (enc1 x y) fz4 (by rw [List.getElem?_map, hy]; rfl)
        refine .inr ⟨g1, fun H'' => Ex H1 H'' ∧ Fz H3 H'' ∧ Cfg (f x (wipeD δ (own.map (·.2)))) μ σ2 H'' ∧ ∃ vs, H'' L = some (.lst vs) ∧ RepL H'' (((xs.take i).flatMap fun x => (ys x).map (fe x)) ++ ((ys x).take (j + 1)).map (fe x)) vs,
          fun H'' ⟨a, b, c', d⟩ => ⟨(ys x).length - (j + 1), by omega, hjl, rfl, a, b, c', d⟩, fun u H5 w => ?_⟩
        obtain ⟨e5, ru⟩ := g2 u H5 w
        refine hT1 x hxm y hym _ μ u _ H5 _ ((c4.ex e5).wipe vs1) ru fun σ3 c5 k3 k4 => ⟨?_, ?_⟩
        · rw [wipe_eq (σ := L2.wipe σ2 vs1) (by rw [k4]) (fun i hi => k3 i fun z => hi (hsl1 i z))]
          refine wipe_eq (by rw [wipe_length]) fun i hi => ?_
          rw [wipe_at, if_neg (fun z => hi z.1)]
        · refine iteT ?_
          intro s' H0' C' cl' fp'
          refine he x hxm y hym s' H0' C' cl' fp' σ3 H5 _ c5 fun z H6 e6 rz => ⟨ws, e6 _ _ (e5 _ _ hLw), ?_, ?_, ?_, ?_, ?_⟩
          · have l1 := hrw.len
            have l2 := bound i x (j + 1) hx
            rw [take_map (fe x) hy, List.length_append] at l2
            rw [List.length_append] at l1
            simp only [List.length_singleton] at l2
            exact Nat.lt_of_lt_of_le (show ws.length < 100000 by omega) (by decide)
          · exact ((ex4.trans e5).trans e6).frz hL
          · exact (fz4.trans (e5.trans e6).fz).trans (Fz.upd fun o ho => by rw [e6 _ _ (e5 _ _ hLw)] at ho; cases ho; exact fun z => z)
          · have fu : Fz H6 (upd H6 L (.lst (ws ++ [z]))) := Fz.upd fun o ho => by rw [e6 _ _ (e5 _ _ hLw)] at ho; cases ho; exact fun z => z
            have c6 := (c4.ex e5).ex e6
            refine ⟨c6.len, fun i d h => ?_, fun q hq => ?_, c6.nd⟩
            · obtain ⟨v, h1, h2⟩ := c6.env i d h
              exact ⟨v, h1, Rep.mono fu _ _ h2⟩
            · refine (c6.cel q hq).keep fu fun o h => ?_
              obtain ⟨o', ho', _⟩ := (c.cel q hq).some
              rw [upd_ne (ne_of_none (e1 _ _ ho') hL)]
              exact h
          · refine ⟨_, upd_same, ?_⟩
            have fu : Fz H6 (upd H6 L (.lst (ws ++ [z]))) := Fz.upd fun o ho => by rw [e6 _ _ (e5 _ _ hLw)] at ho; cases ho; exact fun z => z
            rw [take_map (fe x) hy, ← List.append_assoc]
            exact RepL.mono fu _ _ ((hrw.ex (e5.trans e6)).app (.cons rz .nil))
      · have hj2 : j = (ys x).length := by omega
        subst hj2
        refine .inl ⟨gd1.stop H4 _ fz4 (by rw [List.length_map]; exact Nat.le_refl _), ex4, ws, hLw, ?_⟩
        rw [take_flat (fun x => (ys x).map (fe x)) hx]
        rw [List.take_length] at hrw
        exact hrw
  · have hi2 : i = xs.length := by omega
    subst hi2
    rw [List.take_length] at hr
    exact .inl ⟨gd.stop H' _ ex.fz (by rw [List.length_map]; exact Nat.le_refl _), q L vs H' (e1.free hL) (e1.trans ex) hLv hr⟩
end
end Bx
end

-- part BxH
section
set_option Elab.async false
set_option linter.all false
set_option maxRecDepth 100000
set_option maxHeartbeats 4000000
/-! Boxparts, part H: sorted lists of shapes, of any length. -/
namespace Bx
open PySem PySem.Spec PyProof.Rows L2
open PySem.W (EachIs SortsAt dataKind dataKind_some dataKind_inv alike alikeAll AllAlike Sortable dataLe dataLt oneLt_alike sortVals_data)
abbrev encS (s : List Int) : PyData := .tuple (s.map .int)
theorem py_sh (s : List Int) : py (sh s) = encS s := by
  show PyData.tuple (pyL (s.map D.int)) = _
  rw [pyL_map]; rfl
theorem alike_encS (s t : List Int) : alike (encS s) (encS t) = true := by
  show alike (.tuple _) (.tuple _) = true
  rw [alike]
  exact PySem.W.alike_ints s t
theorem depth_encS (s : List Int) : (encS s).depth = 1 := by
  show PyData.depthAll _ + 1 = 1
  rw [PySem.W.depth_ints]
section
variable {prog : Program} {w : World} {A : Around} {s : Shared}
theorem sortsAt_one {vs : List Value} {ds : List PyData} (e : EachIs (fun v d => ∃ as, Reads s.heap v d as) vs ds) (hal : AllAlike ds) (hn : ∀ d ∈ ds, d ≠ .none) (h1 : ds.length ≤ 1) (hu : ∀ d, d ∈ ds → A.units + d.depth < cLine) : SortsAt prog w A s (dataKind s.heap ds) vs := by
  refine ⟨fun v hv => ?_, general', ?_, fun h2 => ?_⟩
  · obtain ⟨d, hd, as, r⟩ := e.left v hv
    exact ⟨_, dataKind_some hal hd r⟩
  · intro E x y a b Q ha hb hq
    obtain ⟨d, as, hd, ra, rfl⟩ := dataKind_inv ha
    obtain ⟨d', as', hd', rb, rfl⟩ := dataKind_inv hb
    show wpAny (model prog w) A (PyProof.Rows.oneLt' false x y) Q E s
    exact oneLt_alike (fun z => by cases z) ra rb (hal d hd d' hd') (hn d hd) (Nat.lt_of_le_of_lt (Nat.add_le_add_left (Nat.min_le_left _ _) _) (hu d hd)) hq
  · have l := e.length
    omega
end
/-! sorting by insertion, for the kernel -/
def ltB : List Int → List Int → Bool
  | _, [] => false
  | [], _ :: _ => true
  | x :: xs, y :: ys => decide (x < y) || (decide (x = y) && ltB xs ys)
theorem ltB_eq : ∀ s t : List Int, decide (s < t) = ltB s t
  | [], [] => by simp [ltB]
  | _ :: _, [] => by simp [ltB]
  | [], _ :: _ => by simp [ltB]
  | x :: xs, y :: ys => by
    rw [ltB, ← ltB_eq xs ys]
    by_cases h1 : x < y <;> by_cases h2 : x = y <;> by_cases h3 : xs < ys <;> simp [List.cons_lt_cons_iff, h1, h2, h3]
theorem ltB_trans : ∀ {a b c : List Int}, ltB b a = false → ltB c b = false → ltB c a = false
  | [], b, c, _, _ => by cases c <;> rfl
  | x :: a, [], c, h1, h2 => by cases h1
  | x :: a, y :: b, [], h1, h2 => by cases h2
  | x :: a, y :: b, z :: c, h1, h2 => by
    simp only [ltB, Bool.or_eq_false_iff, decide_eq_false_iff_not, Bool.and_eq_false_iff] at h1 h2 ⊢
    obtain ⟨p1, q1⟩ := h1
    obtain ⟨p2, q2⟩ := h2
    refine ⟨by omega, ?_⟩
    by_cases e : z = x
    · have e1 : y = x := by omega
      have e2 : z = y := by omega
      exact .inr (ltB_trans (q1.resolve_left fun n => n e1) (q2.resolve_left fun n => n e2))
    · exact .inl e
theorem ltB_total : ∀ a b : List Int, ltB b a = false ∨ ltB a b = false
  | [], b => by cases b <;> exact .inl rfl
  | _ :: _, [] => .inr rfl
  | x :: a, y :: b => by
    simp only [ltB, Bool.or_eq_false_iff, decide_eq_false_iff_not, Bool.and_eq_false_iff]
    rcases Int.lt_trichotomy x y with h | h | h
    · exact .inl ⟨by omega, .inl (by omega)⟩
    · rcases ltB_total a b with q | q
      · exact .inl ⟨by omega, .inr q⟩
      · exact .inr ⟨by omega, .inr q⟩
    · exact .inr ⟨by omega, .inl (by omega)⟩
theorem ltB_anti : ∀ {a b : List Int}, ltB b a = false → ltB a b = false → a = b
  | [], [], _, _ => rfl
  | [], _ :: _, _, h => by cases h
  | _ :: _, [], h, _ => by cases h
  | x :: a, y :: b, h1, h2 => by
    simp only [ltB, Bool.or_eq_false_iff, decide_eq_false_iff_not, Bool.and_eq_false_iff] at h1 h2
    have e : x = y := by omega
    subst e
    rw [ltB_anti (h1.2.resolve_left fun n => n rfl) (h2.2.resolve_left fun n => n rfl)]
def insB (le : List Int → List Int → Bool) (x : List Int) : List (List Int) → List (List Int)
  | [] => [x]
  | y :: t => match le x y with
    | true => x :: y :: t
    | false => y :: insB le x t
def isrt (le : List Int → List Int → Bool) : List (List Int) → List (List Int)
  | [] => []
  | x :: t => insB le x (isrt le t)
theorem insB_perm (le : List Int → List Int → Bool) (x : List Int) : ∀ t, (insB le x t).Perm (x :: t)
  | [] => .refl _
  | y :: t => by
    unfold insB
    cases le x y with
    | true => exact .refl _
    | false => exact ((insB_perm le x t).cons y).trans (.swap x y t)
theorem isrt_perm (le : List Int → List Int → Bool) : ∀ t, (isrt le t).Perm t
  | [] => .refl _
  | x :: t => (insB_perm le x _).trans ((isrt_perm le t).cons x)
theorem insB_sorted {le : List Int → List Int → Bool} (tr : ∀ a b c, le a b = true → le b c = true → le a c = true) (to : ∀ a b, le a b = true ∨ le b a = true) (x : List Int) : ∀ {t : List (List Int)}, t.Pairwise (fun a b => le a b = true) → (insB le x t).Pairwise (fun a b => le a b = true)
  | [], _ => List.pairwise_singleton _ _
  | y :: t, h => by
    obtain ⟨h1, h2⟩ := List.pairwise_cons.mp h
    unfold insB
    cases q : le x y with
    | true =>
      refine List.pairwise_cons.mpr ⟨fun z hz => ?_, h⟩
      rcases List.mem_cons.mp hz with rfl | hz
      · exact q
      · exact tr _ _ _ q (h1 z hz)
    | false =>
      have yx : le y x = true := (to x y).resolve_left (by rw [q]; exact Bool.false_ne_true)
      refine List.pairwise_cons.mpr ⟨fun z hz => ?_, insB_sorted tr to x h2⟩
      rcases List.mem_cons.mp ((insB_perm le x t).mem_iff.mp hz) with rfl | hz
      · exact yx
      · exact h1 z hz
theorem isrt_sorted {le : List Int → List Int → Bool} (tr : ∀ a b c, le a b = true → le b c = true → le a c = true) (to : ∀ a b, le a b = true ∨ le b a = true) : ∀ t, (isrt le t).Pairwise (fun a b => le a b = true)
  | [] => .nil
  | x :: t => insB_sorted tr to x (isrt_sorted tr to t)
theorem isrt_merge {le : List Int → List Int → Bool} (tr : ∀ a b c, le a b = true → le b c = true → le a c = true) (to : ∀ a b, le a b = true ∨ le b a = true) (an : ∀ a b, le a b = true → le b a = true → a = b) (t : List (List Int)) : isrt le t = t.mergeSort le :=
  List.Perm.eq_of_pairwise (le := fun a b => le a b = true) (fun a b _ _ h1 h2 => an a b h1 h2) (isrt_sorted tr to t) (List.pairwise_mergeSort tr (fun a b => by rcases to a b with h | h <;> rw [h] <;> simp) t) ((isrt_perm le t).trans (List.mergeSort_perm t le).symm)
def sortS (ss : List (List Int)) : List (List Int) := isrt (fun a b => !ltB b a) ss
def sortR (ss : List (List Int)) : List (List Int) := isrt (fun a b => !ltB a b) ss
theorem sortS_merge (ss : List (List Int)) : sortS ss = ss.mergeSort fun a b => !decide (b < a) := by
  have e : (fun a b : List Int => !decide (b < a)) = fun a b => !ltB b a := by funext a b; rw [ltB_eq]
  rw [e]
  refine isrt_merge (fun a b c h1 h2 => ?_) (fun a b => ?_) (fun a b h1 h2 => ?_) ss
  · simp only [Bool.not_eq_true'] at h1 h2 ⊢; exact ltB_trans h1 h2
  · simp only [Bool.not_eq_true']; exact ltB_total a b
  · simp only [Bool.not_eq_true'] at h1 h2; exact ltB_anti h1 h2
theorem sortR_merge (ss : List (List Int)) : sortR ss = ss.mergeSort fun a b => !decide (a < b) := by
  have e : (fun a b : List Int => !decide (a < b)) = fun a b => !ltB a b := by funext a b; rw [ltB_eq]
  rw [e]
  refine isrt_merge (fun a b c h1 h2 => ?_) (fun a b => ?_) (fun a b h1 h2 => ?_) ss
  · simp only [Bool.not_eq_true'] at h1 h2 ⊢; exact ltB_trans h2 h1
  · simp only [Bool.not_eq_true']; exact (ltB_total a b).symm
  · simp only [Bool.not_eq_true'] at h1 h2; exact (ltB_anti h1 h2).symm
theorem dataLt_encS (s t : List Int) : dataLt (encS s) (encS t) = decide (s < t) := by
  show dataLt (.tuple _) (.tuple _) = _
  rw [PySem.W.dataLt_tuple]
  exact PySem.W.dataLt_ints s t
theorem dataLe_S : dataLe false encS = fun a b => !decide (b < a) := by
  rw [PySem.W.dataLe_eq]
  funext a b
  rw [dataLt_encS, dataLt_encS]
  rfl
theorem dataLe_R : dataLe true encS = fun a b => !decide (a < b) := by
  rw [PySem.W.dataLe_eq]
  funext a b
  rw [dataLt_encS, dataLt_encS]
  rfl
def SortOk (ss : List (List Int)) : Prop := (∀ s ∈ ss, s ≠ []) ∨ ss.length ≤ 1
/-- the order b (backwards where true) -/
def srt (b : Bool) (ss : List (List Int)) : List (List Int) := ss.mergeSort (dataLe b encS)
section
variable {X : Cx} {pins : List (Addr × Obj)} {σ : L2.St} {H : Hp} {s : Shared}
theorem each_sh (I : Inv X pins σ H s) : ∀ {ss : List (List Int)} {vs : List V} {us : List Value}, RepL H (ss.map sh) vs → Vals vs us →
    EachIs (fun (v : Value) (t : List Int) => ∃ x, RelV x v ∧ Rep H (sh t) x) us ss ∧ EachIs (fun (v : Value) (t : List Int) => ∃ as, Reads s.heap v (encS t) as) us ss
  | [], vs, us, h, r => by
    obtain rfl : vs = [] := h
    cases r
    exact ⟨.nil, .nil⟩
  | t :: ss, vs, us, h, r => by
    obtain ⟨x, ws, rfl, h1, h2⟩ := h
    cases r with
    | cons r1 r2 =>
      obtain ⟨a, b⟩ := each_sh I h2 r2
      refine ⟨.cons ⟨x, r1, h1⟩ a, .cons ?_ b⟩
      obtain ⟨as, q⟩ := Dp.reads I _ _ _ (Rep.dp (K := X.K) _ _ h1 (pure_sh t)) r1
      rw [py_sh] at q
      exact ⟨as, q⟩
theorem each_back {H : Hp} : ∀ {us : List Value} {ss : List (List Int)}, EachIs (fun (v : Value) (t : List Int) => ∃ x, RelV x v ∧ Rep H (sh t) x) us ss → ∃ vs, Vals vs us ∧ RepL H (ss.map sh) vs
  | _, _, .nil => ⟨[], .nil, rfl⟩
  | _, _, .cons ⟨x, r, h⟩ t => by
    obtain ⟨vs, a, b⟩ := each_back t
    exact ⟨x :: vs, .cons r a, .cons h b⟩
theorem sort_run {b : Bool} {kw : List (Str × Value)} {a : Addr} {ws : List V} {ss : List (List Int)} {Q : VK} (I : Inv X pins σ H s) (hu : X.A.units + 64 < cLine) (hs : Rd H a (.lst ws)) (hr : RepL H (ss.map sh) ws) (ok : SortOk ss)
    (call : ∀ {vs : List Value} {Q' : Value → Shared → Prop}, s.heap.IsList a vs.toArray → SortsAt X.prog X.w X.A.in1.in1 { s with heap := PySem.W.sortingHeap (PySem.W.copyHeap s.heap vs) (s.heap.objs.size + 1) vs } (dataKind (PySem.W.sortingHeap (PySem.W.copyHeap s.heap vs) (s.heap.objs.size + 1) vs) (ss.map encS)) vs → vs.length ≤ sizeLine →
      Q' (.ref (s.heap.objs.size + 1)) { s with heap := PyProof.Rows.sortedAll s.heap vs (PySem.W.sortVals (dataKind (PySem.W.sortingHeap (PySem.W.copyHeap s.heap vs) (s.heap.objs.size + 1) vs) (ss.map encS)) b vs vs).toArray } → wpAny (model X.prog X.w) X.A (PySem.call (.builtin "sorted") [.ref a] kw) Q' X.xe s)
    (q : ∀ p ws', H p = none → RepL H ((srt b ss).map sh) ws' → Q (.ref p) (upd H p (.lst ws'))) : wpAny (model X.prog X.w) X.A (PySem.call (.builtin "sorted") [.ref a] kw) (EP X pins σ Q) X.xe s := by
  obtain ⟨z, its, n, r, hl, e⟩ := lstR I hs
  obtain ⟨e1, e2⟩ := each_sh I hr r
  have er' : EachIs (fun v t => ∃ as, Reads (PySem.W.sortingHeap (PySem.W.copyHeap s.heap its) (s.heap.objs.size + 1) its) v (encS t) as) its ss :=
    e2.mono fun _ _ ⟨as, r⟩ => ⟨as, PyProof.Rows.Reads.keeps (fun _ _ => PySem.W.sorting_copy_old) r⟩
  have hal : AllAlike (ss.map encS) := AllAlike.of fun b b' => alike_encS b b'
  have hd : ∀ d, d ∈ ss.map encS → X.A.in1.in1.units + d.depth < cLine := fun d hd => by
    obtain ⟨t, _, rfl⟩ := List.mem_map.mp hd
    rw [depth_encS]
    show X.A.units + 1 + 1 + 1 < cLine
    omega
  have S : SortsAt X.prog X.w X.A.in1.in1 { s with heap := PySem.W.sortingHeap (PySem.W.copyHeap s.heap its) (s.heap.objs.size + 1) its } (dataKind (PySem.W.sortingHeap (PySem.W.copyHeap s.heap its) (s.heap.objs.size + 1) its) (ss.map encS)) its := by
    have em := PySem.W.each_map (R := fun v d => ∃ as, Reads (PySem.W.sortingHeap (PySem.W.copyHeap s.heap its) (s.heap.objs.size + 1) its) v d as) encS er'
    rcases ok with ok | ok
    · refine SortsAt.data (s := { s with heap := PySem.W.sortingHeap (PySem.W.copyHeap s.heap its) (s.heap.objs.size + 1) its }) em hal (.inl fun d hd => ?_) hd
      obtain ⟨t, ht, rfl⟩ := List.mem_map.mp hd
      cases t with
      | nil => exact absurd rfl (ok _ ht)
      | cons x t => exact ⟨_, _, rfl⟩
    · refine sortsAt_one (s := { s with heap := PySem.W.sortingHeap (PySem.W.copyHeap s.heap its) (s.heap.objs.size + 1) its }) em hal (fun d hd => ?_) (by rw [List.length_map]; exact ok) hd
      obtain ⟨t, ht, rfl⟩ := List.mem_map.mp hd
      intro z; cases z
  refine call ⟨_, e, rfl, _, rfl⟩ S (by omega) ?_
  have out := sortVals_data b e1 er' hal
  obtain ⟨ws', rv, rr⟩ := each_back out
  obtain ⟨ep, he'⟩ := PyProof.Rows.sortedAll_at s.heap its (PySem.W.sortVals (dataKind (PySem.W.sortingHeap (PySem.W.copyHeap s.heap its) (s.heap.objs.size + 1) its) (ss.map encS)) b its its).toArray
  have hlen : ws'.length ≤ sizeLine := by
    rw [rr.len, List.length_map, List.length_mergeSort]
    have l1 := hr.len
    rw [List.length_map] at l1
    omega
  exact ⟨.ref _, upd H (s.heap.objs.size + 1) (.lst ws'), I.laid (t' := s.toks) (fun _ _ => PyProof.Rows.sortedAll_old) (Nat.le_succ _) ⟨hlen, _, ep, rv, he'⟩, rfl, q _ ws' (I.hok.fresh (Nat.le_succ _)) rr⟩
def rSortSh : List V → Hp → VK → Prop := fun vs H Q => ∃ (a : Addr) (ws : List V) (ss : List (List Int)), vs = [V.ref a] ∧ Rd H a (.lst ws) ∧ RepL H (ss.map sh) ws ∧ SortOk ss ∧ ∀ p ws', H p = none → RepL H ((srt false ss).map sh) ws' → Q (.ref p) (upd H p (.lst ws'))
theorem cr_sortSh (hu : X.A.units + 64 < cLine) : CallR X (.builtin "sorted") rSortSh := by
  intro pins s σ H vs us Q I r h
  obtain ⟨a, ws, ss, rfl, hs, hr, ok, q⟩ := h
  rw [Vals.ref1 r]
  exact sort_run I hu hs hr ok (fun hl S hL hq => PySem.W.sorted_vals hl S hL hq) q
def rSortShR : List V → List V → Hp → VK → Prop := fun vs zs H Q => ∃ (a : Addr) (ws : List V) (ss : List (List Int)), vs = [V.ref a] ∧ zs = [.bl true] ∧ Rd H a (.lst ws) ∧ RepL H (ss.map sh) ws ∧ SortOk ss ∧ ∀ p ws', H p = none → RepL H ((srt true ss).map sh) ws' → Q (.ref p) (upd H p (.lst ws'))
theorem cr_sortShR (hu : X.A.units + 64 < cLine) : CallRK X (.builtin "sorted") [Str.ofString "reverse"] rSortShR := by
  intro pins s σ H vs zs us ws' Q I r rz h
  obtain ⟨a, ws, ss, rfl, rfl, hs, hr, ok, q⟩ := h
  obtain rfl := Vals.ref1 r
  obtain ⟨w1, rfl, e1⟩ := vals1 rz
  obtain rfl : w1 = Value.bool true := e1
  exact sort_run I hu hs hr ok (fun hl S hL hq => PySem.W.sorted_rev_vals hl S hL hq) q
end
section
variable {X : Cx} {δ : De} {μ : Mem} {e a b c : Expr} {es : List Expr} {p pos : Pos} {d : D} {k : Nat}
theorem srt_false (ss : List (List Int)) : srt false ss = sortS ss := by unfold srt; rw [dataLe_S, sortS_merge]
theorem srt_true (ss : List (List Int)) : srt true ss = sortR ss := by unfold srt; rw [dataLe_R, sortR_merge]
theorem ev_sortS {ss : List (List Int)} (hr : Room k X.A) (B : Bi X.mg) (ha : Ev X δ μ e (.lst (ss.map sh))) (ok : SortOk ss) (hg : Gl X "sorted" := by rfl) (he : starEach [e] X.env = (false, eval e X.env) :: starEach [] X.env := by rfl) (hpl : (backTo pos (starEach [] X.env)).any (·.1) = false := by rfl) :
    Ev X δ μ (.Call (.Name "sorted" p) [e] [] pos) (.lst ((sortS ss).map sh)) :=
  ev_newL (pe_callB (cr_sortSh hr.units) hg B.sorted boot_sorted (pa_tw X [e]) (by decide) (by decide) he hpl) fun σ H c Q q => ea_cons ha ea_nil he σ H _ c fun vs H1 e1 r1 => by
    obtain ⟨v, rfl, a, o, ws, rfl, ha, hs⟩ := r1.one
    refine ⟨a, ws, ss, rfl, .inr ⟨o, ha⟩, hs, ok, fun l ws' hl r2 => q l ws' _ (e1.free hl) (e1.trans (Ex.new hl)) upd_same ?_⟩
    rw [srt_false] at r2
    exact r2.ex (Ex.new hl)
/-- sorted of an own list -/
theorem ev_sortSA {ss : List (List Int)} {l : Addr} (hr : Room k X.A) (B : Bi X.mg) (ha : Ev X δ μ e (.adr l)) (hl : (l, C.lst (ss.map sh)) ∈ μ) (ok : SortOk ss) (hg : Gl X "sorted" := by rfl) (he : starEach [e] X.env = (false, eval e X.env) :: starEach [] X.env := by rfl) (hpl : (backTo pos (starEach [] X.env)).any (·.1) = false := by rfl) :
    Ev X δ μ (.Call (.Name "sorted" p) [e] [] pos) (.lst ((sortS ss).map sh)) :=
  ev_newL (pe_callB (cr_sortSh hr.units) hg B.sorted boot_sorted (pa_tw X [e]) (by decide) (by decide) he hpl) fun σ H c Q q => ea_cons ha ea_nil he σ H _ c fun vs H1 e1 r1 => by
    obtain ⟨v, rfl, hv⟩ := r1.one
    obtain rfl : v = V.ref l := hv
    obtain ⟨ws, hw, hs⟩ := (c.ex e1).cel _ hl
    refine ⟨l, ws, ss, rfl, .inl hw, hs, ok, fun l ws' hl r2 => q l ws' _ (e1.free hl) (e1.trans (Ex.new hl)) upd_same ?_⟩
    rw [srt_false] at r2
    exact r2.ex (Ex.new hl)
/-- sorted(.., reverse=True) -/
theorem ev_sortR {ss : List (List Int)} {kp kp2 : Pos} {j : Nat} (hr : Room k X.A) (B : Bi X.mg) (ha : Ev X δ μ e (.lst (ss.map sh))) (ok : SortOk ss)
    (hpe : ∀ (ta tk : TA), PA X [e] ta → PK X [⟨some "reverse", .Constant (.bool true) j kp2, kp⟩] tk → PE X (.Call (.Name "sorted" p) [e] [⟨some "reverse", .Constant (.bool true) j kp2, kp⟩] pos) (tCKw rSortShR ta tk)) (he : starEach [e] X.env = (false, eval e X.env) :: starEach [] X.env := by rfl) :
    Ev X δ μ (.Call (.Name "sorted" p) [e] [⟨some "reverse", .Constant (.bool true) j kp2, kp⟩] pos) (.lst ((sortR ss).map sh)) :=
  ev_newL (hpe _ _ (pa_tw X [e]) (pk_cons pe_bl pk_nil)) fun σ H c Q q => ea_cons ha ea_nil he σ H _ c fun vs H1 e1 r1 => by
    obtain ⟨v, rfl, a, o, ws, rfl, ha, hs⟩ := r1.one
    refine ⟨a, ws, ss, rfl, rfl, .inr ⟨o, ha⟩, hs, ok, fun l ws' hl r2 => q l ws' _ (e1.free hl) (e1.trans (Ex.new hl)) upd_same ?_⟩
    rw [srt_true] at r2
    exact r2.ex (Ex.new hl)
end
end Bx
end

-- part BxI
section
set_option Elab.async false
set_option linter.all false
set_option maxRecDepth 100000
set_option maxHeartbeats 4000000
/-! Boxparts, part I: own lists popped and compared; words for comprehensions over one name. -/
namespace Bx
open PySem PySem.Spec PyProof.Rows L2
section
variable {X : Cx} {δ : De} {μ : Mem} {e a b c : Expr} {es : List Expr} {p pos : Pos} {d : D} {k : Nat}
theorem EvI.is {tg iter : Expr} {ds fs : List D} (h : EvI X δ μ tg iter ds) (e : ds = fs) : EvI X δ μ tg iter fs := e ▸ h
/-- own list != [] -/
theorem ec_neNilA {ds : List D} {l : Addr} {n : Nat} (hr : Room k X.A) (ha : Ev X δ μ a (.adr l)) (hl : (l, C.lst ds) ∈ μ) (hb : Ev X δ μ b (.lst [])) (hp : Shp n (.lst ds)) (hn : n ≤ 64 := by decide) : EvC X δ μ .NotEq a b (.bl (!ds.isEmpty)) :=
  fun σ H Q c q pins s I => bin (pe_tw X a) (pe_tw X b) I (R := fun u v H2 => rNeD X.K u v H2 Q) (ha σ H _ c fun u H1 e1 r1 => hb σ H1 _ (c.ex e1) fun v H2 e2 r2 => by
    obtain rfl : u = V.ref l := r1
    obtain ⟨vs, hv, hs⟩ := ((c.ex e1).ex e2).cel _ hl
    refine ⟨py (.lst ds), py (.lst []), .lst (SqL.of hv) (RepL.dp _ _ hs hp.pu), Rep.dp _ _ r2 rfl, hp.shaped hn, Shp.nilL.shaped (by decide), q _ H2 (e1.trans e2) ?_⟩
    rw [eqv_nilL]; rfl) fun v u s2 x y H2 I2 rx ry hq => op_neD hr.units pins s2 σ H2 x y v u Q I2 rx ry hq
/-- x, y = l.pop(): the last one, a pair -/
theorem s_pop2 {l : Addr} {ds : List D} {d1 d2 : D} {μ' : Mem} {i j : Nat} {x y : Str} {px py pt apos cpos : Pos} {kt} (hc : X.calm = true) (hN : X.N.Nodup) (ha : Ev X δ μ a (.adr l)) (m : Mup μ l (.lst (ds ++ [.tup [d1, d2]])) (.lst ds) μ')
    (hpe : ∀ (ta : TE), PE X a ta → PE X (.Call (.Attribute a "pop" apos) [] [] cpos) (tBM0 X.K "list" rPop ta)) (hi : X.N[i]? = some x := by rfl) (hj : X.N[j]? = some y := by rfl)
    (hx : Loc X.env.scope x := by first | exact .inl rfl | exact .inr rfl) (hy : Loc X.env.scope y := by first | exact .inl rfl | exact .inr rfl) (hf : X.fn x = true ∨ X.env.scope.names.lookup x = some .local := by first | exact .inl rfl | exact .inr rfl) (hf2 : X.fn y = true ∨ X.env.scope.names.lookup y = some .local := by first | exact .inl rfl | exact .inr rfl)
    (hs1 : (assignEach [.Name x px, .Name y py] X.env).map (·.2) = assign (.Name x px) X.env :: (assignEach [.Name y py] X.env).map (·.2) := by rfl) (hs2 : (assignEach [.Name y py] X.env).map (·.2) = assign (.Name y py) X.env :: (assignEach [] X.env).map (·.2) := by rfl)
    (hn : (assignEach [.Name x px, .Name y py] X.env).length = 2 := by rfl) (hst : (assignEach [.Name x px, .Name y py] X.env).findIdx? (·.1) = none := by rfl)
    (hs : swapsWithSole [.Tuple [.Name x px, .Name y py] kt pt] (.Call (.Attribute a "pop" apos) [] [] cpos) pos.line X.env = pure false := by rfl) (hw : swappedStores [.Tuple [.Name x px, .Name y py] kt pt] (.Call (.Attribute a "pop" apos) [] [] cpos) X.env = pure none := by rfl)
    (h1 : (assignEach [.Tuple [.Name x px, .Name y py] kt pt] X.env).map (·.2) = [assign (.Tuple [.Name x px, .Name y py] kt pt) X.env] := by rfl) :
    S1 X δ μ (.Assign [.Tuple [.Name x px, .Name y py] kt pt] (.Call (.Attribute a "pop" apos) [] [] cpos) pos) (.nx ((δ.set i (some d1)).set j (some d2)) μ') :=
  s1_ps (ps_asg (hpe _ (pe_tw X a)) (pg_tup hc (pgs_cons (pg_name hN hi hx hf) (pgs_cons (pg_name hN hj hy hf2) pgs_nil hs2) hs1) hn hst) hs hw h1) fun σ H D c q => ha σ H _ c fun u H1 e1 r1 => by
    obtain rfl : u = V.ref l := r1
    obtain ⟨vs, hv, hr⟩ := (c.ex e1).cel _ m.mem
    have hv : H1 l = some (.lst vs) := hv
    have hlen := hr.len
    rw [List.length_append] at hlen
    have hlast : (ds ++ [Bx.D.tup [d1, d2]])[vs.length - 1]? = some (.tup [d1, d2]) := by
      have : vs.length - 1 = ds.length := by simp at hlen; omega
      rw [this, List.getElem?_append_right (Nat.le_refl _)]
      simp
    obtain ⟨v, hv2, rv⟩ := hr.get hlast
    have hdl : RepL H1 ds vs.dropLast := by
      have t := RepL.take ds.length hr
      rw [List.take_left] at t
      have e : vs.dropLast = vs.take ds.length := by
        rw [List.dropLast_eq_take]
        congr 1
        simp at hlen
        omega
      rw [e]; exact t
    have f2 : Fz H1 (upd H1 l (.lst vs.dropLast)) := Fz.upd fun o ho => by rw [hv] at ho; cases ho; exact fun z => z
    obtain ⟨g, xx, f⟩ := (c.ex e1).mup (u := .lst vs.dropLast) m ⟨_, upd_same, RepL.mono f2 _ _ hdl⟩
    refine ⟨.inl ⟨rfl, vs, SqL.of hv⟩, l, vs, v, rfl, rfl, hv, hv2, ?_⟩
    exact tg_two X.K i j d1 d2 δ μ' v σ _ _ g (Rep.mono f2 _ _ rv) fun σ' c' _ _ => q σ' _ c' ((Xs.of e1).trans xx)
end
end Bx
end

-- part BxJ
section
set_option Elab.async false
set_option linter.all false
set_option maxRecDepth 100000
set_option maxHeartbeats 4000000
/-! Boxparts, part J: short words for comprehensions with one or two names; freezing; calls with memory. -/
namespace Bx
open PySem PySem.Spec PyProof.Rows L2
section
variable {X : Cx} {δ δ1 : De} {μ μ1 : Mem} {st : Stmt} {rest sts : List Stmt} {o : Out} {e a b c : Expr} {es : List Expr} {p pos : Pos} {d : D}
theorem ev_lcM1 {α : Type} (N : List Str) (sc : Scope) (i : Nat) {x : Str} {xp : Pos} {xs : List α} (enc : α → D) (fe : α → D) {elt iter : Expr} {scope : Scope} (hc : X.calm = true) (hN : X.N.Nodup)
    (hi : EvI X δ μ (.Name x xp) iter (xs.map enc))
    (he : ∀ y ∈ xs, ∀ s H C cl fp, Ev (bk X scope s H C cl fp) ((wipeD δ [i]).set i (some (enc y))) μ elt (fe y))
    (ok : BlkOk N sc scope [(x, i)] := by exact blkOk_by (by decide +kernel)) (e1 : X.N = N := by rfl) (e2 : X.env.scope = sc := by rfl)
    (hg : ∀ (s : Shared) (H : Hp) (C : Addr) (cl : List (Str × Addr)) (fp : List Addr), PG (bk X scope s H C cl fp) (.Name x xp) (gName i) := by first | exact fun _ _ _ _ _ => pg_name (by assumption) rfl (Or.inl rfl) | exact fun _ _ _ _ _ => pg_name (by assumption) rfl (Or.inr rfl))
    (hs : ∀ x, foldedSetIterable iter X.env x = pure x := by intro _; rfl) : Ev X δ μ (.ListComp elt [⟨.Name x xp, iter, [], 0⟩] scope pos) (.lst (xs.map fe)) := by
  subst e1 e2
  exact ev_lcM (own := [(x, i)]) hc hN hi ok hg (fun y _ => tg_name i (enc y)) (by simp) he hs
theorem ev_lcF1 {α : Type} (N : List Str) (sc : Scope) (i : Nat) {x : Str} {xp : Pos} {xs : List α} (enc : α → D) (q : α → Bool) (fe : α → D) {elt iter c : Expr} {scope : Scope} (hc : X.calm = true) (hN : X.N.Nodup)
    (hi : EvI X δ μ (.Name x xp) iter (xs.map enc))
    (ht : ∀ y ∈ xs, ∀ s H C cl fp, EvT (bk X scope s H C cl fp) ((wipeD δ [i]).set i (some (enc y))) μ c (q y))
    (he : ∀ y ∈ xs, q y = true → ∀ s H C cl fp, Ev (bk X scope s H C cl fp) ((wipeD δ [i]).set i (some (enc y))) μ elt (fe y))
    (ok : BlkOk N sc scope [(x, i)] := by exact blkOk_by (by decide +kernel)) (e1 : X.N = N := by rfl) (e2 : X.env.scope = sc := by rfl)
    (hg : ∀ (s : Shared) (H : Hp) (C : Addr) (cl : List (Str × Addr)) (fp : List Addr), PG (bk X scope s H C cl fp) (.Name x xp) (gName i) := by first | exact fun _ _ _ _ _ => pg_name (by assumption) rfl (Or.inl rfl) | exact fun _ _ _ _ _ => pg_name (by assumption) rfl (Or.inr rfl))
    (hs : ∀ x, foldedSetIterable iter X.env x = pure x := by intro _; rfl) : Ev X δ μ (.ListComp elt [⟨.Name x xp, iter, [c], 0⟩] scope pos) (.lst ((xs.filter q).map fe)) := by
  subst e1 e2
  exact ev_lcF (own := [(x, i)]) hc hN hi ok hg (fun y _ => tg_name i (enc y)) (by simp) ht he hs
theorem pg_two {i j : Nat} {x y : Str} {px py pt : Pos} {kt : Nat} (hc : X.calm = true) (hN : X.N.Nodup) (hi : X.N[i]? = some x := by rfl) (hj : X.N[j]? = some y := by rfl)
    (hx : Loc X.env.scope x := by first | exact .inl rfl | exact .inr rfl) (hy : Loc X.env.scope y := by first | exact .inl rfl | exact .inr rfl) (hf : X.fn x = true ∨ X.env.scope.names.lookup x = some .local := by first | exact .inl rfl | exact .inr rfl) (hf2 : X.fn y = true ∨ X.env.scope.names.lookup y = some .local := by first | exact .inl rfl | exact .inr rfl)
    (hs1 : (assignEach [.Name x px, .Name y py] X.env).map (·.2) = assign (.Name x px) X.env :: (assignEach [.Name y py] X.env).map (·.2) := by rfl) (hs2 : (assignEach [.Name y py] X.env).map (·.2) = assign (.Name y py) X.env :: (assignEach [] X.env).map (·.2) := by rfl)
    (hn : (assignEach [.Name x px, .Name y py] X.env).length = 2 := by rfl) (hst : (assignEach [.Name x px, .Name y py] X.env).findIdx? (·.1) = none := by rfl) :
    PG X (.Tuple [.Name x px, .Name y py] kt pt) (gTup X.K 2 (gCons (gName i) (gCons (gName j) gNil))) :=
  pg_tup hc (pgs_cons (pg_name hN hi hx hf) (pgs_cons (pg_name hN hj hy hf2) pgs_nil hs2) hs1) hn hst
/-- [elt for x, y in iter] -/
theorem ev_lcM2 {α : Type} (N : List Str) (sc : Scope) (i j : Nat) {x y : Str} {px py pt : Pos} {kt : Nat} {xs : List α} (enc enc2 : α → D) (fe : α → D) {elt iter : Expr} {scope : Scope} (hc : X.calm = true) (hN : X.N.Nodup)
    (hi : EvI X δ μ (.Tuple [.Name x px, .Name y py] kt pt) iter (xs.map fun z => .tup [enc z, enc2 z]))
    (he : ∀ z ∈ xs, ∀ s H C cl fp, Ev (bk X scope s H C cl fp) (((wipeD δ [i, j]).set i (some (enc z))).set j (some (enc2 z))) μ elt (fe z))
    (hg : ∀ (s : Shared) (H : Hp) (C : Addr) (cl : List (Str × Addr)) (fp : List Addr), PG (bk X scope s H C cl fp) (.Tuple [.Name x px, .Name y py] kt pt) (gTup X.K 2 (gCons (gName i) (gCons (gName j) gNil))))
    (ok : BlkOk N sc scope [(x, i), (y, j)] := by exact blkOk_by (by decide +kernel)) (e1 : X.N = N := by rfl) (e2 : X.env.scope = sc := by rfl)
    (hs : ∀ x, foldedSetIterable iter X.env x = pure x := by intro _; rfl) : Ev X δ μ (.ListComp elt [⟨.Tuple [.Name x px, .Name y py] kt pt, iter, [], 0⟩] scope pos) (.lst (xs.map fe)) := by
  subst e1 e2
  exact ev_lcM (own := [(x, i), (y, j)]) hc hN hi ok hg (fun z _ => tg_two X.K i j (enc z) (enc2 z)) (by simp) he hs
theorem ev_lcF2 {α : Type} (N : List Str) (sc : Scope) (i j : Nat) {x y : Str} {px py pt : Pos} {kt : Nat} {xs : List α} (enc enc2 : α → D) (q : α → Bool) (fe : α → D) {elt iter c : Expr} {scope : Scope} (hc : X.calm = true) (hN : X.N.Nodup)
    (hi : EvI X δ μ (.Tuple [.Name x px, .Name y py] kt pt) iter (xs.map fun z => .tup [enc z, enc2 z]))
    (ht : ∀ z ∈ xs, ∀ s H C cl fp, EvT (bk X scope s H C cl fp) (((wipeD δ [i, j]).set i (some (enc z))).set j (some (enc2 z))) μ c (q z))
    (he : ∀ z ∈ xs, q z = true → ∀ s H C cl fp, Ev (bk X scope s H C cl fp) (((wipeD δ [i, j]).set i (some (enc z))).set j (some (enc2 z))) μ elt (fe z))
    (hg : ∀ (s : Shared) (H : Hp) (C : Addr) (cl : List (Str × Addr)) (fp : List Addr), PG (bk X scope s H C cl fp) (.Tuple [.Name x px, .Name y py] kt pt) (gTup X.K 2 (gCons (gName i) (gCons (gName j) gNil))))
    (ok : BlkOk N sc scope [(x, i), (y, j)] := by exact blkOk_by (by decide +kernel)) (e1 : X.N = N := by rfl) (e2 : X.env.scope = sc := by rfl)
    (hs : ∀ x, foldedSetIterable iter X.env x = pure x := by intro _; rfl) : Ev X δ μ (.ListComp elt [⟨.Tuple [.Name x px, .Name y py] kt pt, iter, [c], 0⟩] scope pos) (.lst ((xs.filter q).map fe)) := by
  subst e1 e2
  exact ev_lcF (own := [(x, i), (y, j)]) hc hN hi ok hg (fun z _ => tg_two X.K i j (enc z) (enc2 z)) (by simp) ht he hs

/-! an own object is frozen for good -/
def tFzA (l : Addr) (t : TS) : TS := fun D σ H => ∃ u, H l = some u ∧ Mut (some u) ∧ ∀ od, t D σ (upd H l (.frz od u))
theorem pss_fzA {t : TS} {l : Addr} (h : PSs X sts t) : PSs X sts (tFzA l t) := ⟨fun pins s σ H D I ⟨u, hu, mu, k⟩ => by
  obtain ⟨od, I2⟩ := I.lock hu mu
  exact h.run pins s σ _ D I2 (k od)⟩
def C.dat : C → D
  | .lst ds => .lst ds
  | .dK ks vs => .dK ks vs
  | .dT ks vs => .dT ks vs
  | .tab _ => .non
inductive Mdel : Mem → Addr → C → Mem → Prop
  | here {l : Addr} {c : C} {μ : Mem} : Mdel ((l, c) :: μ) l c μ
  | there {l : Addr} {c : C} {μ μ' : Mem} {q : Addr × C} : Mdel μ l c μ' → Mdel (q :: μ) l c (q :: μ')
theorem Mdel.mem {l : Addr} {c : C} {μ μ' : Mem} (h : Mdel μ l c μ') : (l, c) ∈ μ := by
  induction h with
  | here => exact List.mem_cons_self
  | there _ ih => exact List.mem_cons_of_mem _ ih
theorem Mdel.sub {l : Addr} {c : C} {μ μ' : Mem} (h : Mdel μ l c μ') : List.Sublist μ' μ := by
  induction h with
  | here => exact List.sublist_cons_self _ _
  | there _ ih => exact ih.cons_cons _
theorem Mdel.ne {l : Addr} {c : C} {μ μ' : Mem} (h : Mdel μ l c μ') (nd : (μ.map (·.1)).Nodup) : ∀ p ∈ μ', p.1 ≠ l := by
  induction h with
  | here =>
    intro p hp z
    exact (List.nodup_cons.mp nd).1 (by rw [← z]; exact List.mem_map_of_mem (f := (·.1)) hp)
  | @there l c μ μ' q h ih =>
    intro p hp
    have nd' := List.nodup_cons.mp nd
    rcases List.mem_cons.mp hp with e | hp
    · subst e
      intro z
      refine nd'.1 ?_
      show p.1 ∈ _
      rw [z]
      exact List.mem_map_of_mem (f := (fun x : Addr × C => x.1)) h.mem
    · exact ih nd'.2 p hp
theorem sv_fzA (i : Nat) {l : Addr} {cc : C} (hl : δ[i]? = some (some (.adr l))) (m : Mdel μ l cc μ1) (h : Sv X (δ.set i (some cc.dat)) μ1 sts o) (hq : ∀ q, cc ≠ .tab q := by intro _ z; cases z) : Sv X δ μ sts o :=
  sv_pss (pss_fzA (l := l) (pss_tw X sts)) fun σ H D c q => by
    obtain ⟨u, hu, nf, mu⟩ := (c.cel _ m.mem).some
    refine ⟨u, hu, mu hq, fun od => ?_⟩
    have f : Fz H (upd H l (.frz od u)) := Fz.upd fun w hw => by
      have hu' : H l = some u := hu
      rw [hu'] at hw; cases hw; exact nf
    have c2 : Cfg δ μ1 σ (upd H l (.frz od u)) := ⟨c.len, fun i d e => by
      obtain ⟨v, h1, h2⟩ := c.env i d e
      exact ⟨v, h1, Rep.mono f _ _ h2⟩, fun p hp => (c.cel p (m.sub.subset hp)).keep f fun o ho => by rw [upd_ne (m.ne c.nd p hp)]; exact ho, (m.sub.map (·.1)).nodup c.nd⟩
    obtain ⟨v, hv, rv⟩ := c.env i _ hl
    obtain rfl : v = V.ref l := rv
    have r : Rep (upd H l (.frz od u)) cc.dat (.ref l) := by
      have cl := c.cel _ m.mem
      cases cc with
      | lst ds =>
        obtain ⟨vs, h1, h2⟩ := cl
        have h1 : H l = some _ := h1
        have hu' : H l = some u := hu
        rw [hu'] at h1; cases h1
        exact ⟨l, od, vs, rfl, upd_same, RepL.mono f _ _ h2⟩
      | dK ks ds =>
        obtain ⟨vs, h1, h3, h2⟩ := cl
        have h1 : H l = some _ := h1
        have hu' : H l = some u := hu
        rw [hu'] at h1; cases h1
        exact ⟨l, od, vs, rfl, upd_same, h3, RepL.mono f _ _ h2⟩
      | dT ks ds =>
        obtain ⟨vs, h1, h3, h2⟩ := cl
        have h1 : H l = some _ := h1
        have hu' : H l = some u := hu
        rw [hu'] at h1; cases h1
        exact ⟨l, od, vs, rfl, upd_same, h3, RepL.mono f _ _ h2⟩
      | tab q => exact (hq q rfl).elim
    have c3 := c2.set (i := i) r
    have es : σ.set i (some (.ref l)) = σ := by
      apply List.ext_getElem?
      intro j
      by_cases hj : i = j
      · subst hj
        rw [List.getElem?_set_self (List.getElem?_eq_some_iff.mp hv).1, hv]
      · rw [List.getElem?_set_ne hj]
    rw [es] at c3
    refine h σ _ D c3 (okt q ⟨fun a o' ho hn => ?_, fun a ha => .inl ((m.sub.map (·.1)).subset ha)⟩)
    rw [upd_ne (fun z => hn (by rw [z]; exact List.mem_map_of_mem (f := (·.1)) m.mem))]
    exact ho
theorem Cal.le {P : Program} {w : World} {K : PySem.W.Frag} {mg : Str → Option Value} {base : Heap} {k j : Nat} {x : Str} {ps : List Str} {sp : Sp} (F : Cal P w K mg base k x ps sp) (h : k ≤ j) : Cal P w K mg base j x ps sp := by
  obtain ⟨f, fd, a, b⟩ := F.ex
  exact ⟨f, fd, a.mono h, b⟩
end
end Bx
end

-- part BxE1
section
set_option Elab.async false
set_option linter.all false
set_option maxRecDepth 100000
set_option maxHeartbeats 4000000
namespace Bx
open PySem PySem.Spec PyProof.Rows L2
def top (i : Nat) : Stmt := PySem.Challenge.pw_boxparts_k48_whole_weight_one.main.body.getD i (.Pass ⟨0, 0, 0, 0⟩)
/-- small numbers, few of them -/
structure Sm (s : List Int) : Prop where
  lo : ∀ x ∈ s, 0 ≤ x
  hi : ∀ x ∈ s, x ≤ 100
  len : s.length ≤ 100
/-- the item at a place from 0 on -/
def gt (s : List Int) (i : Int) : Int := s.getD i.toNat 0
theorem atI_gt {α : Type} {f : Int → α} {s : List Int} {i : Int} (h0 : 0 ≤ i) (h1 : i < s.length) : atI (s.map f) i = some (f (gt s i)) := by
  have e : i = ((i.toNat : Nat) : Int) := by omega
  have hl : i.toNat < s.length := by omega
  rw [e]
  refine atI_nat ?_
  rw [List.getElem?_map, List.getElem?_eq_getElem hl]
  unfold gt
  rw [List.getD_eq_getElem?_getD]
  have e2 : ((i.toNat : Nat) : Int).toNat = i.toNat := by omega
  rw [e2, List.getElem?_eq_getElem hl]
  rfl
theorem Sm.gt {s : List Int} (h : Sm s) (i : Int) : 0 ≤ Bx.gt s i ∧ Bx.gt s i ≤ 100 := by
  unfold Bx.gt
  rw [List.getD_eq_getElem?_getD]
  cases e : s[i.toNat]? with
  | none => simp
  | some x =>
    have hx := List.mem_of_getElem? e
    exact ⟨h.lo x hx, h.hi x hx⟩
def turned (s : List Int) : List Int := (List.range (gt s 0).toNat).map fun (k : Nat) => ((s.filter fun x => decide ((k : Int) < x)).length : Int)
section
variable {P : Program} {w : World} {K : PySem.W.Frag} {mg : Str → Option Value} {base : Heap}
def RTurned (ds : List D) (d : D) : Prop := ∃ s, ds = [sh s] ∧ Sm s ∧ d = sh (turned s)
abbrev sTurned : Stmt := top 18
abbrev nTurned : List Str := ["shape", "k", "size"]
theorem scTurned : FnScope nTurned ["shape"] (defScope sTurned) := ⟨rfl, rfl, rfl, by decide +kernel, rfl, by decide +kernel, by decide +kernel⟩
theorem c_turned {f : Addr} {fd : FuncData} (F : FnP K "turned_of" sTurned f fd) (g : mg "turned_of" = some (.ref f)) (B : Bi mg) : Cal P w K mg base 1 "turned_of" ["shape"] (spR RTurned) := by
  refine fn_R F g scTurned (fun ds d ⟨s, e, _⟩ => by rw [e]; rfl) (fun _ _ _ _ _ _ us hl => match us, hl with | [_], _ => rfl) fun cdv A outer s H E hr ds d h => ?_
  obtain ⟨s, rfl, hs, rfl⟩ := h
  refine sv_one (s_ret (ev_tupleOf B ?_))
  refine (ev_lcM (xs := List.range (gt s 0).toNat) (enc := fun (i : Nat) => D.int (0 + (i : Int))) (fe := fun (k : Nat) => .int ((s.filter fun x => decide ((k : Int) < x)).length : Int)) (own := [("k", 1)]) rfl scTurned.nd ?_ (blkOk_by (N := nTurned) (sc := defScope sTurned) (by decide +kernel))
    (fun _ _ _ _ _ => pg_name (i := 1) scTurned.nd rfl (Or.inr rfl)) (fun _ _ => tg_name 1 _) (by decide) fun k hk _ _ _ _ _ => ?_).is (by unfold turned; rw [List.map_map]; rfl)
  · have h0 := hs.gt 0
    refine ei_range1 (n := gt s 0) B ((ev_if (et_c (ec_neNilT hr (ev_var 0) (ev_tup ea_nil) (Shp.sh s))) (fun h => ev_ixT (ev_var 0) ev_int (atI_gt (f := D.int) (i := 0) (by omega) ?_)) (fun _ => ev_int)).is ?_) (by omega) (by omega)
    · cases s with
      | nil => simp at h
      | cons a s => simp
    · cases s with
      | nil => rfl
      | cons a s => rfl
  · refine (ev_lenL B (ds := (s.filter fun x => decide ((k : Int) < x)).map D.int) ?_).is (by rw [List.length_map])
    exact ev_lcF (xs := s) (enc := D.int) (p := fun x => decide ((k : Int) < x)) (fe := D.int) (own := [("size", 2)]) rfl scTurned.nd (ei_tup (ev_var 0)) (blkOk_by (N := nTurned) (sc := relS _ (defScope sTurned)) (by decide +kernel))
      (fun _ _ _ _ _ => pg_name (i := 2) scTurned.nd rfl (Or.inl rfl)) (fun _ _ => tg_name 2 _) (by decide) (fun x hx _ _ _ _ _ => (et_c (ec_gt (ev_var 2) (ev_var 1))).is (by rw [Int.zero_add])) (fun x hx _ _ _ _ _ _ => ev_var 2)
end
end Bx
end

-- part BxK
section
set_option Elab.async false
set_option linter.all false
set_option maxRecDepth 100000
set_option maxHeartbeats 4000000
/-! Boxparts, part K: mirrors of the shape defs and their plain facts; a few more words. -/
namespace Bx
open PySem PySem.Spec PyProof.Rows L2
structure Vs (s : List Int) : Prop where
  lo : ∀ x ∈ s, 1 ≤ x
  hi : ∀ x ∈ s, x ≤ 50
  len : s.length ≤ 50
  fall : s.Pairwise fun a b => b ≤ a
def vsB (s : List Int) : Bool := s.all (fun x => decide (1 ≤ x)) && s.all (fun x => decide (x ≤ 50)) && decide (s.length ≤ 50) && decide (s.Pairwise fun a b => b ≤ a)
theorem vs_of {s : List Int} (h : vsB s = true) : Vs s := by
  unfold vsB at h
  simp only [Bool.and_eq_true, List.all_eq_true, decide_eq_true_eq] at h
  exact ⟨h.1.1.1, h.1.1.2, h.1.2, h.2⟩
theorem Vs.sm {s : List Int} (h : Vs s) : Sm s := ⟨fun x hx => by have := h.lo x hx; omega, fun x hx => by have := h.hi x hx; omega, by have := h.len; omega⟩
theorem gt_at {s : List Int} {i : Int} (h0 : 0 ≤ i) (h1 : i < s.length) : gt s i ∈ s := by
  unfold gt
  rw [List.getD_eq_getElem?_getD, List.getElem?_eq_getElem (by omega)]
  exact List.getElem_mem _
theorem gt_bd (s : List Int) (i : Int) : gt s i = 0 ∨ gt s i ∈ s := by
  unfold gt
  rw [List.getD_eq_getElem?_getD]
  cases e : s[i.toNat]? with
  | none => exact .inl rfl
  | some x => exact .inr (List.mem_of_getElem? e)
theorem Vs.top {s : List Int} (h : Vs s) (i : Int) : gt s i ≤ gt s 0 := by
  cases s with
  | nil => unfold gt; simp
  | cons a t =>
    have h0 : gt (a :: t) 0 = a := rfl
    rw [h0]
    have hp := List.pairwise_cons.mp h.fall
    have ha := h.lo a List.mem_cons_self
    rcases gt_bd (a :: t) i with z | z
    · omega
    · rcases List.mem_cons.mp z with z | z
      · omega
      · exact hp.1 _ z
theorem turned_len (s : List Int) : (turned s).length = (gt s 0).toNat := by unfold turned; rw [List.length_map, List.length_range]
theorem turned_bd (s : List Int) (i : Int) : 0 ≤ gt (turned s) i ∧ gt (turned s) i ≤ s.length := by
  rcases gt_bd (turned s) i with z | z
  · omega
  · unfold turned at z
    obtain ⟨k, _, e⟩ := List.mem_map.mp z
    have e : ((s.filter fun x => decide ((k : Int) < x)).length : Int) = gt (turned s) i := e
    have := List.length_filter_le (fun x => decide ((k : Int) < x)) s
    omega
/-- a box -/
abbrev bx (p : Int × Int) : D := .tup [.int p.1, .int p.2]
def boxes (s : List Int) : List (Int × Int) := (List.range s.length).flatMap fun (i : Nat) => (List.range (gt s i).toNat).map fun (j : Nat) => ((i : Int), (j : Int))
theorem mem_boxes {s : List Int} {p : Int × Int} (h : p ∈ boxes s) : 0 ≤ p.1 ∧ p.1 < s.length ∧ 0 ≤ p.2 ∧ p.2 < gt s p.1 := by
  unfold boxes at h
  obtain ⟨i, hi, h⟩ := List.mem_flatMap.mp h
  obtain ⟨j, hj, rfl⟩ := List.mem_map.mp h
  rw [List.mem_range] at hi hj
  refine ⟨by simp, by simpa using hi, by simp, ?_⟩
  show (j : Int) < gt s i
  omega
def boxesN (s : List Int) : Nat := (s.map Int.toNat).sum
theorem boxes_len {s : List Int} (h : Sm s) : (boxes s).length ≤ 10000 := by
  unfold boxes
  rw [List.length_flatMap]
  have g : ∀ (l : List Nat), ((l.map fun (i : Nat) => ((List.range (gt s i).toNat).map fun (j : Nat) => ((i : Int), (j : Int))).length)).sum ≤ l.length * 100 := by
    intro l
    induction l with
    | nil => simp
    | cons a l ih =>
      rw [List.map_cons, List.sum_cons, List.length_map, List.length_range, List.length_cons, Nat.succ_mul]
      have := (h.gt (a : Int)).2
      omega
  have := g (List.range s.length)
  rw [List.length_range] at this
  have := h.len
  exact Nat.le_trans (g _) (by rw [List.length_range]; omega)
def freeL (e : Int) (s : List Int) : List Bool := (List.range ((s.length : Int) - e + 1).toNat).map fun (k : Nat) => !decide (gt s k = gt s ((k : Int) + e - 1))
def isFree (e : Int) (s : List Int) : Bool := (freeL e s).all id
def hook (s : List Int) (p : Int × Int) : Int := gt s p.1 - p.2 + gt (turned s) p.2 - p.1 - 1
def rimRaw (s : List Int) (p : Int × Int) : List Int :=
  s.take p.1.toNat ++ (List.range (gt (turned s) p.2 - 1 - p.1).toNat).map (fun (k : Nat) => gt s (p.1 + k + 1) - 1) ++ p.2 :: s.drop (gt (turned s) p.2).toNat
def rimless (s : List Int) (p : Int × Int) : List Int := (rimRaw s p).filter fun x => decide (0 < x)
def rimAll0 (s : List Int) (n : Int) : List (List Int) := ((boxes s).filter fun p => decide (hook s p = n)).map (rimless s)
def rimAll (s : List Int) (n : Int) : List (List Int) := sortS (rimAll0 s n)
def colour (e : Int) (p : Int × Int) : Int := (p.2 - p.1) % e
def colours (e : Int) (s : List Int) : List Int := (List.range e.toNat).map fun (c : Nat) => ((((boxes s).map (colour e)).count (c : Int) : Nat) : Int)
theorem rngD0 (n : Nat) : rngD 0 n = (List.range n).map fun (i : Nat) => D.int (i : Int) := by
  unfold rngD
  congr 1
  funext i
  rw [Int.zero_add]
theorem cut_to {α : Type} {xs : List α} {j : Int} (h0 : 0 ≤ j) (h1 : j ≤ xs.length) : cutD xs none (some j) = xs.take j.toNat := by
  have e : j = ((j.toNat : Nat) : Int) := by omega
  unfold cutD
  rw [HT.sIx_none, e, HT.sIx_nat, List.drop_zero, Nat.sub_zero, Nat.min_eq_left (by omega)]
  rfl
theorem cut_from {α : Type} {xs : List α} {j : Int} (h0 : 0 ≤ j) (h1 : j ≤ xs.length) : cutD xs (some j) none = xs.drop j.toNat := by
  have e : j = ((j.toNat : Nat) : Int) := by omega
  unfold cutD
  rw [HT.sIx_none, e, HT.sIx_nat, Nat.min_eq_left (by omega), List.take_of_length_le (by rw [List.length_drop]; exact Nat.le_refl _)]
  rfl
section
variable {X : Cx} {δ δ1 : De} {μ μ1 : Mem} {st : Stmt} {rest sts : List Stmt} {o : Out} {e a b c : Expr} {es : List Expr} {p pos : Pos} {d : D} {tg : Expr}
theorem ei_range0 {n : Int} (B : Bi X.mg) (h : Ev X δ μ a (.int n)) (hz : n ≤ 100000) (hl : -100000 ≤ n) (hg : Gl X "range" := by rfl) (he : starEach [a] X.env = (false, eval a X.env) :: starEach [] X.env := by rfl) (hs : starEach [a] X.env = [(false, eval a X.env)] := by rfl) :
    EvI X δ μ tg (.Call (.Name "range" p) [a] [] pos) ((List.range n.toNat).map fun (i : Nat) => D.int (i : Int)) := (ei_range1 B h hz hl hg he hs).is (rngD0 _)
theorem eo_none : EvO X δ μ none none := trivial
theorem eo_some {i : Int} (h : Ev X δ μ e (.int i)) : EvO X δ μ (some e) (some i) := h
theorem s_lcM1 {α : Type} (k : Nat) (N : List Str) (sc : Scope) (i : Nat) {x y : Str} {xp yp spos : Pos} {xs : List α} (enc : α → D) (fe : α → D) {elt iter : Expr} {scope : Scope} (hc : X.calm = true) (hN : X.N.Nodup)
    (hi : EvI X δ μ (.Name x xp) iter (xs.map enc))
    (he : ∀ y ∈ xs, ∀ s H C cl fp, Ev (bk X scope s H C cl fp) ((wipeD δ [i]).set i (some (enc y))) μ elt (fe y))
    (ok : BlkOk N sc scope [(x, i)] := by exact blkOk_by (by decide +kernel)) (e1 : X.N = N := by rfl) (e2 : X.env.scope = sc := by rfl)
    (hg : ∀ (s : Shared) (H : Hp) (C : Addr) (cl : List (Str × Addr)) (fp : List Addr), PG (bk X scope s H C cl fp) (.Name x xp) (gName i) := by first | exact fun _ _ _ _ _ => pg_name (by assumption) rfl (Or.inl rfl) | exact fun _ _ _ _ _ => pg_name (by assumption) rfl (Or.inr rfl))
    (hy : X.N[k]? = some y := by rfl) (hyl : X.env.scope.names.lookup y = some .local := by rfl) (hsw : swapsWith (.ListComp elt [⟨(.Name x xp), iter, [], 0⟩] scope pos) (some (.Name y yp)) spos.line X.env = pure true := by exact sw_true rfl rfl rfl (by decide +kernel))
    (hs : ∀ x, foldedSetIterable iter X.env x = pure x := by intro _; rfl) : S1 X δ μ (.Assign [.Name y yp] (.ListComp elt [⟨.Name x xp, iter, [], 0⟩] scope pos) spos) (.nx (δ.set k (some (.lst (xs.map fe)))) μ) := by
  subst e1 e2
  exact s_lcM k (own := [(x, i)]) hc hN hi ok hg (fun y _ => tg_name i (enc y)) (by simp) he hy hyl hsw hs
theorem s_lcF1 {α : Type} (k : Nat) (N : List Str) (sc : Scope) (i : Nat) {x y : Str} {xp yp spos : Pos} {xs : List α} (enc : α → D) (q : α → Bool) (fe : α → D) {elt iter c : Expr} {scope : Scope} (hc : X.calm = true) (hN : X.N.Nodup)
    (hi : EvI X δ μ (.Name x xp) iter (xs.map enc))
    (ht : ∀ y ∈ xs, ∀ s H C cl fp, EvT (bk X scope s H C cl fp) ((wipeD δ [i]).set i (some (enc y))) μ c (q y))
    (he : ∀ y ∈ xs, q y = true → ∀ s H C cl fp, Ev (bk X scope s H C cl fp) ((wipeD δ [i]).set i (some (enc y))) μ elt (fe y))
    (ok : BlkOk N sc scope [(x, i)] := by exact blkOk_by (by decide +kernel)) (e1 : X.N = N := by rfl) (e2 : X.env.scope = sc := by rfl)
    (hg : ∀ (s : Shared) (H : Hp) (C : Addr) (cl : List (Str × Addr)) (fp : List Addr), PG (bk X scope s H C cl fp) (.Name x xp) (gName i) := by first | exact fun _ _ _ _ _ => pg_name (by assumption) rfl (Or.inl rfl) | exact fun _ _ _ _ _ => pg_name (by assumption) rfl (Or.inr rfl))
    (hy : X.N[k]? = some y := by rfl) (hyl : X.env.scope.names.lookup y = some .local := by rfl) (hsw : swapsWith (.ListComp elt [⟨(.Name x xp), iter, [c], 0⟩] scope pos) (some (.Name y yp)) spos.line X.env = pure true := by exact sw_true rfl rfl rfl (by decide +kernel))
    (hs : ∀ x, foldedSetIterable iter X.env x = pure x := by intro _; rfl) : S1 X δ μ (.Assign [.Name y yp] (.ListComp elt [⟨.Name x xp, iter, [c], 0⟩] scope pos) spos) (.nx (δ.set k (some (.lst ((xs.filter q).map fe)))) μ) := by
  subst e1 e2
  exact s_lcF k (own := [(x, i)]) hc hN hi ok hg (fun y _ => tg_name i (enc y)) (by simp) ht he hy hyl hsw hs
end
end Bx
end

-- part BxE2
section
set_option Elab.async false
set_option linter.all false
set_option maxRecDepth 100000
set_option maxHeartbeats 4000000
/-! Boxparts: walks of the shape defs. -/
namespace Bx
open PySem PySem.Spec PyProof.Rows L2
section
variable {P : Program} {w : World} {K : PySem.W.Frag} {mg : Str → Option Value} {base : Heap} {f : Addr} {fd : FuncData}

/-! is_free_of -/
def RFree (ds : List D) (d : D) : Prop := ∃ e s, ds = [.int e, sh s] ∧ Sm s ∧ 1 ≤ e ∧ e ≤ 1000 ∧ d = .bl (isFree e s)
abbrev nFree : List Str := ["e", "shape", "k"]
theorem scFree : FnScope nFree ["e", "shape"] (defScope (top 19)) := ⟨rfl, rfl, rfl, by decide +kernel, rfl, by decide +kernel, by decide +kernel⟩
theorem c_free (F : FnP K "is_free_of" (top 19) f fd) (g : mg "is_free_of" = some (.ref f)) (B : Bi mg) : Cal P w K mg base 1 "is_free_of" ["e", "shape"] (spR RFree) := by
  refine fn_R F g scFree (fun ds d ⟨e, s, q, _⟩ => by rw [q]; rfl) (fun _ _ _ _ _ _ us hl => match us, hl with | [_, _], _ => rfl) fun cdv A outer s H E hr ds d h => ?_
  obtain ⟨e, s, rfl, hs, he, he2, rfl⟩ := h
  have hlen := hs.len
  have hN := scFree.nd
  refine sv_one (s_ret (ev_all rfl B (bs := freeL e s) ((ev_lcM1 nFree (defScope (top 19)) 2 (xs := List.range (((s.map D.int).length : Int) - e + 1).toNat) (fun (i : Nat) => D.int (i : Int)) (fun (k : Nat) => D.bl (!decide (gt s k = gt s ((k : Int) + e - 1)))) rfl hN ?_ fun k hk _ _ _ _ _ => ?_).is ?_)))
  · exact ei_range0 B (ev_add (ev_sub (ev_lenT B (ev_var 1)) (ev_var 0)) ev_int) (by rw [List.length_map]; omega) (by rw [List.length_map]; omega)
  · rw [List.mem_range, List.length_map] at hk
    exact ev_c (ec_neI (ev_ixT (ev_var 1) (ev_var 2) (atI_gt (f := D.int) (by omega) (by omega))) (ev_ixT (ev_var 1) (ev_sub (ev_add (ev_var 2) (ev_var 0)) ev_int) (atI_gt (f := D.int) (by omega) (by omega))))
  · unfold freeL
    rw [List.map_map, List.length_map]
    rfl

/-! boxes_of -/
def RBoxes (ds : List D) (d : D) : Prop := ∃ s, ds = [sh s] ∧ Sm s ∧ d = .lst ((boxes s).map bx)
abbrev nBoxes : List Str := ["shape", "row", "size", "column"]
theorem scBoxes : FnScope nBoxes ["shape"] (defScope (top 21)) := ⟨rfl, rfl, rfl, by decide +kernel, rfl, by decide +kernel, by decide +kernel⟩
theorem c_boxes (F : FnP K "boxes_of" (top 21) f fd) (g : mg "boxes_of" = some (.ref f)) (B : Bi mg) : Cal P w K mg base 1 "boxes_of" ["shape"] (spR RBoxes) := by
  refine fn_R F g scBoxes (fun ds d ⟨s, q, _⟩ => by rw [q]; rfl) (fun _ _ _ _ _ _ us hl => match us, hl with | [_], _ => rfl) fun cdv A outer s H E hr ds d h => ?_
  obtain ⟨s, rfl, hs, rfl⟩ := h
  have hN := scBoxes.nd
  refine sv_one (s_ret ((ev_lc2 (xs := List.range s.length) (ys := fun (i : Nat) => List.range (gt s i).toNat) (enc := fun (i : Nat) => D.tup [.int (i : Int), .int (gt s i)]) (enc1 := fun _ (j : Nat) => D.int (j : Int)) (fe := fun (i j : Nat) => bx ((i : Int), (j : Int)))
    (own := [("row", 1), ("size", 2), ("column", 3)]) (vs1 := [3]) rfl hN ?_ (blkOk_by (N := nBoxes) (sc := defScope (top 21)) (by decide +kernel)) (by decide) (fun _ _ _ _ _ => pg_two (i := 1) (j := 2) rfl hN) (fun _ _ => tg_two _ 1 2 _ _) (by decide) (fun i hi _ _ _ _ _ => ?_)
    (fun _ _ _ _ _ => pg_name (i := 3) hN rfl (Or.inl rfl)) (fun _ _ _ _ => tg_name 3 _) (by decide) (fun i hi j hj _ _ _ _ _ => ev_tup (ea_cons (ev_var 1) (ea_cons (ev_var 3) ea_nil))) ?_).is ?_))
  · refine (ei_enumT B (ev_var 0)).is ?_
    unfold enumD
    rw [List.length_map]
    refine List.map_congr_left fun i hi => ?_
    rw [List.mem_range] at hi
    have : (s.map D.int).getD i .non = .int (gt s i) := by
      rw [List.getD_eq_getElem?_getD, List.getElem?_map, List.getElem?_eq_getElem hi]
      unfold gt
      rw [List.getD_eq_getElem?_getD, Int.toNat_natCast, List.getElem?_eq_getElem hi]
      rfl
    rw [this]
  · exact ei_range0 B (ev_var 2) (by have := (hs.gt (i : Int)).2; omega) (by have := (hs.gt (i : Int)).1; omega)
  · have := boxes_len hs
    unfold boxes at this
    rw [List.length_flatMap] at this ⊢
    simp only [List.length_map] at this ⊢
    omega
  · unfold boxes
    rw [List.map_flatMap]
    simp only [List.map_map]
    rfl

/-! colour_of -/
def RColour (ds : List D) (d : D) : Prop := ∃ e p, ds = [.int e, bx p] ∧ 1 ≤ e ∧ d = .int (colour e p)
abbrev nColour : List Str := ["e", "box"]
theorem scColour : FnScope nColour ["e", "box"] (defScope (top 22)) := ⟨rfl, rfl, rfl, by decide +kernel, rfl, by decide +kernel, by decide +kernel⟩
theorem c_colour (F : FnP K "colour_of" (top 22) f fd) (g : mg "colour_of" = some (.ref f)) (B : Bi mg) : Cal P w K mg base 1 "colour_of" ["e", "box"] (spR RColour) := by
  refine fn_R F g scColour (fun ds d ⟨e, s, q, _⟩ => by rw [q]; rfl) (fun _ _ _ _ _ _ us hl => match us, hl with | [_, _], _ => rfl) fun cdv A outer s H E hr ds d h => ?_
  obtain ⟨e, p, rfl, he, rfl⟩ := h
  exact sv_one (s_ret (ev_mod (ev_sub (ev_ixT (ev_var 1) ev_int (by rfl)) (ev_ixT (ev_var 1) ev_int (by rfl))) (ev_var 0) (by omega)))

/-! hook_of -/
def RHook (ds : List D) (d : D) : Prop := ∃ s p, ds = [sh s, bx p] ∧ Vs s ∧ p ∈ boxes s ∧ d = .int (hook s p)
abbrev nHook : List Str := ["shape", "box", "row", "column"]
theorem scHook : FnScope nHook ["shape", "box"] (defScope (top 52)) := ⟨rfl, rfl, rfl, by decide +kernel, rfl, by decide +kernel, by decide +kernel⟩
theorem c_hook (F : FnP K "hook_of" (top 52) f fd) (g : mg "hook_of" = some (.ref f)) (B : Bi mg) (G1 : Cal P w K mg base 1 "turned_of" ["shape"] (spR RTurned)) : Cal P w K mg base 2 "hook_of" ["shape", "box"] (spR RHook) := by
  refine fn_R F g scHook (fun ds d ⟨e, s, q, _⟩ => by rw [q]; rfl) (fun _ _ _ _ _ _ us hl => match us, hl with | [_, _], _ => rfl) fun cdv A outer s H E hr ds d h => ?_
  obtain ⟨s, p, rfl, hs, hp, rfl⟩ := h
  obtain ⟨a1, a2, a3, a4⟩ := mem_boxes hp
  have hN := scHook.nd
  have ht := turned_len s
  have h0 := hs.top p.1
  refine sv_cons (s_two rfl hN (i := 2) (j := 3) (ev_var 1)) (sv_one (s_ret ?_))
  exact ev_sub (ev_sub (ev_add (ev_sub (ev_ixT (ev_var 0) (ev_var 2) (atI_gt (f := D.int) (by omega) (by omega))) (ev_var 3)) (ev_ixT (ev_call G1 hr (ea_cons (ev_var 0) ea_nil) ⟨s, rfl, hs.sm, rfl⟩) (ev_var 3) (atI_gt (f := D.int) (by omega) (by omega)))) (ev_var 2)) ev_int

/-! rimless -/
def RRim (ds : List D) (d : D) : Prop := ∃ s p, ds = [sh s, bx p] ∧ Vs s ∧ p ∈ boxes s ∧ d = sh (rimless s p)
abbrev nRim : List Str := ["shape", "box", "row", "column", "last", "moved", "found", "k", "size"]
theorem scRim : FnScope nRim ["shape", "box"] (defScope (top 53)) := ⟨rfl, rfl, rfl, by decide +kernel, rfl, by decide +kernel, by decide +kernel⟩
theorem c_rim (F : FnP K "rimless" (top 53) f fd) (g : mg "rimless" = some (.ref f)) (B : Bi mg) (G1 : Cal P w K mg base 1 "turned_of" ["shape"] (spR RTurned)) : Cal P w K mg base 2 "rimless" ["shape", "box"] (spR RRim) := by
  refine fn_R F g scRim (fun ds d ⟨e, s, q, _⟩ => by rw [q]; rfl) (fun _ _ _ _ _ _ us hl => match us, hl with | [_, _], _ => rfl) fun cdv A outer s H E hr ds d h => ?_
  obtain ⟨s, p, rfl, hs, hp, rfl⟩ := h
  obtain ⟨a1, a2, a3, a4⟩ := mem_boxes hp
  have hN := scRim.nd
  have ht := turned_len s
  have h0 := hs.top p.1
  have hb := turned_bd s p.2
  have hl := hs.len
  refine sv_cons (s_two rfl hN (i := 2) (j := 3) (ev_var 1)) (sv_cons (s_set 4 hN (ev_sub (ev_ixT (ev_call G1 hr (ea_cons (ev_var 0) ea_nil) ⟨s, rfl, hs.sm, rfl⟩) (ev_var 3) (atI_gt (f := D.int) (by omega) (by omega))) ev_int)) ?_)
  refine sv_cons (s_lcM1 5 nRim (defScope (top 53)) 7 (xs := List.range (gt (turned s) p.2 - 1 - p.1).toNat) (fun (i : Nat) => D.int (p.1 + (i : Int))) (fun (k : Nat) => D.int (gt s (p.1 + k + 1) - 1)) rfl hN ?_ fun k hk _ _ _ _ _ => ?_) ?_
  · exact ei_range2 B (ev_var 2) (ev_var 4) (by omega) (by omega) (by omega) (by omega)
  · rw [List.mem_range] at hk
    exact ev_sub (ev_ixT (ev_var 0) (ev_add (ev_var 7) ev_int) (atI_gt (f := D.int) (by omega) (by omega))) ev_int
  refine sv_cons (s_set 6 hN (d := sh (rimRaw s p)) ((ev_tup (ea_starT (ev_slT (ev_var 0) (i := none) (j := some p.1) eo_none (eo_some (ev_var 2))) (ea_starL (ev_var 5) (ea_cons (ev_var 3) (ea_starT (ev_slT (ev_var 0) (i := some (gt (turned s) p.2 - 1 + 1)) (j := none) (eo_some (ev_add (ev_var 4) ev_int)) eo_none) ea_nil)))) ?_).is ?_)) ?_
  · rw [cut_to (by omega) (by rw [List.length_map]; omega), cut_from (by omega) (by rw [List.length_map]; omega)]
    simp
    omega
  · rw [cut_to (by omega) (by rw [List.length_map]; omega), cut_from (by omega) (by rw [List.length_map]; omega)]
    unfold rimRaw sh
    rw [List.map_append, List.map_append, List.map_cons, List.map_take, List.map_drop, List.map_map, List.append_nil, show gt (turned s) p.2 - 1 + 1 = gt (turned s) p.2 by omega]
    rw [List.append_assoc]
    rfl
  refine sv_one (s_ret (ev_tupleOf B ?_))
  exact ev_lcF1 nRim (defScope (top 53)) 8 (xs := rimRaw s p) D.int (fun x => decide (0 < x)) D.int rfl hN (ei_tup (ev_var 6)) (fun x hx _ _ _ _ _ => et_c (ec_gt (ev_var 8) ev_int)) (fun x hx _ _ _ _ _ _ => ev_var 8)

/-! rimless_all -/
def RRims (ds : List D) (d : D) : Prop := ∃ s n, ds = [sh s, .int n] ∧ Vs s ∧ SortOk (rimAll0 s n) ∧ d = .lst ((rimAll s n).map sh)
abbrev nRims : List Str := ["shape", "length", "box"]
theorem scRims : FnScope nRims ["shape", "length"] (defScope (top 54)) := ⟨rfl, rfl, rfl, by decide +kernel, rfl, by decide +kernel, by decide +kernel⟩
theorem c_rims (F : FnP K "rimless_all" (top 54) f fd) (g : mg "rimless_all" = some (.ref f)) (B : Bi mg) (G1 : Cal P w K mg base 1 "boxes_of" ["shape"] (spR RBoxes)) (G2 : Cal P w K mg base 2 "hook_of" ["shape", "box"] (spR RHook))
    (G3 : Cal P w K mg base 2 "rimless" ["shape", "box"] (spR RRim)) : Cal P w K mg base 3 "rimless_all" ["shape", "length"] (spR RRims) := by
  refine fn_R F g scRims (fun ds d ⟨e, s, q, _⟩ => by rw [q]; rfl) (fun _ _ _ _ _ _ us hl => match us, hl with | [_, _], _ => rfl) fun cdv A outer s H E hr ds d h => ?_
  obtain ⟨s, n, rfl, hs, ok, rfl⟩ := h
  have hN := scRims.nd
  refine sv_one (s_ret (ev_sortS hr B (ss := rimAll0 s n) ((ev_lcF1 nRims (defScope (top 54)) 2 (xs := boxes s) bx (fun p => decide (hook s p = n)) (fun p => sh (rimless s p)) rfl hN (ei_list (ev_call G1 (hr.mono (by decide)) (ea_cons (ev_var 0) ea_nil) ⟨s, rfl, hs.sm, rfl⟩)) (fun p hp _ _ _ _ _ => ?_) (fun p hp _ _ _ _ _ _ => ?_)).is ?_) ok))
  · exact et_c (ec_eqI (ev_call G2 hr (ea_cons (ev_var 0) (ea_cons (ev_var 2) ea_nil)) ⟨s, p, rfl, hs, hp, rfl⟩) (ev_var 1))
  · exact ev_call G3 hr (ea_cons (ev_var 0) (ea_cons (ev_var 2) ea_nil)) ⟨s, p, rfl, hs, hp, rfl⟩
  · unfold rimAll0
    rw [List.map_map]
    rfl

/-! colours_of -/
def RColours (ds : List D) (d : D) : Prop := ∃ e s, ds = [.int e, sh s] ∧ Sm s ∧ 1 ≤ e ∧ e ≤ 1000 ∧ d = sh (colours e s)
abbrev nColours : List Str := ["e", "shape", "some", "box", "colour"]
theorem scColours : FnScope nColours ["e", "shape"] (defScope (top 26)) := ⟨rfl, rfl, rfl, by decide +kernel, rfl, by decide +kernel, by decide +kernel⟩
theorem c_colours (F : FnP K "colours_of" (top 26) f fd) (g : mg "colours_of" = some (.ref f)) (B : Bi mg) (G1 : Cal P w K mg base 1 "boxes_of" ["shape"] (spR RBoxes)) (G2 : Cal P w K mg base 1 "colour_of" ["e", "box"] (spR RColour)) :
    Cal P w K mg base 2 "colours_of" ["e", "shape"] (spR RColours) := by
  refine fn_R F g scColours (fun ds d ⟨e, s, q, _⟩ => by rw [q]; rfl) (fun _ _ _ _ _ _ us hl => match us, hl with | [_, _], _ => rfl) fun cdv A outer s H E hr ds d h => ?_
  obtain ⟨e, s, rfl, hs, he, he2, rfl⟩ := h
  have hN := scColours.nd
  refine sv_cons (s_set 2 hN (d := li ((boxes s).map (colour e))) ((ev_lcM1 nColours (defScope (top 26)) 3 (xs := boxes s) bx (fun p => D.int (colour e p)) rfl hN (ei_list (ev_call G1 hr (ea_cons (ev_var 1) ea_nil) ⟨s, rfl, hs, rfl⟩)) (fun p hp _ _ _ _ _ => ?_)).is (by unfold li; rw [List.map_map]; rfl))) ?_
  · exact ev_call G2 hr (ea_cons (ev_var 0) (ea_cons (ev_var 3) ea_nil)) ⟨e, p, rfl, he, rfl⟩
  refine sv_one (s_ret (ev_tupleOf B ((ev_lcM1 nColours (defScope (top 26)) 4 (xs := List.range e.toNat) (fun (i : Nat) => D.int (i : Int)) (fun (c : Nat) => D.int ((((boxes s).map (colour e)).count (c : Int) : Nat) : Int)) rfl hN (ei_range0 B (ev_var 0) (by omega) (by omega)) (fun c hc _ _ _ _ _ => ?_)).is (by unfold colours; rw [List.map_map]; rfl))))
  refine ev_countL (ev_var 2) (ev_var 4) fun te ta ha he => ?_
  exact pe_bm PySem.F.plainAttrs_list PySem.F.slot_list_count PySem.F.type_list_count mt_lcount ha (pa_cons he pa_nil)
end
end Bx
end

-- part BxL
section
set_option Elab.async false
set_option linter.all false
set_option maxRecDepth 100000
set_option maxHeartbeats 4000000
/-! Boxparts, part L: more mirrors and words. -/
namespace Bx
open PySem PySem.Spec PyProof.Rows L2
/-! a machine that runs till it is done -/
def itM {α : Type} (step : α → α) : Nat → α → α
  | 0, a => a
  | i + 1, a => itM step i (step a)
theorem itM_succ {α : Type} (step : α → α) : ∀ (i : Nat) (a : α), itM step (i + 1) a = step (itM step i a)
  | 0, _ => rfl
  | i + 1, a => itM_succ step i (step a)
def runM {α : Type} (done ok : α → Bool) (step : α → α) : Nat → α → Option α
  | 0, _ => none
  | f + 1, a => if ok a then (if done a then some a else runM done ok step f (step a)) else none
theorem runM_spec {α : Type} {done ok : α → Bool} {step : α → α} : ∀ {f : Nat} {a b : α}, runM done ok step f a = some b → ∃ n, b = itM step n a ∧ (∀ i, i ≤ n → ok (itM step i a) = true) ∧ (∀ i, i < n → done (itM step i a) = false) ∧ done (itM step n a) = true
  | 0, _, _, h => nomatch h
  | f + 1, a, b, h => by
    unfold runM at h
    by_cases h1 : ok a = true
    · rw [if_pos h1] at h
      by_cases h2 : done a = true
      · rw [if_pos h2] at h
        cases h
        exact ⟨0, rfl, fun i hi => by obtain rfl : i = 0 := by omega
                                      exact h1, fun i hi => absurd hi (by omega), h2⟩
      · rw [if_neg h2] at h
        obtain ⟨n, a1, a2, a3, a4⟩ := runM_spec h
        refine ⟨n + 1, a1, fun i hi => ?_, fun i hi => ?_, a4⟩
        · cases i with
          | zero => exact h1
          | succ i => exact a2 i (by omega)
        · cases i with
          | zero => simpa [itM] using h2
          | succ i => exact a3 i (by omega)
    · rw [if_neg h1] at h; cases h

/-! open and loose boxes -/
def openAcc (s : List Int) (n : Nat) : List (Int × Int) := (0, gt s 0) :: ((List.range n).filter fun (k : Nat) => decide (gt s (k + 1) < gt s k)).map fun (k : Nat) => ((k : Int) + 1, gt s (k + 1))
def openL (s : List Int) : List (Int × Int) := openAcc s (s.length - 1) ++ if s.isEmpty then [] else [((s.length : Int), 0)]
def looseL (s : List Int) : List (Int × Int) := ((List.range s.length).filter fun (k : Nat) => decide (gt s (k + 1) < gt s k)).map fun (k : Nat) => ((k : Int), gt s k - 1)
def putOn (s : List Int) (p : Int × Int) : List Int := if p.1 = s.length then s ++ [1] else s.take p.1.toNat ++ (gt s p.1 + 1) :: s.drop (p.1.toNat + 1)
def ofColour (e : Int) (bs : List (Int × Int)) (c : Int) : List (Int × Int) := bs.filter fun p => decide (colour e p = c)
abbrev bxs (l : List (Int × Int)) : D := .tup (l.map bx)
def lotsAcc (items : List (Int × Int)) (many : Int) : List (List (Int × Int)) := items.foldl (fun found it => found ++ (found.filter fun lot => decide ((lot.length : Int) < many)).map (· ++ [it])) [[]]
def lots (items : List (Int × Int)) (many : Int) : List (List (Int × Int)) := (lotsAcc items many).filter fun lot => decide ((lot.length : Int) = many)
theorem lotsAcc_len (many : Int) : ∀ (items : List (Int × Int)) (acc : List (List (Int × Int))), (items.foldl (fun found it => found ++ (found.filter fun lot => decide ((lot.length : Int) < many)).map (· ++ [it])) acc).length ≤ acc.length * 2 ^ items.length
  | [], acc => by simp
  | it :: items, acc => by
    rw [List.foldl_cons]
    refine Nat.le_trans (lotsAcc_len many items _) ?_
    rw [List.length_append, List.length_map, List.length_cons, Nat.pow_succ]
    have := List.length_filter_le (fun lot => decide ((List.length lot : Int) < many)) acc
    have h2 : (acc.length + (acc.filter fun lot => decide ((List.length lot : Int) < many)).length) * 2 ^ items.length ≤ (acc.length * 2) * 2 ^ items.length := Nat.mul_le_mul_right _ (by omega)
    rw [Nat.mul_assoc] at h2
    rw [Nat.mul_comm (2 ^ items.length) 2]
    exact h2
theorem foldl_take {α β : Type} (f : β → α → β) {xs : List α} {i : Nat} {x : α} (b : β) (h : xs[i]? = some x) : (xs.take (i + 1)).foldl f b = f ((xs.take i).foldl f b) x := by
  rw [List.take_add_one, h, List.foldl_append]
  rfl
def countedOne (others less : List (Int × Int)) (r : Int) : Int := ((others.filter fun b => decide (b.1 < r)).length : Int) - ((less.filter fun b => decide (b.1 < r)).length : Int)
def counted (boxes others less : List (Int × Int)) : Int := boxes.foldl (fun n p => n + countedOne others less p.1) 0
def putStep (e : Int) (s : List Int) (c : Int) (lot : List (Int × Int)) : List Int × Int := (lot.foldl putOn s, counted lot (ofColour e (openL (lot.foldl putOn s)) c) (ofColour e (looseL s) c))
def putSteps (e : Int) (s : List Int) (c t : Int) : List (List Int × Int) := (lots (ofColour e (openL s) c) t).map (putStep e s c)
def smB (s : List Int) : Bool := s.all (fun x => decide (0 ≤ x)) && s.all (fun x => decide (x ≤ 100)) && decide (s.length ≤ 100)
theorem sm_of {s : List Int} (h : smB s = true) : Sm s := by
  unfold smB at h
  simp only [Bool.and_eq_true, List.all_eq_true, decide_eq_true_eq] at h
  exact ⟨h.1.1, h.1.2, h.2⟩
/-- a lot may be put on -/
def okLot : List Int → List (Int × Int) → Bool
  | s, [] => smB s
  | s, b :: t => smB s && decide (0 ≤ b.1) && decide (b.1 ≤ s.length) && okLot (putOn s b) t
theorem okLot_take : ∀ {lot : List (Int × Int)} {s : List Int}, okLot s lot = true → (∀ i, Sm ((lot.take i).foldl putOn s)) ∧ ∀ i b, lot[i]? = some b → 0 ≤ b.1 ∧ b.1 ≤ (((lot.take i).foldl putOn s).length : Int)
  | [], s, h => ⟨fun i => by rw [List.take_nil]; exact sm_of h, fun i b hb => by simp at hb⟩
  | b :: t, s, h => by
    unfold okLot at h
    simp only [Bool.and_eq_true, decide_eq_true_eq] at h
    obtain ⟨⟨⟨h1, h2⟩, h3⟩, h4⟩ := h
    obtain ⟨a1, a2⟩ := okLot_take h4
    refine ⟨fun i => ?_, fun i c hc => ?_⟩
    · cases i with
      | zero => exact sm_of h1
      | succ i => exact a1 i
    · cases i with
      | zero =>
        obtain rfl : b = c := by simpa using hc
        exact ⟨h2, h3⟩
      | succ i => exact a2 i c (by simpa using hc)
abbrev stepD (q : List Int × Int) : D := .tup [sh q.1, .int q.2]
/-! shapes_of -/
abbrev ShSt := List (List Int) × List (List Int × Int)
def shTop (rows : List Int) (left : Int) : Int := if (if rows.isEmpty then left else gt rows ((rows.length : Int) - 1)) < left then (if rows.isEmpty then left else gt rows ((rows.length : Int) - 1)) else left
def shKids (rows : List Int) (left : Int) : List (List Int × Int) := (List.range (shTop rows left).toNat).map fun (k : Nat) => (rows ++ [1 + (k : Int)], left - (1 + (k : Int)))
def shStep (st : ShSt) : ShSt := match st.2 with
  | [] => st
  | (rows, left) :: rest => (if left = 0 then st.1 ++ [rows] else st.1, (shKids rows left).reverse ++ rest)
def shOk (st : ShSt) : Bool := decide (st.1.length ≤ 1000) && decide (st.2.length ≤ 1000) && match st.2 with
  | [] => true
  | (rows, left) :: _ => decide (0 ≤ left) && decide (left ≤ 100) && smB rows
def shRun (n : Int) : Option ShSt := runM (fun st => st.2.isEmpty) shOk shStep 2000 ([], [([], n)])
/-! core_of -/
abbrev CoSt := List Int × Int
def sortOkB (ss : List (List Int)) : Bool := ss.all (fun s => !s.isEmpty) || decide (ss.length ≤ 1)
theorem sortOk_of {ss : List (List Int)} (h : sortOkB ss = true) : SortOk ss := by
  unfold sortOkB at h
  rcases Bool.or_eq_true_iff.mp h with h | h
  · refine .inl fun s hs z => ?_
    subst z
    have := List.all_eq_true.mp h [] hs
    cases this
  · exact .inr (of_decide_eq_true h)
def coStep (e : Int) (st : CoSt) : CoSt := match rimAll st.1 e with
  | [] => st
  | t :: _ => (t, st.2 + 1)
def coOk (e : Int) (st : CoSt) : Bool := vsB st.1 && sortOkB (rimAll0 st.1 e)
def coRun (e : Int) (s : List Int) : Option CoSt := runM (fun st => (rimAll st.1 e).isEmpty) (coOk e) (coStep e) 40 (s, 0)
section
variable {X : Cx} {δ δ1 : De} {μ μ1 : Mem} {st : Stmt} {rest sts : List Stmt} {o : Out} {e a b c : Expr} {es : List Expr} {p pos : Pos} {d : D} {tg : Expr}
theorem s_ap {l : Addr} {ds : List D} {μ' : Mem} {apos cpos : Pos} (ha : Ev X δ μ a (.adr l)) (m : Mup μ l (.lst ds) (.lst (ds ++ [d])) μ') (he : Ev X δ μ e d) (hz : ds.length < 100000)
    (h : ∀ (te : TE) (ta : TE), PE X a ta → PE X e te → PE X (.Call (.Attribute a "append" apos) [e] [] cpos) (tBM X.K "list" rAppend ta (tCons te tNil)) := by exact fun te ta ha he => pe_bm PySem.F.plainAttrs_list PySem.F.slot_list_append PySem.F.type_list_append mt_append ha (pa_cons he pa_nil))
    (hs : swapsWith (.Call (.Attribute a "append" apos) [e] [] cpos) none pos.line X.env = pure false := by rfl) : S1 X δ μ (.Expr (.Call (.Attribute a "append" apos) [e] [] cpos) pos) (.nx δ μ') := s_app ha m he hz h hs
theorem sv_fg {δ2 : De} (h : Sv X δ μ sts (.nx δ1 μ1)) (l : Le δ1 δ2 := by repeat (first | exact Le.nil | refine Le.same ?_ | refine Le.skip ?_)) : Sv X δ μ sts (.nx δ2 μ1) := sv_le h l
theorem sv_fp {δ' : De} (h : Sv X δ' μ sts o) (l : Le δ δ' := by repeat (first | exact Le.nil | refine Le.same ?_ | refine Le.skip ?_)) : Sv X δ μ sts o := sv_pre l h
/-- s[0] if s != () else 0 -/
theorem ev_first {k : Nat} {s : List Int} {x : Str} {p1 p2 p3 p4 p5 p6 p7 : Pos} {j1 j2 j3 : Nat} (hr : Room k X.A) (hx : ∀ p, Ev X δ μ (.Name x p) (sh s)) :
    Ev X δ μ (.IfExp (.Compare (.Name x p1) [.NotEq] [.Tuple [] j1 p2] p3) (.Subscript (.Name x p4) (.Constant (.int 0) j2 p5) p6) (.Constant (.int 0) j3 p7) pos) (.int (gt s 0)) := by
  refine (ev_if (et_c (ec_neNilT hr (hx p1) (ev_tup ea_nil) (Shp.sh s))) (fun h => ev_ixT (hx p4) ev_int (atI_gt (f := D.int) (i := 0) (by omega) ?_)) (fun _ => ev_int)).is ?_
  · cases s with
    | nil => simp at h
    | cons a s => simp
  · cases s with
    | nil => rfl
    | cons a s => rfl
end
end Bx
end

-- part BxE3
section
set_option Elab.async false
set_option linter.all false
set_option maxRecDepth 100000
set_option maxHeartbeats 4000000
/-! Boxparts: walks of the defs that put boxes on. -/
namespace Bx
open PySem PySem.Spec PyProof.Rows L2
theorem range_get {n i x : Nat} (h : (List.range n)[i]? = some x) : i < n ∧ x = i := by
  by_cases hi : i < n
  · rw [List.getElem?_range hi] at h
    exact ⟨hi, (Option.some.inj h).symm⟩
  · rw [List.getElem?_eq_none (by simpa using hi)] at h; cases h
theorem openAcc_len (s : List Int) (n : Nat) : (openAcc s n).length ≤ n + 1 := by
  unfold openAcc
  rw [List.length_cons, List.length_map]
  have := List.length_filter_le (fun (k : Nat) => decide (gt s (k + 1) < gt s k)) (List.range n)
  rw [List.length_range] at this
  omega
section
variable {P : Program} {w : World} {K : PySem.W.Frag} {mg : Str → Option Value} {base : Heap} {f : Addr} {fd : FuncData}

/-! all_open -/
def ROpen (ds : List D) (d : D) : Prop := ∃ s, ds = [sh s] ∧ Sm s ∧ d = .lst ((openL s).map bx)
abbrev nOpen : List Str := ["shape", "found", "row"]
theorem scOpen : FnScope nOpen ["shape"] (defScope (top 23)) := ⟨rfl, rfl, rfl, by decide +kernel, rfl, by decide +kernel, by decide +kernel⟩
theorem c_open (F : FnP K "all_open" (top 23) f fd) (g : mg "all_open" = some (.ref f)) (B : Bi mg) : Cal P w K mg base 1 "all_open" ["shape"] (spR ROpen) := by
  refine fn_R F g scOpen (fun ds d ⟨s, q, _⟩ => by rw [q]; rfl) (fun _ _ _ _ _ _ us hl => match us, hl with | [_], _ => rfl) fun cdv A outer s H E hr ds d h => ?_
  obtain ⟨s, rfl, hs, rfl⟩ := h
  have hN := scOpen.nd
  have hl := hs.len
  refine sv_new 1 hN (ea_cons (ev_tup (ea_cons ev_int (ea_cons (ev_first hr fun _ => ev_var 0) ea_nil))) ea_nil) fun l => ?_
  refine sv_cons (s_for (xs := List.range (((s.length : Int) - 1).toNat)) (enc := fun (i : Nat) => D.int (1 + (i : Int))) (S := fun _ => [some (sh s), some (.adr l), none]) (M := fun i => [(l, .lst ((openAcc s i).map bx))]) PassesOwn.never rfl ?_ (pg_name (i := 2) hN rfl (Or.inl rfl)) (fun _ _ => tg_name 2 _) fun i x hx => ?_) ?_
  · refine EvI.is (ei_range2 B ev_int (ev_lenT B (ev_var 0)) (by rw [List.length_map]; omega) (by rw [List.length_map]; omega) (by omega) (by omega)) ?_
    unfold rngD
    rw [List.length_map]
  · obtain ⟨hi, rfl⟩ := range_get hx
    have hz := openAcc_len s x
    refine sv_fg (δ1 := [some (sh s), some (.adr l), some (.int (1 + (x : Int)))]) (sv_one (s_if (et_c (ec_lt (ev_ixT (ev_var 0) (ev_var 2) (atI_gt (f := D.int) (by omega) (by omega))) (ev_ixT (ev_var 0) (ev_sub (ev_var 2) ev_int) (atI_gt (f := D.int) (by omega) (by omega))))) (fun h => ?_) fun h => ?_))
    · refine sv_is (sv_one (s_ap (ev_var 1) .here (ev_tup (ea_cons (ev_var 2) (ea_cons (ev_ixT (ev_var 0) (ev_var 2) (atI_gt (f := D.int) (by omega) (by omega))) ea_nil))) (by rw [List.length_map]; omega))) ?_
      have h' : gt s ((x : Int) + 1) < gt s x := by
        rw [show (1 + (x : Int)) - 1 = x by omega, show 1 + (x : Int) = x + 1 by omega] at h
        exact of_decide_eq_true h
      unfold openAcc
      rw [List.range_succ, List.filter_append, List.filter_cons_of_pos (by exact decide_eq_true h'), List.filter_nil, List.map_append, ← List.cons_append, List.map_append, show 1 + (x : Int) = x + 1 by omega]
      rfl
    · refine sv_is sv_nil ?_
      have h' : ¬ gt s ((x : Int) + 1) < gt s x := by
        rw [show (1 + (x : Int)) - 1 = x by omega, show 1 + (x : Int) = x + 1 by omega] at h
        exact of_decide_eq_false h
      unfold openAcc
      rw [List.range_succ, List.filter_append, List.filter_cons_of_neg (by rw [decide_eq_false h']; exact Bool.false_ne_true), List.filter_nil, List.append_nil]
      rfl
  · have hz := openAcc_len s (List.range (((s.length : Int) - 1).toNat)).length
    rw [List.length_range] at hz
    have hk : ((s.length : Int) - 1).toNat = s.length - 1 := by omega
    refine sv_one (s_ret (Ev.is (ev_catA (fs := if s.isEmpty then [] else [bx ((s.length : Int), 0)]) (ev_var 1) (List.mem_singleton.mpr rfl) (Ev.is (ev_if (et_c (ec_neNilT hr (ev_var 0) (ev_tup ea_nil) (Shp.sh s))) (fun _ => ev_lst (ea_cons (ev_tup (ea_cons (ev_lenT B (ev_var 0)) (ea_cons ev_int ea_nil))) ea_nil)) fun _ => ev_lst ea_nil) ?_) ?_) ?_))
    · cases s with
      | nil => rfl
      | cons a s =>
        show (if (!(List.map D.int (a :: s)).isEmpty) = true then _ else _) = _
        rw [List.length_map]; rfl
    · rw [List.length_map, List.length_range]
      cases s with
      | nil => simp at hz ⊢; omega
      | cons a s => simp at hz hl ⊢; omega
    · unfold openL
      rw [List.length_range, hk, List.map_append]
      cases s with
      | nil => rfl
      | cons a s => rfl

/-! all_loose -/
def RLoose (ds : List D) (d : D) : Prop := ∃ s, ds = [sh s] ∧ Sm s ∧ d = .lst ((looseL s).map bx)
abbrev nLoose : List Str := ["shape", "below", "row", "size"]
theorem scLoose : FnScope nLoose ["shape"] (defScope (top 24)) := ⟨rfl, rfl, rfl, by decide +kernel, rfl, by decide +kernel, by decide +kernel⟩
theorem enum_ints (s : List Int) : enumD (s.map D.int) = (List.range s.length).map fun (i : Nat) => D.tup [.int (i : Int), .int (gt s i)] := by
  unfold enumD
  rw [List.length_map]
  refine List.map_congr_left fun i hi => ?_
  rw [List.mem_range] at hi
  have : (s.map D.int).getD i .non = .int (gt s i) := by
    rw [List.getD_eq_getElem?_getD, List.getElem?_map, List.getElem?_eq_getElem hi]
    unfold gt
    rw [List.getD_eq_getElem?_getD, Int.toNat_natCast, List.getElem?_eq_getElem hi]
    rfl
  rw [this]
theorem gt_below {s : List Int} {i : Nat} (h : i < s.length) : gt (s.drop 1 ++ [0]) (i : Int) = gt s ((i : Int) + 1) := by
  unfold gt
  rw [Int.toNat_natCast, show ((i : Int) + 1).toNat = i + 1 by omega, List.getD_eq_getElem?_getD, List.getD_eq_getElem?_getD]
  by_cases h2 : i + 1 < s.length
  · rw [List.getElem?_append_left (by rw [List.length_drop]; omega), List.getElem?_drop, Nat.add_comm 1 i]
  · rw [List.getElem?_append_right (by rw [List.length_drop]; omega), List.length_drop, show i - (s.length - 1) = 0 by omega, List.getElem?_eq_none (l := s) (by omega)]
    rfl
theorem c_loose (F : FnP K "all_loose" (top 24) f fd) (g : mg "all_loose" = some (.ref f)) (B : Bi mg) : Cal P w K mg base 1 "all_loose" ["shape"] (spR RLoose) := by
  refine fn_R F g scLoose (fun ds d ⟨s, q, _⟩ => by rw [q]; rfl) (fun _ _ _ _ _ _ us hl => match us, hl with | [_], _ => rfl) fun cdv A outer s H E hr ds d h => ?_
  obtain ⟨s, rfl, hs, rfl⟩ := h
  have hN := scLoose.nd
  have hl := hs.len
  have hcut : cutD (s.map D.int) (some 1) none = (s.drop 1).map D.int := by
    cases s with
    | nil => rfl
    | cons a s => rw [cut_from (by omega) (by simp; omega)]; rfl
  refine sv_cons (s_set 1 hN (d := sh (s.drop 1 ++ [0])) (Ev.is (ev_tup (ea_starT (ev_slT (ev_var 0) (i := some 1) (j := none) (eo_some ev_int) eo_none) (ea_cons ev_int ea_nil)) ?_) ?_)) ?_
  · rw [hcut]; simp; omega
  · rw [hcut]; unfold sh; rw [List.map_append]; rfl
  refine sv_one (s_ret (Ev.is (ev_lcF2 nLoose (defScope (top 24)) 2 3 (xs := List.range s.length) (fun (i : Nat) => D.int (i : Int)) (fun (i : Nat) => D.int (gt s i)) (fun (k : Nat) => decide (gt s (k + 1) < gt s k)) (fun (k : Nat) => bx ((k : Int), gt s k - 1)) rfl hN ?_ (fun k hk _ _ _ _ _ => ?_) (fun k hk _ _ _ _ _ _ => ?_) (fun _ _ _ _ _ => pg_two (i := 2) (j := 3) rfl hN)) ?_))
  · exact EvI.is (ei_enumT B (ev_var 0)) (enum_ints s)
  · rw [List.mem_range] at hk
    refine EvT.is (et_c (ec_gt (ev_var 3) (ev_ixT (ev_var 1) (ev_var 2) (atI_gt (f := D.int) (by omega) ?_)))) ?_
    · rw [List.length_append, List.length_drop, List.length_singleton]; omega
    · rw [gt_below hk]
  · exact ev_tup (ea_cons (ev_var 2) (ea_cons (ev_sub (ev_var 3) ev_int) ea_nil))
  · unfold looseL
    rw [List.map_map]
    rfl

/-! put_on -/
def RPut (ds : List D) (d : D) : Prop := ∃ s p, ds = [sh s, bx p] ∧ Sm s ∧ 0 ≤ p.1 ∧ p.1 ≤ s.length ∧ d = sh (putOn s p)
abbrev nPut : List Str := ["shape", "box"]
theorem scPut : FnScope nPut ["shape", "box"] (defScope (top 25)) := ⟨rfl, rfl, rfl, by decide +kernel, rfl, by decide +kernel, by decide +kernel⟩
theorem c_put (F : FnP K "put_on" (top 25) f fd) (g : mg "put_on" = some (.ref f)) (B : Bi mg) : Cal P w K mg base 1 "put_on" ["shape", "box"] (spR RPut) := by
  refine fn_R F g scPut (fun ds d ⟨s, p, q, _⟩ => by rw [q]; rfl) (fun _ _ _ _ _ _ us hl => match us, hl with | [_, _], _ => rfl) fun cdv A outer s H E hr ds d h => ?_
  obtain ⟨s, p, rfl, hs, h0, h1, rfl⟩ := h
  have hN := scPut.nd
  have hl := hs.len
  have b0 : ∀ {X : Cx} {pp pq ps : Pos} {j : Nat} {δ : De} {μ : Mem}, Ev X δ μ (.Name "box" pp) (bx p) → Ev X δ μ (.Subscript (.Name "box" pp) (.Constant (.int 0) j pq) ps) (.int p.1) := fun h => ev_ixT h ev_int (by rfl)
  by_cases hp : p.1 = s.length
  · refine sv_rt (s_ifT (EvT.is (et_c (ec_eqI (b0 (ev_var 1)) (ev_lenT B (ev_var 0)))) (by rw [List.length_map]; exact decide_eq_true hp)) (sv_one (s_ret (Ev.is (ev_tup (ea_starT (ev_var 0) (ea_cons ev_int ea_nil)) ?_) ?_))))
    · simp; omega
    · unfold putOn sh; rw [if_pos hp, List.map_append]; rfl
  · refine sv_cons (s_ifF (EvT.is (et_c (ec_eqI (b0 (ev_var 1)) (ev_lenT B (ev_var 0)))) (by rw [List.length_map]; exact decide_eq_false hp)) sv_nil) (sv_one (s_ret (Ev.is (ev_tup (ea_starT (ev_slT (ev_var 0) (i := none) (j := some p.1) eo_none (eo_some (b0 (ev_var 1))))
      (ea_cons (ev_add (ev_ixT (ev_var 0) (b0 (ev_var 1)) (atI_gt (f := D.int) (by omega) (by omega))) ev_int) (ea_starT (ev_slT (ev_var 0) (i := some (p.1 + 1)) (j := none) (eo_some (ev_add (b0 (ev_var 1)) ev_int)) eo_none) ea_nil))) ?_) ?_)))
    · rw [cut_to (by omega) (by rw [List.length_map]; omega), cut_from (by omega) (by rw [List.length_map]; omega)]
      simp
      omega
    · rw [cut_to (by omega) (by rw [List.length_map]; omega), cut_from (by omega) (by rw [List.length_map]; omega)]
      unfold putOn sh
      rw [if_neg hp, List.map_append, List.map_cons, List.map_take, List.map_drop, List.append_nil, show (p.1 + 1).toNat = p.1.toNat + 1 by omega]

/-! of_colour -/
def ROfc (ds : List D) (d : D) : Prop := ∃ e bs c, ds = [.int e, .lst (bs.map bx), .int c] ∧ 1 ≤ e ∧ d = .lst ((ofColour e bs c).map bx)
abbrev nOfc : List Str := ["e", "boxes", "colour", "box"]
theorem scOfc : FnScope nOfc ["e", "boxes", "colour"] (defScope (top 35)) := ⟨rfl, rfl, rfl, by decide +kernel, rfl, by decide +kernel, by decide +kernel⟩
theorem c_ofc (F : FnP K "of_colour" (top 35) f fd) (g : mg "of_colour" = some (.ref f)) (B : Bi mg) (G : Cal P w K mg base 1 "colour_of" ["e", "box"] (spR RColour)) : Cal P w K mg base 2 "of_colour" ["e", "boxes", "colour"] (spR ROfc) := by
  refine fn_R F g scOfc (fun ds d ⟨s, p, c, q, _⟩ => by rw [q]; rfl) (fun _ _ _ _ _ _ us hl => match us, hl with | [_, _, _], _ => rfl) fun cdv A outer s H E hr ds d h => ?_
  obtain ⟨e, bs, c, rfl, he, rfl⟩ := h
  have hN := scOfc.nd
  exact sv_one (s_ret (ev_lcF1 nOfc (defScope (top 35)) 3 (xs := bs) bx (fun p => decide (colour e p = c)) bx rfl hN (ei_list (ev_var 1)) (fun p hp _ _ _ _ _ => et_c (ec_eqI (ev_call G hr (ea_cons (ev_var 0) (ea_cons (ev_var 3) ea_nil)) ⟨e, p, rfl, he, rfl⟩) (ev_var 2))) (fun p hp _ _ _ _ _ _ => ev_var 3)))

/-! lots_of -/
def RLots (ds : List D) (d : D) : Prop := ∃ its many, ds = [.lst (its.map bx), .int many] ∧ its.length ≤ 12 ∧ many ≤ 1000 ∧ d = .lst ((lots its many).map bxs)
abbrev nLots : List Str := ["items", "many", "found", "item", "lot"]
theorem scLots : FnScope nLots ["items", "many"] (defScope (top 36)) := ⟨rfl, rfl, rfl, by decide +kernel, rfl, by decide +kernel, by decide +kernel⟩
theorem c_lots (F : FnP K "lots_of" (top 36) f fd) (g : mg "lots_of" = some (.ref f)) (B : Bi mg) : Cal P w K mg base 1 "lots_of" ["items", "many"] (spR RLots) := by
  refine fn_R F g scLots (fun ds d ⟨s, p, q, _⟩ => by rw [q]; rfl) (fun _ _ _ _ _ _ us hl => match us, hl with | [_, _], _ => rfl) fun cdv A outer s H E hr ds d h => ?_
  obtain ⟨its, many, rfl, hz, hm, rfl⟩ := h
  have hN := scLots.nd
  refine sv_new 2 hN (ea_cons (ev_tup ea_nil) ea_nil) fun l => sv_fzA 2 rfl .here ?_
  refine sv_cons (s_for (xs := its) (enc := bx) (S := fun i => [some (.lst (its.map bx)), some (.int many), some (.lst ((lotsAcc (its.take i) many).map bxs)), none, none]) (M := fun _ => []) PassesOwn.never rfl (ei_list (ev_var 0)) (pg_name (i := 3) hN rfl (Or.inr rfl)) (fun _ _ => tg_name 3 _) fun i it hi => ?_) ?_
  · refine sv_fg (sv_one (s_set 2 hN (d := .lst ((lotsAcc (its.take (i + 1)) many).map bxs)) (Ev.is (ev_catL (ev_var 2) (ev_lcF1 nLots (defScope (top 36)) 4 (xs := lotsAcc (its.take i) many) bxs (fun lot => decide ((lot.length : Int) < many)) (fun lot => bxs (lot ++ [it])) rfl hN (ei_list (ev_var 2)) (fun p hp _ _ _ _ _ => ?_) (fun p hp hq _ _ _ _ _ => ?_)) ?_) ?_)))
    · exact EvT.is (et_c (ec_lt (ev_lenT B (ev_var 4)) (ev_var 1))) (by rw [List.length_map])
    · have hq := of_decide_eq_true hq
      refine Ev.is (ev_tup (ea_starT (ev_var 4) (ea_cons (ev_var 3) ea_nil)) ?_) ?_
      · simp; omega
      · unfold bxs; rw [List.map_append]; rfl
    · have h1 := lotsAcc_len many (its.take i) [[]]
      have h2 : (lotsAcc (its.take i) many).length ≤ 1 * 2 ^ (its.take i).length := h1
      have h3 : 2 ^ (its.take i).length ≤ 2 ^ 12 := Nat.pow_le_pow_right (by decide) (by rw [List.length_take]; omega)
      have h4 := List.length_filter_le (fun lot => decide ((List.length lot : Int) < many)) (lotsAcc (its.take i) many)
      rw [List.length_map, List.length_map]
      omega
    · unfold lotsAcc
      rw [foldl_take _ _ hi, List.map_append, List.map_map]
      rfl
  · refine sv_one (s_ret (Ev.is (ev_lcF1 nLots (defScope (top 36)) 4 (xs := lotsAcc (its.take its.length) many) bxs (fun lot => decide ((lot.length : Int) = many)) bxs rfl hN (ei_list (ev_var 2)) (fun p hp _ _ _ _ _ => ?_) (fun p hp _ _ _ _ _ _ => ev_var 4)) ?_))
    · exact EvT.is (et_c (ec_eqI (ev_lenT B (ev_var 4)) (ev_var 1))) (by rw [List.length_map])
    · unfold lots
      rw [List.take_length]
end
end Bx
end

-- part BxE4
section
set_option Elab.async false
set_option linter.all false
set_option maxRecDepth 100000
set_option maxHeartbeats 4000000
/-! Boxparts: walks of counted, put_steps, core_of, shapes_of, block_of. -/
namespace Bx
open PySem PySem.Spec PyProof.Rows L2
section
variable {P : Program} {w : World} {K : PySem.W.Frag} {mg : Str → Option Value} {base : Heap} {f : Addr} {fd : FuncData}

/-! counted -/
def RCounted (ds : List D) (d : D) : Prop := ∃ lot others less, ds = [bxs lot, .lst (others.map bx), .lst (less.map bx)] ∧ d = .int (counted lot others less)
abbrev nCounted : List Str := ["boxes", "others", "less", "found", "row", "column", "box"]
theorem scCounted : FnScope nCounted ["boxes", "others", "less"] (defScope (top 37)) := ⟨rfl, rfl, rfl, by decide +kernel, rfl, by decide +kernel, by decide +kernel⟩
theorem c_counted (F : FnP K "counted" (top 37) f fd) (g : mg "counted" = some (.ref f)) (B : Bi mg) : Cal P w K mg base 1 "counted" ["boxes", "others", "less"] (spR RCounted) := by
  refine fn_R F g scCounted (fun ds d ⟨a, b, c, q, _⟩ => by rw [q]; rfl) (fun _ _ _ _ _ _ us hl => match us, hl with | [_, _, _], _ => rfl) fun cdv A outer s H E hr ds d h => ?_
  obtain ⟨lot, others, less, rfl, rfl⟩ := h
  have hN := scCounted.nd
  refine sv_cons (s_set 3 hN ev_int) ?_
  refine sv_cons (s_for (xs := lot) (enc := bx) (S := fun i => [some (bxs lot), some (.lst (others.map bx)), some (.lst (less.map bx)), some (.int ((lot.take i).foldl (fun n p => n + countedOne others less p.1) 0)), none, none, none]) (M := fun _ => []) PassesOwn.never rfl (ei_tup (ev_var 0)) (pg_two (i := 4) (j := 5) rfl hN) (fun p _ => tg_two K 4 5 (.int p.1) (.int p.2)) fun i p hi => ?_) (sv_one (s_ret (Ev.is (ev_var 3) (by unfold counted; rw [List.take_length]))))
  have q : ∀ (v : Nat) (bs : List (Int × Int)) (hv : ([some (bxs lot), some (.lst (others.map bx)), some (.lst (less.map bx)), some (.int ((lot.take i).foldl (fun n p => n + countedOne others less p.1) 0)), some (.int p.1), some (.int p.2), none] : De)[v]? = some (some (.lst (bs.map bx)))), True := fun _ _ _ => trivial
  refine sv_fg (sv_one (s1_is (s_aug 3 hN rfl (ev_sub (ev_lenL B (ds := (others.filter fun b => decide (b.1 < p.1)).map bx) (ev_lcF1 nCounted (defScope (top 37)) 6 (xs := others) bx (fun b => decide (b.1 < p.1)) bx rfl hN (ei_list (ev_var 1)) (fun b hb _ _ _ _ _ => et_c (ec_lt (ev_ixT (ev_var 6) ev_int (by rfl)) (ev_var 4))) (fun b hb _ _ _ _ _ _ => ev_var 6)))
    (ev_lenL B (ds := (less.filter fun b => decide (b.1 < p.1)).map bx) (ev_lcF1 nCounted (defScope (top 37)) 6 (xs := less) bx (fun b => decide (b.1 < p.1)) bx rfl hN (ei_list (ev_var 2)) (fun b hb _ _ _ _ _ => et_c (ec_lt (ev_ixT (ev_var 6) ev_int (by rfl)) (ev_var 4))) (fun b hb _ _ _ _ _ _ => ev_var 6)))))
    (o' := .nx [some (bxs lot), some (.lst (others.map bx)), some (.lst (less.map bx)), some (.int ((lot.take (i + 1)).foldl (fun n p => n + countedOne others less p.1) 0)), some (.int p.1), some (.int p.2), none] []) ?_))
  rw [foldl_take _ _ hi, List.length_map, List.length_map]
  rfl

/-! put_steps -/
def RSteps (ds : List D) (d : D) : Prop := ∃ e s c t, ds = [.int e, sh s, .int c, .int t] ∧ Sm s ∧ 1 ≤ e ∧ t ≤ 1000 ∧ (ofColour e (openL s) c).length ≤ 12 ∧ (∀ lot ∈ lots (ofColour e (openL s) c) t, okLot s lot = true) ∧ d = .lst ((putSteps e s c t).map stepD)
abbrev nSteps : List Str := ["e", "shape", "colour", "times", "loose", "found", "lot", "more", "box"]
theorem scSteps : FnScope nSteps ["e", "shape", "colour", "times"] (defScope (top 38)) := ⟨rfl, rfl, rfl, by decide +kernel, rfl, by decide +kernel, by decide +kernel⟩
theorem c_steps (F : FnP K "put_steps" (top 38) f fd) (g : mg "put_steps" = some (.ref f)) (B : Bi mg) (G1 : Cal P w K mg base 2 "of_colour" ["e", "boxes", "colour"] (spR ROfc)) (G2 : Cal P w K mg base 1 "all_loose" ["shape"] (spR RLoose)) (G3 : Cal P w K mg base 1 "all_open" ["shape"] (spR ROpen))
    (G4 : Cal P w K mg base 1 "lots_of" ["items", "many"] (spR RLots)) (G5 : Cal P w K mg base 1 "put_on" ["shape", "box"] (spR RPut)) (G6 : Cal P w K mg base 1 "counted" ["boxes", "others", "less"] (spR RCounted)) : Cal P w K mg base 3 "put_steps" ["e", "shape", "colour", "times"] (spR RSteps) := by
  refine fn_R F g scSteps (fun ds d ⟨a, b, c, c2, q, _⟩ => by rw [q]; rfl) (fun _ _ _ _ _ _ us hl => match us, hl with | [_, _, _, _], _ => rfl) fun cdv A outer s H E hr ds d h => ?_
  obtain ⟨e, s, c, t, rfl, hs, he, ht, hz, ok, rfl⟩ := h
  have hN := scSteps.nd
  have hr1 := hr.mono (show 1 ≤ 2 by decide)
  refine sv_parNew2 rfl hN (ev_call G1 hr (ea_cons (ev_var 0) (ea_cons (ev_call G2 hr1 (ea_cons (ev_var 1) ea_nil) ⟨s, rfl, hs, rfl⟩) (ea_cons (ev_var 2) ea_nil))) ⟨e, looseL s, c, rfl, he, rfl⟩) ea_nil (i := 4) (j := 5) (by decide) fun l => ?_
  refine sv_cons (s_for (xs := lots (ofColour e (openL s) c) t) (enc := bxs) (S := fun i => [some (.int e), some (sh s), some (.int c), some (.int t), some (.lst ((ofColour e (looseL s) c).map bx)), some (.adr l), none, none, none])
    (M := fun i => [(l, .lst ((((lots (ofColour e (openL s) c) t).take i).map (putStep e s c)).map stepD))]) PassesOwn.never rfl ?_ (pg_name (i := 6) hN rfl (Or.inl rfl)) (fun _ _ => tg_name 6 _) fun i lot hi => ?_) ?_
  · exact ei_list (ev_call G4 hr1 (ea_cons (ev_call G1 hr (ea_cons (ev_var 0) (ea_cons (ev_call G3 hr1 (ea_cons (ev_var 1) ea_nil) ⟨s, rfl, hs, rfl⟩) (ea_cons (ev_var 2) ea_nil))) ⟨e, openL s, c, rfl, he, rfl⟩) (ea_cons (ev_var 3) ea_nil)) ⟨_, t, rfl, hz, ht, rfl⟩)
  · have okl := okLot_take (ok lot (List.mem_of_getElem? hi))
    have hlen : ((lots (ofColour e (openL s) c) t).take i).length ≤ 5000 := by
      have h1 := lotsAcc_len t (ofColour e (openL s) c) [[]]
      have h2 : (lotsAcc (ofColour e (openL s) c) t).length ≤ 1 * 2 ^ (ofColour e (openL s) c).length := h1
      have h3 : 2 ^ (ofColour e (openL s) c).length ≤ 2 ^ 12 := Nat.pow_le_pow_right (by decide) hz
      have h4 := List.length_filter_le (fun lot => decide ((List.length lot : Int) = t)) (lotsAcc (ofColour e (openL s) c) t)
      rw [List.length_take]
      unfold lots
      omega
    refine sv_fg (sv_cons (s_set 7 hN (ev_var 1)) (sv_cons (s_for (xs := lot) (enc := bx) (S := fun j => [some (.int e), some (sh s), some (.int c), some (.int t), some (.lst ((ofColour e (looseL s) c).map bx)), some (.adr l), some (bxs lot), some (sh ((lot.take j).foldl putOn s)), none])
      (M := fun _ => [(l, .lst ((((lots (ofColour e (openL s) c) t).take i).map (putStep e s c)).map stepD))]) PassesOwn.never rfl (ei_tup (ev_var 6)) (pg_name (i := 8) hN rfl (Or.inl rfl)) (fun _ _ => tg_name 8 _) fun j b hb => ?_) (sv_one (s1_is (s_ap (ev_var 5) .here (ev_tup (ea_cons (ev_var 7) (ea_cons (ev_call G6 hr1 (ea_cons (ev_var 6) (ea_cons (ev_call G1 hr (ea_cons (ev_var 0) (ea_cons (ev_call G3 hr1 (ea_cons (ev_var 7) ea_nil) ⟨_, rfl, okl.1 _, rfl⟩) (ea_cons (ev_var 2) ea_nil))) ⟨e, _, c, rfl, he, rfl⟩) (ea_cons (ev_var 4) ea_nil))) ⟨lot, _, _, rfl, rfl⟩) ea_nil))) ?_)
      (o' := .nx [some (.int e), some (sh s), some (.int c), some (.int t), some (.lst ((ofColour e (looseL s) c).map bx)), some (.adr l), some (bxs lot), some (sh ((lot.take lot.length).foldl putOn s)), none] [(l, .lst ((((lots (ofColour e (openL s) c) t).take (i + 1)).map (putStep e s c)).map stepD))]) ?_))))
    · obtain ⟨b1, b2⟩ := okl.2 j b hb
      exact sv_fg (sv_one (s_set 7 hN (d := sh ((lot.take (j + 1)).foldl putOn s)) (Ev.is (ev_call G5 hr1 (ea_cons (ev_var 7) (ea_cons (ev_var 8) ea_nil)) ⟨_, b, rfl, okl.1 j, b1, b2, rfl⟩) (by rw [foldl_take _ _ hb]))))
    · rw [List.length_map, List.length_map]
      omega
    · rw [take_map (putStep e s c) hi, List.map_append, List.take_length]
      rfl
  · refine sv_one (s1_is (s_retA (ev_var 5) (List.mem_singleton.mpr rfl)) ?_)
    rw [List.take_length]
    rfl

/-! core_of -/
theorem coStep_cons {e : Int} {st : CoSt} {t : List Int} {r : List (List Int)} (h : rimAll st.1 e = t :: r) : coStep e st = (t, st.2 + 1) := by unfold coStep; rw [h]
def RCore (ds : List D) (d : D) : Prop := ∃ e s t, ds = [.int e, sh s] ∧ coRun e s = some t ∧ d = .tup [sh t.1, .int t.2]
abbrev nCore : List Str := ["e", "shape", "found", "many"]
theorem scCore : FnScope nCore ["e", "shape"] (defScope (top 55)) := ⟨rfl, rfl, rfl, by decide +kernel, rfl, by decide +kernel, by decide +kernel⟩
theorem shp_shs (ss : List (List Int)) : Shp 2 (.lst (ss.map sh)) := .lst fun d hd => by
  obtain ⟨i, _, rfl⟩ := List.mem_map.mp hd
  exact .sh i
theorem c_core (F : FnP K "core_of" (top 55) f fd) (g : mg "core_of" = some (.ref f)) (B : Bi mg) (G1 : Cal P w K mg base 3 "rimless_all" ["shape", "length"] (spR RRims)) : Cal P w K mg base 4 "core_of" ["e", "shape"] (spR RCore) := by
  refine fn_R F g scCore (fun ds d ⟨a, b, c, q, _⟩ => by rw [q]; rfl) (fun _ _ _ _ _ _ us hl => match us, hl with | [_, _], _ => rfl) fun cdv A outer s H E hr ds d h => ?_
  obtain ⟨e, s, t, rfl, h, rfl⟩ := h
  have hN := scCore.nd
  obtain ⟨n, rfl, h1, h2, h3⟩ := runM_spec h
  have ok : ∀ i, i ≤ n → Vs (itM (coStep e) i (s, 0)).1 ∧ SortOk (rimAll0 (itM (coStep e) i (s, 0)).1 e) := fun i hi => by
    have := Bool.and_eq_true_iff.mp (h1 i hi)
    exact ⟨vs_of this.1, sortOk_of this.2⟩
  refine sv_cons (s_par rfl hN (ev_call G1 hr (ea_cons (ev_var 1) (ea_cons (ev_var 0) ea_nil)) ⟨s, e, rfl, (ok 0 (Nat.zero_le _)).1, (ok 0 (Nat.zero_le _)).2, rfl⟩) ev_int (i := 2) (j := 3) (by decide)) ?_
  refine sv_cons (s_while (n := n) (S := fun i => [some (.int e), some (sh (itM (coStep e) i (s, 0)).1), some (.lst ((rimAll (itM (coStep e) i (s, 0)).1 e).map sh)), some (.int (itM (coStep e) i (s, 0)).2)]) (M := fun _ => []) PassesOwn.never (fun i hi => ?_) (fun i hi => ?_) ?_) (sv_one (s_ret (ev_tup (ea_cons (ev_var 1) (ea_cons (ev_var 3) ea_nil)))))
  · refine EvT.is (et_c (ec_neNilL hr (ev_var 2) (ev_lst ea_nil) (shp_shs _))) ?_
    have := h2 i hi
    rw [List.isEmpty_map, this]; rfl
  · have hne := h2 i hi
    have hsu := itM_succ (coStep e) i (s, 0)
    cases q : rimAll (itM (coStep e) i (s, 0)).1 e with
    | nil => rw [q] at hne; cases hne
    | cons t r =>
      have hs2 : itM (coStep e) (i + 1) (s, 0) = (t, (itM (coStep e) i (s, 0)).2 + 1) := by
        rw [hsu]; exact coStep_cons q
      have o2 := ok (i + 1) (by omega)
      rw [hs2] at o2
      refine sv_is (sv_cons (s_par rfl hN (d1 := sh t) (ev_ixL (ev_var 2) ev_int (atI_nat (j := 0) (v := sh t) rfl)) (ev_add (ev_var 3) ev_int) (i := 1) (j := 3) (by decide)) (sv_one (s_set 2 hN (ev_call G1 hr (ea_cons (ev_var 1) (ea_cons (ev_var 0) ea_nil)) ⟨t, e, rfl, o2.1, o2.2, rfl⟩)))) ?_
      rw [hs2]
      rfl
  · refine EvT.is (et_c (ec_neNilL hr (ev_var 2) (ev_lst ea_nil) (shp_shs _))) ?_
    rw [List.isEmpty_map, h3]; rfl

/-! shapes_of -/
def RShapes (ds : List D) (d : D) : Prop := ∃ n t, ds = [.int n] ∧ shRun n = some t ∧ SortOk t.1 ∧ d = .lst ((sortS t.1).map sh)
abbrev nShapes : List Str := ["boxes", "found", "line", "rows", "left", "size"]
theorem scShapes : FnScope nShapes ["boxes"] (defScope (top 17)) := ⟨rfl, rfl, rfl, by decide +kernel, rfl, by decide +kernel, by decide +kernel⟩
theorem shp_steps (ss : List (List Int × Int)) : Shp 3 (.lst (ss.map stepD)) := .lst fun d hd => by
  obtain ⟨q, _, rfl⟩ := List.mem_map.mp hd
  refine .tup fun d hd => ?_
  rcases List.mem_cons.mp hd with e | hd
  · subst e; exact .sh _
  · obtain rfl := List.mem_singleton.mp hd
    exact (Shp.int _).mono (by decide)
theorem atI_last {s : List Int} (h : s.isEmpty = false) : atI (s.map D.int) (-1) = some (.int (gt s ((s.length : Int) - 1))) := by
  cases s with
  | nil => cases h
  | cons a t =>
    unfold atI
    have e : ixN ((a :: t).map D.int).length (-1) = some t.length := by
      unfold ixN
      rw [List.length_map]
      simp
      omega
    rw [e]
    have e2 : (((a :: t).length : Int) - 1) = ((t.length : Nat) : Int) := by simp
    rw [e2]
    unfold gt
    show ((a :: t).map D.int)[t.length]? = _
    rw [List.getElem?_map, Int.toNat_natCast, List.getD_eq_getElem?_getD, List.getElem?_eq_getElem (by simp)]
    rfl
theorem c_shapes (F : FnP K "shapes_of" (top 17) f fd) (g : mg "shapes_of" = some (.ref f)) (B : Bi mg) : Cal P w K mg base 1 "shapes_of" ["boxes"] (spR RShapes) := by
  refine fn_R F g scShapes (fun ds d ⟨a, b, q, _⟩ => by rw [q]; rfl) (fun _ _ _ _ _ _ us hl => match us, hl with | [_], _ => rfl) fun cdv A outer s H E hr ds d h => ?_
  obtain ⟨b, t, rfl, h, so, rfl⟩ := h
  have hN := scShapes.nd
  obtain ⟨n, rfl, h1, h2, h3⟩ := runM_spec h
  refine sv_parNew12 rfl hN ea_nil (ea_cons (ev_tup (ea_cons (ev_tup ea_nil) (ea_cons (ev_var 0) ea_nil))) ea_nil) (i := 1) (j := 2) (by decide) fun l m => ?_
  refine sv_cons (s_while (n := n) (S := fun i => [some (.int b), some (.adr l), some (.adr m), none, none, none]) (M := fun i => [(m, .lst ((itM shStep i ([], [([], b)])).2.reverse.map stepD)), (l, .lst ((itM shStep i ([], [([], b)])).1.map sh))]) PassesOwn.never (fun i hi => ?_) (fun i hi => ?_) ?_) ?_
  · refine EvT.is (et_c (ec_neNilA hr (ev_var 2) List.mem_cons_self (ev_lst ea_nil) (shp_steps _))) ?_
    have := h2 i hi
    rw [List.isEmpty_map, List.isEmpty_reverse, this]; rfl
  · have hne := h2 i hi
    have hok := h1 i (by omega)
    have hok2 := h1 (i + 1) (by omega)
    rw [itM_succ] at hok2
    have hsu := itM_succ shStep i ([], [([], b)])
    cases q : itM shStep i ([], [([], b)]) with
    | mk fnd stk =>
      rw [q] at hne hok hsu hok2
      cases stk with
      | nil => cases hne
      | cons rl rest =>
        obtain ⟨rows, left⟩ := rl
        have hok : (decide (fnd.length ≤ 1000) && decide (((rows, left) :: rest).length ≤ 1000) && (decide (0 ≤ left) && decide (left ≤ 100) && smB rows)) = true := hok
        simp only [Bool.and_eq_true, decide_eq_true_eq] at hok
        obtain ⟨⟨k1, k2⟩, ⟨k3, k4⟩, k5⟩ := hok
        have sm := sm_of k5
        have hk1 : (shKids rows left).length + rest.length ≤ 1000 := by
          have := (Bool.and_eq_true_iff.mp (Bool.and_eq_true_iff.mp hok2).1).2
          have := of_decide_eq_true this
          unfold shStep at this
          simpa using this
        have hT : (shKids rows left).length = (shTop rows left).toNat := by unfold shKids; rw [List.length_map, List.length_range]
        have htop : 0 ≤ shTop rows left ∧ shTop rows left ≤ 100 := by
          have := sm.gt ((rows.length : Int) - 1)
          unfold shTop
          split <;> split at * <;> omega
        rw [hsu]
        show Sv _ _ [(m, .lst ((((rows, left) :: rest).reverse).map stepD)), (l, .lst (fnd.map sh))] _ _
        rw [List.reverse_cons, List.map_append]
        refine sv_fg (δ1 := [some (.int b), some (.adr l), some (.adr m), some (sh rows), some (.int left), none]) ?_
        refine sv_cons (s_pop2 rfl hN (ev_var 2) .here (fun ta ha => pe_bm0 PySem.F.plainAttrs_list PySem.F.slot_list_pop PySem.F.type_list_pop mt_pop ha) (i := 3) (j := 4)) ?_
        refine sv_cons (s_if (o := .nx [some (.int b), some (.adr l), some (.adr m), some (sh rows), some (.int left), none] [(m, .lst ((rest.reverse ++ []).map stepD)), (l, .lst ((if left = 0 then fnd ++ [rows] else fnd).map sh))]) (et_c (ec_eqI (ev_var 4) ev_int)) (fun hh => ?_) (fun hh => ?_)) ?_
        · have hh := of_decide_eq_true hh
          rw [if_pos hh]
          refine sv_is (sv_one (s_ap (ev_var 1) (.there .here) (ev_var 3) (by rw [List.length_map]; omega))) ?_
          rw [List.append_nil, List.map_append]
          rfl
        · have hh := of_decide_eq_false hh
          rw [if_neg hh]
          refine sv_is sv_nil ?_
          rw [List.append_nil]
          rfl
        refine sv_cons (s_for (xs := List.range (shTop rows left).toNat) (enc := fun (k : Nat) => D.int (1 + (k : Int))) (S := fun _ => [some (.int b), some (.adr l), some (.adr m), some (sh rows), some (.int left), none])
            (M := fun k => [(m, .lst ((rest.reverse ++ ((List.range (shTop rows left).toNat).take k).map fun (k : Nat) => (rows ++ [1 + (k : Int)], left - (1 + (k : Int)))).map stepD)), (l, .lst ((if left = 0 then fnd ++ [rows] else fnd).map sh))]) PassesOwn.never rfl ?_ (pg_name (i := 5) hN rfl (Or.inl rfl)) (fun _ _ => tg_name 5 _) fun k x hx => ?_)
          (sv_is sv_nil ?_)
        · refine EvI.is (ei_range2 B ev_int (ev_add (ev_min2 rfl B (ev_var 4) (Ev.is (ev_if (et_c (ec_neNilT hr (ev_var 3) (ev_tup ea_nil) (Shp.sh rows))) (fun h => ev_ixT (ev_var 3) (ev_neg ev_int) (atI_last ?_)) (fun _ => ev_var 4)) (d' := .int (if rows.isEmpty then left else gt rows ((rows.length : Int) - 1))) ?_)) ev_int) ?_ ?_ (by decide) (by decide)) ?_
          · cases rows with
            | nil => cases h
            | cons _ _ => rfl
          · cases rows with
            | nil => rfl
            | cons _ _ => rfl
          · have := htop.2
            unfold shTop at this
            omega
          · have := htop.1
            unfold shTop at this
            omega
          · unfold rngD
            congr 2
            unfold shTop
            omega
        · obtain ⟨hx1, rfl⟩ := range_get hx
          refine sv_fg (sv_one (s1_is (s_ap (ev_var 2) .here (ev_tup (ea_cons (ev_tup (ea_starT (ev_var 3) (ea_cons (ev_var 5) ea_nil)) ?_) (ea_cons (ev_sub (ev_var 4) (ev_var 5)) ea_nil))) ?_)
            (o' := .nx [some (.int b), some (.adr l), some (.adr m), some (sh rows), some (.int left), some (.int (1 + (x : Int)))] [(m, .lst ((rest.reverse ++ ((List.range (shTop rows left).toNat).take (x + 1)).map fun (k : Nat) => (rows ++ [1 + (k : Int)], left - (1 + (k : Int)))).map stepD)), (l, .lst ((if left = 0 then fnd ++ [rows] else fnd).map sh))]) ?_))
          · have := sm.len
            simp
            omega
          · rw [List.length_map, List.length_append, List.length_reverse, List.length_map, List.length_take, List.length_range]
            omega
          · rw [take_map _ hx, ← List.append_assoc, List.map_append (l₁ := rest.reverse ++ _)]
            have e9 : [stepD (rows ++ [1 + (x : Int)], left - (1 + (x : Int)))] = [D.tup [D.tup (rows.map D.int ++ [D.int (1 + (x : Int))]), D.int (left - (1 + (x : Int)))]] := by
              unfold stepD sh
              rw [List.map_append]
              rfl
            rw [List.map_cons (f := stepD), List.map_nil, e9]
            rfl
        · rw [List.length_range, List.take_of_length_le (by rw [List.length_range]; exact Nat.le_refl _)]
          unfold shStep
          rw [List.reverse_append, List.reverse_reverse]
          rfl
  · refine EvT.is (et_c (ec_neNilA hr (ev_var 2) List.mem_cons_self (ev_lst ea_nil) (shp_steps _))) ?_
    rw [List.isEmpty_map, List.isEmpty_reverse, h3]; rfl
  · exact sv_one (s_ret (ev_sortSA hr B (ev_var 1) (List.mem_cons_of_mem _ (List.mem_singleton.mpr rfl)) so))

/-! block_of -/
def blockL (e : Int) (s : List Int) (fs : List (List Int)) : List (List Int) := fs.filter fun o => decide (colours e o = colours e s)
def RBlock (ds : List D) (d : D) : Prop := ∃ e s t, ds = [.int e, sh s] ∧ Sm s ∧ 1 ≤ e ∧ e ≤ 1000 ∧ shRun s.sum = some t ∧ SortOk t.1 ∧ (∀ o ∈ sortS t.1, Sm o) ∧ d = .lst ((blockL e s (sortS t.1)).map sh)
abbrev nBlock : List Str := ["e", "shape", "due", "other"]
theorem scBlock : FnScope nBlock ["e", "shape"] (defScope (top 56)) := ⟨rfl, rfl, rfl, by decide +kernel, rfl, by decide +kernel, by decide +kernel⟩
theorem c_block (F : FnP K "block_of" (top 56) f fd) (g : mg "block_of" = some (.ref f)) (B : Bi mg) (G1 : Cal P w K mg base 2 "colours_of" ["e", "shape"] (spR RColours)) (G2 : Cal P w K mg base 1 "shapes_of" ["boxes"] (spR RShapes)) : Cal P w K mg base 3 "block_of" ["e", "shape"] (spR RBlock) := by
  refine fn_R F g scBlock (fun ds d ⟨a, b, c, q, _⟩ => by rw [q]; rfl) (fun _ _ _ _ _ _ us hl => match us, hl with | [_, _], _ => rfl) fun cdv A outer s H E hr ds d h => ?_
  obtain ⟨e, s, t, rfl, hs, he, he2, h, so, ok, rfl⟩ := h
  have hN := scBlock.nd
  refine sv_cons (s_set 2 hN (ev_call G1 hr (ea_cons (ev_var 0) (ea_cons (ev_var 1) ea_nil)) ⟨e, s, rfl, hs, he, he2, rfl⟩)) (sv_one (s_ret ?_))
  exact ev_lcF1 nBlock (defScope (top 56)) 3 (xs := sortS t.1) sh (fun o => decide (colours e o = colours e s)) sh rfl hN (ei_list (ev_call G2 (hr.mono (by decide)) (ea_cons (ev_sumT rfl B (ev_var 1)) ea_nil) ⟨_, t, rfl, h, so, rfl⟩))
    (fun o ho _ _ _ _ _ => et_c (ec_eqSh hr (ev_call G1 hr (ea_cons (ev_var 0) (ea_cons (ev_var 3) ea_nil)) ⟨e, o, rfl, ok o ho, he, he2, rfl⟩) (ev_var 2))) (fun o ho _ _ _ _ _ _ => ev_var 3)
end
end Bx
end

-- part BxM
section
set_option Elab.async false
set_option linter.all false
set_option maxRecDepth 100000
set_option maxHeartbeats 4000000
/-! Boxparts, part M: dicts with int keys and with shapes as keys. -/
namespace Bx
open PySem PySem.Spec PyProof.Rows L2
section
variable {α β : Type} [DecidableEq α]
def look (m : List (α × β)) (k : α) : Option β := (m.find? fun q => decide (q.1 = k)).map (·.2)
def put (m : List (α × β)) (k : α) (b : β) : List (α × β) := if m.any fun q => decide (q.1 = k) then m.map fun q => if q.1 = k then (q.1, b) else q else m ++ [(k, b)]
def putAll (m : List (α × β)) : List (α × β) := m.foldl (fun acc q => put acc q.1 q.2) []
theorem look_pos {q : α × β} {m : List (α × β)} {k : α} (e : q.1 = k) : look (q :: m) k = some q.2 := by simp [look, List.find?_cons, e]
theorem look_neg {q : α × β} {m : List (α × β)} {k : α} (e : ¬ q.1 = k) : look (q :: m) k = look m k := by simp [look, List.find?_cons, e]
theorem put_len (m : List (α × β)) (k : α) (b : β) : (put m k b).length ≤ m.length + 1 := by
  unfold put
  split
  · rw [List.length_map]; omega
  · rw [List.length_append]; exact Nat.le_refl _
end
section
variable {α β κ : Type} [DecidableEq α] [DecidableEq κ] {ek : α → κ} {enc : β → D} {H : Hp}
def KM (H : Hp) (ek : α → κ) (enc : β → D) : List (α × β) → List (κ × V) → Prop
  | [], l => l = []
  | q :: m, l => ∃ v l', l = (ek q.1, v) :: l' ∧ Rep H (enc q.2) v ∧ KM H ek enc m l'
theorem KM.of : ∀ {m : List (α × β)} {kvs : List (κ × V)}, kvs.map (·.1) = m.map (fun q => ek q.1) → RepL H (m.map fun q => enc q.2) (kvs.map (·.2)) → KM H ek enc m kvs
  | [], kvs, h, _ => show kvs = [] by simpa using h
  | q :: m, [], h, _ => by simp at h
  | q :: m, kv :: kvs, h, r => by
    rw [List.map_cons, List.map_cons] at h
    obtain ⟨v, ws, e, r1, r2⟩ := r
    rw [List.map_cons] at e
    injection e with e1 e2
    injection h with h1 h2
    subst e1 e2
    obtain ⟨k, v⟩ := kv
    exact ⟨v, kvs, by rw [← h1], r1, KM.of h2 r2⟩
theorem KM.keys : ∀ {m : List (α × β)} {kvs : List (κ × V)}, KM H ek enc m kvs → kvs.map (·.1) = m.map fun q => ek q.1
  | [], _, h => by
    obtain rfl : _ = [] := h
    rfl
  | q :: m, _, h => by
    obtain ⟨v, l', rfl, _, h2⟩ := h
    rw [List.map_cons, List.map_cons, h2.keys]
theorem KM.vals : ∀ {m : List (α × β)} {kvs : List (κ × V)}, KM H ek enc m kvs → RepL H (m.map fun q => enc q.2) (kvs.map (·.2))
  | [], _, h => by
    obtain rfl : _ = [] := h
    rfl
  | q :: m, _, h => by
    obtain ⟨v, l', rfl, h1, h2⟩ := h
    exact ⟨v, _, rfl, h1, h2.vals⟩
theorem KM.len {m : List (α × β)} {kvs : List (κ × V)} (h : KM H ek enc m kvs) : kvs.length = m.length := by
  have e := congrArg List.length h.keys
  rwa [List.length_map, List.length_map] at e
theorem KM.mono {H' : Hp} (f : Fz H H') {m : List (α × β)} {kvs : List (κ × V)} (h : KM H ek enc m kvs) : KM H' ek enc m kvs := KM.of h.keys (RepL.mono f _ _ h.vals)
theorem KM.val (inj : ∀ a b, ek a = ek b → a = b) (k : α) : ∀ {m : List (α × β)} {kvs : List (κ × V)}, KM H ek enc m kvs → (look m k = none ∧ valV kvs (ek k) = none) ∨ ∃ b v, look m k = some b ∧ valV kvs (ek k) = some v ∧ Rep H (enc b) v
  | [], _, h => by
    obtain rfl : _ = [] := h
    exact .inl ⟨rfl, rfl⟩
  | q :: m, _, h => by
    obtain ⟨v, l', rfl, h1, h2⟩ := h
    by_cases e : q.1 = k
    · exact .inr ⟨q.2, v, look_pos e, valV_pos (by rw [e]), h1⟩
    · rw [look_neg e, valV_neg (fun z => e (inj _ _ z))]
      exact KM.val inj k h2
theorem KM.any (inj : ∀ a b, ek a = ek b → a = b) (k : α) {m : List (α × β)} {kvs : List (κ × V)} (h : KM H ek enc m kvs) : (kvs.any fun kv => decide (kv.1 = ek k)) = m.any fun q => decide (q.1 = k) := by
  induction m generalizing kvs with
  | nil =>
    obtain rfl : kvs = [] := h
    rfl
  | cons q m ih =>
    obtain ⟨v, l', rfl, _, h2⟩ := h
    rw [List.any_cons, List.any_cons, ih h2]
    congr 1
    by_cases e : q.1 = k
    · simp [e]
    · have : ¬ ek q.1 = ek k := fun z => e (inj _ _ z)
      simp [e, this]
theorem KM.put (inj : ∀ a b, ek a = ek b → a = b) (k : α) {b : β} {v : V} (hv : Rep H (enc b) v) {m : List (α × β)} {kvs : List (κ × V)} (h : KM H ek enc m kvs) : KM H ek enc (put m k b) (putK kvs (ek k) v) := by
  have ha := h.any inj k
  unfold Bx.put putK
  rw [ha]
  split
  · rename_i hx
    clear ha hx
    induction m generalizing kvs with
    | nil =>
      obtain rfl : kvs = [] := h
      rfl
    | cons q m ih =>
      obtain ⟨w, l', rfl, h1, h2⟩ := h
      rw [List.map_cons, List.map_cons]
      by_cases e : q.1 = k
      · rw [if_pos e, if_pos (by rw [e])]
        exact ⟨v, _, rfl, hv, ih h2⟩
      · rw [if_neg e, if_neg (fun z => e (inj _ _ z))]
        exact ⟨w, _, rfl, h1, ih h2⟩
  · rename_i hx0
    clear ha
    induction m generalizing kvs with
    | nil =>
      obtain rfl : kvs = [] := h
      exact ⟨v, [], rfl, hv, rfl⟩
    | cons q m ih =>
      obtain ⟨w, l', rfl, h1, h2⟩ := h
      exact ⟨w, _, rfl, h1, ih h2 (fun z => hx0 (by rw [List.any_cons, z, Bool.or_true]))⟩
end
def keyD (k : List Int) : List Key := k.map Sum.inl
theorem keyD_kV (k : List Int) : (keyD k).map kV = k.map V.int := by
  unfold keyD
  rw [List.map_map]
  rfl
theorem ints_inj : ∀ a b : List Int, a.map V.int = b.map V.int → a = b
  | [], [], _ => rfl
  | [], _ :: _, h => by simp at h
  | _ :: _, [], h => by simp at h
  | x :: a, y :: b, h => by
    rw [List.map_cons, List.map_cons] at h
    injection h with h1 h2
    injection h1 with h1
    rw [h1, ints_inj a b h2]
theorem keyD_inj (a b : List Int) (h : keyD a = keyD b) : a = b := by
  have := (keyD_kV a).symm.trans ((congrArg (List.map kV) h).trans (keyD_kV b))
  exact ints_inj a b this
theorem inl_inj (a b : Int) (h : (Sum.inl a : Key) = Sum.inl b) : a = b := by injection h
section
variable {β : Type}
abbrev dkM (enc : β → D) (m : List (Int × β)) : D := .dK (m.map fun q => Sum.inl q.1) (m.map fun q => enc q.2)
abbrev dtM (enc : β → D) (m : List (List Int × β)) : D := .dT (m.map fun q => keyD q.1) (m.map fun q => enc q.2)
abbrev ckM (enc : β → D) (m : List (Int × β)) : C := .dK (m.map fun q => Sum.inl q.1) (m.map fun q => enc q.2)
abbrev ctM (enc : β → D) (m : List (List Int × β)) : C := .dT (m.map fun q => keyD q.1) (m.map fun q => enc q.2)
def DicK (H : Hp) (enc : β → D) (a : Addr) (m : List (Int × β)) : Prop := ∃ kvs : List (Key × V), Rd H a (.dK kvs) ∧ KM H Sum.inl enc m kvs
def DicT (H : Hp) (enc : β → D) (a : Addr) (m : List (List Int × β)) : Prop := ∃ kvs : List (List Key × V), Rd H a (.dT kvs) ∧ KM H keyD enc m kvs
theorem Rd.ex {H H' : Hp} {a : Addr} {u : HO} (e : Ex H H') (h : Rd H a u) : Rd H' a u := by
  rcases h with h | ⟨o, h⟩
  · exact .inl (e _ _ h)
  · exact .inr ⟨o, e _ _ h⟩
variable {enc : β → D} {H H' : Hp} {a : Addr}
theorem DicK.ex (e : Ex H H') {m : List (Int × β)} (h : DicK H enc a m) : DicK H' enc a m := let ⟨kvs, h1, h2⟩ := h; ⟨kvs, Rd.ex e h1, h2.mono e.fz⟩
theorem DicT.ex (e : Ex H H') {m : List (List Int × β)} (h : DicT H enc a m) : DicT H' enc a m := let ⟨kvs, h1, h2⟩ := h; ⟨kvs, Rd.ex e h1, h2.mono e.fz⟩
end
def EvDK {β : Type} (X : Cx) (δ : De) (μ : Mem) (e : Expr) (enc : β → D) (m : List (Int × β)) : Prop := ∀ σ H (Q : VK), Cfg δ μ σ H → (∀ a H', Ex H H' → DicK H' enc a m → Q (.ref a) H') → tw X e σ H Q
def EvDT {β : Type} (X : Cx) (δ : De) (μ : Mem) (e : Expr) (enc : β → D) (m : List (List Int × β)) : Prop := ∀ σ H (Q : VK), Cfg δ μ σ H → (∀ a H', Ex H H' → DicT H' enc a m → Q (.ref a) H') → tw X e σ H Q
section
variable {X : Cx} {δ δ1 : De} {μ μ1 : Mem} {rest sts : List Stmt} {o : Out} {e a b c f i ob : Expr} {es : List Expr} {p pos : Pos} {d : D} {k0 : Nat} {β : Type} {enc : β → D}
theorem ed_frzK {m : List (Int × β)} (h : Ev X δ μ e (dkM enc m)) : EvDK X δ μ e enc m := fun σ H Q c q => h σ H Q c fun v H' ex r => by
  obtain ⟨a, o, kvs, rfl, h1, h2, h3⟩ := r
  exact q a H' ex ⟨kvs, .inr ⟨o, h1⟩, KM.of h2 h3⟩
theorem ed_ownK {l : Addr} {m : List (Int × β)} (h : Ev X δ μ e (.adr l)) (hl : (l, ckM enc m) ∈ μ) : EvDK X δ μ e enc m := fun σ H Q c q => h σ H Q c fun v H' ex r => by
  obtain rfl : v = V.ref l := r
  obtain ⟨kvs, h1, h2, h3⟩ := (c.ex ex).cel _ hl
  exact q l H' ex ⟨kvs, .inl h1, KM.of h2 h3⟩
theorem ed_frzT {m : List (List Int × β)} (h : Ev X δ μ e (dtM enc m)) : EvDT X δ μ e enc m := fun σ H Q c q => h σ H Q c fun v H' ex r => by
  obtain ⟨a, o, kvs, rfl, h1, h2, h3⟩ := r
  exact q a H' ex ⟨kvs, .inr ⟨o, h1⟩, KM.of h2 h3⟩
theorem ed_ownT {l : Addr} {m : List (List Int × β)} (h : Ev X δ μ e (.adr l)) (hl : (l, ctM enc m) ∈ μ) : EvDT X δ μ e enc m := fun σ H Q c q => h σ H Q c fun v H' ex r => by
  obtain rfl : v = V.ref l := r
  obtain ⟨kvs, h1, h2, h3⟩ := (c.ex ex).cel _ hl
  exact q l H' ex ⟨kvs, .inl h1, KM.of h2 h3⟩
theorem rep_shV {H : Hp} {k : List Int} {v : V} (h : Rep H (sh k) v) : ∃ b, v = .ref b ∧ H b = some (.tup ((keyD k).map kV)) := by
  obtain ⟨b, vs, rfl, h1, h2⟩ := h
  rw [RepL.ints h2] at h1
  exact ⟨b, rfl, by rw [keyD_kV]; exact h1⟩
/-- d[k] -/
theorem ev_dgetK {m : List (Int × β)} {k : Int} {y : β} (hr : Room k0 X.A) (ho : EvDK X δ μ ob enc m) (hi : Ev X δ μ i (.int k)) (hk : look m k = some y) (hs : NoSl i := by exact fun _ _ => rfl) : Ev X δ μ (.Subscript ob i pos) (enc y) :=
  ev_pe (pe_dget (by have := hr.units; omega) (pe_tw X ob) (pe_tw X i) hs) fun σ H Q c q => ho σ H _ c fun a H1 e1 dk => hi σ H1 _ (c.ex e1) fun v H2 e2 r2 => by
    obtain ⟨kvs, h1, h2⟩ := dk.ex e2
    rcases h2.val inl_inj k with ⟨z, _⟩ | ⟨b, w, z, z1, z2⟩
    · rw [hk] at z; cases z
    · rw [hk] at z; cases z
      exact ⟨a, w, rfl, .inl ⟨kvs, .inl k, h1, r2, z1.symm⟩, q w H2 (e1.trans e2) z2⟩
theorem ev_dgetT {m : List (List Int × β)} {k : List Int} {y : β} (hr : Room k0 X.A) (ho : EvDT X δ μ ob enc m) (hi : Ev X δ μ i (sh k)) (hk : look m k = some y) (hs : NoSl i := by exact fun _ _ => rfl) : Ev X δ μ (.Subscript ob i pos) (enc y) :=
  ev_pe (pe_dget (by have := hr.units; omega) (pe_tw X ob) (pe_tw X i) hs) fun σ H Q c q => ho σ H _ c fun a H1 e1 dk => hi σ H1 _ (c.ex e1) fun v H2 e2 r2 => by
    obtain ⟨kvs, h1, h2⟩ := dk.ex e2
    obtain ⟨bb, rfl, hb⟩ := rep_shV r2
    rcases h2.val keyD_inj k with ⟨z, _⟩ | ⟨b, w, z, z1, z2⟩
    · rw [hk] at z; cases z
    · rw [hk] at z; cases z
      exact ⟨a, w, rfl, .inr ⟨kvs, keyD k, bb, h1, rfl, hb, z1.symm⟩, q w H2 (e1.trans e2) z2⟩
/-- d.get(k, z) -/
theorem ev_get2K {m : List (Int × β)} {k : Int} {z : β} {apos cpos : Pos} (hr : Room k0 X.A) (ho : EvDK X δ μ ob enc m) (hi : Ev X δ μ i (.int k)) (hf : Ev X δ μ f (enc z)) (m2 : M2 X ob "get" apos i f cpos := by exact ⟨rfl, rfl, rfl, rfl⟩) : Ev X δ μ (.Call (.Attribute ob "get" apos) [i, f] [] cpos) (enc ((look m k).getD z)) :=
  ev_pe (pe_dget2 (by have := hr.units; omega) (pe_tw X ob) (pe_tw X i) (pe_tw X f) m2) fun σ H Q c q => ho σ H _ c fun a H1 e1 dk => by
    obtain ⟨kvs0, h0, _⟩ := id dk
    refine ⟨a, rfl, .inl ⟨kvs0, h0⟩, hi σ H1 _ (c.ex e1) fun v H2 e2 r2 => hf σ H2 _ ((c.ex e1).ex e2) fun w H3 e3 r3 => ?_⟩
    obtain ⟨kvs, h1, h2⟩ := DicK.ex (e2.trans e3) dk
    rcases h2.val inl_inj k with ⟨z1, z2⟩ | ⟨b, u, z, z1, z2⟩
    · refine ⟨none, .inl ⟨kvs, .inl k, h1, r2, z2.symm⟩, q w H3 ((e1.trans e2).trans e3) ?_⟩
      rw [z1]; exact r3
    · refine ⟨some u, .inl ⟨kvs, .inl k, h1, r2, z1.symm⟩, q u H3 ((e1.trans e2).trans e3) ?_⟩
      rw [z]; exact z2
theorem ev_get2T {m : List (List Int × β)} {k : List Int} {z : β} {apos cpos : Pos} (hr : Room k0 X.A) (ho : EvDT X δ μ ob enc m) (hi : Ev X δ μ i (sh k)) (hf : Ev X δ μ f (enc z)) (m2 : M2 X ob "get" apos i f cpos := by exact ⟨rfl, rfl, rfl, rfl⟩) : Ev X δ μ (.Call (.Attribute ob "get" apos) [i, f] [] cpos) (enc ((look m k).getD z)) :=
  ev_pe (pe_dget2 (by have := hr.units; omega) (pe_tw X ob) (pe_tw X i) (pe_tw X f) m2) fun σ H Q c q => ho σ H _ c fun a H1 e1 dk => by
    obtain ⟨kvs0, h0, _⟩ := id dk
    refine ⟨a, rfl, .inr ⟨kvs0, h0⟩, hi σ H1 _ (c.ex e1) fun v H2 e2 r2 => hf σ H2 _ ((c.ex e1).ex e2) fun w H3 e3 r3 => ?_⟩
    obtain ⟨kvs, h1, h2⟩ := DicT.ex (e2.trans e3) dk
    obtain ⟨bb, rfl, hb⟩ := rep_shV r2
    rcases h2.val keyD_inj k with ⟨z1, z2⟩ | ⟨b, u, z, z1, z2⟩
    · refine ⟨none, .inr ⟨kvs, keyD k, bb, h1, rfl, e3 _ _ hb, z2.symm⟩, q w H3 ((e1.trans e2).trans e3) ?_⟩
      rw [z1]; exact r3
    · refine ⟨some u, .inr ⟨kvs, keyD k, bb, h1, rfl, e3 _ _ hb, z1.symm⟩, q u H3 ((e1.trans e2).trans e3) ?_⟩
      rw [z]; exact z2
/-- d[k] = v, d one's own -/
theorem s_putK {l : Addr} {m : List (Int × β)} {k : Int} {y : β} {μ' : Mem} {pos' : Pos} {value : Expr} (hr : Room k0 X.A) (ho : Ev X δ μ ob (.adr l)) (hm : Mup μ l (ckM enc m) (ckM enc (put m k y)) μ') (hi : Ev X δ μ i (.int k)) (hv : Ev X δ μ value (enc y)) (hz : m.length < 100000)
    (hs : swapsWith value (some (.Subscript ob i pos')) pos.line X.env = pure false := by rfl) : S1 X δ μ (.Assign [.Subscript ob i pos'] value pos) (.nx δ μ') :=
  s1_ps (ps_dput (by have := hr.units; omega) (pe_tw X ob) (pe_tw X i) (pe_tw X value) hs) fun σ H D c q => hv σ H _ c fun v H1 e1 r1 => ho σ H1 _ (c.ex e1) fun x H2 e2 r2 => hi σ H2 _ ((c.ex e1).ex e2) fun w H3 e3 r3 => by
    obtain rfl : x = V.ref l := r2
    obtain rfl : w = V.int k := r3
    have c3 := ((c.ex e1).ex e2).ex e3
    obtain ⟨kvs, h1, h2, h3⟩ := c3.cel _ hm.mem
    have km : KM H3 Sum.inl enc m kvs := KM.of h2 h3
    have h1 : H3 l = some (.dK kvs) := h1
    have f2 : Fz H3 (upd H3 l (.dK (putK kvs (.inl k) v))) := Fz.upd fun o ho => by rw [h1] at ho; cases ho; exact fun z => z
    have km2 := (km.put inl_inj k (r1.ex (e2.trans e3))).mono f2
    obtain ⟨g, xx, _⟩ := c3.mup (u := .dK (putK kvs (.inl k) v)) hm ⟨_, upd_same, km2.keys, km2.vals⟩
    exact ⟨l, _, rfl, .inl ⟨kvs, .inl k, h1, rfl, by rw [km.len]; exact Nat.lt_of_lt_of_le hz (by decide), rfl⟩, q σ _ g ((Xs.of ((e1.trans e2).trans e3)).trans xx)⟩
theorem s_putT {l : Addr} {m : List (List Int × β)} {k : List Int} {y : β} {μ' : Mem} {pos' : Pos} {value : Expr} (hr : Room k0 X.A) (ho : Ev X δ μ ob (.adr l)) (hm : Mup μ l (ctM enc m) (ctM enc (put m k y)) μ') (hi : Ev X δ μ i (sh k)) (hv : Ev X δ μ value (enc y)) (hz : m.length < 100000)
    (hs : swapsWith value (some (.Subscript ob i pos')) pos.line X.env = pure false := by rfl) : S1 X δ μ (.Assign [.Subscript ob i pos'] value pos) (.nx δ μ') :=
  s1_ps (ps_dput (by have := hr.units; omega) (pe_tw X ob) (pe_tw X i) (pe_tw X value) hs) fun σ H D c q => hv σ H _ c fun v H1 e1 r1 => ho σ H1 _ (c.ex e1) fun x H2 e2 r2 => hi σ H2 _ ((c.ex e1).ex e2) fun w H3 e3 r3 => by
    obtain rfl : x = V.ref l := r2
    obtain ⟨bb, rfl, hb⟩ := rep_shV r3
    have c3 := ((c.ex e1).ex e2).ex e3
    obtain ⟨kvs, h1, h2, h3⟩ := c3.cel _ hm.mem
    have km : KM H3 keyD enc m kvs := KM.of h2 h3
    have h1 : H3 l = some (.dT kvs) := h1
    have f2 : Fz H3 (upd H3 l (.dT (putK kvs (keyD k) v))) := Fz.upd fun o ho => by rw [h1] at ho; cases ho; exact fun z => z
    have km2 := (km.put keyD_inj k (r1.ex (e2.trans e3))).mono f2
    obtain ⟨g, xx, _⟩ := c3.mup (u := .dT (putK kvs (keyD k) v)) hm ⟨_, upd_same, km2.keys, km2.vals⟩
    exact ⟨l, _, rfl, .inr ⟨kvs, keyD k, bb, h1, rfl, hb, by rw [km.len]; exact Nat.lt_of_lt_of_le hz (by decide), rfl⟩, q σ _ g ((Xs.of ((e1.trans e2).trans e3)).trans xx)⟩
/-- x = a new dict of one's own -/
def NewK (t : TE) (σ : L2.St) (H : Hp) (enc : β → D) (m : List (Int × β)) : Prop := ∀ Q : VK, (∀ p kvs H', H p = none → Ex H H' → H' p = some (.dK kvs) → KM H' Sum.inl enc m kvs → Q (.ref p) H') → t σ H Q
def NewT (t : TE) (σ : L2.St) (H : Hp) (enc : β → D) (m : List (List Int × β)) : Prop := ∀ Q : VK, (∀ p kvs H', H p = none → Ex H H' → H' p = some (.dT kvs) → KM H' keyD enc m kvs → Q (.ref p) H') → t σ H Q
theorem ev_newK {t : TE} {m : List (Int × β)} (h : PE X e t) (k : ∀ σ H, Cfg δ μ σ H → NewK t σ H enc m) : Ev X δ μ e (dkM enc m) :=
  ev_pe (pe_fz h) fun σ H Q c q => k σ H c _ fun p kvs H1 hp e1 h1 r1 => ⟨p, _, rfl, h1, trivial, fun od => by
    have r2 := r1.mono (H' := upd H1 p (.frz od (.dK kvs))) (Fz.upd fun u e => by rw [h1] at e; cases e; exact fun z => z)
    exact q _ _ (e1.frz hp) ⟨p, od, kvs, rfl, upd_same, r2.keys, r2.vals⟩⟩
theorem ev_newT {t : TE} {m : List (List Int × β)} (h : PE X e t) (k : ∀ σ H, Cfg δ μ σ H → NewT t σ H enc m) : Ev X δ μ e (dtM enc m) :=
  ev_pe (pe_fz h) fun σ H Q c q => k σ H c _ fun p kvs H1 hp e1 h1 r1 => ⟨p, _, rfl, h1, trivial, fun od => by
    have r2 := r1.mono (H' := upd H1 p (.frz od (.dT kvs))) (Fz.upd fun u e => by rw [h1] at e; cases e; exact fun z => z)
    exact q _ _ (e1.frz hp) ⟨p, od, kvs, rfl, upd_same, r2.keys, r2.vals⟩⟩
theorem sv_setK (n : Nat) {x : Str} {p' : Pos} {t : TE} {m : List (Int × β)} (hN : X.N.Nodup) (h : PE X e t) (hn : ∀ σ H, Cfg δ μ σ H → NewK t σ H enc m) (k : ∀ l, Sv X (δ.set n (some (.adr l))) ((l, ckM enc m) :: μ) rest o) (hi : X.N[n]? = some x := by rfl) (hx : Loc X.env.scope x := by first | exact .inl rfl | exact .inr rfl)
    (hs : swapsWith e (some (.Name x p')) pos.line X.env = pure false := by rfl) (hf : X.fn x = true ∨ X.env.scope.names.lookup x = some .local := by first | exact .inl rfl | exact .inr rfl) : Sv X δ μ (.Assign [.Name x p'] e pos :: rest) o :=
  sv_pss (pss_cons (ps_set hN hi hx h hs hf) (pss_tw X rest)) fun σ H D c q => hn σ H c _ fun p kvs H1 hp e1 h1 r1 => by
    have c1 := c.ex e1
    have c2 : Cfg δ ((p, ckM enc m) :: μ) σ H1 := by
      refine ⟨c1.len, c1.env, fun z hz => ?_, List.nodup_cons.mpr ⟨fun z => ?_, c1.nd⟩⟩
      · rcases List.mem_cons.mp hz with rfl | hz
        · exact ⟨kvs, h1, r1.keys, r1.vals⟩
        · exact c1.cel z hz
      · obtain ⟨y, hy, e⟩ := List.mem_map.mp z
        obtain ⟨o, h, _⟩ := (c.cel y hy).some
        rw [e, hp] at h; cases h
    exact k p _ _ D (c2.set (d := .adr p) rfl) (okt q ⟨fun a o h _ => e1 a o h, fun a ha => by
      rcases List.mem_cons.mp ha with e | ha
      · exact .inr (by rw [e]; exact hp)
      · exact .inl ha⟩)
theorem sv_setT (n : Nat) {x : Str} {p' : Pos} {t : TE} {m : List (List Int × β)} (hN : X.N.Nodup) (h : PE X e t) (hn : ∀ σ H, Cfg δ μ σ H → NewT t σ H enc m) (k : ∀ l, Sv X (δ.set n (some (.adr l))) ((l, ctM enc m) :: μ) rest o) (hi : X.N[n]? = some x := by rfl) (hx : Loc X.env.scope x := by first | exact .inl rfl | exact .inr rfl)
    (hs : swapsWith e (some (.Name x p')) pos.line X.env = pure false := by rfl) (hf : X.fn x = true ∨ X.env.scope.names.lookup x = some .local := by first | exact .inl rfl | exact .inr rfl) : Sv X δ μ (.Assign [.Name x p'] e pos :: rest) o :=
  sv_pss (pss_cons (ps_set hN hi hx h hs hf) (pss_tw X rest)) fun σ H D c q => hn σ H c _ fun p kvs H1 hp e1 h1 r1 => by
    have c1 := c.ex e1
    have c2 : Cfg δ ((p, ctM enc m) :: μ) σ H1 := by
      refine ⟨c1.len, c1.env, fun z hz => ?_, List.nodup_cons.mpr ⟨fun z => ?_, c1.nd⟩⟩
      · rcases List.mem_cons.mp hz with rfl | hz
        · exact ⟨kvs, h1, r1.keys, r1.vals⟩
        · exact c1.cel z hz
      · obtain ⟨y, hy, e⟩ := List.mem_map.mp z
        obtain ⟨o, h, _⟩ := (c.cel y hy).some
        rw [e, hp] at h; cases h
    exact k p _ _ D (c2.set (d := .adr p) rfl) (okt q ⟨fun a o h _ => e1 a o h, fun a ha => by
      rcases List.mem_cons.mp ha with e | ha
      · exact .inr (by rw [e]; exact hp)
      · exact .inl ha⟩)
theorem new_nilK {σ : L2.St} {H : Hp} : NewK tDNewK σ H enc [] := fun Q q p hp => q p [] _ hp (Ex.new hp) upd_same rfl
theorem new_nilT {σ : L2.St} {H : Hp} : NewT tDNewT σ H enc [] := fun Q q p hp => q p [] _ hp (Ex.new hp) upd_same rfl
/-- {} -/
theorem ev_nilK : Ev X δ μ (.Dict [] [] pos) (dkM enc []) := ev_newK pe_dnewK fun _ _ _ => new_nilK
theorem ev_nilDT : Ev X δ μ (.Dict [] [] pos) (dtM enc []) := ev_newT pe_dnewT fun _ _ _ => new_nilT
/-- dict(d) -/
def rCopyK : List V → Hp → VK → Prop := fun vs H Q => ∃ (a : Addr) (kvs : List (Key × V)), vs = [V.ref a] ∧ Rd H a (.dK kvs) ∧ ∀ p, H p = none → Q (.ref p) (upd H p (.dK kvs))
theorem cr_copyK : CallR X (.type "dict") rCopyK := by
  intro pins s σ H vs us Q I r h
  obtain ⟨a, kvs, rfl, hs, q⟩ := h
  rw [Vals.ref1 r]
  exact d_copyOf I hs fun p s' hp I' => ⟨.ref p, _, I', rfl, q p hp⟩
theorem KM.newK {H : Hp} {p : Addr} {u : HO} (hp : H p = none) {κ α : Type} [DecidableEq κ] [DecidableEq α] {ek : α → κ} {m : List (α × β)} {kvs : List (κ × V)} (h : KM H ek enc m kvs) : KM (upd H p u) ek enc m kvs := h.mono (Ex.new hp).fz
theorem boot_dict' : bootBuiltins "dict" = some (.type "dict") := by decide +kernel
theorem pe_copyK (B : Bi X.mg) (hg : Gl X "dict" := by rfl) (he : starEach [e] X.env = (false, eval e X.env) :: starEach [] X.env := by rfl) (hpl : (backTo pos (starEach [] X.env)).any (·.1) = false := by rfl) :
    PE X (.Call (.Name "dict" p) [e] [] pos) (tCB rCopyK (twA X [e])) := pe_callTy cr_copyK hg B.dict boot_dict' (pa_tw X [e]) (by decide) (by decide) he hpl
end
end Bx
end

-- part BxN
section
set_option Elab.async false
set_option linter.all false
set_option maxRecDepth 100000
set_option maxHeartbeats 4000000
/-! Boxparts, part N: dicts walked, sorted, copied, made of pairs, displayed; shapes as keys. -/
namespace Bx
open PySem PySem.Spec PyProof.Rows L2
open PySem.W (EachIs SortsAt dataKind alike AllAlike dataLe dataLt sortVals_data)
section
variable {α β κ : Type} [DecidableEq α] [DecidableEq κ] {ek : α → κ} {enc : β → D} {H : Hp}
theorem KM.get : ∀ {m : List (α × β)} {kvs : List (κ × V)} {i : Nat} {q : α × β}, KM H ek enc m kvs → m[i]? = some q → ∃ v, kvs[i]? = some (ek q.1, v) ∧ Rep H (enc q.2) v
  | [], _, i, q, h, e => by simp at e
  | q0 :: m, _, i, q, h, e => by
    obtain ⟨v, l', rfl, h1, h2⟩ := h
    cases i with
    | zero =>
      have e : q0 = q := by simpa using e
      subst e
      exact ⟨v, rfl, h1⟩
    | succ i => exact KM.get (i := i) h2 (by simpa using e)
end
section
variable {X : Cx} {δ δ1 : De} {μ μ1 : Mem} {rest sts : List Stmt} {o : Out} {e a b c f i ob tg : Expr} {es : List Expr} {p pos : Pos} {d : D} {k0 : Nat} {β : Type} {enc : β → D}
theorem ei_keysK {m : List (Int × β)} (h : Ev X δ μ e (dkM enc m)) : EvI X δ μ tg e (m.map fun q => D.int q.1) :=
  ei_pi (pi_keys (pe_tw X e)) fun σ H R c q => h σ H _ c fun v H1 e1 r1 => by
    obtain ⟨a, o, kvs, rfl, h1, h2, h3⟩ := r1
    have km : KM H1 Sum.inl enc m kvs := KM.of h2 h3
    refine ⟨a, o, rfl, .inl ⟨kvs, h1, q _ _ e1 ⟨fun H i d f hd => ?_, fun H i f hi => ⟨f _ _ h1 trivial, by rw [km.len]; rwa [List.length_map] at hi⟩⟩ fun pins s I => ?_⟩⟩
    · rw [List.getElem?_map] at hd
      cases hm : m[i]? with
      | none => rw [hm] at hd; cases hd
      | some qq =>
        rw [hm] at hd
        obtain rfl : D.int qq.1 = d := Option.some.inj hd
        obtain ⟨w, hw, _⟩ := km.get hm
        refine ⟨⟨f _ _ h1 trivial, (List.getElem?_eq_some_iff.mp hw).1⟩, fun x H' y => ?_⟩
        obtain ⟨rfl, k, v, e, rfl⟩ := y
        rw [hw] at e
        cases e
        exact ⟨Ex.refl _, rfl⟩
    · rw [List.length_map, ← km.len]
      exact (dk_rd I.hok (.inr ⟨o, h1⟩)).1
theorem ei_keysT {m : List (List Int × β)} (h : Ev X δ μ e (dtM enc m)) : EvI X δ μ tg e (m.map fun q => sh q.1) :=
  ei_pi (pi_keys (pe_tw X e)) fun σ H R c q => h σ H _ c fun v H1 e1 r1 => by
    obtain ⟨a, o, kvs, rfl, h1, h2, h3⟩ := r1
    have km : KM H1 keyD enc m kvs := KM.of h2 h3
    refine ⟨a, o, rfl, .inr ⟨kvs, h1, q _ _ e1 ⟨fun H i d f hd => ?_, fun H i f hi => ⟨f _ _ h1 trivial, by rw [km.len]; rwa [List.length_map] at hi⟩⟩ fun pins s I => ?_⟩⟩
    · rw [List.getElem?_map] at hd
      cases hm : m[i]? with
      | none => rw [hm] at hd; cases hd
      | some qq =>
        rw [hm] at hd
        obtain rfl : sh qq.1 = d := Option.some.inj hd
        obtain ⟨w, hw, _⟩ := km.get hm
        refine ⟨⟨f _ _ h1 trivial, (List.getElem?_eq_some_iff.mp hw).1⟩, fun x H' y => ?_⟩
        obtain ⟨rfl, k, v, qa, e, rfl, hq⟩ := y
        rw [hw] at e
        cases e
        rw [keyD_kV] at hq
        exact ⟨Ex.refl _, qa, _, rfl, hq, RepL.ofInts _⟩
    · rw [List.length_map, ← km.len]
      exact (dt_rd I.hok (.inr ⟨o, h1⟩)).1

/-! sorted(d) -/
def insI (x : Int) : List Int → List Int
  | [] => [x]
  | y :: t => if x ≤ y then x :: y :: t else y :: insI x t
def sortI : List Int → List Int
  | [] => []
  | x :: t => insI x (sortI t)
theorem insI_perm (x : Int) : ∀ t, (insI x t).Perm (x :: t)
  | [] => .refl _
  | y :: t => by
    unfold insI
    split
    · exact .refl _
    · exact ((insI_perm x t).cons y).trans (.swap x y t)
theorem sortI_perm : ∀ t, (sortI t).Perm t
  | [] => .refl _
  | x :: t => (insI_perm x (sortI t)).trans ((sortI_perm t).cons x)
theorem insI_srt (x : Int) : ∀ t, t.Pairwise (· ≤ ·) → (insI x t).Pairwise (· ≤ ·)
  | [], _ => List.pairwise_singleton _ _
  | y :: t, h => by
    have h' := List.pairwise_cons.mp h
    unfold insI
    split
    · rename_i hx
      refine List.pairwise_cons.mpr ⟨fun z hz => ?_, h⟩
      rcases List.mem_cons.mp hz with e | hz
      · omega
      · have := h'.1 z hz; omega
    · rename_i hx
      refine List.pairwise_cons.mpr ⟨fun z hz => ?_, insI_srt x t h'.2⟩
      rcases List.mem_cons.mp ((insI_perm x t).mem_iff.mp hz) with e | hz
      · omega
      · exact h'.1 z hz
theorem sortI_srt : ∀ t, (sortI t).Pairwise (· ≤ ·)
  | [] => .nil
  | x :: t => insI_srt x _ (sortI_srt t)
theorem srt_uniq : ∀ {a b : List Int}, a.Perm b → a.Pairwise (· ≤ ·) → b.Pairwise (· ≤ ·) → a = b
  | [], b, p, _, _ => p.nil_eq
  | x :: a, [], p, _, _ => by have := p.length_eq; simp at this
  | x :: a, y :: b, p, ha, hb => by
    have ha' := List.pairwise_cons.mp ha
    have hb' := List.pairwise_cons.mp hb
    have e : x = y := by
      have h1 : x ∈ y :: b := p.mem_iff.mp List.mem_cons_self
      have h2 : y ∈ x :: a := p.mem_iff.mpr List.mem_cons_self
      rcases List.mem_cons.mp h1 with h1 | h1
      · exact h1
      · rcases List.mem_cons.mp h2 with h2 | h2
        · exact h2.symm
        · have := ha'.1 y h2
          have := hb'.1 x h1
          omega
    subst e
    rw [srt_uniq (List.perm_cons x |>.mp p) ha'.2 hb'.2]
theorem ev_sortedK {m : List (Int × β)} (hc : X.calm = true) (B : Bi X.mg) (ha : EvDK X δ μ e enc m) (h64 : m.length < 64) (hg : Gl X "sorted" := by rfl) (he : starEach [e] X.env = (false, eval e X.env) :: starEach [] X.env := by rfl) (hpl : (backTo pos (starEach [] X.env)).any (·.1) = false := by rfl) :
    Ev X δ μ (.Call (.Name "sorted" p) [e] [] pos) (li (sortI (m.map (·.1)))) :=
  ev_newL (pe_callB (call_sortedDI hc) hg B.sorted boot_sorted (pa_cons (pe_tw X e) pa_nil he) (by decide) (by decide) he hpl) fun σ H c Q q => ha σ H _ c fun a H1 e1 dk => by
    obtain ⟨kvs, h1, h2⟩ := dk
    refine ⟨a, kvs, m.map (·.1), rfl, h1, by rw [h2.keys, List.map_map]; rfl, by rw [List.length_map]; exact h64, fun ys p hy hs hp => ?_⟩
    rw [srt_uniq (hy.trans (sortI_perm _).symm) hs (sortI_srt _)]
    exact q p _ _ (e1.free hp) (e1.trans (Ex.new hp)) upd_same (RepL.ofInts _)
/-- the keys of a dict of shapes, sorted -/
def rSortT : List V → Hp → VK → Prop := fun vs H Q => ∃ (a : Addr) (kvs : List (List Key × V)) (ss : List (List Int)), vs = [V.ref a] ∧ Rd H a (.dT kvs) ∧ kvs.map (·.1) = ss.map keyD ∧ SortOk ss ∧ ∀ p ws', H p = none → RepL H ((srt false ss).map sh) ws' → Q (.ref p) (upd H p (.lst ws'))
theorem kt_refs {H : Hp} : ∀ {kvs : List (List Key × V)} {xs : List (List Key × Addr × Value)} {ss : List (List Int)}, KT H kvs xs → kvs.map (·.1) = ss.map keyD → RepL H (ss.map sh) (xs.map fun x => V.ref x.2.1)
  | [], _, ss, .nil, h => by
    cases ss with
    | nil => rfl
    | cons _ _ => simp at h
  | kv :: kvs, _, ss, .cons (b := x) h t, e => by
    cases ss with
    | nil => simp at e
    | cons s ss =>
      rw [List.map_cons, List.map_cons] at e
      injection e with e1 e2
      refine ⟨_, _, rfl, ⟨x.2.1, s.map V.int, rfl, ?_, RepL.ofInts _⟩, kt_refs t e2⟩
      have := h.2.1
      rw [e1, keyD_kV] at this
      exact this
theorem cr_sortT (hc : X.calm = true) (hu : X.A.units + 64 < cLine) : CallR X (.builtin "sorted") rSortT := by
  intro pins s σ H vs us Q I r q
  obtain ⟨a, kvs, ss, rfl, hd, hks, ok, q⟩ := q
  rw [Vals.ref1 r]
  obtain ⟨z, lo, xs, rel, dd⟩ := dt_rd I.hok hd
  obtain ⟨es, ep, raw, hsz, hent⟩ := dd.raw
  have hxl : xs.length = kvs.length := (Paired.length rel).symm
  refine Calls.call_function_entry PyProof.Rows.kind_sorted PyProof.Rows.plain_sorted PyProof.Rows.entry_sorted (PyProof.Rows.args_sorted1 _) ?_
  unfold Builtin.«sorted»
  refine wpAny_bind (m := checkCount "sorted" 1 1 _) (wpAny_pure ?_)
  refine wpAny_bind (PySem.W.kdu_collect (A := X.A.in1) (KdlSrc.rawDict (es := es) (ep := ep) lo) (I.ok.hd hc) raw (by rw [hsz, hxl]; exact z) fun h' tk acc hk hacc => ?_)
  have hal : acc.toList.length = xs.length := by rw [Array.length_toList, hacc.1, hsz]
  have hv : Vals (xs.map fun x => V.ref x.2.1) acc.toList := by
    have hh : acc.toList = xs.map fun x => Value.ref x.2.1 := by
      apply List.ext_getElem?
      intro j
      rw [List.getElem?_map]
      by_cases hj : j < acc.toList.length
      · obtain ⟨hi, ev⟩ := hacc.2 j acc.toList[j] (by rw [← Array.getElem?_toList, List.getElem?_eq_getElem hj])
        obtain ⟨y, hy, ek, _⟩ := hent j hi
        rw [hy, List.getElem?_eq_getElem hj, ev, ek]
        rfl
      · rw [List.getElem?_eq_none (by omega), List.getElem?_eq_none (by omega)]
        rfl
    rw [hh]
    clear hh
    generalize xs = l
    induction l with
    | nil => exact .nil
    | cons x l ih => exact .cons rfl ih
  have I1 : Inv X pins σ H { s with heap := h', toks := tk } := I.kept hk
  have hrep : RepL H (ss.map sh) (xs.map fun x => V.ref x.2.1) := kt_refs rel hks
  have hsl : acc.toList.length ≤ sizeLine := by rw [hal, hxl]; exact z
  refine wpAny_bind (wpAny_newList ?_ hsl)
  have hoL : (h'.push (seqObj "list" acc.toList.toArray 0)).get? h'.objs.size = some (seqObj "list" acc.toList.toArray 0) := Heap.get?_push_size _ rfl
  obtain ⟨e1, e2⟩ := each_sh I1 hrep hv
  have er' : EachIs (fun v t => ∃ as, Reads (PySem.W.sortingHeap (h'.push (seqObj "list" acc.toList.toArray 0)) h'.objs.size acc.toList) v (encS t) as) acc.toList ss :=
    e2.mono fun _ _ ⟨as, r⟩ => ⟨as, PyProof.Rows.Reads.keeps (fun b o e => PySem.W.sortingHeap_old (Nat.ne_of_lt (Heap.lt_size e)) (Heap.get?_push_of_some _ e)) r⟩
  have hal2 : AllAlike (ss.map encS) := AllAlike.of fun b b' => alike_encS b b'
  have hdd : ∀ d, d ∈ ss.map encS → X.A.in1.in1.units + d.depth < cLine := fun d hd => by
    obtain ⟨t, _, rfl⟩ := List.mem_map.mp hd
    rw [depth_encS]
    show X.A.units + 1 + 1 + 1 < cLine
    omega
  have S : SortsAt X.prog X.w X.A.in1.in1 { s with heap := PySem.W.sortingHeap (h'.push (seqObj "list" acc.toList.toArray 0)) h'.objs.size acc.toList, toks := tk } (dataKind (PySem.W.sortingHeap (h'.push (seqObj "list" acc.toList.toArray 0)) h'.objs.size acc.toList) (ss.map encS)) acc.toList := by
    have em := PySem.W.each_map (R := fun v d => ∃ as, Reads (PySem.W.sortingHeap (h'.push (seqObj "list" acc.toList.toArray 0)) h'.objs.size acc.toList) v d as) encS er'
    rcases ok with ok | ok
    · refine SortsAt.data (s := { s with heap := PySem.W.sortingHeap (h'.push (seqObj "list" acc.toList.toArray 0)) h'.objs.size acc.toList, toks := tk }) em hal2 (.inl fun d hd => ?_) hdd
      obtain ⟨t, ht, rfl⟩ := List.mem_map.mp hd
      cases t with
      | nil => exact absurd rfl (ok _ ht)
      | cons x t => exact ⟨_, _, rfl⟩
    · refine sortsAt_one (s := { s with heap := PySem.W.sortingHeap (h'.push (seqObj "list" acc.toList.toArray 0)) h'.objs.size acc.toList, toks := tk }) em hal2 (fun d hd => ?_) (by rw [List.length_map]; exact ok) hdd
      obtain ⟨t, ht, rfl⟩ := List.mem_map.mp hd
      intro z; cases z
  have out := sortVals_data false e1 er' hal2
  obtain ⟨ws', rv, rr⟩ := each_back out
  obtain ⟨ep', he'⟩ := PyProof.Rows.sortedHeap_at (vs := acc.toList) (out := (PySem.W.sortVals (dataKind (PySem.W.sortingHeap (h'.push (seqObj "list" acc.toList.toArray 0)) h'.objs.size acc.toList) (ss.map encS)) false acc.toList acc.toList).toArray) hoL
  show wpAny _ _ _ _ _ { s with heap := h'.push (seqObj "list" acc.toList.toArray 0), toks := tk }
  refine wpAny_bind (wpAny_holding (wpAny_call_entry PyProof.Rows.slot_list_sort ⟨_, hoL, rfl⟩ PyProof.Rows.entry_list_sort
    (PySem.W.list_sort_vals (s := { s with heap := h'.push (seqObj "list" acc.toList.toArray 0), toks := tk }) hoL S hsl ⟨_, rfl, ?_⟩) (PyProof.Rows.args_list_sort _)))
  have hlen : ws'.length ≤ sizeLine := by
    rw [rr.len, List.length_map, List.length_mergeSort]
    have l1 := hrep.len
    rw [List.length_map, List.length_map] at l1
    omega
  refine wpAny_pure ⟨_, rfl, .ref h'.objs.size, upd H h'.objs.size (.lst ws'), I1.laid (t' := tk) (fun b u e => ?_) (Nat.le_refl _)
    (show ObjOk X.prog X.w _ _ _ (.lst ws') from ⟨hlen, _, ep', rv, he'⟩), rfl, q _ ws' (I1.hok.fresh (Nat.le_refl _)) rr⟩
  have hb : b < h'.objs.size := Heap.lt_size e
  show (PyProof.Rows.sortedHeap _ _ _ _).get? b = some u
  rw [PyProof.Rows.sortedHeap_old (Nat.ne_of_lt hb) (by rw [size_push']; exact Nat.lt_succ_of_lt hb)]
  exact Heap.get?_push_of_some _ e
theorem ev_sortedT {m : List (List Int × β)} (hr : Room k0 X.A) (hc : X.calm = true) (B : Bi X.mg) (ha : EvDT X δ μ e enc m) (ok : SortOk (m.map (·.1))) (hg : Gl X "sorted" := by rfl) (he : starEach [e] X.env = (false, eval e X.env) :: starEach [] X.env := by rfl) (hpl : (backTo pos (starEach [] X.env)).any (·.1) = false := by rfl) :
    Ev X δ μ (.Call (.Name "sorted" p) [e] [] pos) (.lst ((sortS (m.map (·.1))).map sh)) :=
  ev_newL (pe_callB (cr_sortT hc hr.units) hg B.sorted boot_sorted (pa_cons (pe_tw X e) pa_nil he) (by decide) (by decide) he hpl) fun σ H c Q q => ha σ H _ c fun a H1 e1 dk => by
    obtain ⟨kvs, h1, h2⟩ := dk
    refine ⟨a, kvs, m.map (·.1), rfl, h1, by rw [h2.keys, List.map_map]; rfl, ok, fun l ws' hl r2 => q l ws' _ (e1.free hl) (e1.trans (Ex.new hl)) upd_same ?_⟩
    rw [srt_false] at r2
    exact r2.ex (Ex.new hl)
end
end Bx
end

-- part BxO
section
set_option Elab.async false
set_option linter.all false
set_option maxRecDepth 100000
set_option maxHeartbeats 4000000
/-! Boxparts, part O: dict of pairs, copies, displays; min of a dict, max of shapes. -/
namespace Bx
open PySem PySem.Spec PyProof.Rows L2
open PySem.W (EachIs alike AllAlike dataLt argBest_fold)
/-! dict(pairs) -/
section
variable {β : Type} {enc : β → D} {H : Hp}
theorem KM.foldK (inj : ∀ a b : Int, (Sum.inl a : Key) = Sum.inl b → a = b) : ∀ {m acc : List (Int × β)} {kvs akvs : List (Key × V)}, KM H Sum.inl enc m kvs → KM H Sum.inl enc acc akvs → KM H Sum.inl enc (m.foldl (fun acc q => Bx.put acc q.1 q.2) acc) (mergeK akvs kvs)
  | [], acc, kvs, akvs, h, ha => by
    obtain rfl : kvs = [] := h
    exact ha
  | q :: m, acc, kvs, akvs, h, ha => by
    obtain ⟨v, l', rfl, h1, h2⟩ := h
    exact KM.foldK inj (m := m) (kvs := l') h2 (ha.put inj q.1 h1)
def mergeT (kvs more : List (List Key × V)) : List (List Key × V) := more.foldl (fun acc kv => putK acc kv.1 kv.2) kvs
theorem KM.foldT : ∀ {m acc : List (List Int × β)} {kvs akvs : List (List Key × V)}, KM H keyD enc m kvs → KM H keyD enc acc akvs → KM H keyD enc (m.foldl (fun acc q => Bx.put acc q.1 q.2) acc) (mergeT akvs kvs)
  | [], acc, kvs, akvs, h, ha => by
    obtain rfl : kvs = [] := h
    exact ha
  | q :: m, acc, kvs, akvs, h, ha => by
    obtain ⟨v, l', rfl, h1, h2⟩ := h
    exact KM.foldT (m := m) (kvs := l') h2 (ha.put keyD_inj q.1 h1)
/-- a list of pairs, by its tuples -/
theorem pairs_K {K : PySem.W.Frag} : ∀ {m : List (Int × β)} {vs : List V}, RepL H (m.map fun q => .tup [.int q.1, enc q.2]) vs → ∃ (ps : List Addr) (kvs : List (Key × V)), vs = ps.map V.ref ∧ Paired (fun p kv => SqT K H p [kV kv.1, kv.2]) ps kvs ∧ KM H Sum.inl enc m kvs
  | [], vs, h => by
    obtain rfl : vs = [] := h
    exact ⟨[], [], rfl, .nil, rfl⟩
  | q :: m, vs, h => by
    obtain ⟨v, ws, rfl, ⟨a, us, rfl, ha, hu⟩, h2⟩ := h
    obtain ⟨x, us', rfl, hx, hu⟩ := hu
    obtain ⟨y, rfl, hy⟩ := hu.one
    obtain rfl : x = V.int q.1 := hx
    obtain ⟨ps, kvs, rfl, hp, km⟩ := pairs_K (K := K) h2
    exact ⟨a :: ps, (.inl q.1, y) :: kvs, rfl, .cons (SqT.of ha) hp, y, kvs, rfl, hy, km⟩
structure PairT (H : Hp) (p : Addr) (b : Addr) (kv : List Key × V) : Prop where
  tup : H p = some (.tup [.ref b, kv.2])
  key : H b = some (.tup (kv.1.map kV))
theorem pairs_T : ∀ {m : List (List Int × β)} {vs : List V}, RepL H (m.map fun q => .tup [sh q.1, enc q.2]) vs → ∃ (ps : List (Addr × Addr × (List Key × V))), vs = ps.map (fun x => V.ref x.1) ∧ (∀ x ∈ ps, PairT H x.1 x.2.1 x.2.2) ∧ KM H keyD enc m (ps.map fun x => x.2.2)
  | [], vs, h => by
    obtain rfl : vs = [] := h
    exact ⟨[], rfl, (fun _ h => nomatch h), rfl⟩
  | q :: m, vs, h => by
    obtain ⟨v, ws, rfl, ⟨a, us, rfl, ha, hu⟩, h2⟩ := h
    obtain ⟨x, us', rfl, hx, hu⟩ := hu
    obtain ⟨y, rfl, hy⟩ := hu.one
    obtain ⟨b, rfl, hb⟩ := rep_shV hx
    obtain ⟨ps, rfl, hp, km⟩ := pairs_T h2
    refine ⟨(a, b, keyD q.1, y) :: ps, rfl, fun z hz => ?_, y, _, rfl, hy, km⟩
    rcases List.mem_cons.mp hz with rfl | hz
    · exact ⟨ha, hb⟩
    · exact hp z hz
end
section
variable {X : Cx}
def rPairsT : List V → Hp → VK → Prop := fun vs H Q => ∃ (a : Addr) (ps : List (Addr × Addr × (List Key × V))), vs = [V.ref a] ∧ Rd H a (.lst (ps.map fun x => V.ref x.1)) ∧ (∀ x ∈ ps, PairT H x.1 x.2.1 x.2.2) ∧ ∀ p, H p = none → Q (.ref p) (upd H p (.dT (mergeT [] (ps.map fun x => x.2.2))))
theorem KT.fold {H : Hp} : ∀ {l : List (Addr × Value × (List Key × V))} {acc : List (List Key × V)} {xs : List (List Key × Addr × Value)}, (∀ x ∈ l, H x.1 = some (.tup (x.2.2.1.map kV)) ∧ RelV x.2.2.2 x.2.1) → KT H acc xs →
    KT H (mergeT acc (l.map fun x => x.2.2)) (storedAllH xs (l.map fun x => (x.2.2.1, x.1, x.2.1)))
  | [], acc, xs, _, r => r
  | x :: l, acc, xs, h, r => by
    have hx := h x List.mem_cons_self
    exact KT.fold (l := l) (fun y hy => h y (List.mem_cons_of_mem _ hy)) (r.put x.2.2.1 hx.1 hx.2)
theorem mergeT_len : ∀ (more kvs : List (List Key × V)), (mergeT kvs more).length ≤ kvs.length + more.length
  | [], kvs => by show kvs.length ≤ kvs.length + 0; omega
  | p :: r, kvs => by
    have h1 := mergeT_len r (putK kvs p.1 p.2)
    have h2 := length_putK kvs p.1 p.2
    show (mergeT (putK kvs p.1 p.2) r).length ≤ _
    rw [List.length_cons]; omega
/-- a dict of tuple keys stands in the heap h' -/
theorem dtOk {H : Hp} {h : Heap} {d : Addr} {kvs : List (List Key × V)} {xs : List (List Key × Addr × Value)} (z : kvs.length ≤ sizeLine) (hd : (d == sysModules) = false) (r : KT H kvs xs) (dd : h.DictOfH (tupleKind (mixKind X.prog X.w)) d xs) : ObjOk X.prog X.w H h d (.dT kvs) := by
  obtain ⟨o, es, ep, h1, h2, h3, h4, _, h5⟩ := dd
  exact ⟨z, hd, xs, r, o, es, ep, h1, h2, h3, h4, h5⟩
theorem KT.upd {H : Hp} {p : Addr} {u : HO} (hp : H p = none) {kvs : List (List Key × V)} {xs : List (List Key × Addr × Value)} (r : KT H kvs xs) : KT (L2.upd H p u) kvs xs := r.keeps fun b ys e => by rw [upd_ne (ne_of_none e hp)]; exact e
theorem pairs_vals {pins : List (Addr × Obj)} {σ : L2.St} {H : Hp} {s : Shared} (I : Inv X pins σ H s) : ∀ {ps : List (Addr × Addr × (List Key × V))}, (∀ x ∈ ps, PairT H x.1 x.2.1 x.2.2) →
    ∃ l : List (Addr × Value × (List Key × V)), l.length = ps.length ∧ l.map (fun x => x.2.2) = ps.map (fun x => x.2.2) ∧ (∀ x ∈ l, H x.1 = some (.tup (x.2.2.1.map kV)) ∧ RelV x.2.2.2 x.2.1) ∧ ∀ (j : Nat) (x : Addr × Value × (List Key × V)), l[j]? = some x → ∃ q : Addr × Addr × (List Key × V), ps[j]? = some q ∧ IsTup s.heap q.1 #[.ref x.1, x.2.1]
  | [], _ => ⟨[], rfl, rfl, (fun _ h => nomatch h), fun j x e => by simp at e⟩
  | q :: ps, h => by
    obtain ⟨l, h1, h2, h3, h4⟩ := pairs_vals I (ps := ps) fun x hx => h x (List.mem_cons_of_mem _ hx)
    have hq := h q List.mem_cons_self
    obtain ⟨its, rv, ht, _⟩ := I.tuple (SqT.of (K := X.K) hq.tup)
    obtain ⟨u, y, rfl, ru, ry⟩ := vals2 rv
    obtain rfl : u = Value.ref q.2.1 := ru
    refine ⟨(q.2.1, y, q.2.2) :: l, by rw [List.length_cons, List.length_cons, h1], by rw [List.map_cons, List.map_cons, h2], fun x hx => ?_, fun j x e => ?_⟩
    · rcases List.mem_cons.mp hx with rfl | hx
      · exact ⟨hq.key, ry⟩
      · exact h3 x hx
    · cases j with
      | zero =>
        have e : (q.2.1, y, q.2.2) = x := by simpa using e
        subst e
        exact ⟨q, rfl, ht⟩
      | succ j =>
        obtain ⟨q', a, b⟩ := h4 j x (by simpa using e)
        exact ⟨q', by simpa using a, b⟩
theorem cr_pairsT (hc : X.calm = true) (hu : X.A.units + 64 < cLine) : CallR X (.type "dict") rPairsT := by
  intro pins s σ H vs us Q I r h
  obtain ⟨a, ps, rfl, hs, hp, q⟩ := h
  rw [Vals.ref1 r]
  obtain ⟨z, its, n, rv, hl, e⟩ := lstR I hs
  obtain ⟨l, l1, l2, l3, l4⟩ := pairs_vals I hp
  rw [List.length_map] at z hl
  have hits : ∀ (j : Nat) (q : Addr × Addr × (List Key × V)), ps[j]? = some q → its[j]? = some (Value.ref q.1) := fun j q hq => by
    obtain ⟨u, hu, ru⟩ := rv.get (i := j) (x := V.ref q.1) (by rw [List.getElem?_map, hq]; rfl)
    obtain rfl : u = Value.ref q.1 := ru
    exact hu
  refine call_dict_pairsH (knd := tupleKind (mixKind X.prog X.w)) (ps := l.map fun x => (x.2.2.1, x.1, x.2.1)) (PairArg.list a its.toArray (fun j => (ps[j]?.map (·.1)).getD 0) (l.map fun x => (Value.ref x.1, x.2.1))) (I.ok.hd hc) (show X.A.in1.in1.units < cLine by show X.A.units + 1 + 1 < cLine; omega)
    ⟨⟨_, n, e, rfl, rfl, rfl⟩, ⟨by rw [List.size_toArray, List.length_map, l1, hl], fun j k v hj => ?_⟩⟩ ⟨by rw [List.length_map, List.length_map], fun i key v hi => ?_⟩ (fun h' hk x hx => ?_) (by rw [List.length_map, l1]; exact z) fun h' tk dd hk => ?_
  · rw [List.getElem?_map] at hj
    cases hx : l[j]? with
    | none => rw [hx] at hj; cases hj
    | some x =>
      rw [hx] at hj
      obtain ⟨rfl, rfl⟩ : Value.ref x.1 = k ∧ x.2.1 = v := by
        have := Option.some.inj hj
        exact ⟨congrArg Prod.fst this, congrArg Prod.snd this⟩
      obtain ⟨q', hq, ht⟩ := l4 j x hx
      have := hits j q' hq
      obtain ⟨o, ho, hc', n', hd'⟩ := ht
      refine ⟨?_, .inl ⟨o, ?_, hc', n', hd'⟩⟩
      · simp only [hq, Option.map_some, Option.getD_some]
        simpa using this
      · simp only [hq, Option.map_some, Option.getD_some]
        exact ho
  · have hi : (l.map fun x => (Value.ref x.1, x.2.1))[i]? = some (key, v) := hi
    rw [List.getElem?_map] at hi
    cases hx : l[i]? with
    | none => rw [hx] at hi; cases hi
    | some x =>
      rw [hx] at hi
      have := Option.some.inj hi
      refine ⟨x.2.2.1, x.1, ?_, (congrArg Prod.fst this).symm⟩
      rw [List.getElem?_map, hx]
      show some (x.2.2.1, x.1, x.2.1) = some (x.2.2.1, x.1, v)
      rw [show x.2.1 = v from congrArg Prod.snd this]
  · obtain ⟨y, hy, rfl⟩ := List.mem_map.mp hx
    obtain ⟨o, items, n', ho, hc', hd', hi⟩ := key_of I.hok (l3 y hy).1
    exact ⟨o, items, n', hk _ _ (Nat.ne_of_lt (Heap.lt_size ho)) (fun z => nomatch z) ho, hc', hd', hi⟩
  · have hm : (s.heap.objs.size == sysModules) = false := beq_eq_false_iff_ne.mpr (Nat.ne_of_gt I.big)
    have hfr := I.hok.fresh (Nat.le_refl s.heap.objs.size)
    have kt : KT H (mergeT [] (ps.map fun x => x.2.2)) (storedAllH [] (l.map fun x => (x.2.2.1, x.1, x.2.1))) := by rw [← l2]; exact KT.fold l3 .nil
    have hlen : (mergeT [] (ps.map fun x => x.2.2)).length ≤ sizeLine := by
      have := mergeT_len (ps.map fun x => x.2.2) []
      rw [List.length_map, List.length_nil] at this
      omega
    exact ⟨.ref s.heap.objs.size, upd H s.heap.objs.size (.dT (mergeT [] (ps.map fun x => x.2.2))), I.laid (t' := tk) (fun b u e => hk b u (fun z => nomatch z) e) (Nat.le_refl _) (dtOk (X := X) hlen hm (KT.upd hfr kt) dd), rfl, q _ hfr⟩
end
section
variable {X : Cx} {δ δ1 : De} {μ μ1 : Mem} {rest sts : List Stmt} {o : Out} {e a b c f i ob tg : Expr} {es : List Expr} {p pos : Pos} {d : D} {k0 : Nat} {β : Type} {enc : β → D}
theorem ev_dictPK {m : List (Int × β)} (hc : X.calm = true) (B : Bi X.mg) (ha : Ev X δ μ e (.lst (m.map fun q => .tup [.int q.1, enc q.2]))) (hg : Gl X "dict" := by rfl) (he : starEach [e] X.env = (false, eval e X.env) :: starEach [] X.env := by rfl) (hpl : (backTo pos (starEach [] X.env)).any (·.1) = false := by rfl) :
    Ev X δ μ (.Call (.Name "dict" p) [e] [] pos) (dkM enc (putAll m)) :=
  ev_newK (pe_callTy (call_dictP hc) hg B.dict boot_dict' (pa_tw X [e]) (by decide) (by decide) he hpl) fun σ H c Q q => ea_cons ha ea_nil he σ H _ c fun vs H1 e1 r1 => by
    obtain ⟨v, rfl, a, o, ws, rfl, ha, hs⟩ := r1.one
    obtain ⟨ps, kvs, rfl, hp, km⟩ := pairs_K (K := X.K) hs
    exact ⟨a, ps, kvs, rfl, .inl (.inr ⟨o, ha⟩), hp, fun l hl => q l _ _ (e1.free hl) (e1.trans (Ex.new hl)) upd_same ((KM.foldK inl_inj km (acc := []) (akvs := []) rfl).mono (Ex.new hl).fz)⟩
theorem ev_dictPT {m : List (List Int × β)} (hr : Room k0 X.A) (hc : X.calm = true) (B : Bi X.mg) (ha : Ev X δ μ e (.lst (m.map fun q => .tup [sh q.1, enc q.2]))) (hg : Gl X "dict" := by rfl) (he : starEach [e] X.env = (false, eval e X.env) :: starEach [] X.env := by rfl) (hpl : (backTo pos (starEach [] X.env)).any (·.1) = false := by rfl) :
    Ev X δ μ (.Call (.Name "dict" p) [e] [] pos) (dtM enc (putAll m)) :=
  ev_newT (pe_callTy (cr_pairsT hc hr.units) hg B.dict boot_dict' (pa_tw X [e]) (by decide) (by decide) he hpl) fun σ H c Q q => ea_cons ha ea_nil he σ H _ c fun vs H1 e1 r1 => by
    obtain ⟨v, rfl, a, o, ws, rfl, ha, hs⟩ := r1.one
    obtain ⟨ps, rfl, hp, km⟩ := pairs_T hs
    exact ⟨a, ps, rfl, .inr ⟨o, ha⟩, hp, fun l hl => q l _ _ (e1.free hl) (e1.trans (Ex.new hl)) upd_same ((KM.foldT km (acc := []) (akvs := []) rfl).mono (Ex.new hl).fz)⟩
end
/-! max of a list of shapes -/
def maxS : List (List Int) → List Int
  | [] => []
  | x :: xs => xs.foldl (fun a y => if decide (a < y) then y else a) x
def minI : List Int → Int
  | [] => 0
  | x :: xs => xs.foldl (fun a y => if decide (y < a) then y else a) x
section
variable {X : Cx}
def rMaxS : List V → Hp → VK → Prop := fun vs H Q => ∃ (a : Addr) (ws : List V) (ss : List (List Int)), vs = [V.ref a] ∧ Rd H a (.lst ws) ∧ RepL H (ss.map sh) ws ∧ ss ≠ [] ∧ ∀ v, Rep H (sh (maxS ss)) v → Q v H
theorem cr_maxS (hc : X.calm = true) (hu : X.A.units + 64 < cLine) : CallR X (.builtin "max") rMaxS := by
  intro pins s σ H vs us Q I r h
  obtain ⟨a, ws, ss, rfl, hs, hr, hne, q⟩ := h
  rw [Vals.ref1 r]
  obtain ⟨z, its, n, rv, hl, e⟩ := lstR I hs
  have hlen : ws.length = ss.length := by have := hr.len; rwa [List.length_map] at this
  have hL : s.heap.IsList a its.toArray := ⟨_, e, rfl, n, rfl⟩
  have hread : ∀ (i : Nat) (v : Value), its.toArray[i]? = some v → ∃ (t : List Int) (x : V) (as : List Addr), ss[i]? = some t ∧ ws[i]? = some x ∧ RelV x v ∧ Rep H (sh t) x ∧ Reads s.heap v (encS t) as := fun i v hv => by
    have hi : its[i]? = some v := by simpa using hv
    have hi2 : i < ws.length := by rw [hl]; exact (List.getElem?_eq_some_iff.mp hi).1
    have hx : ws[i]? = some ws[i] := List.getElem?_eq_getElem hi2
    obtain ⟨u, hu', ru⟩ := rv.get hx
    rw [hi] at hu'; cases hu'
    have hd : (ss.map sh)[i]? = some (sh (ss[i]'(by omega))) := by rw [List.getElem?_map, List.getElem?_eq_getElem (by omega)]; rfl
    obtain ⟨y, hy, ry⟩ := hr.get hd
    rw [hx] at hy; cases hy
    obtain ⟨as, q⟩ := Dp.reads I _ _ _ (Rep.dp (K := X.K) _ _ ry (pure_sh _)) ru
    rw [py_sh] at q
    exact ⟨_, _, as, List.getElem?_eq_getElem (by omega), hx, ru, ry, q⟩
  cases hss : ss with
  | nil => exact absurd hss hne
  | cons x xs =>
    have hsz : its.toArray.size = xs.length + 1 := by rw [List.size_toArray, ← hl, hlen, hss]; rfl
    refine PySem.call_max_walkH (PySem.W.iter_listW (A := X.A.in1) (I.ok.hd hc) hL fun s₂ e₂ W st hfp hw hk => ?_)
    refine ⟨_, _, _, _, _, _, _, s.heap, fun i j => decide ((x :: xs).getD j [] < (x :: xs).getD i []), rfl, W, st, hfp, by omega, hw, hk, fun i j vi vj s' Q E hk' hi hj hq => ?_, fun v s' hP m => ?_⟩
    · obtain ⟨t1, _, as1, h1, _, _, _, r1⟩ := hread i vi hi
      obtain ⟨t2, _, as2, h2, _, _, _, r2⟩ := hread j vj hj
      rw [hss] at h1 h2
      have g1 : (x :: xs).getD i [] = t1 := by rw [List.getD_eq_getElem?_getD, h1]; rfl
      have g2 : (x :: xs).getD j [] = t2 := by rw [List.getD_eq_getElem?_getD, h2]; rfl
      have hq : Q (.bool (decide ((x :: xs).getD j [] < (x :: xs).getD i []))) s' := hq
      rw [g1, g2, ← dataLt_encS] at hq
      refine PySem.W.rcGt_alike _ _ X.A.in1 s' vi vj _ _ (PyProof.Rows.Reads.keeps hk' r1) (PyProof.Rows.Reads.keeps hk' r2) (alike_encS _ _) (fun z => nomatch z) ?_ X.prog X.w E Q hq
      rw [depth_encS]
      have := Nat.min_le_left 1 (encS t2).depth
      show X.A.units + 1 + _ < _
      omega
    · obtain ⟨h', tk, rfl, hk'⟩ := PySem.W.moved_old e₂ rfl m
      obtain ⟨t, y, as, h1, h2, ry, rr, _⟩ := hread _ v hP
      have e2 := (argBest_fold (fun p q => decide (q < p)) ([] : List Int) x xs xs.length (Nat.le_refl _)).2
      rw [List.take_length] at e2
      have e1 : its.toArray.size - 1 = xs.length := by omega
      have ht : t = maxS ss := by
        rw [hss] at h1 ⊢
        have : (x :: xs).getD (argBest (fun i j => decide ((x :: xs).getD j [] < (x :: xs).getD i [])) (its.toArray.size - 1)) [] = t := by rw [List.getD_eq_getElem?_getD, h1]; rfl
        rw [e1] at this
        rw [← this]
        exact e2
      rw [ht] at rr
      exact ⟨y, H, I.kept (t' := tk) hk', ry, q y rr⟩
def rMinK : List V → Hp → VK → Prop := fun vs H Q => ∃ (a : Addr) (kvs : List (Key × V)) (ks : List Int), vs = [V.ref a] ∧ Rd H a (.dK kvs) ∧ kvs.map (·.1) = ks.map Sum.inl ∧ ks ≠ [] ∧ Q (.int (minI ks)) H
theorem cr_minKD (hc : X.calm = true) (hu : X.A.units + 64 < cLine) : CallR X (.builtin "min") rMinK := by
  intro pins s σ H vs us Q I r h
  obtain ⟨a, kvs, ks, rfl, hd, hks, hne, q⟩ := h
  rw [Vals.ref1 r]
  obtain ⟨z, lo, vs, rel, dd⟩ := dk_rd I.hok hd
  obtain ⟨ep, hat⟩ := dd.dictAt
  have hkeys : vs.map (·.1) = ks.map Sum.inl := rel.keys.symm.trans hks
  have hl : vs.length = ks.length := by
    have e := congrArg List.length hkeys
    rw [List.length_map, List.length_map] at e
    exact e
  have hlt : a < s.heap.objs.size := by obtain ⟨_, _, _, ho, _⟩ := dd; exact Heap.lt_size ho
  have hread : ∀ (i : Nat) (v : Value), (∃ k x, vs[i]? = some (k, x) ∧ (mixKind X.prog X.w).is k v = true) → ∃ (t : Int) (tk : Tok), ks[i]? = some t ∧ v = .int t tk := fun i v ⟨k, x, e1, e2⟩ => by
    have e3 : (vs.map (·.1))[i]? = some k := by rw [List.getElem?_map, e1]; rfl
    rw [hkeys, List.getElem?_map] at e3
    cases e4 : ks[i]? with
    | none => rw [e4] at e3; cases e3
    | some y =>
      rw [e4] at e3
      have e5 : Sum.inl y = k := Option.some.inj e3
      subst e5
      rcases keyIs_shape (show keyIs (Sum.inl y) v = true from e2) with ⟨i, t, ek, ev⟩ | ⟨z, t, ek, ev⟩
      · cases ek
        exact ⟨y, t, rfl, ev⟩
      · cases ek
  cases hss : ks with
  | nil => exact absurd hss hne
  | cons x xs =>
    have hsz : vs.length = xs.length + 1 := by rw [hl, hss]; rfl
    refine PySem.call_min_walkH (wpAny_pyIter_dict (knd := mixKind X.prog X.w) lo hat ?_)
    refine ⟨_, _, _, _, _, _, _, s.heap, fun i j => decide ((x :: xs).getD i 0 < (x :: xs).getD j 0), rfl, (Walks.dictKeys (A := X.A.in1) (I.ok.hd hc) s.heap.objs.size a (Nat.ne_of_lt hlt) vs ep).toS, ⟨⟨_, Heap.get?_push_size _ rfl, rfl, rfl⟩, hat.push _⟩, fun b hb => ?_, by omega, fun b o e hb => ?_, fun b o e => Heap.get?_push_of_some _ e, fun i j vi vj s' Q E hk' hi hj hq => ?_, fun v s' hP m => ?_⟩
    · show b < (s.heap.push _).objs.size
      rw [Heap.size_push]
      rcases List.mem_cons.mp hb with rfl | hb
      · exact Nat.lt_succ_self _
      · rcases List.mem_cons.mp hb with rfl | hb
        · exact Nat.lt_succ_of_lt hlt
        · cases hb
    · exact absurd (Heap.lt_size e) ((List.mem_singleton.mp hb) ▸ Nat.lt_irrefl _)
    · obtain ⟨t1, k1, h1, rfl⟩ := hread i vi hi
      obtain ⟨t2, k2, h2, rfl⟩ := hread j vj hj
      rw [hss] at h1 h2
      have g1 : (x :: xs).getD i 0 = t1 := by rw [List.getD_eq_getElem?_getD, h1]; rfl
      have g2 : (x :: xs).getD j 0 = t2 := by rw [List.getD_eq_getElem?_getD, h2]; rfl
      have hq : Q (.bool (decide ((x :: xs).getD i 0 < (x :: xs).getD j 0))) s' := hq
      rw [g1, g2, ← PySem.W.dataLt_int] at hq
      exact PySem.W.rcLt_alike (.int t1) (.int t2) X.A.in1 s' _ _ [] [] (.int _ _) (.int _ _) (by rfl) (fun z => nomatch z) (by show X.A.units + 1 + _ < _; have := Nat.min_le_left (PyData.int t1).depth (PyData.int t2).depth; have e0 : (PyData.int t1).depth = 0 := rfl; omega) X.prog X.w E Q hq
    · obtain ⟨h', tk, rfl, hk'⟩ := PySem.W.moved_old rfl rfl m
      obtain ⟨t, k1, h1, rfl⟩ := hread _ v hP
      have e2 := (argBest_fold (fun p q => decide (p < q)) (0 : Int) x xs xs.length (Nat.le_refl _)).2
      rw [List.take_length] at e2
      have e1 : vs.length - 1 = xs.length := by omega
      have ht : t = minI ks := by
        rw [hss] at h1 ⊢
        have : (x :: xs).getD (argBest (fun i j => decide ((x :: xs).getD i 0 < (x :: xs).getD j 0)) (vs.length - 1)) 0 = t := by rw [List.getD_eq_getElem?_getD, h1]; rfl
        rw [e1] at this
        rw [← this]
        exact e2
      rw [ht]
      exact ⟨.int (minI ks), H, I.kept (t' := tk) hk', ⟨_, rfl⟩, q⟩
end
section
variable {X : Cx} {δ δ1 : De} {μ μ1 : Mem} {rest sts : List Stmt} {o : Out} {e a b c f i ob tg : Expr} {es : List Expr} {p pos : Pos} {d : D} {k0 : Nat} {β : Type} {enc : β → D}
theorem ev_maxS {ss : List (List Int)} (hr : Room k0 X.A) (hc : X.calm = true) (B : Bi X.mg) (ha : Ev X δ μ e (.lst (ss.map sh))) (hne : ss ≠ []) (hg : Gl X "max" := by rfl) (he : starEach [e] X.env = (false, eval e X.env) :: starEach [] X.env := by rfl) (hpl : (backTo pos (starEach [] X.env)).any (·.1) = false := by rfl) :
    Ev X δ μ (.Call (.Name "max" p) [e] [] pos) (sh (maxS ss)) :=
  ev_callB (cr_maxS hc hr.units) B.max boot_max (ea_cons ha ea_nil he) (fun vs H Q hrr k => by
    obtain ⟨v, rfl, a, o, ws, rfl, ha, hs⟩ := hrr.one
    exact ⟨a, ws, ss, rfl, .inr ⟨o, ha⟩, hs, hne, fun v hv => k v H (Ex.refl H) hv⟩) hg (by decide) (by decide) he hpl
theorem ev_minK {m : List (Int × β)} (hr : Room k0 X.A) (hc : X.calm = true) (B : Bi X.mg) (ha : Ev X δ μ e (dkM enc m)) (hne : m ≠ []) (hg : Gl X "min" := by rfl) (he : starEach [e] X.env = (false, eval e X.env) :: starEach [] X.env := by rfl) (hpl : (backTo pos (starEach [] X.env)).any (·.1) = false := by rfl) :
    Ev X δ μ (.Call (.Name "min" p) [e] [] pos) (.int (minI (m.map (·.1)))) :=
  ev_callB (cr_minKD hc hr.units) B.min boot_min (ea_cons ha ea_nil he) (fun vs H Q hrr k => by
    obtain ⟨v, rfl, a, o, kvs, rfl, ha, h2, h3⟩ := hrr.one
    exact ⟨a, kvs, m.map fun q : Int × β => q.1, rfl, .inr ⟨o, ha⟩, by rw [h2, List.map_map]; rfl, fun z => hne (List.map_eq_nil_iff.mp z), k (.int (minI (m.map fun q : Int × β => q.1))) H (Ex.refl H) rfl⟩) hg (by decide) (by decide) he hpl
end
end Bx
end

-- part BxP
section
set_option Elab.async false
set_option linter.all false
set_option maxRecDepth 100000
set_option maxHeartbeats 4000000
/-! Boxparts, part P: copies of dicts of shapes, displays, comparisons of dicts. -/
namespace Bx
open PySem PySem.Spec PyProof.Rows L2
open PySem.W (KeqHitsP KeqHits)
/-! dict(d), shapes as keys -/
section
variable {prog : Program} {w : World} {A : Around} {E : Value → Shared → Prop} {s : Shared} {KK : Type} [DecidableEq KK] {knd : HeapKind prog w KK}
theorem call_dictH {o : Addr} {more : List (KK × Addr × Value)} {Q : Value → Shared → Prop} (hu : knd.room A.in1.in1) (hoS : (o == sysModules) = false) (ho : s.heap.DictOfH knd o more) (hk : ∀ x ∈ more, knd.is (s.heap.push { cls := .type "dict", data := .dict #[] }) x.1 x.2.1)
    (hty : ∀ x ∈ more, s.TypeIs (.ref x.2.1) "tuple") (hap : (more.map fun x => knd.hash x.1).Nodup) (hsz : more.length ≤ sizeLine)
    (h : ∀ h', h'.DictOfH knd s.heap.objs.size more → Heap.SameBut s.heap.objs.size (s.heap.push { cls := .type "dict", data := .dict #[] }) h' → Q (.ref s.heap.objs.size) { s with heap := h' }) :
    wpAny (model prog w) A (call (.type "dict") [.ref o]) Q E s := by
  refine callType_codes (Q₁ := fun obj s₁ => obj = .ref s.heap.objs.size ∧ s₁ = { s with heap := s.heap.push { cls := .type "dict", data := .dict #[] } }) F.kt_called_dict (F.kt_typeCall_dict_1 _) F.entry_dict_init (kt_code_dict_new _ ⟨rfl, rfl⟩) ?_
  rintro obj s₁ ⟨rfl, rfl⟩
  have hnew : (s.heap.push { cls := .type "dict", data := .dict #[] }).DictOfH knd s.heap.objs.size [] := Heap.DictOfH.new s.heap
  have ho' : (s.heap.push { cls := .type "dict", data := .dict #[] }).DictOfH knd o more := ho.at' (fun o e => Heap.get?_push_of_some _ e) hk
  have hn : (more.map (·.1)).Nodup := ho.nodup
  have hdo : s.heap.objs.size ≠ o := by
    obtain ⟨_, _, _, hg, _⟩ := ho
    exact fun e => absurd (Heap.lt_size hg) (by rw [e]; exact Nat.lt_irrefl _)
  refine ⟨hnew.typeIs, F.args_dict_init_2 _ _, ?_⟩
  unfold Builtin.«dict.__init__»
  refine wpAny_bind ?_
  unfold Builtin.Dict.selfAndRest
  refine wpAny_bind (wpAny_notOrdered_dict hnew.typeIs ?_)
  show wpAny _ _ (pure (s.heap.objs.size, [Value.ref o])) _ _ _
  refine wpAny_pure ?_
  refine updateFrom_dictH (A := A.in1) (knd := knd) (kvs := []) .none hu hdo hoS hnew ho' (.inr ⟨fun x hx => ?_, hap⟩) (by simpa using hsz) fun h' hd' _ hs' => ?_
  · obtain ⟨o, ho, hc⟩ := hty x hx
    exact ⟨o, Heap.get?_push_of_some _ ho, hc⟩
  · rw [storedAllH_nil_of_nodup _ hn] at hd'
    exact ⟨rfl, h h' hd' hs'⟩
end
/-- the hash of a shape -/
def hshS (s : List Int) : Int := reduceHash (Builtin.Tuple.tupleHashOf (s.map hashInt))
theorem hsh_eq (P : Program) (w : World) (s : List Int) : (tupleKind (mixKind P w)).hash (keyD s) = hshS s := by
  show tupleKeyHash (mixKind P w) (keyD s) = hshS s
  unfold tupleKeyHash hshS keyD
  rw [List.map_map]
  rfl
section
variable {X : Cx}
def rCopyT : List V → Hp → VK → Prop := fun vs H Q => ∃ (a : Addr) (kvs : List (List Key × V)) (ss : List (List Int)), vs = [V.ref a] ∧ Rd H a (.dT kvs) ∧ kvs.map (·.1) = ss.map keyD ∧ (ss.map hshS).Nodup ∧ ∀ p, H p = none → Q (.ref p) (upd H p (.dT kvs))
theorem KT.key {H : Hp} : ∀ {kvs : List (List Key × V)} {xs : List (List Key × Addr × Value)}, KT H kvs xs → (∀ x ∈ xs, H x.2.1 = some (.tup (x.1.map kV))) ∧ xs.map (·.1) = kvs.map (·.1)
  | [], _, .nil => ⟨(fun _ h => nomatch h), rfl⟩
  | kv :: kvs, _, .cons (b := x) h t => by
    obtain ⟨h1, h2⟩ := KT.key t
    refine ⟨fun y hy => ?_, by rw [List.map_cons, List.map_cons, h2, h.1]⟩
    rcases List.mem_cons.mp hy with rfl | hy
    · rw [← h.1]; exact h.2.1
    · exact h1 y hy
theorem cr_copyT (hu : X.A.units + 64 < cLine) : CallR X (.type "dict") rCopyT := by
  intro pins s σ H vs us Q I r h
  obtain ⟨a, kvs, ss, rfl, hs, hks, hn, q⟩ := h
  rw [Vals.ref1 r]
  obtain ⟨z, lo, xs, rel, dd⟩ := dt_rd I.hok hs
  have hxl : xs.length = kvs.length := (Paired.length rel).symm
  obtain ⟨hkeys, hfst⟩ := KT.key rel
  have I2 : Inv X pins σ H { s with heap := s.heap.push { cls := .type "dict", data := .dict #[] } } := I.kept (t' := s.toks) fun b o q => Heap.get?_push_of_some _ q
  refine call_dictH (knd := tupleKind (mixKind X.prog X.w)) (show X.A.in1.in1.units < cLine by show X.A.units + 1 + 1 < cLine; omega) lo dd (fun x hx => key_of I2.hok (hkeys x hx)) (fun x hx => (key_of I.hok (hkeys x hx)).typeIs) ?_ (by rw [hxl]; exact z) fun h' dd' hs' => ?_
  · have e : (xs.map fun x => (tupleKind (mixKind X.prog X.w)).hash x.1) = ss.map hshS := by
      rw [show (xs.map fun x => (tupleKind (mixKind X.prog X.w)).hash x.1) = (xs.map (·.1)).map (tupleKind (mixKind X.prog X.w)).hash by rw [List.map_map]; rfl, hfst, hks, List.map_map]
      exact List.map_congr_left fun t _ => hsh_eq _ _ t
    rw [e]; exact hn
  · have hm : (s.heap.objs.size == sysModules) = false := beq_eq_false_iff_ne.mpr (Nat.ne_of_gt I.big)
    have hfr := I.hok.fresh (Nat.le_refl s.heap.objs.size)
    exact ⟨.ref s.heap.objs.size, upd H s.heap.objs.size (.dT kvs), I.laid (t' := s.toks) (fun b q hq => (hs'.2 b (Nat.ne_of_lt (Heap.lt_size hq))).trans (Heap.get?_push_of_some _ hq)) (Nat.le_refl _) (dtOk (X := X) z hm (KT.upd hfr rel) dd'), rfl, q _ hfr⟩
/-! displays with shapes as keys -/
def tDispT (trs : List (TE × TE)) : TE := fun σ H Q => ∀ p, H p = none → tPairs trs σ (upd H p (.dT [])) fun ps H2 => H2 p = some (.dT []) ∧ ∃ l : List (Addr × (List Key × V)), ps = l.map (fun x => (V.ref x.1, x.2.2)) ∧ (∀ x ∈ l, H2 x.1 = some (.tup (x.2.1.map kV))) ∧ l.length ≤ 15 ∧
  Q (.ref p) (upd H2 p (.dT (mergeT [] (l.map (·.2)))))
theorem carriesH_of {pins : List (Addr × Obj)} {σ : L2.St} {H : Hp} {s : Shared} (I : Inv X pins σ H s) : ∀ {l : List (Addr × (List Key × V))} {ws : List (Value × Value)}, VV (l.map fun x => (V.ref x.1, x.2.2)) ws → (∀ x ∈ l, H x.1 = some (.tup (x.2.1.map kV))) →
    ∃ l2 : List (Addr × Value × (List Key × V)), PySem.CarriesH (tupleKind (mixKind X.prog X.w)) s.heap ws (l2.map fun x => (x.2.2.1, x.1, x.2.1)) ∧ l2.map (fun x => x.2.2) = l.map (·.2) ∧ ∀ x ∈ l2, H x.1 = some (.tup (x.2.2.1.map kV)) ∧ RelV x.2.2.2 x.2.1
  | [], _, r, _ => by
    rw [List.map_nil] at r
    cases r
    exact ⟨[], trivial, rfl, fun _ h => nomatch h⟩
  | x :: l, _, r, h => by
    rw [List.map_cons] at r
    cases r with
    | @cons a b as bs hb t =>
      obtain ⟨l2, c, e, hh⟩ := carriesH_of I t fun y hy => h y (List.mem_cons_of_mem _ hy)
      obtain ⟨b1, b2⟩ := b
      obtain rfl : b1 = Value.ref x.1 := hb.1
      refine ⟨(x.1, b2, x.2) :: l2, ⟨rfl, rfl, key_of I.hok (h x List.mem_cons_self), c⟩, by rw [List.map_cons, List.map_cons, e], fun y hy => ?_⟩
      rcases List.mem_cons.mp hy with rfl | hy
      · exact ⟨h x List.mem_cons_self, hb.2⟩
      · exact hh y hy
theorem pe_dispT {pos : Pos} {keys : List (Option Expr)} {values : List Expr} {trs : List (TE × TE)} (hu : X.A.units + 64 < cLine) (h : PPs X pos keys values trs) (hall : keys.all (·.isSome) = true) (hl : keys.length = values.length) (h0 : pairTrees keys values X.env pos ≠ [])
    (h15 : (pairTrees keys values X.env pos).length ≤ 15) : PE X (.Dict keys values pos) (tDispT trs) := by
  refine ⟨fun pins s σ H Q I q => ?_⟩
  have hn := I.hok.fresh (Nat.le_refl s.heap.objs.size)
  have I1 := I.laid (a := s.heap.objs.size) (o := .dT []) (h' := s.heap.push { cls := .type "dict", data := .dict #[] }) (t' := s.toks) (fun _ _ q => Heap.get?_push_of_some _ q) (Nat.le_refl _) (dt_empty s.heap I.big)
  rw [arm_eval_Dict, zip_pairTrees keys values X.env pos hall hl, dictDisplay_pairs _ h0 (by omega)]
  refine wpAny_bind (wpAny_standAt (wpAny_bind (wpAny_subDictH (knd := tupleKind (mixKind X.prog X.w)) (Q := fun d s' => wpAny (model X.prog X.w) X.A (pure (Value.ref d)) (EP X pins σ Q) X.xe s') (show X.A.units < cLine by omega) h15 (thn (h.run pins _ σ _ _ I1 (q _ hn)) fun ws s2 ⟨ps, H2, I2, rel, e, l, ep, hl2, lk, q2⟩ => ?_))))
  subst ep
  obtain ⟨l2, c, e2, hh⟩ := carriesH_of I2 rel hl2
  obtain ⟨z, hd, vs0, r0, dd⟩ := dt_of I2.hok e
  cases r0
  refine ⟨_, c, dd, fun h' tk dd' hs => wpAny_pure ⟨.ref s.heap.objs.size, _, ?_, rfl, q2⟩⟩
  have hz : (mergeT [] (l.map (·.2))).length ≤ sizeLine := by
    have h1 := mergeT_len (l.map (·.2)) []
    rw [List.length_nil, List.length_map] at h1
    rw [sizeLine_eq]; omega
  have he : ∃ q, h'.get? s.heap.objs.size = some q := let ⟨q, _, _, hq, _⟩ := dd'; ⟨q, hq⟩
  have kt : KT H2 (mergeT [] (l.map (·.2))) (storedAllH [] (l2.map fun x => (x.2.2.1, x.1, x.2.1))) := by rw [← e2]; exact KT.fold hh .nil
  have kt2 : KT (upd H2 s.heap.objs.size (.dT (mergeT [] (l.map (·.2))))) (mergeT [] (l.map (·.2))) (storedAllH [] (l2.map fun x => (x.2.2.1, x.1, x.2.1))) := kt.keeps fun b ys hb => by
    rw [upd_ne (fun z => by subst z; rw [e] at hb; cases hb)]; exact hb
  exact d_write I2 (by rw [e]; exact True.intro) hs he (dtOk (X := X) hz hd kt2 dd')
end
section
variable {X : Cx} {δ δ1 : De} {μ μ1 : Mem} {rest sts : List Stmt} {o : Out} {e a b c f i ob tg k1 v1 k2 v2 : Expr} {es : List Expr} {p pos : Pos} {d : D} {k0 : Nat} {β : Type} {enc : β → D}
theorem Fz.updD {H : Hp} {p : Addr} {u : HO} (h : ∃ o, H p = some o ∧ ¬ Frn o) : Fz H (L2.upd H p u) := Fz.upd fun w hw => by
  obtain ⟨o, ho, nf⟩ := h
  rw [ho] at hw; cases hw; exact nf
/-- {k: v}, an int key -/
theorem ev_disp1K {x : Int} {y : β} (hk : Ev X δ μ k1 (.int x)) (hv : Ev X δ μ v1 (enc y)) : Ev X δ μ (.Dict [some k1] [v1] pos) (dkM enc [(x, y)]) :=
  ev_newK (pe_disp (pps_cons (pe_tw X k1) (pe_tw X v1) pps_nil) rfl rfl (by simp) (by simp)) fun σ H c Q q p hp => hk σ _ _ (c.ex (Ex.new hp)) fun u H1 e1 r1 => hv σ H1 _ ((c.ex (Ex.new hp)).ex e1) fun w H2 e2 r2 => by
    obtain rfl : u = V.int x := r1
    have hp2 : H2 p = some (.dK []) := e2 _ _ (e1 _ _ upd_same)
    refine ⟨hp2, [(.inl x, w)], rfl, (by show 1 ≤ 15; decide), q p _ _ hp ((((Ex.new hp).trans e1).trans e2).frz hp) upd_same ⟨w, [], rfl, Rep.mono (Fz.updD ⟨_, hp2, fun z => z⟩) _ _ r2, rfl⟩⟩
theorem ev_disp1T {x : List Int} {y : β} (hr : Room k0 X.A) (hk : Ev X δ μ k1 (sh x)) (hv : Ev X δ μ v1 (enc y)) : Ev X δ μ (.Dict [some k1] [v1] pos) (dtM enc [(x, y)]) :=
  ev_newT (pe_dispT hr.units (pps_cons (pe_tw X k1) (pe_tw X v1) pps_nil) rfl rfl (by simp [pairTrees]) (by simp [pairTrees])) fun σ H c Q q p hp => hk σ _ _ (c.ex (Ex.new hp)) fun u H1 e1 r1 => hv σ H1 _ ((c.ex (Ex.new hp)).ex e1) fun w H2 e2 r2 => by
    obtain ⟨bb, rfl, hb⟩ := rep_shV r1
    have hp2 : H2 p = some (.dT []) := e2 _ _ (e1 _ _ upd_same)
    refine ⟨hp2, [(bb, keyD x, w)], rfl, fun z hz => ?_, (by show 1 ≤ 15; decide), q p _ _ hp ((((Ex.new hp).trans e1).trans e2).frz hp) upd_same ⟨w, [], rfl, Rep.mono (Fz.updD ⟨_, hp2, fun z => z⟩) _ _ r2, rfl⟩⟩
    obtain rfl := List.mem_singleton.mp hz
    exact e2 _ _ hb
theorem ev_disp2T {x x2 : List Int} {y y2 : β} (hr : Room k0 X.A) (hk : Ev X δ μ k1 (sh x)) (hv : Ev X δ μ v1 (enc y)) (hk2 : Ev X δ μ k2 (sh x2)) (hv2 : Ev X δ μ v2 (enc y2)) : Ev X δ μ (.Dict [some k1, some k2] [v1, v2] pos) (dtM enc (putAll [(x, y), (x2, y2)])) :=
  ev_newT (pe_dispT hr.units (pps_cons (pe_tw X k1) (pe_tw X v1) (pps_cons (pe_tw X k2) (pe_tw X v2) pps_nil)) rfl rfl (by simp [pairTrees]) (by simp [pairTrees])) fun σ H c Q q p hp => hk σ _ _ (c.ex (Ex.new hp)) fun u H1 e1 r1 => hv σ H1 _ ((c.ex (Ex.new hp)).ex e1) fun w H2 e2 r2 =>
    hk2 σ H2 _ (((c.ex (Ex.new hp)).ex e1).ex e2) fun u2 H3 e3 r3 => hv2 σ H3 _ ((((c.ex (Ex.new hp)).ex e1).ex e2).ex e3) fun w2 H4 e4 r4 => by
    obtain ⟨bb, rfl, hb⟩ := rep_shV r1
    obtain ⟨b2, rfl, hb2⟩ := rep_shV r3
    have hp2 : H4 p = some (.dT []) := e4 _ _ (e3 _ _ (e2 _ _ (e1 _ _ upd_same)))
    have fz := Fz.updD (u := .dT (mergeT [] ([(bb, keyD x, w), (b2, keyD x2, w2)].map (·.2)))) ⟨_, hp2, fun z => z⟩
    have km : KM (upd H4 p (.dT (mergeT [] ([(bb, keyD x, w), (b2, keyD x2, w2)].map (·.2))))) keyD enc [(x, y), (x2, y2)] ([(bb, keyD x, w), (b2, keyD x2, w2)].map (·.2)) :=
      ⟨w, _, rfl, Rep.mono fz _ _ (r2.ex (e3.trans e4)), w2, [], rfl, Rep.mono fz _ _ r4, rfl⟩
    refine ⟨hp2, [(bb, keyD x, w), (b2, keyD x2, w2)], rfl, fun z hz => ?_, (by show 2 ≤ 15; decide), q p _ _ hp ((((((Ex.new hp).trans e1).trans e2).trans e3).trans e4).frz hp) upd_same (KM.foldT km (acc := []) (akvs := []) rfl)⟩
    rcases List.mem_cons.mp hz with rfl | hz
    · exact e4 _ _ (e3 _ _ (e2 _ _ hb))
    · obtain rfl := List.mem_singleton.mp hz
      exact e4 _ _ hb2
theorem new_copyT {m : List (List Int × β)} (hr : Room k0 X.A) (B : Bi X.mg) (ha : Ev X δ μ e (dtM enc m)) (hn : ((m.map (·.1)).map hshS).Nodup) (he : starEach [e] X.env = (false, eval e X.env) :: starEach [] X.env := by rfl) : ∀ σ H, Cfg δ μ σ H → NewT (tCB rCopyT (twA X [e])) σ H enc m :=
  fun σ H c Q q => ea_cons ha ea_nil he σ H _ c fun vs H1 e1 r1 => by
    obtain ⟨v, rfl, a, o, kvs, rfl, ha, h2, h3⟩ := r1.one
    have km : KM H1 keyD enc m kvs := KM.of h2 h3
    exact ⟨a, kvs, m.map (·.1), rfl, .inr ⟨o, ha⟩, by rw [h2, List.map_map]; rfl, hn, fun p hp => q p kvs _ (e1.free hp) (e1.trans (Ex.new hp)) upd_same (km.mono (Ex.new hp).fz)⟩
theorem new_copyK {m : List (Int × β)} (B : Bi X.mg) (ha : Ev X δ μ e (dkM enc m)) (he : starEach [e] X.env = (false, eval e X.env) :: starEach [] X.env := by rfl) : ∀ σ H, Cfg δ μ σ H → NewK (tCB rCopyK (twA X [e])) σ H enc m :=
  fun σ H c Q q => ea_cons ha ea_nil he σ H _ c fun vs H1 e1 r1 => by
    obtain ⟨v, rfl, a, o, kvs, rfl, ha, h2, h3⟩ := r1.one
    have km : KM H1 Sum.inl enc m kvs := KM.of h2 h3
    exact ⟨a, kvs, rfl, .inr ⟨o, ha⟩, fun p hp => q p kvs _ (e1.free hp) (e1.trans (Ex.new hp)) upd_same (km.mono (Ex.new hp).fz)⟩
theorem pe_copyT (hr : Room k0 X.A) (B : Bi X.mg) (hg : Gl X "dict" := by rfl) (he : starEach [e] X.env = (false, eval e X.env) :: starEach [] X.env := by rfl) (hpl : (backTo pos (starEach [] X.env)).any (·.1) = false := by rfl) :
    PE X (.Call (.Name "dict" p) [e] [] pos) (tCB rCopyT (twA X [e])) := pe_callTy (cr_copyT hr.units) hg B.dict boot_dict' (pa_tw X [e]) (by decide) (by decide) he hpl
end
end Bx
end

-- part BxQ
section
set_option Elab.async false
set_option linter.all false
set_option maxRecDepth 100000
set_option maxHeartbeats 4000000
/-! Boxparts, part Q: dicts compared; setdefault(..).append(..). -/
namespace Bx
open PySem PySem.Spec PyProof.Rows L2
open PySem.W (KeqHitsP)
section
variable {prog : Program} {w : World} {K : Type} [DecidableEq K] {knd : HeapKind prog w K} {A : Around} {E : Value → Shared → Prop} {s : Shared}
theorem samePairsH {nm : String} {a b : Addr} {xa xb : List (K × Addr × Value)} {r : Bool} {Q : Bool → Shared → Prop} (hu : knd.room A) (ha : (a == sysModules) = false) (hb : (b == sysModules) = false)
    (da : s.heap.DictOfH knd a xa) (db : s.heap.DictOfH knd b xb) (hits : xa.length = xb.length → KeqHitsP prog w A s (pairsH xb) (pairsH xa) r) (h : Q (xa.length == xb.length && r) s) :
    wpAny (model prog w) A (Builtin.Dict.samePairs nm a b) Q E s := by
  obtain ⟨oa, es, ep, hoa, _, hda, hka, hisa, hna⟩ := da
  obtain ⟨ob, es', ep', hob, _, hdb, hkb, hisb, hnb⟩ := db
  have hla : xa.length = es.size := (size_of_entries hka).symm
  have hlb : xb.length = es'.size := (size_of_entries hkb).symm
  rw [hla, hlb] at h
  unfold Builtin.Dict.samePairs Builtin.Dict.showsAll
  rw [if_neg (show ¬ (a == sysModules) = true by rw [ha]; exact Bool.false_ne_true), if_neg (show ¬ (b == sysModules) = true by rw [hb]; exact Bool.false_ne_true)]
  refine wpAny_bind (wpAny_pure (wpAny_bind (wpAny_pure ?_)))
  refine wpAny_bind (wpAny_dictEntries hoa hda ?_)
  dsimp only
  refine wpAny_bind (wpAny_dictEntries hob hdb ?_)
  by_cases hsz : es.size = es'.size
  case neg =>
    rw [if_pos (by simpa using hsz)]
    have hbf : (es.size == es'.size) = false := by simpa using hsz
    rw [hbf, Bool.false_and] at h
    exact wpAny_bind (wpAny_rule (wpAny_pure h))
  case pos =>
    have h' : Q r s := by simpa [hsz] using h
    have hits' := hits (by rw [hla, hlb]; exact hsz)
    rw [if_neg (by rw [hsz]; simp)]
    refine wpAny_bind (wpAny_dictEpoch hoa hda ?_)
    refine wpAny_bind ?_
    rw [Std.Legacy.Range.forIn_eq_forIn_range']
    simp only [Std.Legacy.Range.size, Nat.sub_zero, Nat.add_sub_cancel, Nat.div_one]
    refine wpAny_forIn_list _
      (fun rest q s' => s' = s ∧ q = (none, ()) ∧ ∃ i, rest = List.range' i (es.size - i) ∧ i ≤ es.size ∧ KeqHitsP prog w A s (pairsH xb) ((pairsH xa).drop i) r)
      _ ?_ ?_ _ _ ⟨rfl, rfl, 0, by simp, Nat.zero_le _, hits'⟩
    · rintro x rest q s' ⟨rfl, rfl, i, hr, hi, hpre⟩
      have hlt : i < es.size := by
        rcases Nat.lt_or_ge i es.size with h | h
        · exact h
        · rw [Nat.sub_eq_zero_of_le h] at hr; simp at hr
      obtain ⟨rfl, hrest⟩ : x = i ∧ rest = List.range' (i + 1) (es.size - (i + 1)) := by
        have e : es.size - i = (es.size - (i + 1)) + 1 := by omega
        rw [e, List.range'_succ] at hr
        injection hr with h1 h2
        exact ⟨h1, h2⟩
      refine wpAny_bind (wpAny_dictEntries hoa hda ?_)
      rw [Array.getElem?_eq_getElem hlt]
      have hlt' : x < xa.length := by rw [hla]; exact hlt
      obtain ⟨k, ad, v, hkv⟩ : ∃ k ad v, xa[x] = (k, ad, v) := ⟨_, _, _, rfl⟩
      have hent : es[x] = entryOfKey knd (k, ad, v) := by
        have e := entry_at hka x
        rw [Array.getElem?_eq_getElem hlt, List.getElem?_eq_getElem hlt', Option.map_some, hkv] at e
        exact Option.some.inj e
      have hdrop : (pairsH xa).drop x = (k, v) :: (pairsH xa).drop (x + 1) := by
        have hlp : x < (pairsH xa).length := by rw [pairsH_length]; exact hlt'
        rw [List.drop_eq_getElem_cons hlp]
        have e9 : (pairsH xa)[x]? = some (k, v) := by
          unfold pairsH
          rw [List.getElem?_map, List.getElem?_eq_getElem hlt', hkv]
          rfl
        rw [Option.some.inj ((List.getElem?_eq_getElem hlp).symm.trans e9)]
      have hkey : knd.is s'.heap k ad := by
        have := hisa _ (List.getElem_mem hlt')
        rw [hkv] at this
        exact this
      rw [hdrop] at hpre
      rw [hent]
      show wpAny _ _ (holding [Value.ref ad, v] (dictFind b (.ref ad) (knd.hash k) >>= _) >>= _) _ _ _
      refine wpAny_bind (wpAny_holding (wpAny_bind (wpAny_dictFind_heap hu hkey hob hdb hkb hisb hnb (fun hno => ?_) fun j p hj => ?_)))
      · have hn : valueAt (pairsH xb) k = none := by
          rw [valueAt_pairsH, atKey_none_of_get hno]; rfl
        rcases hpre.inv with ⟨_, er⟩ | ⟨y, _, _, hy, _⟩
        · rw [er] at h'
          refine wpAny_pure ?_
          show wpAny _ _ (if (!false) = true then _ else _) _ _ _
          rw [if_pos (by decide)]
          exact wpAny_pure (wpAny_pure h')
        · rw [hn] at hy; exact nomatch hy
      · have hjlt : j < es'.size := by rw [← hlb]; exact (List.getElem?_eq_some_iff.mp hj).1
        have hent' : es'[j] = entryOfKey knd (k, p) := by
          have e := entry_at hkb j
          rw [Array.getElem?_eq_getElem hjlt, hj, Option.map_some] at e
          exact Option.some.inj e
        have hv' : valueAt (pairsH xb) k = some p.2 := by
          rw [valueAt_pairsH, atKey_of_get hnb hj]; rfl
        refine wpAny_bind (wpAny_dictEntries hob hdb ?_)
        rw [Array.getElem?_eq_getElem hjlt, hent']
        rcases hpre.inv with ⟨hn, _⟩ | ⟨y, e, b', hy, he, hrr, er⟩
        · rw [hv'] at hn; exact nomatch hn
        · have ey : p.2 = y := Option.some.inj (hv'.symm.trans hy)
          rw [← ey] at he
          refine wpAny_holding (he _ _ ?_)
          cases e with
          | false =>
            rw [er, Bool.false_and] at h'
            show wpAny _ _ (if (!false) = true then _ else _) _ _ _
            rw [if_pos (by decide)]
            exact wpAny_pure (wpAny_pure h')
          | true =>
            rw [Bool.true_and] at er
            rw [← er] at hrr
            show wpAny _ _ (if (!true) = true then _ else _) _ _ _
            rw [if_neg (by decide)]
            refine wpAny_bind (wpAny_dictEpoch hoa hda ?_)
            rw [if_neg (by simp)]
            exact wpAny_pure ⟨rfl, rfl, x + 1, hrest, hlt, hrr⟩
    · rintro q s' ⟨rfl, rfl, i, hr, hi, hpre⟩
      have hin : i = es.size := by
        rcases Nat.lt_or_ge i es.size with h | h
        · have e : es.size - i = (es.size - (i + 1)) + 1 := by omega
          rw [e, List.range'_succ] at hr; exact nomatch hr
        · exact Nat.le_antisymm hi h
      refine wpAny_pure ?_
      rw [hin, ← hla, ← pairsH_length, List.drop_length] at hpre
      cases hpre
      exact h'
theorem neH {a b : Addr} {xa xb : List (K × Addr × Value)} {r : Bool} {Q : Value → Shared → Prop} (hr : knd.room A.in1) (ha : (a == sysModules) = false) (hb : (b == sysModules) = false)
    (da : s.heap.DictOfH knd a xa) (db : s.heap.DictOfH knd b xb) (hu : A.units < cLine) (hits : xa.length = xb.length → KeqHitsP prog w A.in1 s (pairsH xb) (pairsH xa) r) (h : Q (.bool (!(xa.length == xb.length && r))) s) :
    wpAny (model prog w) A (compareOp .NotEq (.ref a) (.ref b)) Q E s := by
  refine wpAny_richCompare_same_room (op := .NotEq) da.typeIs db.typeIs PySem.F.slot_dict_ne (wpAny_call_entry PySem.F.slot_dict_ne da.typeIs PySem.F.entry_dict_ne ?_ (PySem.F.args_dict_ne_2 _ _)) hu
  show wpAny _ _ (Builtin.Dict.dictSlotArgs "__ne__" ⟨[.ref a, .ref b], []⟩ >>= _) _ _ s
  refine wpAny_bind ?_
  unfold Builtin.Dict.dictSlotArgs
  refine wpAny_bind (wpAny_notOrdered_dict da.typeIs ?_)
  show wpAny _ _ (pure (Value.ref a, Value.ref b)) _ _ s
  refine wpAny_pure ?_
  refine wpAny_bind (wpAny_isInstance (T := "dict") db.typeIs PySem.F.sub_dict_dict ?_)
  simp only [Bool.not_true, Bool.false_eq_true, if_false]
  refine wpAny_bind (wpAny_pure (wpAny_bind (wpAny_pure ?_)))
  refine wpAny_bind (samePairsH hr ha hb da db hits ?_)
  refine wpAny_pure ⟨_, rfl, ?_, ?_⟩
  · exact fun x => nomatch x
  · simpa using h
end
/-- a row: powers and how often -/
abbrev Row := List (Int × Int)
abbrev rowD (r : Row) : D := dkM D.int r
abbrev Summ := List (List Int × Row)
abbrev sumD (m : Summ) : D := dtM rowD m
def eqRow (r1 r2 : Row) : Bool := r1.length == r2.length && r1.all fun q => look r2 q.1 == some q.2
def eqSum (m1 m2 : Summ) : Bool := m1.length == m2.length && m1.all fun q => match look m2 q.1 with
  | none => false
  | some r => eqRow q.2 r
theorem KM.mem {α β κ : Type} [DecidableEq α] [DecidableEq κ] {ek : α → κ} {enc : β → D} {H : Hp} : ∀ {m : List (α × β)} {kvs : List (κ × V)}, KM H ek enc m kvs → ∀ p ∈ kvs, ∃ q ∈ m, p.1 = ek q.1 ∧ Rep H (enc q.2) p.2
  | [], _, h => by
    obtain rfl : _ = [] := h
    exact fun p hp => nomatch hp
  | q :: m, _, h => by
    obtain ⟨v, l', rfl, h1, h2⟩ := h
    intro p hp
    rcases List.mem_cons.mp hp with rfl | hp
    · exact ⟨q, List.mem_cons_self, rfl, h1⟩
    · obtain ⟨q', a, b⟩ := KM.mem h2 p hp
      exact ⟨q', List.mem_cons_of_mem _ a, b⟩
section
variable {X : Cx} {pins : List (Addr × Obj)} {σ : L2.St} {H : Hp} {s : Shared}
theorem row_eq (I : Inv X pins σ H s) {A : Around} (hu : A.units + 1 < cLine) {a b : Addr} {r1 r2 : Row} (h1 : DicK H D.int a r1) (h2 : DicK H D.int b r2) (h : eqRow r1 r2 = true) : SeqAt.EqP X.prog X.w A s (.ref a) (.ref b) true := by
  by_cases e : a = b
  · subst e
    exact (SeqAt.EqAt.same _).eqP
  · obtain ⟨k1, d1, m1⟩ := h1
    obtain ⟨k2, d2, m2⟩ := h2
    obtain ⟨_, ya, va, ra, da⟩ := dk_rd I.hok d1
    obtain ⟨_, yb, vb, rb, db⟩ := dk_rd I.hok d2
    have hh := Bool.and_eq_true_iff.mp h
    have hlen : r1.length = r2.length := by simpa using hh.1
    have hall := List.all_eq_true.mp hh.2
    refine SeqAt.eqP_refs e fun E Q q => PySem.W.rcP_dicts (knd := mixKind X.prog X.w) (r := true) ya yb da db (by omega) (fun _ => hits_run (F := fun x y => ∃ i, x = V.int i ∧ y = V.int i) (fun x y v u ⟨i, e1, e2⟩ rx ry => by subst e1 e2; exact (eqAt_same rx ry rfl).eqP) rb ra fun p hp => ?_) E Q ?_
    · obtain ⟨qq, hq, e1, e2⟩ := m1.mem p hp
      have hl := hall qq hq
      have hl : look r2 qq.1 = some qq.2 := by simpa using hl
      rcases m2.val inl_inj qq.1 with ⟨z, _⟩ | ⟨bb, v, z, z1, z2⟩
      · rw [hl] at z; cases z
      · rw [hl] at z; cases z
        exact ⟨v, by rw [e1]; exact z1, _, e2, z2⟩
    · have e2 : va.length = vb.length := by rw [← ra.length, ← rb.length, m1.len, m2.len]; exact hlen
      rw [show (va.length == vb.length && true) = true from by rw [e2]; simp]
      exact q
theorem hitsT {A : Around} {P : Program} {w : World} {F : V → V → Prop} (ih : ∀ x y v u, F x y → RelV x v → RelV y u → SeqAt.EqP P w A s v u true) {ls : List (List Key × V)} {xb : List (List Key × Addr × Value)} (rb : KT H ls xb) : ∀ {ks : List (List Key × V)} {xa : List (List Key × Addr × Value)}, KT H ks xa →
    (∀ p ∈ ks, ∃ u, valV ls p.1 = some u ∧ F p.2 u) → KeqHitsP P w A s (pairsH xb) (pairsH xa) true
  | [], _, .nil, _ => .nil
  | p :: ks, _, .cons (b := x) h t, hp => by
    obtain ⟨u, e, f⟩ := hp p List.mem_cons_self
    have rr : RelO (some u) ((atKey xb p.1).map (·.2)) := by rw [← e]; exact rb.val p.1
    rw [← valueAt_pairsH] at rr
    obtain ⟨y, hy, ry⟩ := rr.some_of
    have h1 : p.1 = x.1 := h.1
    rw [h1] at hy
    show KeqHitsP P w A s (pairsH xb) ((x.1, x.2.2) :: pairsH _) (true && true)
    exact .hit hy (ih _ _ _ _ f h.2.2 ry) (hitsT ih rb t fun p' hm => hp p' (List.mem_cons_of_mem _ hm))
end
section
variable {X : Cx}
def rNeSum : V → V → Hp → VK → Prop := fun x y H Q => ∃ a b m1 m2, x = .ref a ∧ y = .ref b ∧ DicT H rowD a m1 ∧ DicT H rowD b m2 ∧ eqSum m1 m2 = true ∧ Q (.bl false) H
theorem rep_row {H : Hp} {r : Row} {v : V} (h : Rep H (rowD r) v) : ∃ a, v = .ref a ∧ DicK H D.int a r := by
  obtain ⟨a, o, kvs, rfl, h1, h2, h3⟩ := h
  exact ⟨a, rfl, kvs, .inr ⟨o, h1⟩, KM.of h2 h3⟩
theorem op_neSum (hu : X.A.units + 64 < cLine) : OpR X (compareOp .NotEq) rNeSum := by
  intro pins s σ H x y v u Q I rx ry h
  obtain ⟨a, b, m1, m2, rfl, rfl, ⟨k1, d1, q1⟩, ⟨k2, d2, q2⟩, he, q⟩ := h
  obtain rfl : v = Value.ref a := rx
  obtain rfl : u = Value.ref b := ry
  obtain ⟨_, ya, xa, ra, da⟩ := dt_rd I.hok d1
  obtain ⟨_, yb, xb, rb, db⟩ := dt_rd I.hok d2
  have hh := Bool.and_eq_true_iff.mp he
  have hlen : m1.length = m2.length := by simpa using hh.1
  have hall := List.all_eq_true.mp hh.2
  have e2 : xa.length = xb.length := by
    have l1 : k1.length = xa.length := Paired.length ra
    have l2 : k2.length = xb.length := Paired.length rb
    rw [← l1, ← l2, q1.len, q2.len]; exact hlen
  refine neH (knd := tupleKind (mixKind X.prog X.w)) (r := true) (show X.A.in1.units < cLine by show X.A.units + 1 < cLine; omega) ya yb da db (by omega) (fun _ => hitsT (F := fun x y => ∃ a b r1 r2, x = V.ref a ∧ y = V.ref b ∧ DicK H D.int a r1 ∧ DicK H D.int b r2 ∧ eqRow r1 r2 = true) (fun x y v u ⟨a, b, r1, r2, e1, e2, z1, z2, z3⟩ rx ry => ?_) rb ra fun p hp => ?_) ?_
  · subst e1 e2
    obtain rfl : v = Value.ref a := rx
    obtain rfl : u = Value.ref b := ry
    exact row_eq I (by show X.A.units + 1 + 1 < cLine; omega) z1 z2 z3
  · obtain ⟨qq, hq, e1, e2⟩ := q1.mem p hp
    have hl := hall qq hq
    rcases q2.val keyD_inj qq.1 with ⟨z, _⟩ | ⟨bb, v, z, z1, z2⟩
    · rw [z] at hl; cases hl
    · rw [z] at hl
      obtain ⟨a1, f1, g1⟩ := rep_row e2
      obtain ⟨a2, f2, g2⟩ := rep_row z2
      exact ⟨v, by rw [e1]; exact z1, a1, a2, qq.2, bb, f1, f2, g1, g2, hl⟩
  · rw [show (xa.length == xb.length && true) = true from by rw [e2]; simp]
    exact ⟨.bl false, H, I, rfl, q⟩
def rNeNilK : V → V → Hp → VK → Prop := fun x y H Q => ∃ (a b : Addr) (ks : List (Key × V)), x = .ref a ∧ y = .ref b ∧ Rd H a (.dK ks) ∧ Rd H b (.dK []) ∧ Q (.bl (!ks.isEmpty)) H
theorem op_neNilK (hu : X.A.units + 64 < cLine) : OpR X (compareOp .NotEq) rNeNilK := by
  intro pins s σ H x y v u Q I rx ry h
  obtain ⟨a, b, ks, rfl, rfl, d1, d2, q⟩ := h
  obtain rfl : v = Value.ref a := rx
  obtain rfl : u = Value.ref b := ry
  obtain ⟨_, ya, va, ra, da⟩ := dk_rd I.hok d1
  obtain ⟨_, yb, vb, rb, db⟩ := dk_rd I.hok d2
  cases rb
  refine PySem.W.keq_ne (knd := mixKind X.prog X.w) (r := true) ya yb da db (by omega) (fun hl => ?_) ?_
  · have : va = [] := List.length_eq_zero_iff.mp hl
    rw [this]; exact .nil
  · refine ⟨.bl (!ks.isEmpty), H, I, ?_, q⟩
    have hl := ra.length
    cases ks with
    | nil => cases va with
      | nil => rfl
      | cons _ _ => simp at hl
    | cons _ _ => cases va with
      | nil => simp at hl
      | cons _ _ => rfl
end
section
variable {X : Cx} {δ δ1 : De} {μ μ1 : Mem} {rest sts : List Stmt} {o : Out} {e a b c f i ob tg k1 v1 k2 v2 : Expr} {es : List Expr} {p pos : Pos} {d : D} {k0 : Nat} {β : Type} {enc : β → D}
theorem ec_neSum {m1 m2 : Summ} (hr : Room k0 X.A) (ha : Ev X δ μ a (sumD m1)) (hb : Ev X δ μ b (sumD m2)) (h : eqSum m1 m2 = true) : EvC X δ μ .NotEq a b (.bl false) :=
  ec_of (op_neSum hr.units) ha hb fun u v H Q h1 h2 k => by
    obtain ⟨a, o, kvs, rfl, z1, z2, z3⟩ := h1
    obtain ⟨a2, o2, kvs2, rfl, y1, y2, y3⟩ := h2
    exact ⟨a, a2, m1, m2, rfl, rfl, ⟨kvs, .inr ⟨o, z1⟩, KM.of z2 z3⟩, ⟨kvs2, .inr ⟨o2, y1⟩, KM.of y2 y3⟩, h, k _ H (Ex.refl H) rfl⟩
theorem ec_neNilK {m : List (Int × β)} (hr : Room k0 X.A) (ha : Ev X δ μ a (dkM enc m)) (hb : Ev X δ μ b (dkM enc [])) : EvC X δ μ .NotEq a b (.bl (!m.isEmpty)) :=
  ec_of (op_neNilK hr.units) ha hb fun u v H Q h1 h2 k => by
    obtain ⟨a, o, kvs, rfl, z1, z2, z3⟩ := h1
    obtain ⟨a2, o2, kvs2, rfl, y1, y2, y3⟩ := h2
    have km : KM H Sum.inl enc m kvs := KM.of z2 z3
    obtain rfl : kvs2 = [] := by simpa using y2
    refine ⟨a, a2, kvs, rfl, rfl, .inr ⟨o, z1⟩, .inr ⟨o2, y1⟩, k _ H (Ex.refl H) ?_⟩
    have hl := km.len
    cases m with
    | nil => cases kvs with
      | nil => rfl
      | cons _ _ => simp at hl
    | cons _ _ => cases kvs with
      | nil => simp at hl
      | cons _ _ => rfl
end
end Bx
end

-- part BxR
section
set_option Elab.async false
set_option linter.all false
set_option maxRecDepth 100000
set_option maxHeartbeats 4000000
/-! Boxparts, part R: mirrors of the dict defs, with checks; locking an own dict for one expression. -/
namespace Bx
open PySem PySem.Spec PyProof.Rows L2
theorem foldM_spec {α β : Type} {f : β → α → Option β} : ∀ {xs : List α} {b c : β}, xs.foldlM f b = some c → ∃ S : Nat → β, S 0 = b ∧ S xs.length = c ∧ ∀ (i : Nat) (x : α), xs[i]? = some x → f (S i) x = some (S (i + 1))
  | [], b, c, h => by
    have h : some b = some c := h
    cases h
    exact ⟨fun _ => b, rfl, rfl, fun i x e => by simp at e⟩
  | x :: xs, b, c, h => by
    rw [List.foldlM_cons] at h
    cases hf : f b x with
    | none => rw [hf] at h; cases h
    | some b1 =>
      rw [hf] at h
      obtain ⟨S, h0, h1, h2⟩ := foldM_spec (show xs.foldlM f b1 = some c from h)
      refine ⟨fun i => match i with
        | 0 => b
        | i + 1 => S i, rfl, h1, fun i y e => ?_⟩
      cases i with
      | zero =>
        have e : x = y := by simpa using e
        subst e
        show f b x = some (S 0)
        rw [hf, h0]
      | succ i => exact h2 i y (by simpa using e)
def rget (r : Row) (k : Int) : Int := (look r k).getD 0
def sget {β : Type} (m : List (List Int × List β)) (k : List Int) : List β := (look m k).getD []
theorem look_mem {α β : Type} [DecidableEq α] : ∀ {m : List (α × β)} {q : α × β}, q ∈ m → ∃ b, look m q.1 = some b
  | q0 :: m, q, h => by
    by_cases e : q0.1 = q.1
    · exact ⟨_, look_pos e⟩
    · rw [look_neg e]
      rcases List.mem_cons.mp h with rfl | h
      · exact absurd rfl e
      · exact look_mem h
theorem look_key {α β : Type} [DecidableEq α] {m : List (α × β)} {k : α} (h : k ∈ m.map (·.1)) : ∃ b, look m k = some b := by
  obtain ⟨q, hq, rfl⟩ := List.mem_map.mp h
  exact look_mem hq
theorem look_rget {r : Row} {q : Int × Int} (h : q ∈ r) : look r q.1 = some (rget r q.1) := by
  obtain ⟨b, hb⟩ := look_mem h
  unfold rget; rw [hb]; rfl
theorem look_sget {β : Type} {m : List (List Int × List β)} {q : List Int × List β} (h : q ∈ m) : look m q.1 = some (sget m q.1) := by
  obtain ⟨b, hb⟩ := look_mem h
  unfold sget; rw [hb]; rfl
def rowOk (r : Row) : Bool := decide (r.length < 60) && r.all fun q => decide (-1000000 < q.2) && decide (q.2 < 1000000)
structure RowOk (r : Row) : Prop where
  len : r.length < 60
  val : ∀ k, -1000000 < rget r k ∧ rget r k < 1000000
theorem look_in {α β : Type} [DecidableEq α] : ∀ {m : List (α × β)} {k : α} {b : β}, look m k = some b → ∃ q ∈ m, q.1 = k ∧ q.2 = b
  | [], _, _, h => nomatch h
  | q0 :: m, k, b, h => by
    by_cases e : q0.1 = k
    · rw [look_pos e] at h
      exact ⟨q0, List.mem_cons_self, e, Option.some.inj h⟩
    · rw [look_neg e] at h
      obtain ⟨q, a, c⟩ := look_in h
      exact ⟨q, List.mem_cons_of_mem _ a, c⟩
theorem rowOk_of {r : Row} (h : rowOk r = true) : RowOk r := by
  unfold rowOk at h
  have h := Bool.and_eq_true_iff.mp h
  refine ⟨of_decide_eq_true h.1, fun k => ?_⟩
  unfold rget
  cases hk : look r k with
  | none => simp
  | some v =>
    obtain ⟨q, hq, _, rfl⟩ := look_in hk
    have := Bool.and_eq_true_iff.mp (List.all_eq_true.mp h.2 q hq)
    exact ⟨of_decide_eq_true this.1, of_decide_eq_true this.2⟩
def plainM (r : Row) : Row := putAll (((sortI (r.map (·.1))).filter fun p => !decide (rget r p = 0)).map fun p => (p, rget r p))
theorem fold_len {β γ : Type} {c : Nat} {f : List β → γ → List β} (hf : ∀ acc q, (f acc q).length ≤ acc.length + c) : ∀ (xs : List γ) (acc : List β), (xs.foldl f acc).length ≤ acc.length + xs.length * c
  | [], acc => by simp
  | x :: xs, acc => by
    have := fold_len hf xs (f acc x)
    have h2 := hf acc x
    rw [List.foldl_cons, List.length_cons, Nat.succ_mul]
    omega
def addTo (other : Row) (t : Int) (acc : Row) (q : Int × Int) : Row := put acc q.1 (rget acc q.1 + t * rget other q.1)
def addM (one other : Row) (t : Int) : Row := other.foldl (addTo other t) one
def mulStep (one other : Row) (h : Int) (acc : Row) (p : Int × Int) : Row := put acc (h + p.1) (rget acc (h + p.1) + rget one h * rget other p.1)
def mulIn (one other : Row) (acc : Row) (q : Int × Int) : Row := other.foldl (mulStep one other q.1) acc
def mulM (one other : Row) : Row := one.foldl (mulIn one other) []
theorem mulIn_len (one other acc : Row) (q : Int × Int) : (mulIn one other acc q).length ≤ acc.length + other.length := by
  have := fold_len (c := 1) (f := mulStep one other q.1) (fun acc p => put_len _ _ _) other acc
  unfold mulIn
  omega
def addR (one other : Row) (t : Int) : Option Row := if rowOk one && rowOk other && decide (-1000 < t) && decide (t < 1000) && decide ((addM one other t).length < 60) then some (plainM (addM one other t)) else none
def mulR (one other : Row) : Option Row := if rowOk one && rowOk other && decide ((mulM one other).length < 60) then some (plainM (mulM one other)) else none
def ssM (f : Summ) : Summ :=
  let rows : Summ := putAll ((sortS (f.map (·.1))).map fun s => (s, plainM (sget f s)))
  putAll ((rows.filter fun q => !(sget rows q.1).isEmpty).map fun q => (q.1, sget rows q.1))
def ssR (f : Summ) : Option Summ := if sortOkB (f.map (·.1)) && f.all (fun q => decide ((sget f q.1).length < 60)) then some (ssM f) else none
def nodupB : List Int → Bool
  | [] => true
  | x :: xs => !xs.contains x && nodupB xs
theorem nodup_of : ∀ {l : List Int}, nodupB l = true → l.Nodup
  | [], _ => .nil
  | x :: xs, h => by
    have h := Bool.and_eq_true_iff.mp (show (!xs.contains x && nodupB xs) = true from h)
    exact List.nodup_cons.mpr ⟨by simpa using h.1, nodup_of h.2⟩
def addAt (acc : Summ) (s : List Int) (a b : Row) : Option Summ := if acc.length < 1000 then (mulR a b).bind fun p => (addR (sget acc s) p 1).map fun t => put acc s t else none
theorem addAt_spec {acc c : Summ} {s : List Int} {a b : Row} (h : addAt acc s a b = some c) : acc.length < 1000 ∧ ∃ p t, mulR a b = some p ∧ addR (sget acc s) p 1 = some t ∧ c = put acc s t := by
  unfold addAt at h
  split at h
  · rename_i hl
    cases hm : mulR a b with
    | none => rw [hm] at h; cases h
    | some p =>
      rw [hm] at h
      have h : (addR (sget acc s) p 1).map (fun t => put acc s t) = some c := h
      cases ha : addR (sget acc s) p 1 with
      | none => rw [ha] at h; cases h
      | some t =>
        rw [ha] at h
        exact ⟨hl, p, t, rfl, ha, (Option.some.inj h).symm⟩
  · cases h
def twoR (one other : Summ) (row : Row) : Option Summ := if nodupB ((one.map (·.1)).map hshS) then (other.foldlM (fun acc q => addAt acc q.1 row (sget other q.1)) one).bind ssR else none
abbrev Steps := List (List Int × List (List Int × Int))
abbrev stepsD (st : List (List Int × Int)) : D := .lst (st.map stepD)
def ledIn (sm : Summ) (s : List Int) (st : List (List Int × Int)) (acc : Summ) : Option Summ := st.foldlM (fun acc g => addAt acc g.1 [(g.2, 1)] (sget sm s)) acc
def ledR (sm : Summ) (steps : Steps) : Option Summ := (sm.foldlM (fun acc q => (look steps q.1).bind fun st => ledIn sm q.1 st acc) []).bind ssR
def okSteps (e : Int) (s : List Int) (c t : Int) : Bool := smB s && decide (1 ≤ e) && decide (t ≤ 1000) && decide ((ofColour e (openL s) c).length ≤ 12) && (lots (ofColour e (openL s) c) t).all (okLot s)
def putOfR (e : Int) (sm : Summ) (c t : Int) : Option Summ := if sm.all fun q => okSteps e q.1 c t then ledR sm (putAll (sm.map fun q => (q.1, putSteps e q.1 c t))) else none
def courseR (e : Int) (cs : List (Int × Int)) : Option Summ := cs.foldlM (fun acc p => putOfR e acc p.1 p.2) [([], [(0, 1)])]
def addBox : List (Int × List (Int × Int)) → Int → Int × Int → List (Int × List (Int × Int))
  | [], k, b => [(k, [b])]
  | q :: m, k, b => if q.1 = k then (q.1, q.2 ++ [b]) :: m else q :: addBox m k b
def ladAcc (e : Int) (bs : List (Int × Int)) : List (Int × List (Int × Int)) := bs.foldl (fun acc p => addBox acc (p.1 + (e - 1) * p.2) p) []
def ladders (e : Int) (s : List Int) : List (Int × Int) := (sortI ((ladAcc e (boxes s)).map (·.1))).map fun k => (colour e (((look (ladAcc e (boxes s)) k).getD []).getD 0 (0, 0)), ((((look (ladAcc e (boxes s)) k).getD []).length : Nat) : Int))
def evenM (r : Row) : Row := r.foldl (fun acc q => if q.1 ≤ 0 then put (put acc q.1 (rget r q.1)) (0 - q.1) (rget r q.1) else acc) []
def negM (r : Row) : Row := putAll (r.map fun q => (q.1, 0 - rget r q.1))
def someS (shape : List Int) (f : Summ) : List (List Int) := (f.filter fun q => !decide (q.1 = shape) && decide (minI ((sget f q.1).map (·.1)) ≤ 0)).map (·.1)
/-- one turn of settled; none where a check fails -/
def settleStep (known : List (List Int × Summ)) (shape : List Int) (f : Summ) : Option Summ :=
  if f.all (fun q => !(sget f q.1).isEmpty) then
    let some := someS shape f
    (look f (maxS some)).bind fun r => (look known (maxS some)).bind fun k => if rowOk r then twoR f k (negM (evenM r)) else none
  else none
def settleR (known : List (List Int × Summ)) (shape : List Int) : Nat → Summ → Option Summ
  | 0, _ => none
  | n + 1, f => if f.all (fun q => !(sget f q.1).isEmpty) then (if (someS shape f).isEmpty then some f else (settleStep known shape f).bind (settleR known shape n)) else none
theorem settle_spec {known : List (List Int × Summ)} {shape : List Int} : ∀ {n : Nat} {f g : Summ}, settleR known shape n f = some g → ∃ (k : Nat) (S : Nat → Summ), S 0 = f ∧ S k = g ∧ (∀ i, i < k → someS shape (S i) ≠ [] ∧ settleStep known shape (S i) = some (S (i + 1))) ∧ someS shape (S k) = [] ∧
    ∀ i, i ≤ k → (S i).all (fun q => !(sget (S i) q.1).isEmpty) = true
  | 0, _, _, h => nomatch h
  | n + 1, f, g, h => by
    unfold settleR at h
    split at h
    · rename_i hall
      split at h
      · rename_i he
        cases h
        exact ⟨0, fun _ => f, rfl, rfl, fun i hi => absurd hi (Nat.not_lt_zero _), by simpa using he, fun i hi => hall⟩
      · rename_i he
        cases hs : settleStep known shape f with
        | none => rw [hs] at h; cases h
        | some f1 =>
          rw [hs] at h
          obtain ⟨k, S, h0, h1, h2, h3, h4⟩ := settle_spec (show settleR known shape n f1 = some g from h)
          refine ⟨k + 1, fun i => match i with
            | 0 => f
            | i + 1 => S i, rfl, h1, fun i hi => ?_, h3, fun i hi => ?_⟩
          · cases i with
            | zero =>
              refine ⟨by simpa using he, ?_⟩
              show settleStep known shape f = some (S 0)
              rw [hs, h0]
            | succ i => exact h2 i (by omega)
          · cases i with
            | zero => exact hall
            | succ i => exact h4 i (by omega)
    · cases h
/-- all shapes that are free get their sums -/
def listStep (e : Int) (acc : List (List Int × Summ)) (s : List Int) : Option (List (List Int × Summ)) :=
  if smB s && decide (acc.length < 1000) then
    if isFree e s then (courseR e (ladders e s)).bind fun c => (settleR acc s 200 c).bind fun g => if g.isEmpty then none else some (put acc s g)
    else some acc
  else none
def listR (e n : Int) : Option (List (List Int × Summ)) := (shRun n).bind fun st => if sortOkB st.1 then (sortS st.1).foldlM (listStep e) [] else none
def sumR (e : Int) (s : List Int) : Option Summ := (listR e s.sum).bind fun m => look m s
section
variable {X : Cx} {δ δ1 : De} {μ μ1 : Mem} {rest sts : List Stmt} {o : Out} {e a b c f i ob tg k1 v1 k2 v2 : Expr} {es : List Expr} {p pos : Pos} {d : D} {k0 : Nat} {β : Type} {enc : β → D}
/-- an own dict is locked while the expression runs -/
theorem ev_lock (i : Nat) {l : Addr} {kn : List (List Int × Summ)} {m : Summ} (hl : δ[i]? = some (some (.adr l))) (md : Mdel μ l (ctM sumD kn) μ1) (hm : m ≠ []) (h : Ev X (δ.set i (some (dtM sumD kn))) μ1 e (sumD m)) : Ev X δ μ e (sumD m) :=
  ev_pe (pe_lock (pe_tw X e)) fun σ H Q c q => by
    obtain ⟨kvs, hk, hk2, hk3⟩ := c.cel _ md.mem
    have hk : H l = some (.dT kvs) := hk
    refine ⟨l, .dT kvs, hk, trivial, fun od => ?_⟩
    have f : Fz H (upd H l (.frz od (.dT kvs))) := Fz.upd fun w hw => by rw [hk] at hw; cases hw; exact fun z => z
    have c2 : Cfg δ μ1 σ (upd H l (.frz od (.dT kvs))) := ⟨c.len, fun i d e => by
      obtain ⟨v, h1, h2⟩ := c.env i d e
      exact ⟨v, h1, Rep.mono f _ _ h2⟩, fun p hp => (c.cel p (md.sub.subset hp)).keep f fun o ho => by rw [upd_ne (md.ne c.nd p hp)]; exact ho, (md.sub.map (·.1)).nodup c.nd⟩
    obtain ⟨v, hv, rv⟩ := c.env i _ hl
    obtain rfl : v = V.ref l := rv
    have r : Rep (upd H l (.frz od (.dT kvs))) (dtM sumD kn) (.ref l) := ⟨l, od, kvs, rfl, upd_same, hk2, RepL.mono f _ _ hk3⟩
    have c3 := c2.set (i := i) r
    have es : σ.set i (some (.ref l)) = σ := by
      apply List.ext_getElem?
      intro j
      by_cases hj : i = j
      · subst hj
        rw [List.getElem?_set_self (List.getElem?_eq_some_iff.mp hv).1, hv]
      · rw [List.getElem?_set_ne hj]
    rw [es] at c3
    refine h σ _ _ c3 fun w H2 e2 rw' => ?_
    have hl2 : H2 l = some (.frz od (.dT kvs)) := e2 _ _ upd_same
    refine ⟨hl2, q w _ (fun a u hu => ?_) ?_⟩
    · by_cases ha : a = l
      · subst ha; rw [upd_same, ← hk]; exact hu
      · rw [upd_ne ha]
        exact e2 _ _ (by rw [upd_ne ha]; exact hu)
    · have kkm : KM H2 keyD sumD kn kvs := (KM.of (H := H) hk2 hk3).mono (f.trans e2.fz)
      obtain ⟨a, ao, kvs2, rfl, z1, z2, z3⟩ := rw'
      have km : KM H2 keyD rowD m kvs2 := KM.of z2 z3
      have hal : a ≠ l := fun z => by
        subst z
        rw [hl2] at z1
        cases z1
        cases m with
        | nil => exact hm rfl
        | cons qq m =>
          obtain ⟨v, l', rfl, y1, _⟩ := km
          obtain ⟨q', _, _, y2⟩ := kkm.mem (keyD qq.1, v) List.mem_cons_self
          obtain ⟨a1, o1, k1, rfl, w1, _⟩ := y1
          obtain ⟨a2, o2, k2, e3, w2, _⟩ := y2
          cases e3
          rw [w1] at w2
          cases w2
      refine ⟨a, ao, kvs2, rfl, by rw [upd_ne hal]; exact z1, z2, ?_⟩
      have hrow : ∀ (r : Row) (v : V), Rep H2 (rowD r) v → Rep (upd H2 l (.dT kvs)) (rowD r) v := fun r v hr => by
        obtain ⟨a1, o1, k1, rfl, w1, w2, w3⟩ := hr
        have hne : a1 ≠ l := fun z => by
          subst z
          rw [hl2] at w1
          cases w1
        refine ⟨a1, o1, k1, rfl, by rw [upd_ne hne]; exact w1, w2, ?_⟩
        have e5 : (r.map fun q => D.int q.2) = (r.map (·.2)).map D.int := by rw [List.map_map]; rfl
        rw [e5] at w3 ⊢
        rw [RepL.ints w3]
        exact RepL.ofInts _
      clear z1 z2 hal km
      revert z3
      generalize (kvs2.map (·.2)) = vs
      intro z3
      clear hm h q
      induction m generalizing vs with
      | nil => exact z3
      | cons q m ih =>
        obtain ⟨v, ws, rfl, y1, y2⟩ := z3
        exact ⟨v, ws, rfl, hrow _ _ y1, ih _ y2⟩
end
end Bx
end

-- part BxE5
section
set_option Elab.async false
set_option linter.all false
set_option maxRecDepth 100000
set_option maxHeartbeats 4000000
/-! Boxparts: walks of the dict defs, first half. -/
namespace Bx
open PySem PySem.Spec PyProof.Rows L2
section
variable {P : Program} {w : World} {K : PySem.W.Frag} {mg : Str → Option Value} {base : Heap} {f : Addr} {fd : FuncData}

/-! plain -/
def RPlain (ds : List D) (d : D) : Prop := ∃ r, ds = [rowD r] ∧ r.length < 60 ∧ d = rowD (plainM r)
abbrev nPlain : List Str := ["row", "power"]
theorem scPlain : FnScope nPlain ["row"] (defScope (top 28)) := ⟨rfl, rfl, rfl, by decide +kernel, rfl, by decide +kernel, by decide +kernel⟩
theorem sortI_mem {x : Int} {l : List Int} : x ∈ sortI l ↔ x ∈ l := (sortI_perm l).mem_iff
theorem c_plain (F : FnP K "plain" (top 28) f fd) (g : mg "plain" = some (.ref f)) (B : Bi mg) : Cal P w K mg base 1 "plain" ["row"] (spR RPlain) := by
  refine fn_R F g scPlain (fun ds d ⟨s, q, _⟩ => by rw [q]; rfl) (fun _ _ _ _ _ _ us hl => match us, hl with | [_], _ => rfl) fun cdv A outer s H E hr ds d h => ?_
  obtain ⟨r, rfl, hl, rfl⟩ := h
  have hN := scPlain.nd
  have hx : ∀ x ∈ sortI (r.map (·.1)), look r x = some (rget r x) := fun x hx => by
    obtain ⟨q, hq, rfl⟩ := List.mem_map.mp (sortI_mem.mp hx)
    exact look_rget hq
  refine sv_one (s_ret (ev_dictPK rfl B (Ev.is (ev_lcF1 nPlain (defScope (top 28)) 1 (xs := sortI (r.map (·.1))) D.int (fun p => !decide (rget r p = 0)) (fun p => .tup [.int p, .int (rget r p)]) rfl hN (ei_list (ev_sortedK rfl B (ed_frzK (ev_var 0)) (by omega))) (fun x hx' _ _ _ _ _ => ?_) (fun x hx' _ _ _ _ _ _ => ?_)) ?_)))
  · exact et_c (ec_neI (ev_dgetK hr (ed_frzK (ev_var 0)) (ev_var 1) (hx x hx')) ev_int)
  · exact ev_tup (ea_cons (ev_var 1) (ea_cons (ev_dgetK hr (ed_frzK (ev_var 0)) (ev_var 1) (hx x hx')) ea_nil))
  · rw [List.map_map]
    rfl

/-! row_added -/
def RAdd (ds : List D) (d : D) : Prop := ∃ one other t r, ds = [rowD one, rowD other, .int t] ∧ addR one other t = some r ∧ d = rowD r
theorem addR_spec {one other r : Row} {t : Int} (h : addR one other t = some r) : RowOk one ∧ RowOk other ∧ -1000 < t ∧ t < 1000 ∧ (addM one other t).length < 60 ∧ r = plainM (addM one other t) := by
  unfold addR at h
  split at h
  · rename_i hh
    simp only [Bool.and_eq_true, decide_eq_true_eq] at hh
    exact ⟨rowOk_of hh.1.1.1.1, rowOk_of hh.1.1.1.2, hh.1.1.2, hh.1.2, hh.2, (Option.some.inj h).symm⟩
  · cases h
theorem mulR_spec {one other r : Row} (h : mulR one other = some r) : RowOk one ∧ RowOk other ∧ (mulM one other).length < 60 ∧ r = plainM (mulM one other) := by
  unfold mulR at h
  split at h
  · rename_i hh
    simp only [Bool.and_eq_true, decide_eq_true_eq] at hh
    exact ⟨rowOk_of hh.1.1, rowOk_of hh.1.2, hh.2, (Option.some.inj h).symm⟩
  · cases h
abbrev nAdd : List Str := ["one", "other", "times", "found", "power"]
theorem scAdd : FnScope nAdd ["one", "other", "times"] (defScope (top 29)) := ⟨rfl, rfl, rfl, by decide +kernel, rfl, by decide +kernel, by decide +kernel⟩
theorem c_add (F : FnP K "row_added" (top 29) f fd) (g : mg "row_added" = some (.ref f)) (B : Bi mg) (G : Cal P w K mg base 1 "plain" ["row"] (spR RPlain)) : Cal P w K mg base 2 "row_added" ["one", "other", "times"] (spR RAdd) := by
  refine fn_R F g scAdd (fun ds d ⟨_, _, _, _, q, _⟩ => by rw [q]; rfl) (fun _ _ _ _ _ _ us hl => match us, hl with | [_, _, _], _ => rfl) fun cdv A outer s H E hr ds d h => ?_
  obtain ⟨one, other, t, r, rfl, h, rfl⟩ := h
  obtain ⟨o1, o2, t1, t2, hz, rfl⟩ := addR_spec h
  have hN := scAdd.nd
  refine sv_setK 3 hN (pe_copyK B) (new_copyK B (ev_var 0)) fun l => ?_
  refine sv_cons (s_for (xs := other) (enc := fun q => D.int q.1) (S := fun _ => [some (rowD one), some (rowD other), some (.int t), some (.adr l), none]) (M := fun i => [(l, ckM D.int ((other.take i).foldl (addTo other t) one))]) PassesOwn.never rfl (ei_keysK (ev_var 1)) (pg_name (i := 4) hN rfl (Or.inl rfl)) (fun _ _ => tg_name 4 _) fun i q hq => ?_) ?_
  · have hb := fold_len (c := 1) (f := addTo other t) (fun acc q => put_len _ _ _) (other.take i) one
    have l1 := o1.len
    have l2 := o2.len
    have hv := o2.val q.1
    refine sv_fg (sv_one (s1_is (s_putK (y := rget ((other.take i).foldl (addTo other t) one) q.1 + t * rget other q.1) hr (ev_var 3) .here (ev_var 4) (ev_add (Ev.is (ev_get2K hr (ed_ownK (ev_var 3) (List.mem_singleton.mpr rfl)) (ev_var 4) (z := (0 : Int)) ev_int) rfl) (ev_mul (ev_var 2) (ev_dgetK hr (ed_frzK (ev_var 1)) (ev_var 4) (look_rget (List.mem_of_getElem? hq))) (.inl ⟨by omega, by omega⟩))) ?_)
      (o' := .nx [some (rowD one), some (rowD other), some (.int t), some (.adr l), some (.int q.1)] [(l, ckM D.int ((other.take (i + 1)).foldl (addTo other t) one))]) ?_))
    · rw [List.length_take] at hb
      omega
    · rw [foldl_take _ _ hq]
      rfl
  · refine sv_fzA 3 rfl .here (sv_one (s_ret (ev_call G hr (ea_cons (ev_var 3) ea_nil) ⟨addM one other t, ?_, hz, rfl⟩)))
    rw [List.take_length]
    rfl

/-! row_product -/
def RMul (ds : List D) (d : D) : Prop := ∃ one other r, ds = [rowD one, rowD other] ∧ mulR one other = some r ∧ d = rowD r
abbrev nMul : List Str := ["one", "other", "found", "here", "there"]
theorem scMul : FnScope nMul ["one", "other"] (defScope (top 30)) := ⟨rfl, rfl, rfl, by decide +kernel, rfl, by decide +kernel, by decide +kernel⟩
theorem c_mul (F : FnP K "row_product" (top 30) f fd) (g : mg "row_product" = some (.ref f)) (B : Bi mg) (G : Cal P w K mg base 1 "plain" ["row"] (spR RPlain)) : Cal P w K mg base 2 "row_product" ["one", "other"] (spR RMul) := by
  refine fn_R F g scMul (fun ds d ⟨_, _, _, q, _⟩ => by rw [q]; rfl) (fun _ _ _ _ _ _ us hl => match us, hl with | [_, _], _ => rfl) fun cdv A outer s H E hr ds d h => ?_
  obtain ⟨one, other, r, rfl, h, rfl⟩ := h
  obtain ⟨o1, o2, hz, rfl⟩ := mulR_spec h
  have hN := scMul.nd
  refine sv_setK (m := ([] : Row)) (enc := D.int) 2 hN pe_dnewK (fun _ _ _ => new_nilK) fun l => ?_
  refine sv_cons (s_for (xs := one) (enc := fun q => D.int q.1) (S := fun _ => [some (rowD one), some (rowD other), some (.adr l), none, none]) (M := fun i => [(l, ckM D.int ((one.take i).foldl (mulIn one other) []))]) PassesOwn.never rfl (ei_keysK (ev_var 0)) (pg_name (i := 3) hN rfl (Or.inl rfl)) (fun _ _ => tg_name 3 _) fun i q hq => ?_) ?_
  · have hb := fold_len (c := other.length) (f := mulIn one other) (fun acc q => mulIn_len one other acc q) (one.take i) []
    have l1 := o1.len
    have l2 := o2.len
    have hv := o1.val q.1
    have hb2 : ((one.take i).foldl (mulIn one other) []).length ≤ 3600 := by
      have : (one.take i).length * other.length ≤ 60 * 60 := Nat.mul_le_mul (by rw [List.length_take]; omega) (by omega)
      simp only [List.length_nil, Nat.zero_add] at hb
      omega
    refine sv_fg (δ1 := [some (rowD one), some (rowD other), some (.adr l), some (.int q.1), none]) (sv_cons (s_for (xs := other) (enc := fun q => D.int q.1) (S := fun _ => [some (rowD one), some (rowD other), some (.adr l), some (.int q.1), none])
      (M := fun j => [(l, ckM D.int ((other.take j).foldl (mulStep one other q.1) ((one.take i).foldl (mulIn one other) [])))]) PassesOwn.never rfl (ei_keysK (ev_var 1)) (pg_name (i := 4) hN rfl (Or.inl rfl)) (fun _ _ => tg_name 4 _) fun j p hp => ?_) (sv_is sv_nil ?_))
    · have hb3 := fold_len (c := 1) (f := mulStep one other q.1) (fun acc p => put_len _ _ _) (other.take j) ((one.take i).foldl (mulIn one other) [])
      have hs := ev_add (X := cx0 P w K mg base nMul "row_product" (defScope (top 30)) f cdv A outer s H E) (δ := [some (rowD one), some (rowD other), some (.adr l), some (.int q.1), some (.int p.1)]) (μ := [(l, ckM D.int ((other.take j).foldl (mulStep one other q.1) ((one.take i).foldl (mulIn one other) [])))]) (pos := ⟨0, 0, 0, 0⟩) (a := .Name "here" ⟨0, 0, 0, 0⟩) (b := .Name "there" ⟨0, 0, 0, 0⟩) (ev_var 3) (ev_var 4)
      refine sv_fg (sv_one (s1_is (s_putK (y := rget ((other.take j).foldl (mulStep one other q.1) ((one.take i).foldl (mulIn one other) [])) (q.1 + p.1) + rget one q.1 * rget other p.1) hr (ev_var 2) .here (ev_add (ev_var 3) (ev_var 4)) (ev_add (Ev.is (ev_get2K hr (ed_ownK (ev_var 2) (List.mem_singleton.mpr rfl)) (ev_add (ev_var 3) (ev_var 4)) (z := (0 : Int)) ev_int) rfl)
        (ev_mul (ev_dgetK hr (ed_frzK (ev_var 0)) (ev_var 3) (look_rget (List.mem_of_getElem? hq))) (ev_dgetK hr (ed_frzK (ev_var 1)) (ev_var 4) (look_rget (List.mem_of_getElem? hp))) (.inl ⟨by omega, by omega⟩))) ?_)
        (o' := .nx [some (rowD one), some (rowD other), some (.adr l), some (.int q.1), some (.int p.1)] [(l, ckM D.int ((other.take (j + 1)).foldl (mulStep one other q.1) ((one.take i).foldl (mulIn one other) [])))]) ?_))
      · rw [List.length_take] at hb3
        omega
      · rw [foldl_take _ _ hp]
        rfl
    · rw [foldl_take _ _ hq, List.take_length]
      rfl
  · refine sv_fzA 2 rfl .here (sv_one (s_ret (ev_call G hr (ea_cons (ev_var 2) ea_nil) ⟨mulM one other, ?_, hz, rfl⟩)))
    rw [List.take_length]
    rfl
end
end Bx
end

-- part BxE6
section
set_option Elab.async false
set_option linter.all false
set_option maxRecDepth 100000
set_option maxHeartbeats 4000000
/-! Boxparts: walks of the dict defs, second part (sums). -/
namespace Bx
open PySem PySem.Spec PyProof.Rows L2
section
variable {P : Program} {w : World} {K : PySem.W.Frag} {mg : Str → Option Value} {base : Heap} {f : Addr} {fd : FuncData}

/-! sorted_sum -/
def RSorted (ds : List D) (d : D) : Prop := ∃ m r, ds = [sumD m] ∧ ssR m = some r ∧ d = sumD r
theorem ssR_spec {m r : Summ} (h : ssR m = some r) : SortOk (m.map (·.1)) ∧ (∀ q ∈ m, (sget m q.1).length < 60) ∧ r = ssM m := by
  unfold ssR at h
  split at h
  · rename_i hh
    have hh := Bool.and_eq_true_iff.mp hh
    exact ⟨sortOk_of hh.1, fun q hq => of_decide_eq_true (List.all_eq_true.mp hh.2 q hq), (Option.some.inj h).symm⟩
  · cases h
theorem sortS_mem {x : List Int} {l : List (List Int)} : x ∈ sortS l ↔ x ∈ l := (isrt_perm _ l).mem_iff
abbrev nSorted : List Str := ["found", "rows", "shape"]
theorem scSorted : FnScope nSorted ["found"] (defScope (top 32)) := ⟨rfl, rfl, rfl, by decide +kernel, rfl, by decide +kernel, by decide +kernel⟩
theorem look_sgetS {m : Summ} {q : List Int × Row} (h : q ∈ m) : look m q.1 = some (sget m q.1) := look_sget h
theorem c_sorted (F : FnP K "sorted_sum" (top 32) f fd) (g : mg "sorted_sum" = some (.ref f)) (B : Bi mg) (G : Cal P w K mg base 1 "plain" ["row"] (spR RPlain)) : Cal P w K mg base 2 "sorted_sum" ["found"] (spR RSorted) := by
  refine fn_R F g scSorted (fun ds d ⟨_, _, q, _⟩ => by rw [q]; rfl) (fun _ _ _ _ _ _ us hl => match us, hl with | [_], _ => rfl) fun cdv A outer s H E hr ds d h => ?_
  obtain ⟨m, r, rfl, h, rfl⟩ := h
  obtain ⟨ok, hz, rfl⟩ := ssR_spec h
  have hN := scSorted.nd
  have hx : ∀ x ∈ sortS (m.map (·.1)), look m x = some (sget m x) ∧ (sget m x).length < 60 := fun x hx => by
    obtain ⟨q, hq, rfl⟩ := List.mem_map.mp (sortS_mem.mp hx)
    exact ⟨look_sgetS hq, hz q hq⟩
  refine sv_cons (s_set 1 hN (d := sumD (putAll ((sortS (m.map (·.1))).map fun s => (s, plainM (sget m s))))) (ev_dictPT (m := (sortS (m.map (·.1))).map fun s => (s, plainM (sget m s))) (enc := rowD) hr rfl B (Ev.is (ev_lcM1 nSorted (defScope (top 32)) 2 (xs := sortS (m.map (·.1))) sh (fun s => .tup [sh s, rowD (plainM (sget m s))]) rfl hN (ei_list (ev_sortedT hr rfl B (ed_frzT (ev_var 0)) ok)) (fun x hx' _ _ _ _ _ => ?_)) ?_))) ?_
  · exact ev_tup (ea_cons (ev_var 2) (ea_cons (ev_call G hr (ea_cons (ev_dgetT hr (ed_frzT (ev_var 0)) (ev_var 2) (hx x hx').1) ea_nil) ⟨_, rfl, (hx x hx').2, rfl⟩) ea_nil))
  · rw [List.map_map]; rfl
  generalize hR : putAll ((sortS (m.map (·.1))).map fun s => (s, plainM (sget m s))) = rows
  refine sv_one (s_ret (Ev.is (ev_dictPT (m := (rows.filter fun q => !(sget rows q.1).isEmpty).map fun q => (q.1, sget rows q.1)) (enc := rowD) hr rfl B (Ev.is (ev_lcF1 nSorted (defScope (top 32)) 2 (xs := rows) (fun q => sh q.1) (fun q => !(sget rows q.1).isEmpty) (fun q => .tup [sh q.1, rowD (sget rows q.1)]) rfl hN (ei_keysT (ev_var 1)) (fun q hq _ _ _ _ _ => ?_) (fun q hq _ _ _ _ _ _ => ?_)) ?_)) ?_))
  · exact et_c (ec_neNilK hr (ev_dgetT hr (ed_frzT (ev_var 1)) (ev_var 2) (look_sgetS hq)) ev_nilK)
  · exact ev_tup (ea_cons (ev_var 2) (ea_cons (ev_dgetT hr (ed_frzT (ev_var 1)) (ev_var 2) (look_sgetS hq)) ea_nil))
  · rw [List.map_map]; rfl
  · unfold ssM
    rw [hR]

/-! sum_of_two -/
def RTwo (ds : List D) (d : D) : Prop := ∃ one other row r, ds = [sumD one, sumD other, rowD row] ∧ twoR one other row = some r ∧ d = sumD r
abbrev nTwo : List Str := ["one", "other", "row", "found", "shape"]
theorem scTwo : FnScope nTwo ["one", "other", "row"] (defScope (top 33)) := ⟨rfl, rfl, rfl, by decide +kernel, rfl, by decide +kernel, by decide +kernel⟩
theorem c_two (F : FnP K "sum_of_two" (top 33) f fd) (g : mg "sum_of_two" = some (.ref f)) (B : Bi mg) (G1 : Cal P w K mg base 2 "row_added" ["one", "other", "times"] (spR RAdd)) (G2 : Cal P w K mg base 2 "row_product" ["one", "other"] (spR RMul)) (G3 : Cal P w K mg base 2 "sorted_sum" ["found"] (spR RSorted)) :
    Cal P w K mg base 3 "sum_of_two" ["one", "other", "row"] (spR RTwo) := by
  refine fn_R F g scTwo (fun ds d ⟨_, _, _, _, q, _⟩ => by rw [q]; rfl) (fun _ _ _ _ _ _ us hl => match us, hl with | [_, _, _], _ => rfl) fun cdv A outer s H E hr ds d h => ?_
  obtain ⟨one, other, row, r, rfl, h, rfl⟩ := h
  have hN := scTwo.nd
  unfold twoR at h
  split at h
  · rename_i hh
    obtain ⟨c, hc, hs⟩ := Option.bind_eq_some_iff.mp h
    obtain ⟨S, h0, hn, hst⟩ := foldM_spec hc
    refine sv_setT 3 hN (pe_copyT hr B) (new_copyT hr B (ev_var 0) (nodup_of hh)) fun l => ?_
    rw [← h0]
    refine sv_cons (s_for (xs := other) (enc := fun q => sh q.1) (S := fun _ => [some (sumD (S 0)), some (sumD other), some (rowD row), some (.adr l), none]) (M := fun i => [(l, ctM rowD (S i))]) PassesOwn.never rfl (ei_keysT (ev_var 1)) (pg_name (i := 4) hN rfl (Or.inl rfl)) (fun _ _ => tg_name 4 _) fun i q hq => ?_) ?_
    · obtain ⟨hl, p, t, hm, ha, e⟩ := addAt_spec (hst i q hq)
      refine sv_fg (sv_one (s1_is (s_putT (y := t) hr (ev_var 3) .here (ev_var 4) (ev_call G1 hr (ea_cons (ev_get2T hr (ed_ownT (ev_var 3) (List.mem_singleton.mpr rfl)) (ev_var 4) (z := ([] : Row)) ev_nilK) (ea_cons (ev_call G2 hr (ea_cons (ev_var 2) (ea_cons (ev_dgetT hr (ed_frzT (ev_var 1)) (ev_var 4) (look_sgetS (List.mem_of_getElem? hq))) ea_nil)) ⟨row, _, p, rfl, hm, rfl⟩) (ea_cons ev_int ea_nil))) ⟨_, p, 1, t, rfl, ha, rfl⟩) (by omega))
        (o' := .nx [some (sumD (S 0)), some (sumD other), some (rowD row), some (.adr l), some (sh q.1)] [(l, ctM rowD (S (i + 1)))]) ?_))
      rw [e]
      rfl
    · refine sv_fzA 3 rfl .here (sv_one (s_ret (ev_call G3 hr (ea_cons (ev_var 3) ea_nil) ⟨c, r, ?_, hs, rfl⟩)))
      rw [hn]
      rfl
  · cases h

/-! led -/
def RLed (ds : List D) (d : D) : Prop := ∃ sm steps r, ds = [sumD sm, dtM stepsD steps] ∧ ledR sm steps = some r ∧ d = sumD r
abbrev nLed : List Str := ["sum_here", "steps", "found", "shape", "goal", "power"]
theorem scLed : FnScope nLed ["sum_here", "steps"] (defScope (top 39)) := ⟨rfl, rfl, rfl, by decide +kernel, rfl, by decide +kernel, by decide +kernel⟩
theorem c_led (F : FnP K "led" (top 39) f fd) (g : mg "led" = some (.ref f)) (B : Bi mg) (G1 : Cal P w K mg base 2 "row_added" ["one", "other", "times"] (spR RAdd)) (G2 : Cal P w K mg base 2 "row_product" ["one", "other"] (spR RMul)) (G3 : Cal P w K mg base 2 "sorted_sum" ["found"] (spR RSorted)) :
    Cal P w K mg base 3 "led" ["sum_here", "steps"] (spR RLed) := by
  refine fn_R F g scLed (fun ds d ⟨_, _, _, q, _⟩ => by rw [q]; rfl) (fun _ _ _ _ _ _ us hl => match us, hl with | [_, _], _ => rfl) fun cdv A outer s H E hr ds d h => ?_
  obtain ⟨sm, steps, r, rfl, h, rfl⟩ := h
  have hN := scLed.nd
  unfold ledR at h
  obtain ⟨c, hc, hs⟩ := Option.bind_eq_some_iff.mp h
  obtain ⟨S, h0, hn, hst⟩ := foldM_spec hc
  refine sv_setT (m := ([] : Summ)) (enc := rowD) 2 hN pe_dnewT (fun _ _ _ => new_nilT) fun l => ?_
  rw [← h0]
  refine sv_cons (s_for (xs := sm) (enc := fun q => sh q.1) (S := fun _ => [some (sumD sm), some (dtM stepsD steps), some (.adr l), none, none, none]) (M := fun i => [(l, ctM rowD (S i))]) PassesOwn.never rfl (ei_keysT (ev_var 0)) (pg_name (i := 3) hN rfl (Or.inl rfl)) (fun _ _ => tg_name 3 _) fun i q hq => ?_) ?_
  · obtain ⟨st, hst1, hin⟩ := Option.bind_eq_some_iff.mp (hst i q hq)
    obtain ⟨S', h0', hn', hst'⟩ := foldM_spec (show st.foldlM (fun acc g => addAt acc g.1 [(g.2, 1)] (sget sm q.1)) (S i) = some (S (i + 1)) from hin)
    rw [← h0', ← hn']
    refine sv_fg (sv_one (s_for (xs := st) (enc := stepD) (S := fun _ => [some (sumD sm), some (dtM stepsD steps), some (.adr l), some (sh q.1), none, none]) (M := fun j => [(l, ctM rowD (S' j))]) PassesOwn.never rfl (ei_list (ev_dgetT (enc := stepsD) hr (ed_frzT (ev_var 1)) (ev_var 3) hst1)) (pg_two (i := 4) (j := 5) rfl hN) (fun g _ => tg_two K 4 5 (sh g.1) (.int g.2)) fun j gg hg => ?_))
    obtain ⟨hl, p, t, hm, ha, e⟩ := addAt_spec (hst' j gg hg)
    refine sv_fg (sv_one (s1_is (s_putT (y := t) hr (ev_var 2) .here (ev_var 4) (ev_call G1 hr (ea_cons (ev_get2T hr (ed_ownT (ev_var 2) (List.mem_singleton.mpr rfl)) (ev_var 4) (z := ([] : Row)) ev_nilK) (ea_cons (ev_call G2 hr (ea_cons (ev_disp1K (enc := D.int) (y := (1 : Int)) (ev_var 5) ev_int) (ea_cons (ev_dgetT hr (ed_frzT (ev_var 0)) (ev_var 3) (look_sgetS (List.mem_of_getElem? hq))) ea_nil)) ⟨[(gg.2, 1)], _, p, rfl, hm, rfl⟩) (ea_cons ev_int ea_nil))) ⟨_, p, 1, t, rfl, ha, rfl⟩) (by omega))
      (o' := .nx [some (sumD sm), some (dtM stepsD steps), some (.adr l), some (sh q.1), some (sh gg.1), some (.int gg.2)] [(l, ctM rowD (S' (j + 1)))]) ?_))
    rw [e]
    rfl
  · refine sv_fzA 2 rfl .here (sv_one (s_ret (ev_call G3 hr (ea_cons (ev_var 2) ea_nil) ⟨c, r, ?_, hs, rfl⟩)))
    rw [hn]
    rfl

/-! put_of -/
def RPutOf (ds : List D) (d : D) : Prop := ∃ e sm c t r, ds = [.int e, sumD sm, .int c, .int t] ∧ putOfR e sm c t = some r ∧ d = sumD r
abbrev nPutOf : List Str := ["e", "sum_here", "colour", "times", "shape"]
theorem scPutOf : FnScope nPutOf ["e", "sum_here", "colour", "times"] (defScope (top 40)) := ⟨rfl, rfl, rfl, by decide +kernel, rfl, by decide +kernel, by decide +kernel⟩
theorem okSteps_spec {e c t : Int} {s : List Int} (h : okSteps e s c t = true) : RSteps [.int e, sh s, .int c, .int t] (.lst ((putSteps e s c t).map stepD)) := by
  unfold okSteps at h
  simp only [Bool.and_eq_true, decide_eq_true_eq] at h
  exact ⟨e, s, c, t, rfl, sm_of h.1.1.1.1, h.1.1.1.2, h.1.1.2, h.1.2, fun lot hl => List.all_eq_true.mp h.2 lot hl, rfl⟩
theorem c_putOf (F : FnP K "put_of" (top 40) f fd) (g : mg "put_of" = some (.ref f)) (B : Bi mg) (G1 : Cal P w K mg base 3 "led" ["sum_here", "steps"] (spR RLed)) (G2 : Cal P w K mg base 3 "put_steps" ["e", "shape", "colour", "times"] (spR RSteps)) :
    Cal P w K mg base 4 "put_of" ["e", "sum_here", "colour", "times"] (spR RPutOf) := by
  refine fn_R F g scPutOf (fun ds d ⟨_, _, _, _, _, q, _⟩ => by rw [q]; rfl) (fun _ _ _ _ _ _ us hl => match us, hl with | [_, _, _, _], _ => rfl) fun cdv A outer s H E hr ds d h => ?_
  obtain ⟨e, sm, c, t, r, rfl, h, rfl⟩ := h
  have hN := scPutOf.nd
  unfold putOfR at h
  split at h
  · rename_i hh
    have hall := List.all_eq_true.mp hh
    refine sv_one (s_ret (ev_call G1 hr (ea_cons (ev_var 1) (ea_cons (ev_dictPT (m := sm.map fun q => (q.1, putSteps e q.1 c t)) (enc := stepsD) hr rfl B (Ev.is (ev_lcM1 nPutOf (defScope (top 40)) 4 (xs := sm) (fun q => sh q.1) (fun q => .tup [sh q.1, stepsD (putSteps e q.1 c t)]) rfl hN (ei_keysT (ev_var 1)) (fun q hq _ _ _ _ _ => ?_)) ?_)) ea_nil)) ⟨sm, _, r, rfl, h, rfl⟩))
    · exact ev_tup (ea_cons (ev_var 4) (ea_cons (ev_call G2 hr (ea_cons (ev_var 0) (ea_cons (ev_var 4) (ea_cons (ev_var 2) (ea_cons (ev_var 3) ea_nil)))) (okSteps_spec (hall q hq))) ea_nil))
    · rw [List.map_map]; rfl
  · cases h

/-! course_of -/
abbrev cl (p : Int × Int) : D := .tup [.int p.1, .int p.2]
def RCourse (ds : List D) (d : D) : Prop := ∃ e cs r, ds = [.int e, .tup (cs.map cl)] ∧ courseR e cs = some r ∧ d = sumD r
theorem ev_row1 {X : Cx} {δ : De} {μ : Mem} {p3 p4 p5 : Pos} {j j2 : Nat} {a b : Int} {e : Expr} (he : e = .Dict [some (.Constant (.int a) j p3)] [.Constant (.int b) j2 p4] p5) : Ev X δ μ e (rowD [(a, b)]) := by
  obtain ⟨k, hk⟩ : ∃ k : Expr, k = .Constant (.int a) j p3 := ⟨_, rfl⟩
  obtain ⟨v, hv⟩ : ∃ k : Expr, k = .Constant (.int b) j2 p4 := ⟨_, rfl⟩
  rw [← hk, ← hv] at he
  have h1 : Ev X δ μ k (.int a) := hk ▸ ev_int
  have h2 : Ev X δ μ v (.int b) := hv ▸ ev_int
  rw [he]
  exact ev_disp1K (enc := D.int) h1 h2
theorem ev_course0 {X : Cx} {δ : De} {μ : Mem} {k0 : Nat} {p2 p3 p4 p5 p6 : Pos} {k j j2 : Nat} {e : Expr} (hr : Room k0 X.A) (he : e = .Dict [some (.Tuple [] k p2)] [.Dict [some (.Constant (.int 0) j p3)] [.Constant (.int 1) j2 p4] p5] p6) : Ev X δ μ e (sumD [([], [(0, 1)])]) := by
  obtain ⟨kt, hk⟩ : ∃ e : Expr, e = .Tuple [] k p2 := ⟨_, rfl⟩
  obtain ⟨v, hv⟩ : ∃ e : Expr, e = .Dict [some (.Constant (.int 0) j p3)] [.Constant (.int 1) j2 p4] p5 := ⟨_, rfl⟩
  rw [← hk, ← hv] at he
  have h1 : Ev X δ μ kt (sh []) := hk ▸ ev_tup (ds := []) ea_nil
  have h2 : Ev X δ μ v (rowD [(0, 1)]) := ev_row1 hv
  rw [he]
  exact ev_disp1T (enc := rowD) hr h1 h2
abbrev nCourse : List Str := ["e", "course", "found", "colour", "times"]
theorem scCourse : FnScope nCourse ["e", "course"] (defScope (top 42)) := ⟨rfl, rfl, rfl, by decide +kernel, rfl, by decide +kernel, by decide +kernel⟩
theorem c_course (F : FnP K "course_of" (top 42) f fd) (g : mg "course_of" = some (.ref f)) (B : Bi mg) (G : Cal P w K mg base 4 "put_of" ["e", "sum_here", "colour", "times"] (spR RPutOf)) : Cal P w K mg base 5 "course_of" ["e", "course"] (spR RCourse) := by
  refine fn_R F g scCourse (fun ds d ⟨_, _, _, q, _⟩ => by rw [q]; rfl) (fun _ _ _ _ _ _ us hl => match us, hl with | [_, _], _ => rfl) fun cdv A outer s H E hr ds d h => ?_
  obtain ⟨e, cs, r, rfl, h, rfl⟩ := h
  have hN := scCourse.nd
  unfold courseR at h
  obtain ⟨S, h0, hn, hst⟩ := foldM_spec h
  obtain ⟨x, p', e0, pos, rest, hx, hb, he0, hre⟩ : ∃ x p' e0 pos rest, x = ("found" : Str) ∧ defBody (top 42) = Stmt.Assign [.Name x p'] e0 pos :: rest ∧ (∃ k p2 j p3 j2 p4 p5 p6, e0 = .Dict [some (.Tuple [] k p2)] [.Dict [some (.Constant (.int 0) j p3)] [.Constant (.int 1) j2 p4] p5] p6) ∧ rest = (defBody (top 42)).tail := ⟨_, _, _, _, _, rfl, rfl, ⟨_, _, _, _, _, _, _, _, rfl⟩, rfl⟩
  obtain ⟨k, p2, j, p3, j2, p4, p5, p6, he0⟩ := he0
  subst hx
  rw [hb]
  refine sv_cons (s_set 2 (by exact hN) (d := sumD (S 0)) (by rw [h0]; exact ev_course0 hr he0) (hs := by rw [he0]; rfl)) ?_
  clear hb
  subst hre
  refine sv_cons (s_for (xs := cs) (enc := cl) (S := fun i => [some (.int e), some (.tup (cs.map cl)), some (sumD (S i)), none, none]) (M := fun _ => []) PassesOwn.never rfl (ei_tup (ev_var 1)) (pg_two (i := 3) (j := 4) rfl (by exact hN)) (fun p _ => tg_two K 3 4 (.int p.1) (.int p.2)) fun i p hp => ?_) (sv_one (s_ret (Ev.is (ev_var 2) (by rw [hn]))))
  have hR : RPutOf [.int e, sumD (S i), .int p.1, .int p.2] (sumD (S (i + 1))) := ⟨e, S i, p.1, p.2, S (i + 1), rfl, hst i p hp, rfl⟩
  generalize S (i + 1) = S1 at hR ⊢
  generalize S i = S0 at hR ⊢
  exact sv_fg (sv_one (s_set 2 (by exact hN) (d := sumD S1) (ev_call G hr (ea_cons (ev_var 0) (ea_cons (ev_var 2) (ea_cons (ev_var 3) (ea_cons (ev_var 4) ea_nil)))) hR)))
end
end Bx
end

-- part BxE7
section
set_option Elab.async false
set_option linter.all false
set_option maxRecDepth 100000
set_option maxHeartbeats 1000000
/-! Boxparts: walks of even_part, settled, list_of, sum_of. -/
namespace Bx
open PySem PySem.Spec PyProof.Rows L2
def evenStep (r acc : Row) (q : Int × Int) : Row := if q.1 ≤ 0 then put (put acc q.1 (rget r q.1)) (0 - q.1) (rget r q.1) else acc
theorem evenM_eq (r : Row) : evenM r = r.foldl (evenStep r) [] := rfl
theorem evenStep_len (r acc : Row) (q : Int × Int) : (evenStep r acc q).length ≤ acc.length + 2 := by
  unfold evenStep
  split
  · have h1 := put_len acc q.1 (rget r q.1)
    have h2 := put_len (put acc q.1 (rget r q.1)) (0 - q.1) (rget r q.1)
    omega
  · omega
section
variable {P : Program} {w : World} {K : PySem.W.Frag} {mg : Str → Option Value} {base : Heap} {f : Addr} {fd : FuncData}

/-! even_part -/
def REven (ds : List D) (d : D) : Prop := ∃ r, ds = [rowD r] ∧ r.length < 60 ∧ d = rowD (evenM r)
abbrev nEven : List Str := ["row", "found", "power"]
theorem scEven : FnScope nEven ["row"] (defScope (top 46)) := ⟨rfl, rfl, rfl, by decide +kernel, rfl, by decide +kernel, by decide +kernel⟩
theorem c_even (F : FnP K "even_part" (top 46) f fd) (g : mg "even_part" = some (.ref f)) (B : Bi mg) : Cal P w K mg base 1 "even_part" ["row"] (spR REven) := by
  refine fn_R F g scEven (fun ds d ⟨s, q, _⟩ => by rw [q]; rfl) (fun _ _ _ _ _ _ us hl => match us, hl with | [_], _ => rfl) fun cdv A outer s H E hr ds d h => ?_
  obtain ⟨r, rfl, hl, rfl⟩ := h
  have hN := scEven.nd
  refine sv_setK (m := ([] : Row)) (enc := D.int) 1 hN pe_dnewK (fun _ _ _ => new_nilK) fun l => ?_
  refine sv_cons (s_for (xs := r) (enc := fun q => D.int q.1) (S := fun _ => [some (rowD r), some (.adr l), none]) (M := fun i => [(l, ckM D.int ((r.take i).foldl (evenStep r) []))]) PassesOwn.never rfl (ei_keysK (ev_var 0)) (pg_name (i := 2) hN rfl (Or.inl rfl)) (fun _ _ => tg_name 2 _) fun i q hq => ?_) ?_
  · have hb := fold_len (c := 2) (f := evenStep r) (fun acc q => evenStep_len r acc q) (r.take i) []
    rw [List.length_take] at hb
    simp only [List.length_nil, Nat.zero_add] at hb
    have hz : ((r.take i).foldl (evenStep r) []).length ≤ 200 := by
      have : min i r.length * 2 ≤ 60 * 2 := Nat.mul_le_mul_right _ (by omega)
      omega
    have hz2 := put_len ((r.take i).foldl (evenStep r) []) q.1 (rget r q.1)
    have hv := look_rget (List.mem_of_getElem? hq)
    refine sv_fg (δ1 := [some (rowD r), some (.adr l), some (.int q.1)]) (sv_one (s_if (et_c (ec_le (ev_var 2) ev_int)) (fun hh => ?_) (fun hh => ?_)))
    · have hh := of_decide_eq_true hh
      refine sv_is (sv_cons (s_putK (y := rget r q.1) hr (ev_var 1) .here (ev_var 2) (ev_dgetK hr (ed_frzK (ev_var 0)) (ev_var 2) hv) (by omega)) (sv_one (s_putK (y := rget r q.1) hr (ev_var 1) .here (ev_sub ev_int (ev_var 2)) (ev_dgetK hr (ed_frzK (ev_var 0)) (ev_var 2) hv) (by omega)))) ?_
      rw [foldl_take _ _ hq]
      show _ = Out.nx _ [(l, ckM D.int (evenStep r _ q))]
      unfold evenStep
      rw [if_pos hh]
      rfl
    · have hh := of_decide_eq_false hh
      refine sv_is sv_nil ?_
      rw [foldl_take _ _ hq]
      show _ = Out.nx _ [(l, ckM D.int (evenStep r _ q))]
      rw [show evenStep r ((r.take i).foldl (evenStep r) []) q = (r.take i).foldl (evenStep r) [] by unfold evenStep; rw [if_neg hh]]
      rfl
  · refine sv_fzA 1 rfl .here (sv_one (s_ret (Ev.is (ev_var 1) ?_)))
    rw [evenM_eq, List.take_length]
    rfl

/-! settled -/
def RSettled (ds : List D) (d : D) : Prop := ∃ first known shape n g, ds = [sumD first, dtM sumD known, sh shape] ∧ settleR known shape n first = some g ∧ d = sumD g
abbrev nSettled : List Str := ["first", "known", "shape", "found", "some", "less", "other", "power"]
theorem scSettled : FnScope nSettled ["first", "known", "shape"] (defScope (top 47)) := ⟨rfl, rfl, rfl, by decide +kernel, rfl, by decide +kernel, by decide +kernel⟩
theorem step_spec {known : List (List Int × Summ)} {shape : List Int} {f g : Summ} (h : settleStep known shape f = some g) : ∃ r k, look f (maxS (someS shape f)) = some r ∧ look known (maxS (someS shape f)) = some k ∧ RowOk r ∧ twoR f k (negM (evenM r)) = some g := by
  unfold settleStep at h
  split at h
  · obtain ⟨r, hr, h⟩ := Option.bind_eq_some_iff.mp h
    obtain ⟨k, hk, h⟩ := Option.bind_eq_some_iff.mp h
    split at h
    · rename_i hh
      exact ⟨r, k, hr, hk, rowOk_of hh, h⟩
    · cases h
  · cases h
theorem c_settled (F : FnP K "settled" (top 47) f fd) (g : mg "settled" = some (.ref f)) (B : Bi mg) (G1 : Cal P w K mg base 1 "even_part" ["row"] (spR REven)) (G2 : Cal P w K mg base 3 "sum_of_two" ["one", "other", "row"] (spR RTwo)) : Cal P w K mg base 4 "settled" ["first", "known", "shape"] (spR RSettled) := by
  refine fn_R F g scSettled (fun ds d ⟨_, _, _, _, _, q, _⟩ => by rw [q]; rfl) (fun _ _ _ _ _ _ us hl => match us, hl with | [_, _, _], _ => rfl) fun cdv A outer s H E hr ds d h => ?_
  obtain ⟨first, known, shape, n, gg, rfl, h, rfl⟩ := h
  have hN := scSettled.nd
  obtain ⟨k, S, h0, hk, hst, hend, hne⟩ := settle_spec h
  have hsome : ∀ i, i ≤ k → S1 (cx0 P w K mg base nSettled "settled" (defScope (top 47)) f cdv A outer s H E) [some (sumD first), some (dtM sumD known), some (sh shape), some (sumD (S i)), none, none, none, none] [] ((match (defBody (top 47)).getD 1 (.Pass ⟨0, 0, 0, 0⟩) with | .While _ b _ _ => b | _ => []).getD 0 (.Pass ⟨0, 0, 0, 0⟩))
      (.nx [some (sumD first), some (dtM sumD known), some (sh shape), some (sumD (S i)), some (.lst ((someS shape (S i)).map sh)), none, none, none] []) := fun i hi => by
    have hall := List.all_eq_true.mp (hne i hi)
    refine s1_is (s_lcF1 4 nSettled (defScope (top 47)) 6 (xs := S i) (fun q => sh q.1) (fun q => !decide (q.1 = shape) && decide (minI ((sget (S i) q.1).map (·.1)) ≤ 0)) (fun q => sh q.1) rfl hN (ei_keysT (ev_var 3)) (fun q hq _ _ _ _ _ => ?_) (fun q hq _ _ _ _ _ _ => ev_var 6)) ?_
    · refine evt_w (evw_and (et_c (ec_neSh hr (ev_var 6) (ev_var 2))) fun _ => evw_and1 (et_c (ec_le (ev_minK hr rfl B (ev_dgetT hr (ed_frzT (ev_var 3)) (ev_var 6) (look_sgetS hq)) ?_) ev_int)))
      have := hall q hq
      intro z
      rw [z] at this
      cases this
    · unfold someS
      rw [List.map_map]
      rfl
  refine sv_cons (s_set 3 hN (Ev.is (ev_var 0) (by rw [h0]))) (sv_one (s_whileR (n := k) (S := fun i => [some (sumD first), some (dtM sumD known), some (sh shape), some (sumD (S i)), none, none, none, none]) (M := fun _ => []) PassesOwn.never (fun i hi => evt_val ev_bl) (fun i hi => ?_) ?_))
  · obtain ⟨hn0, hs⟩ := hst i hi
    obtain ⟨r, kn, e1, e2, rok, e3⟩ := step_spec hs
    have hne0 : (someS shape (S i)).isEmpty = false := by cases q : someS shape (S i) with | nil => exact absurd q hn0 | cons _ _ => rfl
    refine sv_fg (sv_cons (hsome i (by omega)) (sv_cons (s_ifF (EvT.is (et_c (ec_eqNilL hr (ev_var 4) (ev_lst ea_nil) (shp_shs _))) (by rw [List.isEmpty_map]; exact hne0)) sv_nil) (sv_cons (s_set 5 hN (ev_call G1 (hr.mono (by decide)) (ea_cons (ev_dgetT hr (ed_frzT (ev_var 3)) (ev_maxS hr rfl B (ev_var 4) hn0) e1) ea_nil) ⟨r, rfl, rok.len, rfl⟩)) (sv_one (s_set 3 hN (d := sumD (S (i + 1))) (ev_call G2 hr
      (ea_cons (ev_var 3) (ea_cons (ev_dgetT hr (ed_frzT (ev_var 1)) (ev_maxS hr rfl B (ev_var 4) hn0) e2) (ea_cons (ev_dictPK (m := (evenM r).map fun q => (q.1, 0 - rget (evenM r) q.1)) (enc := D.int) rfl B (Ev.is (ev_lcM1 nSettled (defScope (top 47)) 7 (xs := evenM r) (fun q => D.int q.1) (fun q => .tup [.int q.1, .int (0 - rget (evenM r) q.1)]) rfl hN (ei_keysK (ev_var 5)) (fun q hq _ _ _ _ _ => ?_)) ?_)) ea_nil))) ⟨S i, kn, _, S (i + 1), rfl, e3, rfl⟩))))))
    · exact ev_tup (ea_cons (ev_var 7) (ea_cons (ev_sub ev_int (ev_dgetK hr (ed_frzK (ev_var 5)) (ev_var 7) (look_rget hq))) ea_nil))
    · rw [List.map_map]; rfl
  · refine sv_cons (hsome k (Nat.le_refl _)) (sv_rt (s_ifT (EvT.is (et_c (ec_eqNilL hr (ev_var 4) (ev_lst ea_nil) (shp_shs _))) (by rw [List.isEmpty_map, hend]; rfl)) (sv_one (s_ret (Ev.is (ev_var 3) (by rw [hk]))))))
end
end Bx
end

-- part BxS
section
set_option Elab.async false
set_option linter.all false
set_option maxRecDepth 100000
set_option maxHeartbeats 1000000
/-! Boxparts, part S: setdefault(k, []).append(e); len of an own list. -/
namespace Bx
open PySem PySem.Spec PyProof.Rows L2
section
variable {X : Cx} {δ δ1 : De} {μ μ1 : Mem} {rest sts : List Stmt} {o : Out} {e a b c f i ob kx ex : Expr} {es : List Expr} {p pos : Pos} {d : D} {k0 : Nat}
theorem ev_lenA {l : Addr} {ds : List D} (B : Bi X.mg) (ha : Ev X δ μ e (.adr l)) (hl : (l, C.lst ds) ∈ μ) (hg : Gl X "len" := by rfl) (he : starEach [e] X.env = (false, eval e X.env) :: starEach [] X.env := by rfl) (hpl : (backTo pos (starEach [] X.env)).any (·.1) = false := by rfl) :
    Ev X δ μ (.Call (.Name "len" p) [e] [] pos) (.int (ds.length : Int)) :=
  ev_pe (pe_callB call_len_seq hg B.len PySem.boot_len (pa_cons (pe_tw X e) pa_nil he) (by decide) (by decide) he hpl) fun σ H Q c q => ha σ H _ c fun v H1 e1 r1 => by
    obtain rfl : v = V.ref l := r1
    obtain ⟨vs, hv, hr⟩ := (c.ex e1).cel _ hl
    exact ⟨l, vs, rfl, .inl (.inl (.inl hv)), q _ H1 e1 (by rw [hr.len]; rfl)⟩
theorem s_setd {P : De → Mem → Prop} {l : Addr} {m : List (Int × Addr)} {k : Int} {ap1 ap2 cp1 cp2 pl : Pos} (hr : Room k0 X.A) (ha : Ev X δ μ ob (.adr l)) (hl : (l, ckM D.adr m) ∈ μ) (hk : Ev X δ μ kx (.int k)) (he : ∀ μ, Ev X δ μ ex d) (hz : m.length < 100000)
    (h1 : ∀ l', look m k = some l' → ∃ ds μ', Mup μ l' (.lst ds) (.lst (ds ++ [d])) μ' ∧ ds.length < 100000 ∧ P δ μ') (h2 : look m k = none → ∀ l', ∃ μ1, Mup μ l (ckM D.adr m) (ckM D.adr (put m k l')) μ1 ∧ P δ ((l', .lst [d]) :: μ1))
    (hpe : ∀ (to te tk : TE), PE X ob to → PE X kx tk → PE X ex te → PE X (.Call (.Attribute (.Call (.Attribute ob "setdefault" ap1) [kx, .List [] pl] [] cp1) "append" ap2) [ex] [] cp2) (tBM X.K "list" rAppend (tDSetd to tk (tLst tNil)) (tCons te tNil)))
    (hs : swapsWith (.Call (.Attribute (.Call (.Attribute ob "setdefault" ap1) [kx, .List [] pl] [] cp1) "append" ap2) [ex] [] cp2) none pos.line X.env = pure false := by rfl) :
    S1 X δ μ (.Expr (.Call (.Attribute (.Call (.Attribute ob "setdefault" ap1) [kx, .List [] pl] [] cp1) "append" ap2) [ex] [] cp2) pos) (.nxs P) :=
  s1_ps (ps_expr (hpe _ _ _ (pe_tw X ob) (pe_tw X kx) (pe_tw X ex)) hs) fun σ H D c q => ha σ H _ c fun u H1 e1 r1 => by
    obtain rfl : u = V.ref l := r1
    obtain ⟨kvs0, hv0, _⟩ := (c.ex e1).cel _ hl
    refine ⟨l, rfl, .inl ⟨kvs0, .inl hv0⟩, hk σ H1 _ (c.ex e1) fun y H2 e2 r2 => ⟨by decide, fun pp hp => ?_⟩⟩
    obtain rfl : y = V.int k := r2
    have c3 := ((c.ex e1).ex e2).ex (Ex.new (o := .lst []) hp)
    have x3 : Xs μ H μ (upd H2 pp (.lst [])) := (Xs.of (e1.trans e2)).trans (.of (Ex.new hp))
    obtain ⟨kvs, hv, hv2, hv3⟩ := c3.cel _ hl
    have hv : upd H2 pp (.lst []) l = some (.dK kvs) := hv
    have km : KM (upd H2 pp (.lst [])) Sum.inl Bx.D.adr m kvs := KM.of hv2 hv3
    refine ⟨kvs, .inl k, hv, rfl, by rw [km.len]; exact Nat.lt_of_lt_of_le hz (by decide), fun v hvv => ?_, fun hvn => ?_⟩
    · rcases km.val inl_inj k with ⟨_, z⟩ | ⟨l', v', z1, z2, z3⟩
      · rw [hvv] at z; cases z
      · rw [hvv] at z2; cases z2
        obtain rfl : v = V.ref l' := z3
        obtain ⟨ds, μ', hm, hlen, hP⟩ := h1 l' z1
        obtain ⟨vs0, hq0, _⟩ := c3.cel _ hm.mem
        refine ⟨.inl ⟨rfl, vs0, SqL.of hq0⟩, he μ σ _ _ c3 fun w H4 e4 r4 => ?_⟩
        obtain ⟨vs, hq, hrr⟩ := (c3.ex e4).cel _ hm.mem
        have hq : H4 l' = some (.lst vs) := hq
        refine ⟨l', vs, w, rfl, rfl, hq, by rw [hrr.len]; exact Nat.lt_of_lt_of_le hlen (by decide), ?_⟩
        have f2 : Fz H4 (upd H4 l' (.lst (vs ++ [w]))) := Fz.upd fun o ho => by rw [hq] at ho; cases ho; exact fun z => z
        obtain ⟨g, x, _⟩ := (c3.ex e4).mup (u := .lst (vs ++ [w])) hm ⟨_, upd_same, RepL.mono f2 _ _ (hrr.app (.cons r4 .nil))⟩
        exact q δ μ' σ _ hP g ((x3.trans (.of e4)).trans x)
    · rcases km.val inl_inj k with ⟨z, _⟩ | ⟨l', v', z1, z2, z3⟩
      · obtain ⟨μ1, hm, hP⟩ := h2 z pp
        have hne : pp ≠ l := fun z => by
          subst z
          rw [upd_same] at hv; cases hv
        have f3 : Fz (upd H2 pp (.lst [])) (upd (upd H2 pp (.lst [])) l (.dK (putK kvs (.inl k) (.ref pp)))) := Fz.upd fun o ho => by rw [hv] at ho; cases ho; exact fun z => z
        have km2 := (km.put inl_inj k (b := pp) (v := V.ref pp) (show Rep _ (Bx.D.adr pp) (V.ref pp) from rfl)).mono f3
        obtain ⟨g, x, _⟩ := c3.mup (u := .dK (putK kvs (.inl k) (.ref pp))) hm ⟨_, upd_same, km2.keys, km2.vals⟩
        have hpp : upd (upd H2 pp (.lst [])) l (.dK (putK kvs (.inl k) (.ref pp))) pp = some (.lst []) := by rw [upd_ne hne, upd_same]
        have g2 : Cfg δ ((pp, .lst []) :: μ1) σ (upd (upd H2 pp (.lst [])) l (.dK (putK kvs (.inl k) (.ref pp)))) := by
          refine ⟨g.len, g.env, fun z hz => ?_, List.nodup_cons.mpr ⟨fun z => ?_, g.nd⟩⟩
          · rcases List.mem_cons.mp hz with rfl | hz
            · exact ⟨[], hpp, rfl⟩
            · exact g.cel z hz
          · have hd : pp ∈ dm μ := by rw [← hm.dm]; exact z
            obtain ⟨y, hy, e⟩ := List.mem_map.mp hd
            obtain ⟨o, ho, _⟩ := (((c.ex e1).ex e2).cel y hy).some
            rw [e, hp] at ho; cases ho
        refine ⟨.inl ⟨rfl, [], SqL.of hpp⟩, he _ σ _ _ g2 fun w H4 e4 r4 => ?_⟩
        have hq : H4 pp = some (.lst []) := e4 _ _ hpp
        refine ⟨pp, [], w, rfl, rfl, hq, by decide, ?_⟩
        have f4 : Fz H4 (upd H4 pp (.lst ([] ++ [w]))) := Fz.upd fun o ho => by rw [hq] at ho; cases ho; exact fun z => z
        obtain ⟨g3, x4, _⟩ := (g2.ex e4).mup (u := .lst ([] ++ [w])) (c' := .lst [d]) .here ⟨_, upd_same, Rep.mono f4 _ _ r4 |> fun r => .cons r .nil⟩
        have hnone : H pp = none := (e1.trans e2).free hp
        refine q δ _ σ _ hP g3 ⟨fun a o ho hn => ?_, fun a ha => ?_⟩
        · have hal : a ≠ l := fun z => hn (by rw [z]; exact List.mem_map_of_mem (f := (·.1)) hl)
          have hap : a ≠ pp := fun z => by rw [z, hnone] at ho; cases ho
          rw [upd_ne hap]
          exact e4 _ _ (by rw [upd_ne hal, upd_ne hap]; exact e2 _ _ (e1 _ _ ho))
        · rcases List.mem_cons.mp ha with e | ha
          · exact .inr (by rw [e]; exact hnone)
          · exact .inl (by rw [← hm.dm]; exact ha)
      · rw [hvn] at z2; cases z2
end
end Bx
end

-- part BxE8
section
set_option Elab.async false
set_option linter.all false
set_option maxRecDepth 100000
set_option maxHeartbeats 1000000
/-! Boxparts: walks of ladders_of, list_of, sum_of. -/
namespace Bx
open PySem PySem.Spec PyProof.Rows L2
abbrev Lad := List (Int × Addr × List (Int × Int))
def ldA (m : Lad) : List (Int × Addr) := m.map fun q => (q.1, q.2.1)
def ldB (m : Lad) : List (Int × List (Int × Int)) := m.map fun q => (q.1, q.2.2)
def ldC (m : Lad) : Mem := m.map fun q => (q.2.1, C.lst (q.2.2.map bx))
def addA : Lad → Int → Int × Int → Lad
  | [], _, _ => []
  | q :: m, k, b => if q.1 = k then (q.1, q.2.1, q.2.2 ++ [b]) :: m else q :: addA m k b
theorem lad_old {k : Int} {l : Addr} {b : Int × Int} : ∀ {m : Lad}, look (ldA m) k = some l → ∃ bs, bs ∈ m.map (fun q => q.2.2) ∧ Mup (ldC m) l (.lst (bs.map bx)) (.lst (bs.map bx ++ [bx b])) (ldC (addA m k b)) ∧ ldA (addA m k b) = ldA m ∧ ldB (addA m k b) = addBox (ldB m) k b
  | [], h => nomatch h
  | q :: m, h => by
    have e0 : ldA (q :: m) = (q.1, q.2.1) :: ldA m := rfl
    have e1 : ldC (q :: m) = (q.2.1, C.lst (q.2.2.map bx)) :: ldC m := rfl
    have e2 : ldB (q :: m) = (q.1, q.2.2) :: ldB m := rfl
    by_cases e : q.1 = k
    · rw [e0, look_pos (q := (q.1, q.2.1)) e] at h
      have hl : q.2.1 = l := Option.some.inj h
      have ea : addA (q :: m) k b = (q.1, q.2.1, q.2.2 ++ [b]) :: m := by show (if q.1 = k then _ else _) = _; rw [if_pos e]
      refine ⟨q.2.2, by simp, ?_, ?_, ?_⟩
      · rw [ea, e1, ← hl]
        have e3 : ldC ((q.1, q.2.1, q.2.2 ++ [b]) :: m) = (q.2.1, C.lst (q.2.2.map bx ++ [bx b])) :: ldC m := by
          show (_, C.lst ((q.2.2 ++ [b]).map bx)) :: _ = _
          rw [List.map_append]; rfl
        rw [e3]
        exact .here
      · rw [ea]; rfl
      · rw [ea, e2]
        show (q.1, q.2.2 ++ [b]) :: ldB m = addBox ((q.1, q.2.2) :: ldB m) k b
        rw [addBox, if_pos e]
    · rw [e0, look_neg (q := (q.1, q.2.1)) e] at h
      obtain ⟨bs, h1, h2, h3, h4⟩ := lad_old (m := m) (b := b) h
      have ea : addA (q :: m) k b = q :: addA m k b := by show (if q.1 = k then _ else _) = _; rw [if_neg e]
      refine ⟨bs, by rw [List.map_cons]; exact List.mem_cons_of_mem _ h1, by rw [ea]; exact .there h2, ?_, ?_⟩
      · rw [ea]
        show (q.1, q.2.1) :: ldA (addA m k b) = (q.1, q.2.1) :: ldA m
        rw [h3]
      · rw [ea, e2]
        show (q.1, q.2.2) :: ldB (addA m k b) = addBox ((q.1, q.2.2) :: ldB m) k b
        rw [h4, addBox, if_neg e]
theorem lad_new {k : Int} {l : Addr} {b : Int × Int} : ∀ {m : Lad}, look (ldA m) k = none → put (ldA m) k l = ldA (m ++ [(k, l, [b])]) ∧ addBox (ldB m) k b = ldB (m ++ [(k, l, [b])]) := by
  intro m h
  have hno : ∀ q ∈ m, q.1 ≠ k := by
    intro q hq e
    obtain ⟨x, hx⟩ := look_key (m := ldA m) (k := k) (by unfold ldA; rw [List.map_map]; exact List.mem_map.mpr ⟨q, hq, e⟩)
    rw [h] at hx; cases hx
  constructor
  · unfold put
    rw [if_neg]
    · unfold ldA; rw [List.map_append]; rfl
    · intro z
      obtain ⟨q, hq, e⟩ := List.any_eq_true.mp z
      obtain ⟨q', hq', rfl⟩ := List.mem_map.mp hq
      exact hno q' hq' (of_decide_eq_true e)
  · clear h
    induction m with
    | nil => rfl
    | cons q m ih =>
      show addBox ((q.1, q.2.2) :: ldB m) k b = (q.1, q.2.2) :: ldB (m ++ [(k, l, [b])])
      rw [addBox, if_neg (hno q List.mem_cons_self), ih fun q hq => hno q (List.mem_cons_of_mem _ hq)]
theorem addBox_len {n : Nat} : ∀ {m : List (Int × List (Int × Int))} {k : Int} {b : Int × Int}, (∀ q ∈ m, q.2.length ≤ n) → (addBox m k b).length ≤ m.length + 1 ∧ ∀ q ∈ addBox m k b, q.2.length ≤ n + 1
  | [], k, b, _ => ⟨Nat.le_refl _, fun q hq => by
    obtain rfl := List.mem_singleton.mp hq
    show 1 ≤ n + 1
    omega⟩
  | q :: m, k, b, h => by
    unfold addBox
    split
    · refine ⟨Nat.le_succ _, fun z hz => ?_⟩
      rcases List.mem_cons.mp hz with rfl | hz
      · have := h q List.mem_cons_self
        rw [List.length_append]
        exact Nat.succ_le_succ this
      · have := h z (List.mem_cons_of_mem _ hz)
        omega
    · obtain ⟨i1, i2⟩ := addBox_len (m := m) (k := k) (b := b) fun z hz => h z (List.mem_cons_of_mem _ hz)
      refine ⟨by rw [List.length_cons, List.length_cons]; omega, fun z hz => ?_⟩
      rcases List.mem_cons.mp hz with rfl | hz
      · have := h z List.mem_cons_self
        omega
      · exact i2 z hz
def ladStep (e : Int) (acc : List (Int × List (Int × Int))) (p : Int × Int) : List (Int × List (Int × Int)) := addBox acc (p.1 + (e - 1) * p.2) p
theorem ladAcc_len (e : Int) : ∀ (xs : List (Int × Int)) (n : Nat) (acc : List (Int × List (Int × Int))), acc.length ≤ n → (∀ q ∈ acc, q.2.length ≤ n) → (xs.foldl (ladStep e) acc).length ≤ n + xs.length ∧ ∀ q ∈ xs.foldl (ladStep e) acc, q.2.length ≤ n + xs.length
  | [], n, acc, h1, h2 => ⟨h1, h2⟩
  | x :: xs, n, acc, h1, h2 => by
    obtain ⟨i1, i2⟩ := addBox_len (m := acc) (k := x.1 + (e - 1) * x.2) (b := x) h2
    have := ladAcc_len e xs (n + 1) (ladStep e acc x) (by unfold ladStep; omega) i2
    rw [List.foldl_cons, List.length_cons]
    rw [show n + (xs.length + 1) = n + 1 + xs.length by omega]
    exact this
theorem addBox_ne {k : Int} {b : Int × Int} : ∀ {m : List (Int × List (Int × Int))}, (∀ q ∈ m, q.2 ≠ []) → ∀ q ∈ addBox m k b, q.2 ≠ []
  | [], _ => fun q hq => by
    obtain rfl := List.mem_singleton.mp hq
    exact List.cons_ne_nil _ _
  | q :: m, h => by
    unfold addBox
    split
    · intro z hz
      rcases List.mem_cons.mp hz with rfl | hz
      · simp
      · exact h z (List.mem_cons_of_mem _ hz)
    · intro z hz
      rcases List.mem_cons.mp hz with rfl | hz
      · exact h z List.mem_cons_self
      · exact addBox_ne (fun y hy => h y (List.mem_cons_of_mem _ hy)) z hz
theorem ladAcc_ne (e : Int) : ∀ (xs : List (Int × Int)) (acc : List (Int × List (Int × Int))), (∀ q ∈ acc, q.2 ≠ []) → ∀ q ∈ xs.foldl (ladStep e) acc, q.2 ≠ []
  | [], _, h => h
  | x :: xs, acc, h => ladAcc_ne e xs (ladStep e acc x) (addBox_ne h)
section
variable {P : Program} {w : World} {K : PySem.W.Frag} {mg : Str → Option Value} {base : Heap} {f : Addr} {fd : FuncData}
def RLad (ds : List D) (d : D) : Prop := ∃ e s, ds = [.int e, sh s] ∧ Sm s ∧ 1 ≤ e ∧ e ≤ 1000 ∧ (ladAcc e (boxes s)).length < 64 ∧ d = .tup ((ladders e s).map cl)
abbrev nLad : List Str := ["e", "shape", "found", "row", "column", "k"]
theorem scLad : FnScope nLad ["e", "shape"] (defScope (top 44)) := ⟨rfl, rfl, rfl, by decide +kernel, rfl, by decide +kernel, by decide +kernel⟩
theorem look_ldA {m : Lad} {k : Int} (h : k ∈ m.map (·.1)) : ∃ l bs, look (ldA m) k = some l ∧ look (ldB m) k = some bs ∧ (l, C.lst (bs.map bx)) ∈ ldC m := by
  induction m with
  | nil => cases h
  | cons q m ih =>
    have e0 : ldA (q :: m) = (q.1, q.2.1) :: ldA m := rfl
    have e1 : ldC (q :: m) = (q.2.1, C.lst (q.2.2.map bx)) :: ldC m := rfl
    have e2 : ldB (q :: m) = (q.1, q.2.2) :: ldB m := rfl
    by_cases e : q.1 = k
    · exact ⟨q.2.1, q.2.2, by rw [e0, look_pos (q := (q.1, q.2.1)) e], by rw [e2, look_pos (q := (q.1, q.2.2)) e], by rw [e1]; exact List.mem_cons_self⟩
    · rcases List.mem_cons.mp h with z | h
      · exact absurd z.symm e
      · obtain ⟨l, bs, a, b, c⟩ := ih h
        exact ⟨l, bs, by rw [e0, look_neg (q := (q.1, q.2.1)) e]; exact a, by rw [e2, look_neg (q := (q.1, q.2.2)) e]; exact b, by rw [e1]; exact List.mem_cons_of_mem _ c⟩
theorem c_lad (F : FnP K "ladders_of" (top 44) f fd) (g : mg "ladders_of" = some (.ref f)) (B : Bi mg) (G1 : Cal P w K mg base 1 "boxes_of" ["shape"] (spR RBoxes)) (G2 : Cal P w K mg base 1 "colour_of" ["e", "box"] (spR RColour)) : Cal P w K mg base 2 "ladders_of" ["e", "shape"] (spR RLad) := by
  refine fn_R F g scLad (fun ds d ⟨_, _, q, _⟩ => by rw [q]; rfl) (fun _ _ _ _ _ _ us hl => match us, hl with | [_, _], _ => rfl) fun cdv A outer s H E hr ds d h => ?_
  obtain ⟨e, s, rfl, hs, he, he2, hz, rfl⟩ := h
  have hN := scLad.nd
  have hbl := boxes_len hs
  refine sv_setK (m := ([] : List (Int × Addr))) (enc := D.adr) 2 hN pe_dnewK (fun _ _ _ => new_nilK) fun fa => ?_
  refine sv_exs (s_forE (xs := boxes s) (enc := bx) (P := fun i δ μ => ∃ (m : Lad) (x y : Option D), δ = [some (.int e), some (sh s), some (.adr fa), x, y, none] ∧ ldB m = ((boxes s).take i).foldl (ladStep e) [] ∧ μ.Perm ((fa, ckM D.adr (ldA m)) :: ldC m)) PassesOwn.never rfl (ei_list (ev_call G1 hr (ea_cons (ev_var 1) ea_nil) ⟨s, rfl, hs, rfl⟩)) ⟨[], none, none, rfl, rfl, .refl _⟩ (pg_two (i := 3) (j := 4) rfl hN) (fun p _ => tg_two K 3 4 (.int p.1) (.int p.2)) fun i p δ' μ' hp hP => ?_) fun δ1 μ1 hP => ?_
  · obtain ⟨m, x, y, rfl, hm, pm⟩ := hP
    have hle := ladAcc_len e ((boxes s).take i) 0 [] (Nat.le_refl _) (fun _ h => nomatch h)
    rw [← hm, List.length_take] at hle
    have hml : m.length ≤ 10000 := by
      have : (ldB m).length = m.length := List.length_map _
      omega
    refine sv_pm pm (sv_one (s_setd (m := ldA m) (k := p.1 + (e - 1) * p.2) (d := bx p) hr (ev_var 2) List.mem_cons_self (ev_add (ev_var 3) (ev_mul (ev_sub (ev_var 0) ev_int) (ev_var 4) (.inl ⟨by omega, by omega⟩))) (fun _ => ev_tup (ea_cons (ev_var 3) (ea_cons (ev_var 4) ea_nil))) (by unfold ldA; rw [List.length_map]; omega) (fun l' hl => ?_) (fun hn l' => ?_)
      fun to te tk ho hk hx => pe_bm PySem.F.plainAttrs_list PySem.F.slot_list_append PySem.F.type_list_append mt_append (pe_dsetd ho hk (pe_lst pa_nil) ⟨rfl, rfl, rfl, rfl⟩) (pa_cons hx pa_nil)))
    · obtain ⟨bs, b1, b2, b3, b4⟩ := lad_old (b := p) hl
      refine ⟨bs.map bx, (fa, ckM D.adr (ldA m)) :: ldC (addA m (p.1 + (e - 1) * p.2) p), .there b2, ?_, addA m (p.1 + (e - 1) * p.2) p, some (.int p.1), some (.int p.2), rfl, ?_, ?_⟩
      · rw [List.length_map]
        obtain ⟨q, hq, rfl⟩ := List.mem_map.mp b1
        have := hle.2 (q.1, q.2.2) (List.mem_map.mpr ⟨q, hq, rfl⟩)
        show q.2.2.length < 100000
        have h9 : q.2.2.length ≤ 0 + min i (boxes s).length := this
        omega
      · rw [foldl_take _ _ hp, b4, hm]; rfl
      · rw [b3]
    · obtain ⟨b1, b2⟩ := lad_new (l := l') (b := p) hn
      refine ⟨(fa, ckM D.adr (ldA (m ++ [(p.1 + (e - 1) * p.2, l', [p])]))) :: ldC m, by rw [b1]; exact .here, m ++ [(p.1 + (e - 1) * p.2, l', [p])], some (.int p.1), some (.int p.2), rfl, ?_, ?_⟩
      · rw [foldl_take _ _ hp, ← b2, hm]; rfl
      · have e7 : ldC (m ++ [(p.1 + (e - 1) * p.2, l', [p])]) = ldC m ++ [(l', C.lst [bx p])] := by unfold ldC; rw [List.map_append]; rfl
        rw [e7]
        refine (List.Perm.swap _ _ _).trans (.cons _ ?_)
        exact (List.perm_append_comm (l₁ := [(l', C.lst [bx p])]) (l₂ := ldC m))
  · obtain ⟨m, x, y, rfl, hm, pm⟩ := hP
    rw [List.take_length] at hm
    have hacc : ladAcc e (boxes s) = ldB m := hm.symm
    have hkeys : (ldA m).map (·.1) = (ldB m).map (·.1) := by unfold ldA ldB; rw [List.map_map, List.map_map]; rfl
    refine sv_pm pm (sv_one (s_ret (ev_tupleOf B (Ev.is (ev_lcM1 nLad (defScope (top 44)) 5 (xs := sortI ((ldA m).map (·.1))) D.int (fun k => cl (colour e (((look (ldB m) k).getD []).getD 0 (0, 0)), ((((look (ldB m) k).getD []).length : Nat) : Int))) rfl hN (ei_list (ev_sortedK rfl B (ed_ownK (ev_var 2) List.mem_cons_self) ?_)) (fun k hk _ _ _ _ _ => ?_)) ?_))))
    · have : (ldA m).length = (ldB m).length := by unfold ldA ldB; rw [List.length_map, List.length_map]
      rw [this, ← hacc]; exact hz
    · obtain ⟨l, bs, h1, h2, h3⟩ := look_ldA (m := m) (k := k) (by
        have := sortI_mem.mp hk
        unfold ldA at this
        rw [List.map_map] at this
        exact this)
      rw [h2]
      have hne : bs ≠ [] := by
        obtain ⟨q, hq, _, rfl⟩ := look_in h2
        exact ladAcc_ne e (boxes s) [] (fun _ h => nomatch h) q (by rw [← hm] at *; exact hq)
      have h3' : (l, C.lst (bs.map bx)) ∈ (fa, ckM D.adr (ldA m)) :: ldC m := List.mem_cons_of_mem _ h3
      have hg0 : atI (bs.map bx) 0 = some (bx (bs.getD 0 (0, 0))) := by
        cases bs with
        | nil => exact absurd rfl hne
        | cons b0 bs => exact atI_nat (j := 0) rfl
      refine ev_tup (ea_cons (ev_call G2 hr (ea_cons (ev_var 0) (ea_cons (ev_ixA (ev_dgetK (enc := D.adr) hr (ed_ownK (ev_var 2) List.mem_cons_self) (ev_var 5) h1) h3' ev_int hg0) ea_nil)) ⟨e, _, rfl, he, rfl⟩) (ea_cons (Ev.is (ev_lenA B (ev_dgetK (enc := D.adr) hr (ed_ownK (ev_var 2) List.mem_cons_self) (ev_var 5) h1) h3') (by rw [List.length_map]; rfl)) ea_nil))
    · unfold ladders
      rw [hacc, hkeys, List.map_map]
      rfl
end
end Bx
end

-- part BxE9
section
set_option Elab.async false
set_option linter.all false
set_option maxRecDepth 100000
set_option maxHeartbeats 1000000
/-! Boxparts: walks of list_of, sum_of. -/
namespace Bx
open PySem PySem.Spec PyProof.Rows L2
section
variable {P : Program} {w : World} {K : PySem.W.Frag} {mg : Str → Option Value} {base : Heap} {f : Addr} {fd : FuncData}
/-- one shape more; none where a check fails -/
def ladOk (e : Int) (s : List Int) : Bool := decide ((ladAcc e (boxes s)).length < 64)
def listStep2 (e : Int) (acc : List (List Int × Summ)) (s : List Int) : Option (List (List Int × Summ)) :=
  if ladOk e s || !isFree e s then listStep e acc s else none
def listR2 (e n : Int) : Option (List (List Int × Summ)) := (shRun n).bind fun st => if sortOkB st.1 && decide (1 ≤ e) && decide (e ≤ 1000) then (sortS st.1).foldlM (listStep2 e) [] else none
def sumR2 (e : Int) (s : List Int) : Option Summ := (listR2 e s.sum).bind fun m => look m s
theorem listStep2_spec {e : Int} {acc c : List (List Int × Summ)} {s : List Int} (h : listStep2 e acc s = some c) : Sm s ∧ acc.length < 1000 ∧ ((isFree e s = false ∧ c = acc) ∨ (isFree e s = true ∧ (ladAcc e (boxes s)).length < 64 ∧ ∃ co g, courseR e (ladders e s) = some co ∧ settleR acc s 200 co = some g ∧ g ≠ [] ∧ c = put acc s g)) := by
  unfold listStep2 at h
  split at h
  · rename_i hl
    unfold listStep at h
    split at h
    · rename_i hs
      have hs := Bool.and_eq_true_iff.mp hs
      refine ⟨sm_of hs.1, of_decide_eq_true hs.2, ?_⟩
      split at h
      · rename_i hf
        refine .inr ⟨hf, ?_, ?_⟩
        · rw [hf] at hl
          have hl : (ladOk e s || false) = true := hl
          rw [Bool.or_false] at hl
          exact of_decide_eq_true hl
        · obtain ⟨co, h1, h⟩ := Option.bind_eq_some_iff.mp h
          obtain ⟨g, h2, h⟩ := Option.bind_eq_some_iff.mp h
          split at h
          · cases h
          · rename_i hg
            exact ⟨co, g, h1, h2, by simpa using hg, (Option.some.inj h).symm⟩
      · rename_i hf
        exact .inl ⟨by simpa using hf, (Option.some.inj h).symm⟩
    · cases h
  · cases h
def RListOf (ds : List D) (d : D) : Prop := ∃ e n r, ds = [.int e, .int n] ∧ listR2 e n = some r ∧ d = dtM sumD r
abbrev nListOf : List Str := ["e", "boxes", "found", "shape"]
theorem scListOf : FnScope nListOf ["e", "boxes"] (defScope (top 48)) := ⟨rfl, rfl, rfl, by decide +kernel, rfl, by decide +kernel, by decide +kernel⟩
theorem c_listOf (F : FnP K "list_of" (top 48) f fd) (g : mg "list_of" = some (.ref f)) (B : Bi mg) (G1 : Cal P w K mg base 1 "shapes_of" ["boxes"] (spR RShapes)) (G2 : Cal P w K mg base 1 "is_free_of" ["e", "shape"] (spR RFree)) (G3 : Cal P w K mg base 4 "settled" ["first", "known", "shape"] (spR RSettled))
    (G4 : Cal P w K mg base 5 "course_of" ["e", "course"] (spR RCourse)) (G5 : Cal P w K mg base 2 "ladders_of" ["e", "shape"] (spR RLad)) : Cal P w K mg base 6 "list_of" ["e", "boxes"] (spR RListOf) := by
  refine fn_R F g scListOf (fun ds d ⟨_, _, _, q, _⟩ => by rw [q]; rfl) (fun _ _ _ _ _ _ us hl => match us, hl with | [_, _], _ => rfl) fun cdv A outer s H E hr ds d h => ?_
  obtain ⟨e, n, r, rfl, h, rfl⟩ := h
  have hN := scListOf.nd
  unfold listR2 at h
  obtain ⟨st, hst, h⟩ := Option.bind_eq_some_iff.mp h
  split at h
  · rename_i hh
    simp only [Bool.and_eq_true, decide_eq_true_eq] at hh
    obtain ⟨⟨hs1, he⟩, he2⟩ := hh
    obtain ⟨S, h0, hn, hstep⟩ := foldM_spec h
    refine sv_setT (m := ([] : List (List Int × Summ))) (enc := sumD) 2 hN pe_dnewT (fun _ _ _ => new_nilT) fun l => ?_
    rw [← h0]
    refine sv_cons (s_for (xs := sortS st.1) (enc := sh) (S := fun _ => [some (.int e), some (.int n), some (.adr l), none]) (M := fun i => [(l, ctM sumD (S i))]) PassesOwn.never rfl (ei_list (ev_call G1 (hr.mono (by decide)) (ea_cons (ev_var 1) ea_nil) ⟨n, st, rfl, hst, sortOk_of hs1, rfl⟩)) (pg_name (i := 3) hN rfl (Or.inl rfl)) (fun _ _ => tg_name 3 _) fun i x hx => ?_) ?_
    · obtain ⟨sm, hl, hc⟩ := listStep2_spec (hstep i x hx)
      refine sv_fg (δ1 := [some (.int e), some (.int n), some (.adr l), some (sh x)]) (sv_one (s_if (evt_val (ev_call G2 (hr.mono (by decide)) (ea_cons (ev_var 0) (ea_cons (ev_var 3) ea_nil)) ⟨e, x, rfl, sm, he, he2, rfl⟩)) (fun hh => ?_) (fun hh => ?_)))
      · rcases hc with ⟨z, _⟩ | ⟨_, hlad, co, gg, c1, c2, c3, c4⟩
        · rw [hh] at z; cases z
        · rw [c4]
          refine sv_one (s_putT (y := gg) hr (ev_var 2) .here (ev_var 3) (ev_lock 2 rfl .here c3 (ev_call G3 (hr.mono (by decide)) (ea_cons (ev_call G4 hr (ea_cons (ev_var 0) (ea_cons (ev_call G5 (hr.mono (by decide)) (ea_cons (ev_var 0) (ea_cons (ev_var 3) ea_nil)) ⟨e, x, rfl, sm, he, he2, hlad, rfl⟩) ea_nil)) ⟨e, _, co, rfl, c1, rfl⟩) (ea_cons (ev_var 2) (ea_cons (ev_var 3) ea_nil))) ⟨co, S i, x, 200, gg, rfl, c2, rfl⟩)) (by omega))
      · rcases hc with ⟨_, c4⟩ | ⟨z, _⟩
        · rw [c4]; exact sv_nil
        · rw [hh] at z; cases z
    · refine sv_fzA 2 rfl .here (sv_one (s_ret (Ev.is (ev_var 2) ?_)))
      rw [hn]
      rfl
  · cases h

/-! sum_of -/
def RSumOf (ds : List D) (d : D) : Prop := ∃ e s r, ds = [.int e, sh s] ∧ sumR2 e s = some r ∧ d = sumD r
abbrev nSumOf : List Str := ["e", "shape"]
theorem scSumOf : FnScope nSumOf ["e", "shape"] (defScope (top 49)) := ⟨rfl, rfl, rfl, by decide +kernel, rfl, by decide +kernel, by decide +kernel⟩
theorem c_sumOf (F : FnP K "sum_of" (top 49) f fd) (g : mg "sum_of" = some (.ref f)) (B : Bi mg) (G1 : Cal P w K mg base 6 "list_of" ["e", "boxes"] (spR RListOf)) : Cal P w K mg base 7 "sum_of" ["e", "shape"] (spR RSumOf) := by
  refine fn_R F g scSumOf (fun ds d ⟨_, _, _, q, _⟩ => by rw [q]; rfl) (fun _ _ _ _ _ _ us hl => match us, hl with | [_, _], _ => rfl) fun cdv A outer s H E hr ds d h => ?_
  obtain ⟨e, s, r, rfl, h, rfl⟩ := h
  unfold sumR2 at h
  obtain ⟨m, h1, h2⟩ := Option.bind_eq_some_iff.mp h
  exact sv_one (s_ret (ev_dgetT (enc := sumD) hr (ed_frzT (ev_call G1 hr (ea_cons (ev_var 0) (ea_cons (ev_sumT rfl B (ev_var 1)) ea_nil)) ⟨e, s.sum, m, rfl, h1, rfl⟩)) (ev_var 1) h2))
end
end Bx
end

-- part BxT
section
set_option Elab.async false
set_option linter.all false
set_option maxRecDepth 100000
set_option maxHeartbeats 1000000
/-! Boxparts: words and walks for the law's own plain defs, first part. -/
namespace Bx
open PySem PySem.Spec PyProof.Rows L2
section
variable {X : Cx} {δ δ1 : De} {μ μ1 : Mem} {rest sts : List Stmt} {o : Out} {e a b c f i ob kx ex : Expr} {es : List Expr} {p pos : Pos} {d : D} {k0 : Nat}
theorem ev_sortI {ns : List Int} (B : Bi X.mg) (ha : Ev X δ μ e (li ns)) (h64 : ns.length < 64) (hg : Gl X "sorted" := by rfl) (he : starEach [e] X.env = (false, eval e X.env) :: starEach [] X.env := by rfl) (hpl : (backTo pos (starEach [] X.env)).any (·.1) = false := by rfl) :
    Ev X δ μ (.Call (.Name "sorted" p) [e] [] pos) (li (sortI ns)) :=
  ev_newL (pe_callB cr_sorted hg B.sorted boot_sorted (pa_tw X [e]) (by decide) (by decide) he hpl) fun σ H c Q q => ea_cons ha ea_nil he σ H _ c fun vs H1 e1 r1 => by
    obtain ⟨v, rfl, a, o, ws, rfl, ha, hs⟩ := r1.one
    rw [RepL.ints hs] at ha
    refine ⟨a, ns, rfl, .inl (.inr ⟨o, ha⟩), h64, fun ys p hy hs hp => ?_⟩
    rw [srt_uniq (hy.trans (sortI_perm _).symm) hs (sortI_srt _)]
    exact q p _ _ (e1.free hp) (e1.trans (Ex.new hp)) upd_same (RepL.ofInts _)
end
def lbeads (s : List Int) : List Int := (List.range s.length).map fun (k : Nat) => gt s k + s.length - 1 - k
def ofBeads (bs : List Int) : List Int := ((List.range bs.length).map fun (k : Nat) => gt (sortI bs).reverse k - (((bs.length : Int) - 1) - k)).filter fun x => decide (0 < x)
section
variable {P : Program} {w : World} {K : PySem.W.Frag} {mg : Str → Option Value} {base : Heap} {f : Addr} {fd : FuncData}
/-! _law_put, _law_open -/
def lput (s : List Int) (p : Int × Int) : List Int := s.take p.1.toNat ++ (p.2 + 1) :: s.drop (p.1.toNat + 1)
theorem cut_from' {α : Type} {xs : List α} {j : Int} (h0 : 0 ≤ j) : cutD xs (some j) none = xs.drop j.toNat := by
  by_cases h : j ≤ xs.length
  · exact cut_from h0 h
  · have e : j = ((j.toNat : Nat) : Int) := by omega
    unfold cutD
    rw [HT.sIx_none, e, HT.sIx_nat, Nat.min_eq_right (by omega), Nat.sub_self, List.take_zero, Int.toNat_natCast, List.drop_eq_nil_of_le (by omega)]
def RLput (ds : List D) (d : D) : Prop := ∃ s p, ds = [sh s, bx p] ∧ Sm s ∧ 0 ≤ p.1 ∧ p.1 ≤ s.length ∧ d = sh (lput s p)
abbrev nLput : List Str := ["_law_shape_here", "_law_box_here", "_law_row"]
theorem scLput : FnScope nLput ["_law_shape_here", "_law_box_here"] (defScope (top 69)) := ⟨rfl, rfl, rfl, by decide +kernel, rfl, by decide +kernel, by decide +kernel⟩
theorem c_lput (F : FnP K "_law_put" (top 69) f fd) (g : mg "_law_put" = some (.ref f)) (B : Bi mg) : Cal P w K mg base 1 "_law_put" ["_law_shape_here", "_law_box_here"] (spR RLput) := by
  refine fn_R F g scLput (fun ds d ⟨s, p, q, _⟩ => by rw [q]; rfl) (fun _ _ _ _ _ _ us hl => match us, hl with | [_, _], _ => rfl) fun cdv A outer s H E hr ds d h => ?_
  obtain ⟨s, p, rfl, hs, h0, h1, rfl⟩ := h
  have hN := scLput.nd
  have hl := hs.len
  refine sv_cons (s_set 2 hN (d := .int p.1) (ev_ixT (ev_var 1) ev_int (by rfl))) (sv_one (s_ret (Ev.is (ev_catT (ev_catT (ev_slT (ev_var 0) (i := none) (j := some p.1) eo_none (eo_some (ev_var 2))) (ev_tup (ea_cons (ev_add (ev_ixT (ev_var 1) ev_int (by rfl)) ev_int) ea_nil)) ?_) (ev_slT (ev_var 0) (i := some (p.1 + 1)) (j := none) (eo_some (ev_add (ev_var 2) ev_int)) eo_none) ?_) ?_)))
  · rw [cut_to h0 (by rw [List.length_map]; omega)]
    simp
    omega
  · rw [cut_to h0 (by rw [List.length_map]; omega), cut_from' (by omega)]
    simp
    omega
  · rw [cut_to h0 (by rw [List.length_map]; omega), cut_from' (by omega)]
    unfold lput sh
    rw [List.map_append, List.map_cons, List.map_take, List.map_drop, show (p.1 + 1).toNat = p.1.toNat + 1 by omega, List.append_assoc]
    rfl

/-! _law_beads -/
def RLbeads (ds : List D) (d : D) : Prop := ∃ s, ds = [sh s, .int s.length] ∧ Sm s ∧ d = li (lbeads s)
abbrev nLbeads : List Str := ["_law_shape_here", "_law_many", "_law_rows", "_law_k"]
theorem scLbeads : FnScope nLbeads ["_law_shape_here", "_law_many"] (defScope (top 70)) := ⟨rfl, rfl, rfl, by decide +kernel, rfl, by decide +kernel, by decide +kernel⟩
theorem c_lbeads (F : FnP K "_law_beads" (top 70) f fd) (g : mg "_law_beads" = some (.ref f)) (B : Bi mg) : Cal P w K mg base 1 "_law_beads" ["_law_shape_here", "_law_many"] (spR RLbeads) := by
  refine fn_R F g scLbeads (fun ds d ⟨s, q, _⟩ => by rw [q]; rfl) (fun _ _ _ _ _ _ us hl => match us, hl with | [_, _], _ => rfl) fun cdv A outer s H E hr ds d h => ?_
  obtain ⟨s, rfl, hs, rfl⟩ := h
  have hN := scLbeads.nd
  have hl := hs.len
  refine sv_cons (s_set 2 hN (d := li s) (Ev.is (ev_catL (ev_listOf B (ev_var 0)) (ev_repL (k := (s.length : Int) - s.length) (ev_lst (ea_cons ev_int ea_nil)) (Ev.is (ev_sub (ev_var 1) (ev_lenT B (ev_var 0))) (by rw [List.length_map])) (by omega) (by simp)) (by simp; omega)) (by simp))) ?_
  refine sv_one (s_ret (Ev.is (ev_lcM1 nLbeads (defScope (top 70)) 3 (xs := List.range s.length) (fun (i : Nat) => D.int (i : Int)) (fun (k : Nat) => D.int (gt s k + s.length - 1 - k)) rfl hN ?_ (fun k hk _ _ _ _ _ => ?_)) ?_))
  · exact EvI.is (ei_range0 B (ev_var 1) (by omega) (by omega)) (by rw [Int.toNat_natCast])
  · rw [List.mem_range] at hk
    exact ev_sub (ev_sub (ev_add (ev_ixL (ev_var 2) (ev_var 3) (atI_gt (f := D.int) (by omega) (by omega))) (ev_var 1)) ev_int) (ev_var 3)
  · unfold lbeads li
    rw [List.map_map]
    rfl

/-! _law_of_beads -/
def ROfBeads (ds : List D) (d : D) : Prop := ∃ bs, ds = [li bs] ∧ bs.length < 60 ∧ d = sh (ofBeads bs)
abbrev nOfBeads : List Str := ["_law_beads_here", "_law_some", "_law_rows", "_law_k", "_law_size"]
theorem scOfBeads : FnScope nOfBeads ["_law_beads_here"] (defScope (top 71)) := ⟨rfl, rfl, rfl, by decide +kernel, rfl, by decide +kernel, by decide +kernel⟩
theorem c_ofBeads (F : FnP K "_law_of_beads" (top 71) f fd) (g : mg "_law_of_beads" = some (.ref f)) (B : Bi mg) : Cal P w K mg base 1 "_law_of_beads" ["_law_beads_here"] (spR ROfBeads) := by
  refine fn_R F g scOfBeads (fun ds d ⟨s, q, _⟩ => by rw [q]; rfl) (fun _ _ _ _ _ _ us hl => match us, hl with | [_], _ => rfl) fun cdv A outer s H E hr ds d h => ?_
  obtain ⟨bs, rfl, hl, rfl⟩ := h
  have hN := scOfBeads.nd
  have hsl : (sortI bs).reverse.length = bs.length := by rw [List.length_reverse, (sortI_perm bs).length_eq]
  refine sv_cons (s_set 1 hN (d := li (sortI bs).reverse) (Ev.is (ev_revL (ev_sortI B (ev_var 0) (by omega))) (by unfold li; rw [List.map_reverse]))) ?_
  refine sv_cons (s_lcM1 2 nOfBeads (defScope (top 71)) 3 (xs := List.range bs.length) (fun (i : Nat) => D.int (i : Int)) (fun (k : Nat) => D.int (gt (sortI bs).reverse k - (((bs.length : Int) - 1) - k))) rfl hN ?_ (fun k hk _ _ _ _ _ => ?_)) ?_
  · exact EvI.is (ei_range0 B (ev_lenL B (ev_var 1)) (by rw [List.length_map, hsl]; omega) (by omega)) (by rw [List.length_map, hsl, Int.toNat_natCast])
  · rw [List.mem_range] at hk
    exact ev_sub (ev_ixL (ev_var 1) (ev_var 3) (atI_gt (f := D.int) (by omega) (by omega))) (Ev.is (ev_sub (ev_sub (ev_lenL B (ev_var 1)) ev_int) (ev_var 3)) (by rw [List.length_map, hsl]))
  refine sv_one (s_ret (ev_tupleOf B (Ev.is (ev_lcF1 nOfBeads (defScope (top 71)) 4 (xs := (List.range bs.length).map fun (k : Nat) => gt (sortI bs).reverse k - (((bs.length : Int) - 1) - k)) D.int (fun x => decide (0 < x)) D.int rfl hN (EvI.is (ei_list (ev_var 2)) (by rw [List.map_map]; rfl)) (fun x hx _ _ _ _ _ => et_c (ec_gt (ev_var 4) ev_int)) (fun x hx _ _ _ _ _ _ => ev_var 4)) rfl)))

/-! _law_is_free -/
def lfree (e : Int) (s : List Int) : Bool := (s.filter fun x => decide (e ≤ ((s.filter fun y => decide (y = x)).length : Int))).isEmpty
def RLfree (ds : List D) (d : D) : Prop := ∃ e s, ds = [.int e, sh s] ∧ d = .bl (lfree e s)
abbrev nLfree : List Str := ["_law_e_here", "_law_shape_here", "_law_size", "_law_other"]
theorem scLfree : FnScope nLfree ["_law_e_here", "_law_shape_here"] (defScope (top 74)) := ⟨rfl, rfl, rfl, by decide +kernel, rfl, by decide +kernel, by decide +kernel⟩
theorem shp_li (ss : List Int) : Shp 1 (li ss) := .lst fun d hd => by
  obtain ⟨i, _, rfl⟩ := List.mem_map.mp hd
  exact .int i
theorem c_lfree (F : FnP K "_law_is_free" (top 74) f fd) (g : mg "_law_is_free" = some (.ref f)) (B : Bi mg) : Cal P w K mg base 1 "_law_is_free" ["_law_e_here", "_law_shape_here"] (spR RLfree) := by
  refine fn_R F g scLfree (fun ds d ⟨_, s, q, _⟩ => by rw [q]; rfl) (fun _ _ _ _ _ _ us hl => match us, hl with | [_, _], _ => rfl) fun cdv A outer s H E hr ds d h => ?_
  obtain ⟨e, s, rfl, rfl⟩ := h
  have hN := scLfree.nd
  refine sv_one (s_ret (Ev.is (ev_c (ec_eqNilL hr (ds := (s.filter fun x => decide (e ≤ ((s.filter fun y => decide (y = x)).length : Int))).map fun _ => D.int 1) (ev_lcF1 nLfree (defScope (top 74)) 2 (xs := s) D.int (fun x => decide (e ≤ ((s.filter fun y => decide (y = x)).length : Int))) (fun _ => D.int 1) rfl hN (ei_tup (ev_var 1)) (fun x hx _ _ _ _ _ => ?_) (fun x hx _ _ _ _ _ _ => ev_int)) (ev_lst ea_nil) (n := 1) (.lst fun d hd => ?_))) ?_))
  · exact et_c (ec_ge (Ev.is (ev_lenL B (ds := (s.filter fun y => decide (y = x)).map fun _ => D.int 1) (ev_lcF (xs := s) (enc := D.int) (p := fun y => decide (y = x)) (fe := fun _ => D.int 1) (own := [("_law_other", 3)]) rfl hN (ei_tup (ev_var 1)) (blkOk_by (N := nLfree) (sc := relS _ (defScope (top 74))) (by decide +kernel)) (fun _ _ _ _ _ => pg_name (i := 3) hN rfl (Or.inl rfl)) (fun _ _ => tg_name 3 _) (by decide) (fun y hy _ _ _ _ _ => et_c (ec_eqI (ev_var 3) (ev_var 2))) (fun y hy _ _ _ _ _ _ => ev_int))) (by rw [List.length_map])) (ev_var 0))
  · obtain ⟨_, _, rfl⟩ := List.mem_map.mp hd
    exact .int 1
  · unfold lfree
    rw [List.isEmpty_map]
end
end Bx
end

-- part BxU
section
set_option Elab.async false
set_option linter.all false
set_option maxRecDepth 100000
set_option maxHeartbeats 1000000
/-! Boxparts: words and walks for the law's own plain defs, second part. -/
namespace Bx
open PySem PySem.Spec PyProof.Rows L2
section
variable {X : Cx} {δ δ1 : De} {μ μ1 : Mem} {rest sts : List Stmt} {o : Out} {e a b c f i ob kx ex : Expr} {es : List Expr} {p pos : Pos} {d : D} {k0 : Nat}
theorem inV_ints (x : Int) : ∀ ns : List Int, inV (V.int x) (ns.map V.int) = ns.contains x
  | [] => rfl
  | y :: ns => by
    have ih := inV_ints x ns
    unfold inV at ih ⊢
    rw [List.map_cons, List.any_cons, ih, List.contains_cons]
    congr 1
    rw [Bool.eq_iff_iff]
    simp [eqV]
    exact eq_comm
theorem ec_notInI {x : Int} {ns : List Int} (ha : Ev X δ μ a (.int x)) (hb : Ev X δ μ b (li ns)) : EvC X δ μ .NotIn a b (.bl (!ns.contains x)) :=
  ec_of op_notIn_seq ha hb fun u v H Q h1 h2 k => by
    obtain rfl : u = V.int x := h1
    obtain ⟨p, o, vs, rfl, hp, hr⟩ := h2
    rw [RepL.ints hr] at hp
    refine ⟨p, ns.map V.int, rfl, .inl (.inl (.inr ⟨o, hp⟩)), rfl, ?_, k _ H (Ex.refl H) ?_⟩
    · rw [List.all_eq_true]
      intro v hv
      obtain ⟨i, _, rfl⟩ := List.mem_map.mp hv
      rfl
    · rw [inV_ints]; rfl
end
/-! _law_without -/
def woT (s : List Int) (n b : Int) : Bool := decide (n ≤ b) && !(lbeads s).contains (b - n)
def lwithout0 (s : List Int) (n : Int) : List (List Int) := ((lbeads s).filter (woT s n)).map fun b => ofBeads ((lbeads s).map fun o => if o = b then b - n else o)
def lwithout (s : List Int) (n : Int) : List (List Int) := sortS (lwithout0 s n)
theorem lbeads_len (s : List Int) : (lbeads s).length = s.length := by unfold lbeads; rw [List.length_map, List.length_range]
section
variable {P : Program} {w : World} {K : PySem.W.Frag} {mg : Str → Option Value} {base : Heap} {f : Addr} {fd : FuncData}
def RLwo (ds : List D) (d : D) : Prop := ∃ s n, ds = [sh s, .int n] ∧ Sm s ∧ s.length < 60 ∧ SortOk (lwithout0 s n) ∧ d = .lst ((lwithout s n).map sh)
abbrev nLwo : List Str := ["_law_shape_here", "_law_length", "_law_beads_here", "_law_found", "_law_bead", "_law_other"]
theorem scLwo : FnScope nLwo ["_law_shape_here", "_law_length"] (defScope (top 72)) := ⟨rfl, rfl, rfl, by decide +kernel, rfl, by decide +kernel, by decide +kernel⟩
def woAcc (s : List Int) (n : Int) (bs : List Int) : List (List Int) := (bs.filter (woT s n)).map fun b => ofBeads ((lbeads s).map fun o => if o = b then b - n else o)
theorem woAcc_succ {s : List Int} {n : Int} {bs : List Int} {i : Nat} {b : Int} (h : bs[i]? = some b) : woAcc s n (bs.take (i + 1)) = woAcc s n (bs.take i) ++ if woT s n b then [ofBeads ((lbeads s).map fun o => if o = b then b - n else o)] else [] := by
  unfold woAcc
  rw [List.take_add_one, h, List.filter_append, List.map_append]
  congr 1
  show (([b] : List Int).filter (woT s n)).map _ = _
  by_cases q : woT s n b = true
  · rw [List.filter_cons_of_pos q, if_pos q]; rfl
  · rw [List.filter_cons_of_neg q, if_neg q]; rfl
theorem c_lwo (F : FnP K "_law_without" (top 72) f fd) (g : mg "_law_without" = some (.ref f)) (B : Bi mg) (G1 : Cal P w K mg base 1 "_law_beads" ["_law_shape_here", "_law_many"] (spR RLbeads)) (G2 : Cal P w K mg base 1 "_law_of_beads" ["_law_beads_here"] (spR ROfBeads)) : Cal P w K mg base 2 "_law_without" ["_law_shape_here", "_law_length"] (spR RLwo) := by
  refine fn_R F g scLwo (fun ds d ⟨_, s, q, _⟩ => by rw [q]; rfl) (fun _ _ _ _ _ _ us hl => match us, hl with | [_, _], _ => rfl) fun cdv A outer s H E hr ds d h => ?_
  obtain ⟨s, n, rfl, hs, hl, ok, rfl⟩ := h
  have hN := scLwo.nd
  have hbl := lbeads_len s
  refine sv_cons (s_set 2 hN (ev_call G1 hr (ea_cons (ev_var 0) (ea_cons (Ev.is (ev_lenT B (ev_var 0)) (by rw [List.length_map])) ea_nil)) ⟨s, rfl, hs, rfl⟩)) ?_
  refine sv_new 3 hN ea_nil fun l => ?_
  refine sv_cons (s_for (xs := lbeads s) (enc := D.int) (S := fun _ => [some (sh s), some (.int n), some (li (lbeads s)), some (.adr l), none, none]) (M := fun i => [(l, .lst ((woAcc s n ((lbeads s).take i)).map sh))]) PassesOwn.never rfl (ei_list (ev_var 2)) (pg_name (i := 4) hN rfl (Or.inr rfl)) (fun _ _ => tg_name 4 _) fun i b hb => ?_) ?_
  · have hz : (woAcc s n ((lbeads s).take i)).length < 100000 := by
      unfold woAcc
      rw [List.length_map]
      have := List.length_filter_le (woT s n) ((lbeads s).take i)
      rw [List.length_take] at this
      omega
    have hsu := woAcc_succ (s := s) (n := n) hb
    refine sv_fg (δ1 := [some (sh s), some (.int n), some (li (lbeads s)), some (.adr l), some (.int b), none]) (sv_one (s_if (evt_w (evw_and (et_c (ec_ge (ev_var 4) (ev_var 1))) fun _ => evw_and1 (et_c (ec_notInI (ev_sub (ev_var 4) (ev_var 1)) (ev_var 2)) (by rfl)))) (fun hh => ?_) (fun hh => ?_)))
    · refine sv_is (sv_one (s_ap (ev_var 3) .here (ev_call G2 hr (ea_cons (Ev.is (ev_lcM1 nLwo (defScope (top 72)) 5 (xs := lbeads s) D.int (fun o => D.int (if o = b then b - n else o)) rfl hN (ei_list (ev_var 2)) (fun o ho _ _ _ _ _ => ?_)) (d' := li ((lbeads s).map fun o => if o = b then b - n else o)) ?_) ea_nil) ⟨_, rfl, by rw [List.length_map, hbl]; exact hl, rfl⟩) (by rw [List.length_map]; exact hz))) ?_
      · refine Ev.is (ev_if (et_c (ec_eqI (ev_var 5) (ev_var 4))) (fun _ => ev_sub (ev_var 4) (ev_var 1)) (fun _ => ev_var 5)) ?_
        by_cases q : o = b
        · rw [if_pos (decide_eq_true q), if_pos q]
        · rw [if_neg (by rw [decide_eq_false q]; exact Bool.false_ne_true), if_neg q]
      · unfold li; rw [List.map_map]; rfl
      · rw [hsu, if_pos (show woT s n b = true from hh), List.map_append]; rfl
    · refine sv_is sv_nil ?_
      rw [hsu, if_neg (by rw [show woT s n b = false from hh]; exact Bool.false_ne_true), List.append_nil]
      rfl
  · refine sv_one (s_ret (ev_sortSA (ss := lwithout0 s n) hr B (ev_var 3) ?_ ok))
    rw [List.take_length]
    exact List.mem_singleton.mpr rfl

/-! _law_core -/
def lcoreStep (e : Int) (st : CoSt) : CoSt := match (lwithout st.1 e).getLast? with
  | none => st
  | some t => (t, st.2 + 1)
def lcoreOk (e : Int) (st : CoSt) : Bool := smB st.1 && decide (st.1.length < 60) && sortOkB (lwithout0 st.1 e)
def lcore (e : Int) (s : List Int) : CoSt := itM (lcoreStep e) 20 (s, 0)
def RLcore (ds : List D) (d : D) : Prop := ∃ e s, ds = [.int e, sh s] ∧ (∀ i, i < 20 → lcoreOk e (itM (lcoreStep e) i (s, 0)) = true) ∧ d = .tup [sh (lcore e s).1, .int (lcore e s).2]
abbrev nLcore : List Str := ["_law_e_here", "_law_shape_here", "_law_left", "_law_many", "_law_lap", "_law_some"]
theorem scLcore : FnScope nLcore ["_law_e_here", "_law_shape_here"] (defScope (top 73)) := ⟨rfl, rfl, rfl, by decide +kernel, rfl, by decide +kernel, by decide +kernel⟩
theorem atI_lastD {α : Type} {s : List α} {x : α} (h : s.getLast? = some x) : atI s (-1) = some x := by
  cases s with
  | nil => cases h
  | cons a t =>
    unfold atI
    have e : ixN (a :: t).length (-1) = some t.length := by
      unfold ixN
      simp
      omega
    rw [e]
    rw [List.getLast?_eq_getElem?] at h
    exact h
theorem c_lcore (F : FnP K "_law_core" (top 73) f fd) (g : mg "_law_core" = some (.ref f)) (B : Bi mg) (G1 : Cal P w K mg base 2 "_law_without" ["_law_shape_here", "_law_length"] (spR RLwo)) : Cal P w K mg base 3 "_law_core" ["_law_e_here", "_law_shape_here"] (spR RLcore) := by
  refine fn_R F g scLcore (fun ds d ⟨_, s, q, _⟩ => by rw [q]; rfl) (fun _ _ _ _ _ _ us hl => match us, hl with | [_, _], _ => rfl) fun cdv A outer s H E hr ds d h => ?_
  obtain ⟨e, s, rfl, ok, rfl⟩ := h
  have hN := scLcore.nd
  refine sv_cons (s_par rfl hN (ev_var 1) ev_int (i := 2) (j := 3) (by decide)) ?_
  refine sv_cons (s_for (xs := List.range (20 : Int).toNat) (enc := fun (i : Nat) => D.int (i : Int)) (S := fun i => [some (.int e), some (sh s), some (sh (itM (lcoreStep e) i (s, 0)).1), some (.int (itM (lcoreStep e) i (s, 0)).2), none, none]) (M := fun _ => []) PassesOwn.never rfl (ei_range0 B ev_int (by decide) (by decide)) (pg_name (i := 4) hN rfl (Or.inl rfl)) (fun _ _ => tg_name 4 _) fun i x hx => ?_) (sv_one (s_ret (ev_tup (ea_cons (ev_var 2) (ea_cons (ev_var 3) ea_nil)))))
  obtain ⟨hi, rfl⟩ := range_get hx
  have hk := ok x (by simpa using hi)
  have hsu := itM_succ (lcoreStep e) x (s, 0)
  generalize itM (lcoreStep e) x (s, 0) = st at hk hsu ⊢
  generalize itM (lcoreStep e) (x + 1) (s, 0) = st1 at hsu ⊢
  unfold lcoreOk at hk
  simp only [Bool.and_eq_true, decide_eq_true_eq] at hk
  obtain ⟨⟨k1, k2⟩, k3⟩ := hk
  refine sv_fg (δ1 := [some (.int e), some (sh s), some (sh st1.1), some (.int st1.2), some (.int x), some (.lst ((lwithout st.1 e).map sh))]) (sv_cons (s_set 5 hN (ev_call G1 hr (ea_cons (ev_var 2) (ea_cons (ev_var 0) ea_nil)) ⟨st.1, e, rfl, sm_of k1, k2, sortOk_of k3, rfl⟩)) (sv_one (s_if (et_c (ec_neNilL hr (ev_var 5) (ev_lst ea_nil) (shp_shs _))) (fun hh => ?_) (fun hh => ?_))))
  · rw [List.isEmpty_map] at hh
    cases q : (lwithout st.1 e).getLast? with
    | none =>
      rw [List.getLast?_eq_none_iff] at q
      rw [q] at hh; cases hh
    | some t =>
      have e1 : st1 = (t, st.2 + 1) := by rw [hsu]; unfold lcoreStep; rw [q]
      subst e1
      exact sv_one (s_par rfl hN (d1 := sh t) (ev_ixL (ev_var 5) (ev_neg ev_int) (atI_lastD (by rw [List.getLast?_map, q]; rfl))) (ev_add (ev_var 3) ev_int) (i := 2) (j := 3) (by decide))
  · rw [List.isEmpty_map] at hh
    have q : lwithout st.1 e = [] := by simpa using hh
    have e1 : st1 = st := by rw [hsu]; unfold lcoreStep; rw [q]; rfl
    subst e1
    exact sv_nil
end
end Bx
end

-- part BxV
section
set_option Elab.async false
set_option linter.all false
set_option maxRecDepth 100000
set_option maxHeartbeats 1000000
/-! Boxparts: walks for the law's own plain defs, third part. -/
namespace Bx
open PySem PySem.Spec PyProof.Rows L2
section
variable {P : Program} {w : World} {K : PySem.W.Frag} {mg : Str → Option Value} {base : Heap} {f : Addr} {fd : FuncData}
/-! _law_is_above -/
def aboveN (one other : List Int) : Nat := max one.length other.length
def aboveSum (s : List Int) (n : Nat) : Int := ((List.range n).map fun (k : Nat) => gt s k).sum
def above (one other : List Int) : Bool := (List.range (aboveN one other)).all fun k => !decide (aboveSum one (k + 1) < aboveSum other (k + 1))
theorem aboveSum_succ (s : List Int) (n : Nat) : aboveSum s (n + 1) = aboveSum s n + gt s n := by
  unfold aboveSum
  rw [List.range_succ, List.map_append, List.sum_append]
  simp
theorem gt_out {s : List Int} {k : Nat} (h : ¬ k < s.length) : gt s k = 0 := by
  unfold gt
  rw [Int.toNat_natCast, List.getD_eq_getElem?_getD, List.getElem?_eq_none (by omega)]
  rfl
def RAbove (ds : List D) (d : D) : Prop := ∃ one other, ds = [sh one, sh other] ∧ Sm one ∧ Sm other ∧ d = .bl (above one other)
abbrev nAbove : List Str := ["_law_one", "_law_other", "_law_here", "_law_there", "_law_k"]
theorem scAbove : FnScope nAbove ["_law_one", "_law_other"] (defScope (top 75)) := ⟨rfl, rfl, rfl, by decide +kernel, rfl, by decide +kernel, by decide +kernel⟩
theorem first_bad (p : Nat → Bool) : ∀ n : Nat, (∀ k, k < n → p k = true) ∨ ∃ k, k < n ∧ p k = false ∧ ∀ j, j < k → p j = true
  | 0 => .inl fun k hk => absurd hk (Nat.not_lt_zero _)
  | n + 1 => by
    rcases first_bad p n with h | ⟨k, h1, h2, h3⟩
    · by_cases hp : p n = true
      · refine .inl fun k hk => ?_
        by_cases e : k = n
        · rw [e]; exact hp
        · exact h k (by omega)
      · exact .inr ⟨n, by omega, by simpa using hp, h⟩
    · exact .inr ⟨k, by omega, h2, h3⟩
theorem c_above (F : FnP K "_law_is_above" (top 75) f fd) (g : mg "_law_is_above" = some (.ref f)) (B : Bi mg) : Cal P w K mg base 1 "_law_is_above" ["_law_one", "_law_other"] (spR RAbove) := by
  refine fn_R F g scAbove (fun ds d ⟨_, s, q, _⟩ => by rw [q]; rfl) (fun _ _ _ _ _ _ us hl => match us, hl with | [_, _], _ => rfl) fun cdv A outer s H E hr ds d h => ?_
  obtain ⟨one, other, rfl, h1, h2, rfl⟩ := h
  have hN := scAbove.nd
  have l1 := h1.len
  have l2 := h2.len
  have step : ∀ (i : Nat) (o : Out), i < aboveN one other → (Sv (cx0 P w K mg base nAbove "_law_is_above" (defScope (top 75)) f cdv A outer s H E) [some (sh one), some (sh other), some (.int (aboveSum one (i + 1))), some (.int (aboveSum other (i + 1))), some (.int (i : Int))] [] [((match (defBody (top 75)).getD 1 (.Pass ⟨0, 0, 0, 0⟩) with | .For _ _ b _ _ => b | _ => []).getD 2 (.Pass ⟨0, 0, 0, 0⟩))] o) →
      Sv (cx0 P w K mg base nAbove "_law_is_above" (defScope (top 75)) f cdv A outer s H E) [some (sh one), some (sh other), some (.int (aboveSum one i)), some (.int (aboveSum other i)), some (.int (i : Int))] [] (match (defBody (top 75)).getD 1 (.Pass ⟨0, 0, 0, 0⟩) with | .For _ _ b _ _ => b | _ => []) o := fun i o hi hk => by
    refine sv_cons (s_set 2 hN (d := .int (aboveSum one (i + 1))) (Ev.is (ev_add (ev_var 2) (Ev.is (ev_if (et_c (ec_lt (ev_var 4) (ev_lenT B (ev_var 0)))) (fun hh => ev_ixT (ev_var 0) (ev_var 4) (atI_gt (f := D.int) (by omega) ?_)) (fun _ => ev_int)) (d' := .int (gt one i)) ?_)) (by rw [aboveSum_succ]))) (sv_cons (s_set 3 hN (d := .int (aboveSum other (i + 1))) (Ev.is (ev_add (ev_var 3) (Ev.is (ev_if (et_c (ec_lt (ev_var 4) (ev_lenT B (ev_var 1)))) (fun hh => ev_ixT (ev_var 1) (ev_var 4) (atI_gt (f := D.int) (by omega) ?_)) (fun _ => ev_int)) (d' := .int (gt other i)) ?_)) (by rw [aboveSum_succ]))) hk)
    · have := of_decide_eq_true hh; rw [List.length_map] at this; exact this
    · rw [List.length_map]
      by_cases q : (i : Int) < one.length
      · rw [if_pos (decide_eq_true q)]
      · rw [if_neg (by rw [decide_eq_false q]; exact Bool.false_ne_true), gt_out (by omega)]
    · have := of_decide_eq_true hh; rw [List.length_map] at this; exact this
    · rw [List.length_map]
      by_cases q : (i : Int) < other.length
      · rw [if_pos (decide_eq_true q)]
      · rw [if_neg (by rw [decide_eq_false q]; exact Bool.false_ne_true), gt_out (by omega)]
  have hmx : EvI (cx0 P w K mg base nAbove "_law_is_above" (defScope (top 75)) f cdv A outer s H E) [some (sh one), some (sh other), some (.int 0), some (.int 0), none] [] ((match (defBody (top 75)).getD 1 (.Pass ⟨0, 0, 0, 0⟩) with | .For t _ _ _ _ => t | _ => .Constant .none 0 ⟨0, 0, 0, 0⟩)) ((match (defBody (top 75)).getD 1 (.Pass ⟨0, 0, 0, 0⟩) with | .For _ t _ _ _ => t | _ => .Constant .none 0 ⟨0, 0, 0, 0⟩)) ((List.range (aboveN one other)).map fun (i : Nat) => D.int (i : Int)) := by
    refine EvI.is (ei_range0 B (ev_max2 rfl B (ev_lenT B (ev_var 0)) (ev_lenT B (ev_var 1))) ?_ ?_) ?_
    · rw [List.length_map, List.length_map]; split <;> omega
    · rw [List.length_map, List.length_map]; split <;> omega
    · rw [List.length_map, List.length_map]
      congr 2
      unfold aboveN
      split <;> omega
  refine sv_cons (s_two rfl hN (i := 2) (j := 3) (ev_tup (ea_cons ev_int (ea_cons ev_int ea_nil)))) ?_
  rcases first_bad (fun k => !decide (aboveSum one (k + 1) < aboveSum other (k + 1))) (aboveN one other) with hall | ⟨k, hk, hbad, hbef⟩
  · refine sv_cons (s_for (xs := List.range (aboveN one other)) (enc := fun (i : Nat) => D.int (i : Int)) (S := fun i => [some (sh one), some (sh other), some (.int (aboveSum one i)), some (.int (aboveSum other i)), none]) (M := fun _ => []) PassesOwn.never rfl hmx (pg_name (i := 4) hN rfl (Or.inl rfl)) (fun _ _ => tg_name 4 _) fun i x hx => ?_) (sv_one (s_ret (Ev.is ev_bl ?_)))
    · obtain ⟨hi, rfl⟩ := range_get hx
      exact sv_fg (step x _ hi (sv_one (s_ifF (EvT.is (et_c (ec_lt (ev_var 2) (ev_var 3))) (by have := hall x hi; simpa using this)) sv_nil)))
    · have : above one other = true := by
        unfold above
        rw [List.all_eq_true]
        intro k hk
        exact hall k (List.mem_range.mp hk)
      rw [this]
  · refine sv_rt (s_forG (xs := List.range (aboveN one other)) (enc := fun (i : Nat) => D.int (i : Int)) (S := fun i => [some (sh one), some (sh other), some (.int (aboveSum one i)), some (.int (aboveSum other i)), none]) (M := fun _ => []) k PassesOwn.never rfl hmx (pg_name (i := 4) hN rfl (Or.inl rfl)) (fun _ _ => tg_name 4 _) (fun i x hik hx => ?_) (by rw [List.length_range]; omega) (.inr ⟨k, List.getElem?_range hk, .inl ⟨_, _, rfl, step k _ hk (sv_one (s_ifT (EvT.is (et_c (ec_lt (ev_var 2) (ev_var 3))) (by simpa using hbad)) (sv_one (s_ret (Ev.is ev_bl ?_)))))⟩⟩))
    · obtain ⟨hi, rfl⟩ := range_get hx
      exact sv_fg (step x _ hi (sv_one (s_ifF (EvT.is (et_c (ec_lt (ev_var 2) (ev_var 3))) (by have := hbef x hik; simpa using this)) sv_nil)))
    · have : above one other = false := by
        unfold above
        rw [List.all_eq_false]
        exact ⟨k, List.mem_range.mpr hk, by rw [hbad]; exact Bool.false_ne_true⟩
      rw [this]
end
end Bx
end

-- part BxW
section
set_option Elab.async false
set_option linter.all false
set_option maxRecDepth 100000
set_option maxHeartbeats 1000000
/-! Boxparts: walks for the law's own plain defs, fourth part. -/
namespace Bx
open PySem PySem.Spec PyProof.Rows L2
section
variable {P : Program} {w : World} {K : PySem.W.Frag} {mg : Str → Option Value} {base : Heap} {f : Addr} {fd : FuncData}
/-! _law_open -/
def loT (s : List Int) (k : Nat) : Bool := decide (k = 0) || decide (gt s k < gt s ((k : Int) - 1))
def lopenAcc (s : List Int) (n : Nat) : List (Int × Int) := ((List.range n).filter (loT s)).map fun (k : Nat) => ((k : Int), gt s k)
def lopen (s : List Int) : List (Int × Int) := lopenAcc s (s.length + 1)
theorem lopenAcc_succ (s : List Int) (n : Nat) : lopenAcc s (n + 1) = lopenAcc s n ++ if loT s n then [((n : Int), gt s n)] else [] := by
  unfold lopenAcc
  rw [List.range_succ, List.filter_append, List.map_append]
  congr 1
  by_cases q : loT s n = true
  · rw [List.filter_cons_of_pos q, if_pos q]; rfl
  · rw [List.filter_cons_of_neg q, if_neg q]; rfl
def RLopen (ds : List D) (d : D) : Prop := ∃ s, ds = [sh s] ∧ Sm s ∧ d = .lst ((lopen s).map bx)
abbrev nLopen : List Str := ["_law_shape_here", "_law_found", "_law_row", "_law_size"]
theorem scLopen : FnScope nLopen ["_law_shape_here"] (defScope (top 68)) := ⟨rfl, rfl, rfl, by decide +kernel, rfl, by decide +kernel, by decide +kernel⟩
theorem c_lopen (F : FnP K "_law_open" (top 68) f fd) (g : mg "_law_open" = some (.ref f)) (B : Bi mg) : Cal P w K mg base 1 "_law_open" ["_law_shape_here"] (spR RLopen) := by
  refine fn_R F g scLopen (fun ds d ⟨s, q, _⟩ => by rw [q]; rfl) (fun _ _ _ _ _ _ us hl => match us, hl with | [_], _ => rfl) fun cdv A outer s H E hr ds d h => ?_
  obtain ⟨s, rfl, hs, rfl⟩ := h
  have hN := scLopen.nd
  have hl := hs.len
  refine sv_new 1 hN ea_nil fun l => ?_
  refine sv_cons (s_for (xs := List.range (s.length + 1)) (enc := fun (i : Nat) => D.int (i : Int)) (S := fun _ => [some (sh s), some (.adr l), none, none]) (M := fun i => [(l, .lst ((lopenAcc s i).map bx))]) PassesOwn.never rfl ?_ (pg_name (i := 2) hN rfl (Or.inl rfl)) (fun _ _ => tg_name 2 _) fun i x hx => ?_) ?_
  · exact EvI.is (ei_range0 B (ev_add (ev_lenT B (ev_var 0)) ev_int) (by rw [List.length_map]; omega) (by rw [List.length_map]; omega)) (by rw [List.length_map]; congr 1)
  · obtain ⟨hi, rfl⟩ := range_get hx
    have hz : (lopenAcc s x).length < 100000 := by
      unfold lopenAcc
      rw [List.length_map]
      have := List.length_filter_le (loT s) (List.range x)
      rw [List.length_range] at this
      omega
    have hsu := lopenAcc_succ s x
    refine sv_fg (δ1 := [some (sh s), some (.adr l), some (.int (x : Int)), some (.int (gt s x))]) (sv_cons (s_set 3 hN (d := .int (gt s x)) (Ev.is (ev_if (et_c (ec_lt (ev_var 2) (ev_lenT B (ev_var 0)))) (fun hh => ev_ixT (ev_var 0) (ev_var 2) (atI_gt (f := D.int) (by omega) ?_)) (fun _ => ev_int)) ?_)) (sv_one (s_if (r := loT s x) (EvT.is (evt_w (evw_or (et_c (ec_eqI (ev_var 2) ev_int)) fun h0 => evw_or1 (et_c (ec_gt (ev_ixT (ev_var 0) (ev_sub (ev_var 2) ev_int) (atI_gt (f := D.int) ?_ ?_)) (ev_var 3))))) ?_) (fun hh => ?_) (fun hh => ?_))))
    · have := of_decide_eq_true hh; rw [List.length_map] at this; exact this
    · rw [List.length_map]
      by_cases q : (x : Int) < s.length
      · rw [if_pos (decide_eq_true q)]
      · rw [if_neg (by rw [decide_eq_false q]; exact Bool.false_ne_true), gt_out (by omega)]
    · have := of_decide_eq_false h0
      omega
    · have := of_decide_eq_false h0
      omega
    · unfold loT
      congr 1
      rw [decide_eq_decide]
      omega
    · refine sv_is (sv_one (s_ap (ev_var 1) .here (ev_tup (ea_cons (ev_var 2) (ea_cons (ev_var 3) ea_nil))) (by rw [List.length_map]; exact hz))) ?_
      rw [hsu, if_pos hh, List.map_append]; rfl
    · refine sv_is sv_nil ?_
      rw [hsu, if_neg (by rw [hh]; exact Bool.false_ne_true), List.append_nil]
      rfl
  · refine sv_one (s1_is (s_retA (ds := (lopen s).map bx) (ev_var 1) ?_) rfl)
    rw [List.length_range]
    exact List.mem_singleton.mpr rfl

/-! _law_shapes -/
abbrev LsSt := List (List Int) × List (List Int)
def lsTop (n : Int) (s : List Int) : Int := if s.isEmpty then n - s.sum else if gt s ((s.length : Int) - 1) < n - s.sum then gt s ((s.length : Int) - 1) else n - s.sum
def lsKids (n : Int) (s : List Int) : List (List Int) := (List.range (lsTop n s).toNat).map fun (k : Nat) => s ++ [1 + (k : Int)]
def lsIn (n : Int) (st : LsSt) (s : List Int) : Option LsSt := if decide (st.1.length ≤ 2000) && decide (st.2.length ≤ 2000) && smB s && decide (-1000 ≤ n - s.sum) && decide (n - s.sum ≤ 1000) && decide ((lsKids n s).length ≤ 2000) then
  (if n - s.sum = 0 then some (st.1 ++ [s], st.2) else some (st.1, st.2 ++ lsKids n s)) else none
def lsOut (n : Int) (st : LsSt) (_ : Nat) : Option LsSt := st.2.foldlM (lsIn n) (st.1, [])
def lsRun (n : Int) : Option LsSt := if decide (0 ≤ n) && decide (n ≤ 100) then (List.range (n + 1).toNat).foldlM (lsOut n) ([], [[]]) else none
theorem lsIn_spec {n : Int} {st st' : LsSt} {s : List Int} (h : lsIn n st s = some st') : st.1.length ≤ 2000 ∧ st.2.length ≤ 2000 ∧ Sm s ∧ -1000 ≤ n - s.sum ∧ n - s.sum ≤ 1000 ∧ (lsKids n s).length ≤ 2000 ∧ ((n - s.sum = 0 ∧ st' = (st.1 ++ [s], st.2)) ∨ (n - s.sum ≠ 0 ∧ st' = (st.1, st.2 ++ lsKids n s))) := by
  unfold lsIn at h
  split at h
  · rename_i hh
    simp only [Bool.and_eq_true, decide_eq_true_eq] at hh
    obtain ⟨⟨⟨⟨⟨a, b⟩, c⟩, d⟩, e⟩, f⟩ := hh
    refine ⟨a, b, sm_of c, d, e, f, ?_⟩
    split at h
    · rename_i q; exact .inl ⟨q, (Option.some.inj h).symm⟩
    · rename_i q; exact .inr ⟨q, (Option.some.inj h).symm⟩
  · cases h
def RLshapes (ds : List D) (d : D) : Prop := ∃ n t, ds = [.int n] ∧ lsRun n = some t ∧ SortOk t.1 ∧ d = .lst ((sortS t.1).map sh)
abbrev nLshapes : List Str := ["_law_many", "_law_found", "_law_line", "_law_lap", "_law_more", "_law_shape_here", "_law_left", "_law_top", "_law_size"]
theorem scLshapes : FnScope nLshapes ["_law_many"] (defScope (top 66)) := ⟨rfl, rfl, rfl, by decide +kernel, rfl, by decide +kernel, by decide +kernel⟩
theorem c_lshapes (F : FnP K "_law_shapes" (top 66) f fd) (g : mg "_law_shapes" = some (.ref f)) (B : Bi mg) : Cal P w K mg base 1 "_law_shapes" ["_law_many"] (spR RLshapes) := by
  refine fn_R F g scLshapes (fun ds d ⟨_, s, q, _⟩ => by rw [q]; rfl) (fun _ _ _ _ _ _ us hl => match us, hl with | [_], _ => rfl) fun cdv A outer s H E hr ds d h => ?_
  obtain ⟨n, t, rfl, h, so, rfl⟩ := h
  have hN := scLshapes.nd
  unfold lsRun at h
  split at h
  · rename_i hh
    simp only [Bool.and_eq_true, decide_eq_true_eq] at hh
    obtain ⟨hn0, hn1⟩ := hh
    obtain ⟨S, h0, hn, hst⟩ := foldM_spec h
    refine sv_parNew12 rfl hN ea_nil (ea_cons (ev_tup ea_nil) ea_nil) (i := 1) (j := 2) (by decide) fun l m => ?_
    refine sv_fzA 2 rfl .here ?_
    show Sv _ [some (.int n), some (.adr l), some (.lst [.tup []]), none, none, none, none, none, none] [(l, .lst [])] _ _
    rw [show (D.lst [.tup []]) = D.lst ((S 0).2.map sh) by rw [h0]; rfl, show C.lst [] = C.lst ((S 0).1.map sh) by rw [h0]; rfl]
    refine sv_cons (s_for (xs := List.range (n + 1).toNat) (enc := fun (i : Nat) => D.int (i : Int)) (S := fun i => [some (.int n), some (.adr l), some (.lst ((S i).2.map sh)), none, none, none, none, none, none]) (M := fun i => [(l, .lst ((S i).1.map sh))]) PassesOwn.never rfl (ei_range0 B (ev_add (ev_var 0) ev_int) (by omega) (by omega)) (pg_name (i := 3) hN rfl (Or.inl rfl)) (fun _ _ => tg_name 3 _) fun i x hx => ?_) ?_
    · obtain ⟨S', h0', hn', hst'⟩ := foldM_spec (show (S i).2.foldlM (lsIn n) ((S i).1, []) = some (S (i + 1)) from hst i x hx)
      refine sv_new 4 hN ea_nil fun k => sv_fzA 4 rfl .here ?_
      show Sv _ [some (.int n), some (.adr l), some (.lst ((S i).2.map sh)), some (.int (x : Int)), some (.lst []), none, none, none, none] [(l, .lst ((S i).1.map sh))] _ _
      rw [show (D.lst []) = D.lst ((S' 0).2.map sh) by rw [h0']; rfl, show C.lst ((S i).1.map sh) = C.lst ((S' 0).1.map sh) by rw [h0']]
      refine sv_cons (s_for (xs := (S i).2) (enc := sh) (S := fun j => [some (.int n), some (.adr l), some (.lst ((S i).2.map sh)), some (.int (x : Int)), some (.lst ((S' j).2.map sh)), none, none, none, none]) (M := fun j => [(l, .lst ((S' j).1.map sh))]) PassesOwn.never rfl (ei_list (ev_var 2)) (pg_name (i := 5) hN rfl (Or.inr rfl)) (fun _ _ => tg_name 5 _) fun j s hs => ?_) ?_
      · obtain ⟨b1, b2, sm, b3, b4, b5, hc⟩ := lsIn_spec (hst' j s hs)
        have hsl := sm.len
        refine sv_fg (δ1 := [some (.int n), some (.adr l), some (.lst ((S i).2.map sh)), some (.int (x : Int)), some (.lst ((S' (j + 1)).2.map sh)), some (sh s), some (.int (n - s.sum)), none, none]) (sv_cons (s_set 6 hN (ev_sub (ev_var 0) (ev_sumT rfl B (ev_var 5)))) (sv_one (s_if (et_c (ec_eqI (ev_var 6) ev_int)) (fun hh => ?_) (fun hh => ?_))))
        · have hh := of_decide_eq_true hh
          rcases hc with ⟨_, c⟩ | ⟨c, _⟩
          · rw [c]
            refine sv_is (sv_one (s_ap (ev_var 1) .here (ev_var 5) (by rw [List.length_map]; omega))) ?_
            rw [List.map_append]; rfl
          · exact absurd hh c
        · have hh := of_decide_eq_false hh
          rcases hc with ⟨c, _⟩ | ⟨_, c⟩
          · exact absurd c hh
          · rw [c]
            have htop : -1000 ≤ lsTop n s ∧ lsTop n s ≤ 1000 := by
              have := sm.gt ((s.length : Int) - 1)
              unfold lsTop
              split
              · omega
              · split <;> omega
            refine sv_fg (sv_cons (s_set 7 hN (d := .int (lsTop n s)) (Ev.is (ev_if (et_c (ec_neNilT hr (ev_var 5) (ev_tup ea_nil) (Shp.sh s))) (fun h => ev_min2 rfl B (ev_var 6) (ev_ixT (ev_var 5) (ev_neg ev_int) (atI_last ?_))) (fun _ => ev_var 6)) ?_)) (sv_one (s_set 4 hN (d := .lst (((S' j).2 ++ lsKids n s).map sh)) (Ev.is (ev_catL (ev_var 4) (ev_lcM1 nLshapes (defScope (top 66)) 8 (xs := List.range (lsTop n s).toNat) (fun (k : Nat) => D.int (1 + (k : Int))) (fun (k : Nat) => sh (s ++ [1 + (k : Int)])) rfl hN (EvI.is (ei_range2 B ev_int (ev_add (ev_var 7) ev_int) (by omega) (by omega) (by omega) (by omega)) ?_) (fun k hk _ _ _ _ _ => ?_)) ?_) ?_))))
            · cases s with
              | nil => cases h
              | cons _ _ => rfl
            · unfold lsTop
              cases s with
              | nil => rfl
              | cons y ys =>
                show (if (true : Bool) = true then _ else _) = D.int (if (false : Bool) = true then _ else _)
                rw [if_pos rfl, if_neg Bool.false_ne_true]
            · unfold rngD
              rw [show lsTop n s + 1 - 1 = lsTop n s by omega]
            · refine Ev.is (ev_catT (ev_var 5) (ev_tup (ea_cons (ev_var 8) ea_nil)) (by rw [List.length_map]; simp; omega)) ?_
              unfold sh; rw [List.map_append]; rfl
            · have e : (lsKids n s).length = (lsTop n s).toNat := by unfold lsKids; rw [List.length_map, List.length_range]
              rw [List.length_map, List.length_map, List.length_range]
              omega
            · rw [List.map_append]
              unfold lsKids
              rw [List.map_map]
              rfl
      · rw [hn']
        exact sv_fg (sv_one (s_set 2 hN (ev_var 4)))
    · rw [hn]
      exact sv_one (s_ret (ev_sortSA hr B (ev_var 1) (List.mem_singleton.mpr rfl) so))
  · cases h
end
end Bx
end

-- part BxX
section
set_option Elab.async false
set_option linter.all false
set_option maxRecDepth 100000
set_option maxHeartbeats 1000000
/-! Boxparts: walk of _law_block. -/
namespace Bx
open PySem PySem.Spec PyProof.Rows L2
section
variable {P : Program} {w : World} {K : PySem.W.Frag} {mg : Str → Option Value} {base : Heap} {f : Addr} {fd : FuncData}
def lcoreAll (e : Int) (s : List Int) : Bool := (List.range 20).all fun i => lcoreOk e (itM (lcoreStep e) i (s, 0))
theorem lcoreAll_spec {e : Int} {s : List Int} (h : lcoreAll e s = true) : RLcore [.int e, sh s] (.tup [sh (lcore e s).1, .int (lcore e s).2]) :=
  ⟨e, s, rfl, fun i hi => List.all_eq_true.mp h i (List.mem_range.mpr hi), rfl⟩
def lblock (e : Int) (s : List Int) (fs : List (List Int)) : List (List Int) := fs.filter fun o => decide ((lcore e o).1 = (lcore e s).1)
def RLblock (ds : List D) (d : D) : Prop := ∃ e s t, ds = [.int e, sh s] ∧ lcoreAll e s = true ∧ lsRun s.sum = some t ∧ SortOk t.1 ∧ (∀ o ∈ sortS t.1, lcoreAll e o = true) ∧ d = .lst ((lblock e s (sortS t.1)).map sh)
abbrev nLblock : List Str := ["_law_e_here", "_law_shape_here", "_law_due", "_law_other"]
theorem scLblock : FnScope nLblock ["_law_e_here", "_law_shape_here"] (defScope (top 76)) := ⟨rfl, rfl, rfl, by decide +kernel, rfl, by decide +kernel, by decide +kernel⟩
theorem c_lblock (F : FnP K "_law_block" (top 76) f fd) (g : mg "_law_block" = some (.ref f)) (B : Bi mg) (G1 : Cal P w K mg base 3 "_law_core" ["_law_e_here", "_law_shape_here"] (spR RLcore)) (G2 : Cal P w K mg base 1 "_law_shapes" ["_law_many"] (spR RLshapes)) : Cal P w K mg base 4 "_law_block" ["_law_e_here", "_law_shape_here"] (spR RLblock) := by
  refine fn_R F g scLblock (fun ds d ⟨_, _, s, q, _⟩ => by rw [q]; rfl) (fun _ _ _ _ _ _ us hl => match us, hl with | [_, _], _ => rfl) fun cdv A outer s H E hr ds d h => ?_
  obtain ⟨e, s, t, rfl, hs, h, so, ok, rfl⟩ := h
  have hN := scLblock.nd
  refine sv_cons (s_set 2 hN (d := sh (lcore e s).1) (ev_ixT (ev_call G1 hr (ea_cons (ev_var 0) (ea_cons (ev_var 1) ea_nil)) (lcoreAll_spec hs)) ev_int (atI_nat (j := 0) rfl))) (sv_one (s_ret ?_))
  exact ev_lcF1 nLblock (defScope (top 76)) 3 (xs := sortS t.1) sh (fun o => decide ((lcore e o).1 = (lcore e s).1)) sh rfl hN (ei_list (ev_call G2 (hr.mono (by decide)) (ea_cons (ev_sumT rfl B (ev_var 1)) ea_nil) ⟨_, t, rfl, h, so, rfl⟩))
    (fun o ho _ _ _ _ _ => et_c (ec_eqSh hr (ev_ixT (ev_call G1 hr (ea_cons (ev_var 0) (ea_cons (ev_var 3) ea_nil)) (lcoreAll_spec (ok o ho))) ev_int (atI_nat (j := 0) rfl)) (ev_var 2))) (fun o ho _ _ _ _ _ _ => ev_var 3)
end
end Bx
end

-- part BxY
section
set_option Elab.async false
set_option linter.all false
set_option maxRecDepth 100000
set_option maxHeartbeats 1000000
/-! Boxparts, part Y: defs and expressions that change one's own objects. -/
namespace Bx
open PySem PySem.Spec PyProof.Rows L2
/-- the promise of a def over data and one's own objects -/
def spM (R : List D → Mem → D → Mem → Prop) : Sp := fun vs H Q _ => ∃ ds μ d μ', R ds μ d μ' ∧ RepL H ds vs ∧ Cel μ H ∧ ∀ v H', Xs μ H μ' H' → Cel μ' H' → Rep H' d v → Q v H'
def EvM (X : Cx) (δ : De) (μ : Mem) (e : Expr) (d : D) (μ' : Mem) : Prop := ∀ σ H (Q : VK), Cfg δ μ σ H → (∀ v H', Cfg δ μ' σ H' → Xs μ H μ' H' → Rep H' d v → Q v H') → tw X e σ H Q
def EvAM (X : Cx) (δ : De) (μ : Mem) (es : List Expr) (ds : List D) (μ' : Mem) : Prop := ∀ σ H (Q : List V → Hp → Prop), Cfg δ μ σ H → (∀ vs H', Cfg δ μ' σ H' → Xs μ H μ' H' → RepL H' ds vs → Q vs H') → twA X es σ H Q
section
variable {X : Cx} {δ δ1 : De} {μ μ1 μ2 μ' : Mem} {st : Stmt} {rest sts : List Stmt} {o : Out} {e a b c f i ob kx ex : Expr} {es : List Expr} {p pos : Pos} {d d1 d2 : D} {k0 : Nat}
theorem em_of (h : Ev X δ μ e d) : EvM X δ μ e d μ := fun σ H Q c q => h σ H Q c fun v H' ex r => q v H' (c.ex ex) (.of ex) r
theorem eam_nil : EvAM X δ μ [] [] μ := fun σ H Q c q => ea_nil σ H Q c fun vs H' ex r => q vs H' (c.ex ex) (.of ex) r
theorem em_pe {te : TE} (h : PE X e te) (k : ∀ σ H (Q : VK), Cfg δ μ σ H → (∀ v H', Cfg δ μ' σ H' → Xs μ H μ' H' → Rep H' d v → Q v H') → te σ H Q) : EvM X δ μ e d μ' :=
  fun σ H Q c q pins s I => h.run pins s σ H Q I (k σ H Q c q)
theorem eam_pa {te : TA} {ds : List D} (h : PA X es te) (k : ∀ σ H (Q : List V → Hp → Prop), Cfg δ μ σ H → (∀ vs H', Cfg δ μ' σ H' → Xs μ H μ' H' → RepL H' ds vs → Q vs H') → te σ H Q) : EvAM X δ μ es ds μ' :=
  fun σ H Q c q pos pins s I => h.run pos pins s σ H Q I (k σ H Q c q)
theorem eam_cons {ds : List D} (h : EvM X δ μ e d μ1) (k : EvAM X δ μ1 es ds μ') (hs : starEach (e :: es) X.env = (false, eval e X.env) :: starEach es X.env := by rfl) : EvAM X δ μ (e :: es) (d :: ds) μ' :=
  eam_pa (pa_cons (pe_tw X e) (pa_tw X es) hs) fun σ H Q c q => h σ H _ c fun v H1 c1 x1 r1 => k σ H1 _ c1 fun vs H2 c2 x2 r2 => q _ H2 c2 (x1.trans x2) ⟨v, vs, rfl, Rep.mono (x2.fz c1) _ _ r1, r2⟩
theorem EvM.is {d' : D} (h : EvM X δ μ e d μ') (q : d = d') : EvM X δ μ e d' μ' := q ▸ h
/-- a call of a def that changes part of one's own objects -/
theorem em_call {R : List D → Mem → D → Mem → Prop} {k : Nat} {x : Str} {ps : List Str} {ds : List D} {μr μr' fr : Mem} (F : Cal X.prog X.w X.K X.mg X.base k x ps (spM R)) (hr : Room k X.A) (ha : EvAM X δ μ (e :: es) ds μ1) (hp : μ1.Perm (μr ++ fr)) (h : R ds μr d μr') (hg : Gl X x := by rfl)
    (hdb : (x == ("__debug__" : Str)) = false := by decide) (he : starEach (e :: es) X.env = (false, eval e X.env) :: starEach es X.env := by rfl) (hpl : (backTo pos (starEach es X.env)).any (·.1) = false := by rfl) : EvM X δ μ (.Call (.Name x p) (e :: es) [] pos) d (μr' ++ fr) := by
  obtain ⟨f, fd, F, hm, hk, hb⟩ := F.ex
  exact em_pe (pe_call F hr hg hm hk hb .nil (pass0) (pa_tw X _) hdb he hpl) fun σ H Q c q => ha σ H _ c fun vs H1 c1 x1 r1 => by
    show spM R (vs ++ []) H1 Q E0
    rw [List.append_nil]
    have nd1 : ((μr ++ fr).map (·.1)).Nodup := (hp.map (·.1)).nodup_iff.mp c1.nd
    have cel1 : ∀ z, z ∈ μr ++ fr → RepC H1 z.1 z.2 := fun z hz => c1.cel z (hp.mem_iff.mpr hz)
    rw [List.map_append] at nd1
    obtain ⟨n1, n2, n3⟩ := List.nodup_append.mp nd1
    refine ⟨ds, μr, d, μr', h, r1, ⟨fun z hz => cel1 z (List.mem_append_left _ hz), n1⟩, fun v H2 x2 ce r2 => ?_⟩
    have cr : Cfg (δ := []) μr σ H1 := ⟨Nat.zero_le _, fun i d h => by simp at h, fun z hz => cel1 z (List.mem_append_left _ hz), n1⟩
    have fz := x2.fz cr
    have frk : ∀ z ∈ fr, ∀ o, H1 z.1 = some o → H2 z.1 = some o := fun z hz o ho => x2.keep z.1 o ho fun hd => n3 _ hd _ (List.mem_map_of_mem (f := (·.1)) hz) rfl
    refine q v H2 ⟨c1.len, fun i d hd => ?_, fun z hz => ?_, ?_⟩ (x1.trans ⟨fun a o ho hn => ?_, fun a ha => ?_⟩) r2
    · obtain ⟨v, h1, h2⟩ := c1.env i d hd
      exact ⟨v, h1, Rep.mono fz _ _ h2⟩
    · rcases List.mem_append.mp hz with hz | hz
      · exact ce.cel z hz
      · exact (cel1 z (List.mem_append_right _ hz)).keep fz (frk z hz)
    · rw [List.map_append]
      refine List.nodup_append.mpr ⟨ce.nd, n2, fun a ha b hb e => ?_⟩
      subst e
      rcases x2.new a ha with z | z
      · exact n3 a z a hb rfl
      · obtain ⟨y, hy, rfl⟩ := List.mem_map.mp hb
        obtain ⟨o, ho, _⟩ := (cel1 y (List.mem_append_right _ hy)).some
        rw [z] at ho; cases ho
    · exact x2.keep a o ho fun hd => hn ((hp.map (·.1)).mem_iff.mpr (by rw [List.map_append]; exact List.mem_append_left _ hd))
    · unfold dm at ha
      rw [List.map_append] at ha
      rcases List.mem_append.mp ha with ha | ha
      · rcases x2.new a ha with z | z
        · exact .inl ((hp.map (·.1)).mem_iff.mpr (by rw [List.map_append]; exact List.mem_append_left _ z))
        · exact .inr z
      · exact .inl ((hp.map (·.1)).mem_iff.mpr (by rw [List.map_append]; exact List.mem_append_right _ ha))
theorem em_pm (h : EvM X δ μ e d μ1) (hp : μ1.Perm μ2) : EvM X δ μ e d μ2 := fun σ H Q c q => h σ H Q c fun v H' c' x r =>
  q v H' ⟨c'.len, c'.env, fun z hz => c'.cel z (hp.mem_iff.mpr hz), (hp.map (·.1)).nodup_iff.mp c'.nd⟩ ⟨x.keep, fun a ha => x.new a ((hp.map (·.1)).mem_iff.mpr ha)⟩ r
theorem em_if {r : Bool} (h : EvT X δ μ c r) (k1 : r = true → EvM X δ μ a d μ') (k2 : r = false → EvM X δ μ b d μ') : EvM X δ μ (.IfExp c a b pos) d μ' :=
  em_pe (pe_ifExp (pt_tw X c) (pe_tw X a) (pe_tw X b)) fun σ H Q g q => h σ H _ g fun H1 e1 => by
    cases r with
    | true => rw [if_pos rfl]; exact k1 rfl σ H1 _ (g.ex e1) fun v H2 c2 x2 r2 => q v H2 c2 ((Xs.of e1).trans x2) r2
    | false => rw [if_neg Bool.false_ne_true]; exact k2 rfl σ H1 _ (g.ex e1) fun v H2 c2 x2 r2 => q v H2 c2 ((Xs.of e1).trans x2) r2
/-- l[e], e changes one's own -/
theorem em_ixL {ds : List D} {i : Int} (ha : Ev X δ μ a (.lst ds)) (hb : EvM X δ μ b (.int i) μ') (h : atI ds i = some d) (hs : PlainIx b := by exact fun _ _ => rfl) : EvM X δ μ (.Subscript a b pos) d μ' :=
  em_pe (pe_ix ix_list (pe_tw X a) (pe_tw X b) hs) fun σ H Q c q => ha σ H _ c fun u H1 e1 r1 => hb σ H1 _ (c.ex e1) fun v H2 c2 x2 r2 => by
    obtain ⟨p, o, vs, rfl, hp, hr⟩ := r1
    obtain ⟨w, hw, rw'⟩ := hr.at h
    have fz := x2.fz (c.ex e1)
    exact ⟨p, vs, i, w, rfl, r2, .inl (.inr ⟨o, fz _ _ hp trivial⟩), hw, q w H2 c2 ((Xs.of e1).trans x2) (Rep.mono fz _ _ rw')⟩
theorem s_setM (i : Nat) {x : Str} {p' : Pos} (hN : X.N.Nodup) (he : EvM X δ μ e d μ') (hi : X.N[i]? = some x := by rfl) (hx : Loc X.env.scope x := by first | exact .inl rfl | exact .inr rfl)
    (hs : swapsWith e (some (.Name x p')) pos.line X.env = pure false := by rfl) (hf : X.fn x = true ∨ X.env.scope.names.lookup x = some .local := by first | exact .inl rfl | exact .inr rfl) : S1 X δ μ (.Assign [.Name x p'] e pos) (.nx (δ.set i (some d)) μ') :=
  s1_ps (ps_set hN hi hx (pe_tw X e) hs hf) fun σ H D c q => he σ H _ c fun v H' c' x r => q _ H' (c'.set r) x
theorem s_retM (h : EvM X δ μ e d μ') : S1 X δ μ (.Return (some e) pos) (.rt d μ') := s1_ps (ps_ret (pe_tw X e)) fun σ H D c q => h σ H _ c fun v H' c' x r => q v H' r c'.celAll x
theorem s_parM {i j : Nat} {x y : Str} {px py pt : Pos} {kt k2 pt2} (hc : X.calm = true) (hN : X.N.Nodup) (ha : EvM X δ μ a d1 μ1) (hb : EvM X δ μ1 b d2 μ') (hij : i ≠ j) (hi : X.N[i]? = some x := by rfl) (hj : X.N[j]? = some y := by rfl)
    (hx : X.env.scope.names.lookup x = some .local := by rfl) (hy : X.env.scope.names.lookup y = some .local := by rfl) (hw : swappedStores [.Tuple [.Name x px, .Name y py] kt pt] (.Tuple [a, b] k2 pt2) X.env = pure (some [x, y]) := by rfl)
    (hs : swapsWithSole [.Tuple [.Name x px, .Name y py] kt pt] (.Tuple [a, b] k2 pt2) pos.line X.env = pure false := by rfl)
    (he : starEach [a, b] X.env = (false, eval a X.env) :: starEach [b] X.env := by rfl) (he2 : starEach [b] X.env = (false, eval b X.env) :: starEach [] X.env := by rfl) :
    S1 X δ μ (.Assign [.Tuple [.Name x px, .Name y py] kt pt] (.Tuple [a, b] k2 pt2) pos) (.nx ((δ.set i (some d1)).set j (some d2)) μ') :=
  s1_ps (ps_par hc hN hi hj hij hx hy (pa_tw X [a, b]) hw hs) fun σ H D c q => eam_cons ha (eam_cons hb eam_nil he2) he σ H _ c fun vs H1 c1 x1 r1 => by
    obtain ⟨v, ws, rfl, r, r2⟩ := r1
    obtain ⟨w, rfl, r3⟩ := r2.one
    exact ⟨v, w, rfl, q _ H1 ((c1.set r).set r3) x1⟩
end
theorem cfg_startM {N : List Str} {ds : List D} {vs : List V} {μ : Mem} {H : Hp} (h : RepL H ds vs) (ce : Cel μ H) : Cfg (init N ds) μ (L2.start N vs) H :=
  ⟨(cfg_start h).len, (cfg_start h).env, ce.cel, ce.nd⟩
theorem fn_M {P : Program} {w : World} {K : PySem.W.Frag} {mg : Str → Option Value} {base : Heap} {x : Str} {st : Stmt} {f : Addr} {fd : FuncData} {N ps : List Str} {k : Nat} {R : List D → Mem → D → Mem → Prop} (F : FnP K x st f fd) (g : mg x = some (.ref f)) (S : FnScope N ps (defScope st)) (hl : ∀ ds μ d μ', R ds μ d μ' → ds.length = ps.length)
    (hbd : ∀ (kV doc pm : Value) (an : Option Addr) (cdv ct : Value) (us : List Value), us.length = ps.length → bindArgs (PySem.W.fnOf x x (defArgs st) (defBody st) (defScope st) .none kV doc pm an cdv ct) ⟨us, []⟩ = pure (ps.zip us))
    (hb : ∀ (cdv : Value) (A : Around) (outer : List Env) (s : Shared) (H : Hp) (E : XK), Room k (A.deeper (envOfC x (defScope st) s.heap.objs.size f cdv)) → ∀ ds μ d μ', R ds μ d μ' → Sv (cx0 P w K mg base N x (defScope st) f cdv A outer s H E) (init N ds) μ (defBody st) (.rt d μ')) :
    Cal P w K mg base (k + 1) x ps (spM R) := by
  refine ⟨f, fd, ?_, g, F.kp, F.bindsN hbd⟩
  refine F.ok S (fun vs H Q E h => ?_) fun cdv A outer s H vs Q E hr h => ?_
  · obtain ⟨ds, μ, d, μ', h1, h2, _⟩ := h
    rw [h2.len]; exact hl ds μ d μ' h1
  · obtain ⟨ds, μ, d, μ', h1, h2, h3, h4⟩ := h
    exact ⟨_, PSs.nox (pss_tw _ _), hb cdv A outer s H E hr ds μ d μ' h1 _ H _ (cfg_startM h2 h3) fun v H' r ce x => h4 v H' x ce r⟩
end Bx
end

-- part BxZ
section
set_option Elab.async false
set_option linter.all false
set_option maxRecDepth 100000
set_option maxHeartbeats 1000000
/-! Boxparts, part Z: a dict with texts as keys (the draw), pop(0). -/
namespace Bx
open PySem PySem.Spec PyProof.Rows L2
abbrev dsM (m : List (Str × D)) : C := .dK (m.map fun q => Sum.inr q.1) (m.map fun q => q.2)
theorem inr_inj (a b : Str) (h : (Sum.inr a : Key) = Sum.inr b) : a = b := by injection h
section
variable {X : Cx} {δ δ1 : De} {μ μ1 μ2 μ' : Mem} {st : Stmt} {rest sts : List Stmt} {o : Out} {e a b c f i ob kx ex : Expr} {es : List Expr} {p pos : Pos} {d d1 d2 : D} {k0 : Nat}
theorem cel_S {H : Hp} {l : Addr} {m : List (Str × D)} {σ : L2.St} (c : Cfg δ μ σ H) (hl : (l, dsM m) ∈ μ) : ∃ kvs : List (Key × V), H l = some (.dK kvs) ∧ KM H Sum.inr (fun d : D => d) m kvs := by
  obtain ⟨kvs, h1, h2, h3⟩ := c.cel _ hl
  exact ⟨kvs, h1, KM.of h2 h3⟩
theorem ev_dgetS {l : Addr} {m : List (Str × D)} {k : Str} {y : D} (hr : Room k0 X.A) (ho : Ev X δ μ ob (.adr l)) (hl : (l, dsM m) ∈ μ) (hi : Ev X δ μ i (.str k)) (hk : look m k = some y) (hs : NoSl i := by exact fun _ _ => rfl) : Ev X δ μ (.Subscript ob i pos) y :=
  ev_pe (pe_dget (by have := hr.units; omega) (pe_tw X ob) (pe_tw X i) hs) fun σ H Q c q => ho σ H _ c fun x H1 e1 r1 => hi σ H1 _ (c.ex e1) fun v H2 e2 r2 => by
    obtain rfl : x = V.ref l := r1
    obtain rfl : v = V.str k := r2
    obtain ⟨kvs, h1, km⟩ := cel_S ((c.ex e1).ex e2) hl
    rcases km.val inr_inj k with ⟨z, _⟩ | ⟨b, w, z, z1, z2⟩
    · rw [hk] at z; cases z
    · rw [hk] at z; cases z
      exact ⟨l, w, rfl, .inl ⟨kvs, .inr k, .inl h1, rfl, z1.symm⟩, q w H2 (e1.trans e2) z2⟩
theorem s_putS {l : Addr} {m : List (Str × D)} {k : Str} {y : D} {pos' : Pos} {value : Expr} (hr : Room k0 X.A) (hv : EvM X δ μ value y μ1) (ho : Ev X δ μ1 ob (.adr l)) (hm : Mup μ1 l (dsM m) (dsM (put m k y)) μ') (hi : Ev X δ μ1 i (.str k)) (hz : m.length < 100000)
    (hs : swapsWith value (some (.Subscript ob i pos')) pos.line X.env = pure false := by rfl) : S1 X δ μ (.Assign [.Subscript ob i pos'] value pos) (.nx δ μ') :=
  s1_ps (ps_dput (by have := hr.units; omega) (pe_tw X ob) (pe_tw X i) (pe_tw X value) hs) fun σ H D c q => hv σ H _ c fun v H1 c1 x1 r1 => ho σ H1 _ c1 fun x H2 e2 r2 => hi σ H2 _ (c1.ex e2) fun w H3 e3 r3 => by
    obtain rfl : x = V.ref l := r2
    obtain rfl : w = V.str k := r3
    have c3 := (c1.ex e2).ex e3
    obtain ⟨kvs, h1, km⟩ := cel_S c3 hm.mem
    have f2 : Fz H3 (upd H3 l (.dK (putK kvs (.inr k) v))) := Fz.upd fun o ho => by rw [h1] at ho; cases ho; exact fun z => z
    have km2 := (km.put inr_inj k (r1.ex (e2.trans e3))).mono f2
    obtain ⟨g, xx, _⟩ := c3.mup (u := .dK (putK kvs (.inr k) v)) hm ⟨_, upd_same, km2.keys, km2.vals⟩
    exact ⟨l, _, rfl, .inl ⟨kvs, .inr k, h1, rfl, by rw [km.len]; exact Nat.lt_of_lt_of_le hz (by decide), rfl⟩, q σ _ g ((x1.trans (Xs.of (e2.trans e3))).trans xx)⟩
/-- l.pop(0) -/
theorem em_pop0 {l : Addr} {ds : List D} {apos cpos : Pos} (ha : Ev X δ μ a (.adr l)) (m : Mup μ l (.lst (d :: ds)) (.lst ds) μ') (hb : ∀ μ, Ev X δ μ b (.int 0))
    (hpe : ∀ (ta tb : TE), PE X a ta → PE X b tb → PE X (.Call (.Attribute a "pop" apos) [b] [] cpos) (tBM X.K "list" rPopAt ta (tCons tb tNil))) : EvM X δ μ (.Call (.Attribute a "pop" apos) [b] [] cpos) d μ' :=
  em_pe (hpe _ _ (pe_tw X a) (pe_tw X b)) fun σ H Q c q => ha σ H _ c fun u H1 e1 r1 => by
    obtain rfl : u = V.ref l := r1
    obtain ⟨vs0, hp0, _⟩ := (c.ex e1).cel _ m.mem
    refine ⟨.inl ⟨rfl, vs0, SqL.of hp0⟩, hb μ σ H1 _ (c.ex e1) fun w H2 e2 r2 => ?_⟩
    obtain rfl : w = V.int 0 := r2
    obtain ⟨vs, hv, hr⟩ := ((c.ex e1).ex e2).cel _ m.mem
    have hv : H2 l = some (.lst vs) := hv
    obtain ⟨v, ws, rfl, rv, rws⟩ := hr
    have f2 : Fz H2 (upd H2 l (.lst ws)) := Fz.upd fun o ho => by rw [hv] at ho; cases ho; exact fun z => z
    obtain ⟨g, x, _⟩ := ((c.ex e1).ex e2).mup (u := .lst ws) m ⟨ws, upd_same, RepL.mono f2 _ _ rws⟩
    exact ⟨l, v :: ws, 0, 0, v, rfl, rfl, hv, by decide, by decide, by simp [seqIndex?], rfl, q v _ g ((Xs.of (e1.trans e2)).trans x) (Rep.mono f2 _ _ rv)⟩
end
end Bx
end

-- part BxZ1
section
set_option Elab.async false
set_option linter.all false
set_option maxRecDepth 100000
set_option maxHeartbeats 1000000
/-! Boxparts: the draw: _law_take, _law_pick, _law_mixed. -/
namespace Bx
open PySem PySem.Spec PyProof.Rows L2
theorem em_callA {X : Cx} {δ : De} {μ μ1 μ' : Mem} {e : Expr} {es : List Expr} {p pos : Pos} {d : D} {R : List D → Mem → D → Mem → Prop} {k : Nat} {x : Str} {ps : List Str} {ds : List D} (F : Cal X.prog X.w X.K X.mg X.base k x ps (spM R)) (hr : Room k X.A) (ha : EvAM X δ μ (e :: es) ds μ1) (h : R ds μ1 d μ') (hg : Gl X x := by rfl)
    (hdb : (x == ("__debug__" : Str)) = false := by decide) (he : starEach (e :: es) X.env = (false, eval e X.env) :: starEach es X.env := by rfl) (hpl : (backTo pos (starEach es X.env)).any (·.1) = false := by rfl) : EvM X δ μ (.Call (.Name x p) (e :: es) [] pos) d μ' := by
  have := em_call (fr := []) (p := p) (pos := pos) F hr ha (by rw [List.append_nil]) h hg hdb he hpl
  rwa [List.append_nil] at this
structure Dst where
  large : List Int
  rest : Int
  cells : List Int
  turn : Int
abbrev drM (l : Addr) (s : Dst) : List (Str × D) := [("large", .adr l), ("rest", .int s.rest), ("cells", li s.cells), ("turn", .int s.turn)]
abbrev drMem (a l : Addr) (s : Dst) : Mem := [(a, dsM (drM l s)), (l, .lst (s.large.map D.int))]
def greats : List Int := [2147483629, 2147483587, 2147483579]
def mixIn (great : Int) (b g : Int) : Int := (b * 48271 + g) % great
def mixG (turn : Int) (cells : List Int) (great : Int) : Int := (cells.foldl (mixIn great) ((turn * 69621 + great / 7) % great)) ^ 5 % great
def mixStep (turn : Int) (cells : List Int) (f great : Int) : Int := f * 2147483647 + mixG turn cells great
def mixedV (s : Dst) : Int := greats.foldl (mixStep (s.turn + 1) s.cells) 0
def refill (s : Dst) : Dst := if s.rest = 0 then (match s.large with
  | x :: t => { s with large := t, rest := x }
  | [] => { s with rest := mixedV s, turn := s.turn + 1 }) else s
def takeV (s : Dst) (n : Int) : Int := (refill s).rest % n
def takeS (s : Dst) (n : Int) : Dst := { refill s with rest := (refill s).rest / n }
section
variable {P : Program} {w : World} {K : PySem.W.Frag} {mg : Str → Option Value} {base : Heap} {f : Addr} {fd : FuncData}
def RMixed (ds : List D) (μ : Mem) (d : D) (μ' : Mem) : Prop := ∃ a l s, ds = [.adr a] ∧ μ = drMem a l s ∧ d = .int (mixedV s) ∧ μ' = drMem a l { s with turn := s.turn + 1 }
def RTake (ds : List D) (μ : Mem) (d : D) (μ' : Mem) : Prop := ∃ a l s n, ds = [.adr a, .int n] ∧ μ = drMem a l s ∧ 0 < n ∧ n < 100000 ∧ d = .int (takeV s n) ∧ μ' = drMem a l (takeS s n)
abbrev nTake : List Str := ["_law_draw", "_law_amount", "_law_found"]
theorem scTake : FnScope nTake ["_law_draw", "_law_amount"] (defScope (top 63)) := ⟨rfl, rfl, rfl, by decide +kernel, rfl, by decide +kernel, by decide +kernel⟩
theorem shp_liD (ss : List Int) : Shp 1 (.lst (ss.map D.int)) := shp_li ss
theorem c_take (F : FnP K "_law_take" (top 63) f fd) (g : mg "_law_take" = some (.ref f)) (B : Bi mg) (G : Cal P w K mg base 1 "_law_mixed" ["_law_draw"] (spM RMixed)) : Cal P w K mg base 2 "_law_take" ["_law_draw", "_law_amount"] (spM RTake) := by
  refine fn_M F g scTake (fun ds _ d _ ⟨_, _, _, _, q, _⟩ => by rw [q]; rfl) (fun _ _ _ _ _ _ us hl => match us, hl with | [_, _], _ => rfl) fun cdv A outer s0 H E hr ds μ d μ' h => ?_
  obtain ⟨a, l, s, n, rfl, rfl, hn, hn2, rfl, rfl⟩ := h
  have hN := scTake.nd
  refine sv_cons (δ1 := init nTake [.adr a, .int n]) (μ1 := drMem a l (refill s)) (s_if (et_c (ec_eqI (ev_dgetS (y := .int s.rest) hr (ev_var 0) List.mem_cons_self ev_str rfl) ev_int)) (fun hh => ?_) (fun hh => ?_)) ?_
  · have hh := of_decide_eq_true hh
    unfold refill
    rw [if_pos hh]
    cases hlg : s.large with
    | cons x t =>
      have hm : drMem a l s = [(a, dsM (drM l s)), (l, .lst (.int x :: t.map D.int))] := by unfold drMem; rw [hlg]; rfl
      rw [hm]
      refine sv_one (s_putS (y := .int x) (μ1 := [(a, dsM (drM l s)), (l, .lst (t.map D.int))]) hr (em_if (r := true) (EvT.is (et_c (ec_neNilA hr (ev_dgetS (y := .adr l) hr (ev_var 0) List.mem_cons_self ev_str rfl) (ds := .int x :: t.map D.int) (List.mem_cons_of_mem _ (List.mem_singleton.mpr rfl)) (ev_lst ea_nil) (shp_liD (x :: t)))) rfl) (fun _ => em_pop0 (ev_dgetS (y := .adr l) hr (ev_var 0) List.mem_cons_self ev_str rfl) (.there .here) (fun _ => ev_int) fun ta tb ha hb => pe_bm PySem.F.plainAttrs_list PySem.F.slot_list_pop PySem.F.type_list_pop mt_popAt ha (pa_cons hb pa_nil)) (fun z => nomatch z)) (ev_var 0) .here ev_str (by show 4 < 100000; decide))
    | nil =>
      have hm : drMem a l s = [(a, dsM (drM l s)), (l, .lst [])] := by unfold drMem; rw [hlg]; rfl
      rw [hm]
      refine sv_one (s_putS (m := drM l { s with turn := s.turn + 1 }) (y := .int (mixedV s)) (μ1 := drMem a l { s with turn := s.turn + 1 }) hr (em_if (r := false) (EvT.is (et_c (ec_neNilA hr (ev_dgetS (y := .adr l) hr (ev_var 0) List.mem_cons_self ev_str rfl) (ds := []) (List.mem_cons_of_mem _ (List.mem_singleton.mpr rfl)) (ev_lst ea_nil) (shp_liD []))) rfl) (fun z => nomatch z) (fun _ => ?_)) (ev_var 0) ?_ ev_str (by show 4 < 100000; decide))
      · rw [← hm]
        exact em_callA G hr (eam_cons (em_of (ev_var 0)) eam_nil) ⟨a, l, s, rfl, rfl, rfl, rfl⟩
      · show Mup [(a, _), (l, C.lst (s.large.map D.int))] a _ _ [(a, _), (l, C.lst (([] : List Int).map D.int))]
        rw [hlg]
        exact .here
  · have hh := of_decide_eq_false hh
    unfold refill
    rw [if_neg hh]
    exact sv_nil
  · have e1 : takeS s n = { refill s with rest := (refill s).rest / n } := rfl
    rw [e1]
    unfold takeV
    generalize refill s = r
    refine sv_cons (s_set 2 hN (d := .int (r.rest % n)) (ev_mod (ev_int1 B (ev_dgetS (y := .int r.rest) hr (ev_var 0) List.mem_cons_self ev_str rfl)) (ev_var 1) hn)) (sv_cons (s_putS (y := .int (r.rest / n)) (μ1 := drMem a l r) hr (em_of (ev_fdiv (ev_int1 B (ev_dgetS (y := .int r.rest) hr (ev_var 0) List.mem_cons_self ev_str rfl)) (ev_var 1) ⟨hn, by omega⟩)) (ev_var 0) .here ev_str (by show 4 < 100000; decide)) (sv_one (s_ret (ev_var 2) (List.Sublist.refl _))))
/-! _law_pick -/
def RPick (ds : List D) (μ : Mem) (d : D) (μ' : Mem) : Prop := ∃ a l s xs, ds = [.adr a, .lst xs] ∧ μ = drMem a l s ∧ 0 < xs.length ∧ xs.length < 1000 ∧ d = xs.getD (takeV s xs.length).toNat .non ∧ μ' = drMem a l (takeS s xs.length)
abbrev nPick : List Str := ["_law_draw", "_law_some"]
theorem scPick : FnScope nPick ["_law_draw", "_law_some"] (defScope (top 64)) := ⟨rfl, rfl, rfl, by decide +kernel, rfl, by decide +kernel, by decide +kernel⟩
theorem takeV_bd (s : Dst) {n : Int} (h : 0 < n) : 0 ≤ takeV s n ∧ takeV s n < n := ⟨Int.emod_nonneg _ (by omega), Int.emod_lt_of_pos _ h⟩
theorem c_pick (F : FnP K "_law_pick" (top 64) f fd) (g : mg "_law_pick" = some (.ref f)) (B : Bi mg) (G : Cal P w K mg base 2 "_law_take" ["_law_draw", "_law_amount"] (spM RTake)) : Cal P w K mg base 3 "_law_pick" ["_law_draw", "_law_some"] (spM RPick) := by
  refine fn_M F g scPick (fun ds _ d _ ⟨_, _, _, _, q, _⟩ => by rw [q]; rfl) (fun _ _ _ _ _ _ us hl => match us, hl with | [_, _], _ => rfl) fun cdv A outer s0 H E hr ds μ d μ' h => ?_
  obtain ⟨a, l, s, xs, rfl, rfl, hn, hn2, rfl, rfl⟩ := h
  have hb := takeV_bd s (n := xs.length) (by omega)
  refine sv_one (s_retM (em_ixL (ev_var 1) (em_callA G hr (eam_cons (em_of (ev_var 0)) (eam_cons (em_of (ev_lenL B (ev_var 1))) eam_nil)) ⟨a, l, s, xs.length, rfl, rfl, by omega, by omega, rfl, rfl⟩) ?_))
  have e : takeV s xs.length = (((takeV s xs.length).toNat : Nat) : Int) := by omega
  rw [e]
  refine atI_nat ?_
  rw [Int.toNat_natCast, List.getD_eq_getElem?_getD, List.getElem?_eq_getElem (by omega)]
  rfl
end
end Bx
end

-- part BxZ2
section
set_option Elab.async false
set_option linter.all false
set_option maxRecDepth 100000
set_option maxHeartbeats 1000000
/-! Boxparts: _law_mixed, _law_shape. -/
namespace Bx
open PySem PySem.Spec PyProof.Rows L2
section
variable {X : Cx} {δ : De} {μ : Mem} {a b : Expr} {pos : Pos} {i j : Int}
theorem ev_pow (ha : Ev X δ μ a (.int i)) (hb : Ev X δ μ b (.int j)) (h : CPow i j) : Ev X δ μ (.BinOp a .Pow b pos) (.int (i ^ j.toNat)) :=
  ev_bin op_pow ha hb fun u v H Q h1 h2 k => ⟨i, j, h1, h2, h, k _ H (Ex.refl H) rfl⟩
end
section
variable {P : Program} {w : World} {K : PySem.W.Frag} {mg : Str → Option Value} {base : Heap} {f : Addr} {fd : FuncData}
abbrev nMixed : List Str := ["_law_draw", "_law_turn", "_law_found", "_law_great", "_law_blend", "_law_grain"]
theorem scMixed : FnScope nMixed ["_law_draw"] (defScope (top 62)) := ⟨rfl, rfl, rfl, by decide +kernel, rfl, by decide +kernel, by decide +kernel⟩
theorem mix_bd {great : Int} (h : 0 < great) (h2 : great < 2147483648) (cells : List Int) (b : Int) (hb : 0 ≤ b ∧ b < great) : 0 ≤ cells.foldl (mixIn great) b ∧ cells.foldl (mixIn great) b < great := by
  induction cells generalizing b with
  | nil => exact hb
  | cons c cs ih => exact ih _ ⟨Int.emod_nonneg _ (by omega), Int.emod_lt_of_pos _ h⟩
theorem c_mixed (F : FnP K "_law_mixed" (top 62) f fd) (g : mg "_law_mixed" = some (.ref f)) (B : Bi mg) : Cal P w K mg base 1 "_law_mixed" ["_law_draw"] (spM RMixed) := by
  refine fn_M F g scMixed (fun ds _ d _ ⟨_, _, _, q, _⟩ => by rw [q]; rfl) (fun _ _ _ _ _ _ us hl => match us, hl with | [_], _ => rfl) fun cdv A outer s0 H E hr ds μ d μ' h => ?_
  obtain ⟨a, l, s, rfl, rfl, rfl, rfl⟩ := h
  have hN := scMixed.nd
  refine sv_cons (μ1 := drMem a l { s with turn := s.turn + 1 }) (s_putS (y := .int (s.turn + 1)) (μ1 := drMem a l s) hr (em_of (ev_add (ev_dgetS (y := .int s.turn) hr (ev_var 0) List.mem_cons_self ev_str rfl) ev_int)) (ev_var 0) .here ev_str (by show 4 < 100000; decide)) ?_
  have hcel : ∀ {s' : Dst}, (a, dsM (drM l s')) ∈ drMem a l s' := List.mem_cons_self
  refine sv_cons (s_par rfl hN (ev_int1 B (ev_dgetS (y := .int (s.turn + 1)) hr (ev_var 0) hcel ev_str rfl)) ev_int (i := 1) (j := 2) (by decide)) ?_
  refine sv_cons (s_for (xs := greats) (enc := D.int) (S := fun i => [some (.adr a), some (.int (s.turn + 1)), some (.int ((greats.take i).foldl (mixStep (s.turn + 1) s.cells) 0)), none, none, none]) (M := fun _ => drMem a l { s with turn := s.turn + 1 }) PassesOwn.never rfl (ei_list (ev_lst (ds := greats.map D.int) (ea_cons ev_int (ea_cons ev_int (ea_cons ev_int ea_nil))))) (pg_name (i := 3) hN rfl (Or.inl rfl)) (fun _ _ => tg_name 3 _) fun i great hg => ?_) (sv_one (s_ret (Ev.is (ev_var 2) ?_) (List.Sublist.refl _)))
  · have hgr : 0 < great ∧ great < 2147483648 := by
      have := List.mem_of_getElem? hg
      unfold greats at this
      rcases List.mem_cons.mp this with rfl | this
      · decide
      · rcases List.mem_cons.mp this with rfl | this
        · decide
        · obtain rfl := List.mem_singleton.mp this
          decide
    have hs0 : 0 ≤ ((s.turn + 1) * 69621 + great / 7) % great ∧ ((s.turn + 1) * 69621 + great / 7) % great < great := ⟨Int.emod_nonneg _ (by omega), Int.emod_lt_of_pos _ hgr.1⟩
    refine sv_fg (δ1 := [some (.adr a), some (.int (s.turn + 1)), some (.int ((greats.take (i + 1)).foldl (mixStep (s.turn + 1) s.cells) 0)), some (.int great), some (.int (s.cells.foldl (mixIn great) (((s.turn + 1) * 69621 + great / 7) % great))), none]) (sv_cons (s_set 4 hN (ev_mod (ev_add (ev_mul (ev_var 1) ev_int (.inr ⟨by decide, by decide⟩)) (ev_fdiv (ev_var 3) ev_int ⟨by decide, by decide⟩)) (ev_var 3) hgr.1)) (sv_cons (s_for (xs := s.cells) (enc := D.int) (S := fun j => [some (.adr a), some (.int (s.turn + 1)), some (.int ((greats.take i).foldl (mixStep (s.turn + 1) s.cells) 0)), some (.int great), some (.int ((s.cells.take j).foldl (mixIn great) (((s.turn + 1) * 69621 + great / 7) % great))), none]) (M := fun _ => drMem a l { s with turn := s.turn + 1 }) PassesOwn.never rfl (ei_list (ev_dgetS (y := li s.cells) hr (ev_var 0) hcel ev_str rfl)) (pg_name (i := 5) hN rfl (Or.inl rfl)) (fun _ _ => tg_name 5 _) fun j x hx => ?_) (sv_one (s1_is (s_set 2 hN (ev_add (ev_mul (ev_var 2) ev_int (.inr ⟨by decide, by decide⟩)) (ev_mod (ev_pow (ev_var 4) ev_int ?_) (ev_var 3) hgr.1))) ?_))))
    · exact sv_fg (sv_one (s_set 4 hN (d := .int ((s.cells.take (j + 1)).foldl (mixIn great) (((s.turn + 1) * 69621 + great / 7) % great))) (Ev.is (ev_mod (ev_add (ev_mul (ev_var 4) ev_int (.inr ⟨by decide, by decide⟩)) (ev_int1 B (ev_var 5))) (ev_var 3) hgr.1) (by rw [foldl_take _ _ hx]; rfl))))
    · have hb := mix_bd hgr.1 hgr.2 (s.cells.take s.cells.length) _ hs0
      exact ⟨by decide, by decide, by omega⟩
    · rw [foldl_take _ _ hg, List.take_length]
      rfl
  · unfold mixedV
    rw [List.take_length]
end
end Bx
end

-- part BxZ3
section
set_option Elab.async false
set_option linter.all false
set_option maxRecDepth 100000
set_option maxHeartbeats 1000000
/-! Boxparts: loops whose things change one's own objects; _law_shape. -/
namespace Bx
open PySem PySem.Spec PyProof.Rows L2
def EvIM (X : Cx) (δ : De) (μ : Mem) (tg iter : Expr) (ds : List D) (μ' : Mem) : Prop := ∀ σ H (R : It → Hp → Prop), Cfg δ μ σ H → (∀ J H', Cfg δ μ' σ H' → Xs μ H μ' H' → Gd J ds H' → ds.length ≤ sizeLine → R J H') → tI X tg iter σ H R
section
variable {X : Cx} {δ : De} {μ μ1 μ' : Mem} {e a b c tg : Expr} {es : List Expr} {p pos : Pos} {d : D} {o : Out}
/-- a plain def called with arguments that change one's own -/
theorem em_callR {R : List D → D → Prop} {k : Nat} {x : Str} {ps : List Str} {ds : List D} (F : Cal X.prog X.w X.K X.mg X.base k x ps (spR R)) (hr : Room k X.A) (ha : EvAM X δ μ (e :: es) ds μ') (h : R ds d) (hg : Gl X x := by rfl)
    (hdb : (x == ("__debug__" : Str)) = false := by decide) (he : starEach (e :: es) X.env = (false, eval e X.env) :: starEach es X.env := by rfl) (hpl : (backTo pos (starEach es X.env)).any (·.1) = false := by rfl) : EvM X δ μ (.Call (.Name x p) (e :: es) [] pos) d μ' := by
  obtain ⟨f, fd, F, hm, hk, hb⟩ := F.ex
  exact em_pe (pe_call F hr hg hm hk hb .nil (pass0) (pa_tw X _) hdb he hpl) fun σ H Q c q => ha σ H _ c fun vs H1 c1 x1 r1 => by
    show spR R (vs ++ []) H1 Q E0
    rw [List.append_nil]
    exact ⟨ds, d, h, r1, fun v H2 e2 r2 => q v H2 (c1.ex e2) (x1.trans (.of e2)) r2⟩
theorem eim_range0 {n : Int} (B : Bi X.mg) (h : EvM X δ μ a (.int n) μ') (hz : n ≤ 100000) (hl : -100000 ≤ n) (hg : Gl X "range" := by rfl) (he : starEach [a] X.env = (false, eval a X.env) :: starEach [] X.env := by rfl) (hs : starEach [a] X.env = [(false, eval a X.env)] := by rfl) :
    EvIM X δ μ tg (.Call (.Name "range" p) [a] [] pos) ((List.range n.toNat).map fun (i : Nat) => D.int (i : Int)) μ' :=
  fun σ H R c q pins s I => (pi_range1 hg B.range (pa_tw X [a]) hs).run pins s σ H _ I (eam_cons h eam_nil he σ H _ c fun vs H1 c1 x1 r1 => by
    obtain ⟨v, rfl, hv⟩ := r1.one
    refine ⟨n, by rw [show v = V.int n from hv], by omega, by omega, q _ _ c1 x1 (by rw [← rngD0]; exact gd_rng 0 _ _) ?_⟩
    rw [List.length_map, List.length_range]
    exact Nat.le_trans (show n.toNat ≤ 100000 by omega) (by decide))
theorem s_forM {α : Type} {xs : List α} {enc : α → D} {iter : Expr} {body : List Stmt} {gt : TG} {f : α → De → De} {sl : List Nat} (S : Nat → De) (M : Nat → Mem) (hp : PassesOwn (model X.prog X.w) X.A X.env X.xe) (hc : X.calm = true)
    (hi : EvIM X (S 0) μ tg iter (xs.map enc) (M 0)) (hg : PG X tg gt) (hT : ∀ x ∈ xs, TgOk gt (enc x) (f x) sl) (hb : ∀ i x, xs[i]? = some x → Sv X (f x (S i)) (M i) body (.nx (S (i + 1)) (M (i + 1))))
    (hs : ∀ x, foldedSetIterable iter X.env x = pure x := by intro _; rfl) : S1 X (S 0) μ (.For tg iter body [] pos) (.nx (S xs.length) (M xs.length)) :=
  s1_ps (ps_for hp hc (pi_tI X tg iter) hg (pss_tw X body) hs) fun σ H D g q => hi σ H _ g fun J H1 c1 x1 gd hz => by
    refine ⟨fun i m σ' H' => i ≤ xs.length ∧ m = xs.length - i ∧ Cfg (S i) (M i) σ' H' ∧ Xs (M 0) H1 (M i) H', ⟨xs.length, Nat.zero_le _, rfl, c1, .of (Ex.refl H1)⟩, ?_⟩
    rintro i m σ' H' ⟨hin, rfl, c', x⟩
    have q1 := okt q x1
    have fz : Fz H1 H' := x.fz c1
    by_cases hlt : i < xs.length
    · obtain ⟨y, hy⟩ : ∃ y, xs[i]? = some y := ⟨xs[i], List.getElem?_eq_getElem hlt⟩
      obtain ⟨h1, h2⟩ := gd.go H' i (enc y) fz (by rw [List.getElem?_map, hy]; rfl)
      refine .inr ⟨h1, fun σ2 H2 => Cfg (S (i + 1)) (M (i + 1)) σ2 H2 ∧ Xs (M 0) H1 (M (i + 1)) H2, fun σ2 H2 ⟨a, b⟩ => ⟨xs.length - (i + 1), by omega, hlt, rfl, a, b⟩, fun v H2 w => ?_⟩
      obtain ⟨e2, rv⟩ := h2 v H2 w
      exact hT y (List.mem_of_getElem? hy) _ _ v σ' H2 _ (c'.ex e2) rv fun σ2 c2 _ _ => hb i y hy σ2 H2 _ c2 fun σ3 H3 c3 x3 => ⟨c3, (x.trans (.of e2)).trans x3⟩
    · have e : i = xs.length := by omega
      subst e
      exact .inl ⟨gd.stop H' _ fz (by rw [List.length_map]; exact Nat.le_refl _), q1 σ' H' c' x⟩
end
theorem lopen_spec {s : List Int} : (0, gt s 0) ∈ lopen s ∧ (∀ p ∈ lopen s, 0 ≤ p.1 ∧ p.1 ≤ s.length) ∧ 0 < (lopen s).length ∧ (lopen s).length ≤ s.length + 1 := by
  have h0 : (0, gt s 0) ∈ lopen s := by
    unfold lopen lopenAcc
    exact List.mem_map.mpr ⟨0, List.mem_filter.mpr ⟨List.mem_range.mpr (by omega), rfl⟩, rfl⟩
  refine ⟨h0, fun p hp => ?_, List.length_pos_of_mem h0, ?_⟩
  · unfold lopen lopenAcc at hp
    obtain ⟨k, hk, rfl⟩ := List.mem_map.mp hp
    have := List.mem_range.mp (List.mem_filter.mp hk).1
    exact ⟨by simp, by show (k : Int) ≤ _; omega⟩
  · unfold lopen lopenAcc
    rw [List.length_map]
    have := List.length_filter_le (loT s) (List.range (s.length + 1))
    rw [List.length_range] at this
    exact this
def lshStep (st : List Int × Dst) : List Int × Dst := (lput st.1 ((lopen st.1).getD (takeV st.2 (lopen st.1).length).toNat (0, 0)), takeS st.2 (lopen st.1).length)
section
variable {P : Program} {w : World} {K : PySem.W.Frag} {mg : Str → Option Value} {base : Heap} {f : Addr} {fd : FuncData}
def RLshape (ds : List D) (μ : Mem) (d : D) (μ' : Mem) : Prop := ∃ a l s most, ds = [.adr a, .int most] ∧ μ = drMem a l s ∧ 0 ≤ most ∧ most ≤ 100 ∧ (∀ i, Sm (itM lshStep i ([], takeS s (most + 1))).1 ∨ (takeV s (most + 1)).toNat < i) ∧
  d = sh (itM lshStep (takeV s (most + 1)).toNat ([], takeS s (most + 1))).1 ∧ μ' = drMem a l (itM lshStep (takeV s (most + 1)).toNat ([], takeS s (most + 1))).2
abbrev nLshape : List Str := ["_law_draw", "_law_most", "_law_found", "_law_lap"]
theorem scLshape : FnScope nLshape ["_law_draw", "_law_most"] (defScope (top 67)) := ⟨rfl, rfl, rfl, by decide +kernel, rfl, by decide +kernel, by decide +kernel⟩
theorem c_lshape (F : FnP K "_law_shape" (top 67) f fd) (g : mg "_law_shape" = some (.ref f)) (B : Bi mg) (G1 : Cal P w K mg base 2 "_law_take" ["_law_draw", "_law_amount"] (spM RTake)) (G2 : Cal P w K mg base 3 "_law_pick" ["_law_draw", "_law_some"] (spM RPick)) (G3 : Cal P w K mg base 1 "_law_open" ["_law_shape_here"] (spR RLopen))
    (G4 : Cal P w K mg base 1 "_law_put" ["_law_shape_here", "_law_box_here"] (spR RLput)) : Cal P w K mg base 4 "_law_shape" ["_law_draw", "_law_most"] (spM RLshape) := by
  refine fn_M F g scLshape (fun ds _ d _ ⟨_, _, _, _, q, _⟩ => by rw [q]; rfl) (fun _ _ _ _ _ _ us hl => match us, hl with | [_, _], _ => rfl) fun cdv A outer s0 H E hr ds μ d μ' h => ?_
  obtain ⟨a, l, s, most, rfl, rfl, h0, h1, hsm, rfl, rfl⟩ := h
  have hN := scLshape.nd
  have hb := takeV_bd s (n := most + 1) (by omega)
  refine sv_cons (s_set 2 hN (d := sh []) (ev_tup (ds := []) ea_nil)) ?_
  generalize hn : (takeV s (most + 1)).toNat = n at hsm ⊢
  refine sv_cons (s_forM (xs := List.range (takeV s (most + 1)).toNat) (enc := fun (i : Nat) => D.int (i : Int)) (S := fun i => [some (.adr a), some (.int most), some (sh (itM lshStep i ([], takeS s (most + 1))).1), none]) (M := fun i => drMem a l (itM lshStep i ([], takeS s (most + 1))).2) PassesOwn.never rfl
    (eim_range0 B (em_callA G1 (hr.mono (by decide)) (eam_cons (em_of (ev_var 0)) (eam_cons (em_of (ev_add (ev_var 1) ev_int)) eam_nil)) ⟨a, l, s, most + 1, rfl, rfl, by omega, by omega, rfl, rfl⟩) (by omega) (by omega)) (pg_name (i := 3) hN rfl (Or.inl rfl)) (fun _ _ => tg_name 3 _) fun i x hx => ?_) (sv_one (s1_is (s_ret (ev_var 2) (List.Sublist.refl _)) ?_))
  · obtain ⟨hi, rfl⟩ := range_get hx
    have hS := itM_succ lshStep x ([], takeS s (most + 1))
    have sm : Sm (itM lshStep x ([], takeS s (most + 1))).1 := (hsm x).resolve_right (by omega)
    rw [hS]
    generalize itM lshStep x ([], takeS s (most + 1)) = st at sm ⊢
    obtain ⟨_, l2, l3, l4⟩ := lopen_spec (s := st.1)
    have hl := sm.len
    have hbd := takeV_bd st.2 (n := (lopen st.1).length) (by omega)
    have hmem : (lopen st.1).getD (takeV st.2 (lopen st.1).length).toNat (0, 0) ∈ lopen st.1 := by
      rw [List.getD_eq_getElem?_getD, List.getElem?_eq_getElem (by omega)]
      exact List.getElem_mem _
    have hp := l2 _ hmem
    have hget : ((lopen st.1).map bx).getD (takeV st.2 (lopen st.1).length).toNat .non = bx ((lopen st.1).getD (takeV st.2 (lopen st.1).length).toNat (0, 0)) := by
      rw [List.getD_eq_getElem?_getD, List.getElem?_map, List.getD_eq_getElem?_getD, List.getElem?_eq_getElem (by omega)]
      rfl
    refine sv_fg (sv_one (s_setM 2 hN (d := sh (lshStep st).1) (em_callR G4 (hr.mono (by decide)) (eam_cons (em_of (ev_var 2)) (eam_cons (d := bx ((lopen st.1).getD (takeV st.2 (lopen st.1).length).toNat (0, 0))) (em_callA G2 hr (eam_cons (em_of (ev_var 0)) (eam_cons (em_of (ev_call G3 (hr.mono (by decide)) (ea_cons (ev_var 2) ea_nil) ⟨st.1, rfl, sm, rfl⟩)) eam_nil)) ⟨a, l, st.2, (lopen st.1).map bx, rfl, rfl, ?_, ?_, ?_, ?_⟩) eam_nil)) ⟨st.1, _, rfl, sm, hp.1, hp.2, rfl⟩)))
    · rw [List.length_map]; omega
    · rw [List.length_map]; omega
    · rw [List.length_map, hget]
    · rw [List.length_map]; rfl
  · rw [List.length_range, hn]
end
end Bx
end

-- part BxZ4
section
set_option Elab.async false
set_option linter.all false
set_option maxRecDepth 100000
set_option maxHeartbeats 1000000
/-! Boxparts: _law_weight_one. -/
namespace Bx
open PySem PySem.Spec PyProof.Rows L2
def wOne (e : Int) (k : Nat) : List Int := List.replicate (1 + (e + (k : Int)) / 3).toNat (e + (k : Int))
def wSome (e : Int) (n : Nat) : List Int := (List.range n).flatMap (wOne e)
theorem wSome_succ (e : Int) (n : Nat) : wSome e (n + 1) = wSome e n ++ wOne e n := by
  unfold wSome
  rw [List.range_succ, List.flatMap_append]
  simp
theorem rep_flatI (x : Int) : ∀ k : Nat, (List.replicate k [D.int x]).flatten = (List.replicate k x).map D.int
  | 0 => rfl
  | k + 1 => by rw [List.replicate_succ, List.flatten_cons, rep_flatI x k]; rfl
def wFound (e : Int) (fs : List (List Int)) : List (List Int) := fs.filter fun o => decide ((lcore e o).2 = 1)
section
variable {P : Program} {w : World} {K : PySem.W.Frag} {mg : Str → Option Value} {base : Heap} {f : Addr} {fd : FuncData}
def wMany (e most : Int) (s : Dst) : Int := (wSome e (most + 1 - e).toNat).getD (takeV s (wSome e (most + 1 - e).toNat).length).toNat 0
def wS1 (e most : Int) (s : Dst) : Dst := takeS s (wSome e (most + 1 - e).toNat).length
def wRes (e most : Int) (s : Dst) (fs : List (List Int)) : List Int := if (wFound e fs).isEmpty then [e] else (wFound e fs).getD (takeV (wS1 e most s) (wFound e fs).length).toNat []
def wS2 (e most : Int) (s : Dst) (fs : List (List Int)) : Dst := if (wFound e fs).isEmpty then wS1 e most s else takeS (wS1 e most s) (wFound e fs).length
def RWone (ds : List D) (μ : Mem) (d : D) (μ' : Mem) : Prop := ∃ a l s e most t, ds = [.adr a, .int e, .int most] ∧ μ = drMem a l s ∧ 0 ≤ e ∧ e ≤ most ∧ most ≤ 20 ∧ (wSome e (most + 1 - e).toNat).length < 1000 ∧ 0 < (wSome e (most + 1 - e).toNat).length ∧ lsRun (wMany e most s) = some t ∧ SortOk t.1 ∧ (∀ o ∈ sortS t.1, lcoreAll e o = true) ∧ (sortS t.1).length < 1000 ∧
  d = sh (wRes e most s (sortS t.1)) ∧ μ' = drMem a l (wS2 e most s (sortS t.1))
abbrev nWone : List Str := ["_law_draw", "_law_e_here", "_law_most", "_law_some", "_law_many", "_law_found", "_law_shape_here"]
theorem scWone : FnScope nWone ["_law_draw", "_law_e_here", "_law_most"] (defScope (top 77)) := ⟨rfl, rfl, rfl, by decide +kernel, rfl, by decide +kernel, by decide +kernel⟩
theorem c_wone (F : FnP K "_law_weight_one" (top 77) f fd) (g : mg "_law_weight_one" = some (.ref f)) (B : Bi mg) (G1 : Cal P w K mg base 3 "_law_pick" ["_law_draw", "_law_some"] (spM RPick)) (G2 : Cal P w K mg base 1 "_law_shapes" ["_law_many"] (spR RLshapes)) (G3 : Cal P w K mg base 3 "_law_core" ["_law_e_here", "_law_shape_here"] (spR RLcore)) :
    Cal P w K mg base 4 "_law_weight_one" ["_law_draw", "_law_e_here", "_law_most"] (spM RWone) := by
  refine fn_M F g scWone (fun ds _ d _ ⟨_, _, _, _, _, _, q, _⟩ => by rw [q]; rfl) (fun _ _ _ _ _ _ us hl => match us, hl with | [_, _, _], _ => rfl) fun cdv A outer s0 H E hr ds μ d μ' h => ?_
  obtain ⟨a, l, s, e, most, t, rfl, rfl, he, hem, hmo, hz, hz0, hls, so, ok, hz2, rfl, rfl⟩ := h
  have hN := scWone.nd
  refine sv_new 3 hN ea_nil fun q => sv_fzA 3 rfl .here ?_
  have hlen : ∀ i, i ≤ (most + 1 - e).toNat → (wSome e i).length ≤ i * 10 := by
    intro i
    induction i with
    | zero => intro _; simp [wSome]
    | succ i ih =>
      intro hi
      rw [wSome_succ, List.length_append]
      have := ih (by omega)
      unfold wOne
      rw [List.length_replicate]
      omega
  refine sv_cons (s_for (xs := List.range (most + 1 - e).toNat) (enc := fun (i : Nat) => D.int (e + (i : Int))) (S := fun i => [some (.adr a), some (.int e), some (.int most), some (li (wSome e i)), none, none, none]) (M := fun _ => drMem a l s) PassesOwn.never rfl (ei_range2 B (ev_var 1) (ev_add (ev_var 2) ev_int) (by omega) (by omega) (by omega) (by omega)) (pg_name (i := 4) hN rfl (Or.inl rfl)) (fun _ _ => tg_name 4 _) fun i x hx => ?_) ?_
  · obtain ⟨hi, rfl⟩ := range_get hx
    have := hlen x (by omega)
    refine sv_fg (sv_one (s_set 3 hN (d := li (wSome e (x + 1))) (Ev.is (ev_catL (ev_var 3) (ev_repL (ev_lst (ea_cons (ev_var 4) ea_nil)) (ev_add ev_int (ev_fdiv (ev_var 4) ev_int ⟨by decide, by decide⟩)) ?_ ?_) ?_) ?_)))
    · omega
    · simp; omega
    · rw [rep_flatI, List.length_map, List.length_map, List.length_replicate]; omega
    · rw [rep_flatI, wSome_succ]
      unfold wOne li
      rw [List.map_append]
  · rw [List.length_range]
    have hb := takeV_bd s (n := (wSome e (most + 1 - e).toNat).length) (by omega)
    have hget : ((wSome e (most + 1 - e).toNat).map D.int).getD (takeV s (wSome e (most + 1 - e).toNat).length).toNat .non = .int (wMany e most s) := by
      unfold wMany
      rw [List.getD_eq_getElem?_getD, List.getElem?_map, List.getD_eq_getElem?_getD, List.getElem?_eq_getElem (by omega)]
      rfl
    refine sv_cons (μ1 := drMem a l (wS1 e most s)) (s_setM 4 hN (d := .int (wMany e most s)) (em_callA G1 hr (eam_cons (em_of (ev_var 0)) (eam_cons (em_of (ev_var 3)) eam_nil)) ⟨a, l, s, (wSome e (most + 1 - e).toNat).map D.int, rfl, rfl, by rw [List.length_map]; exact hz0, by rw [List.length_map]; exact hz, by rw [List.length_map, hget], by rw [List.length_map]; rfl⟩)) ?_
    refine sv_cons (s_lcF1 5 nWone (defScope (top 77)) 6 (xs := sortS t.1) sh (fun o => decide ((lcore e o).2 = 1)) sh rfl hN (ei_list (ev_call G2 (hr.mono (by decide)) (ea_cons (ev_var 4) ea_nil) ⟨_, t, rfl, hls, so, rfl⟩)) (fun o ho _ _ _ _ _ => et_c (ec_eqI (ev_ixT (ev_call G3 hr (ea_cons (ev_var 1) (ea_cons (ev_var 6) ea_nil)) (lcoreAll_spec (ok o ho))) ev_int (atI_nat (j := 1) rfl)) ev_int)) (fun o ho _ _ _ _ _ _ => ev_var 6)) ?_
    show Sv _ [some (.adr a), some (.int e), some (.int most), some (li (wSome e (most + 1 - e).toNat)), some (.int (wMany e most s)), some (.lst ((wFound e (sortS t.1)).map sh)), none] _ _ _
    have hfl : (wFound e (sortS t.1)).length < 1000 := Nat.lt_of_le_of_lt (List.length_filter_le _ _) hz2
    unfold wRes wS2
    generalize wFound e (sortS t.1) = fnd at hfl ⊢
    refine sv_one (s_retM (em_if (r := !fnd.isEmpty) (EvT.is (et_c (ec_neNilL hr (ev_var 5) (ev_lst ea_nil) (shp_shs _))) (by rw [List.isEmpty_map])) (fun hh => ?_) (fun hh => ?_)))
    · have hne : fnd.isEmpty = false := by simpa using hh
      have hpos : 0 < fnd.length := by cases fnd with | nil => cases hne | cons _ _ => simp
      have hb2 := takeV_bd (wS1 e most s) (n := fnd.length) (by omega)
      rw [hne]
      refine EvM.is (em_callA (μ' := drMem a l (takeS (wS1 e most s) fnd.length)) G1 hr (eam_cons (em_of (ev_var 0)) (eam_cons (em_of (ev_var 5)) eam_nil)) ⟨a, l, wS1 e most s, fnd.map sh, rfl, rfl, by rw [List.length_map]; exact hpos, by rw [List.length_map]; exact hfl, rfl, by rw [List.length_map]⟩) ?_
      rw [List.length_map, List.getD_eq_getElem?_getD, List.getElem?_map, if_neg Bool.false_ne_true, List.getD_eq_getElem?_getD, List.getElem?_eq_getElem (by omega)]
      rfl
    · have hne : fnd.isEmpty = true := by simpa using hh
      rw [hne]
      exact em_of (ev_tup (ds := [.int e]) (ea_cons (ev_var 1) ea_nil))
end
end Bx
end

-- part BxAA
section
set_option Elab.async false
set_option linter.all false
set_option maxRecDepth 100000
set_option maxHeartbeats 1000000
/-! Boxparts: isinstance; is_number, is_between, is_shape. -/
namespace Bx
open PySem PySem.Spec PyProof.Rows L2
/-- the built-in type of plain data -/
def tyN : D → String
  | .non => "NoneType"
  | .bl _ => "bool"
  | .int _ => "int"
  | .str _ => "str"
  | .tup _ => "tuple"
  | .lst _ => "list"
  | _ => "?"
inductive Kind : D → Prop
  | non : Kind .non
  | bl (b : Bool) : Kind (.bl b)
  | int (i : Int) : Kind (.int i)
  | str (x : Str) : Kind (.str x)
  | tup (ds : List D) : Kind (.tup ds)
  | lst (ds : List D) : Kind (.lst ds)
theorem tyX_of {K : PySem.W.Frag} {H : Hp} {d : D} {v : V} (k : Kind d) (r : Rep H d v) : TyX K H v (.type (tyN d)) := by
  cases k with
  | non => obtain rfl : v = V.non := r; exact .base .non
  | bl b => obtain rfl : v = V.bl b := r; exact .base (.bl b)
  | int i => obtain rfl : v = V.int i := r; exact .base (.int i)
  | str x => obtain rfl : v = V.str x := r; exact .base (.str x)
  | tup ds => obtain ⟨a, vs, rfl, h, _⟩ := r; exact .base (.tup h)
  | lst ds => obtain ⟨a, o, vs, rfl, h, _⟩ := r; exact .base (.frz h)
section
variable {X : Cx} {δ : De} {μ : Mem} {a b : Expr} {p p2 pos : Pos} {d : D}
theorem ev_isi {x : Str} {T : String} {r : Bool} (B : Bi X.mg) (ha : Ev X δ μ a d) (k : Kind d) (hm : X.mg x = none) (hv : bootBuiltins x = some (.type T)) (h : kitB (tyN d) T = some r) (hgx : Gl X x := by rfl) (hn : x ≠ "__name__" := by decide) (hd : (x == ("__debug__" : Str)) = false := by decide)
    (hg : Gl X "isinstance" := by rfl) (he : starEach [a, .Name x p2] X.env = (false, eval a X.env) :: starEach [.Name x p2] X.env := by rfl) (he2 : starEach [.Name x p2] X.env = (false, eval (.Name x p2) X.env) :: starEach [] X.env := by rfl) (hpl : (backTo pos (starEach [.Name x p2] X.env)).any (·.1) = false := by rfl) :
    Ev X δ μ (.Call (.Name "isinstance" p) [a, .Name x p2] [] pos) (.bl r) :=
  ev_pe (pe_callB call_isi hg B.isinstance boot_isinstance (pa_cons (pe_tw X a) (pa_cons (pe_bltn (v := .ty T) hgx hm hv rfl hn hd) pa_nil he2) he) (by decide) (by decide) he hpl) fun σ H Q c q => ha σ H _ c fun v H1 e1 r1 =>
    ⟨v, .ty T, _, .type T, r, rfl, .ty T, tyX_of k r1, kit_ty h, q _ H1 e1 rfl⟩
end
theorem boot_bool : bootBuiltins "bool" = some (.type "bool") := by decide +kernel
theorem boot_tupleT : bootBuiltins "tuple" = some (.type "tuple") := by decide +kernel
def isNum : D → Bool
  | .int _ => true
  | _ => false
section
variable {P : Program} {w : World} {K : PySem.W.Frag} {mg : Str → Option Value} {base : Heap} {f : Addr} {fd : FuncData}
def RNum (ds : List D) (d : D) : Prop := ∃ x, ds = [x] ∧ Kind x ∧ d = .bl (isNum x)
abbrev nNum : List Str := ["thing"]
theorem scNum : FnScope nNum ["thing"] (defScope (top 8)) := ⟨rfl, rfl, rfl, by decide +kernel, rfl, by decide +kernel, by decide +kernel⟩
theorem c_num (F : FnP K "is_number" (top 8) f fd) (g : mg "is_number" = some (.ref f)) (B : Bi mg) : Cal P w K mg base 1 "is_number" ["thing"] (spR RNum) := by
  refine fn_R F g scNum (fun ds d ⟨s, q, _⟩ => by rw [q]; rfl) (fun _ _ _ _ _ _ us hl => match us, hl with | [_], _ => rfl) fun cdv A outer s H E hr ds d h => ?_
  obtain ⟨x, rfl, k, rfl⟩ := h
  refine sv_one (s_ret ?_)
  cases k with
  | int i => exact Ev.is (ev_and (ev_isi (r := true) B (ev_var 0) (.int i) B.int boot_int (show kitB "int" "int" = some true by decide +kernel)) fun _ => ev_one (ev_not (ev_isi (r := false) B (ev_var 0) (.int i) B.bool boot_bool (show kitB "int" "bool" = some false by decide +kernel)))) rfl
  | bl b => exact Ev.is (ev_and (ev_isi (r := true) B (ev_var 0) (.bl b) B.int boot_int (show kitB "bool" "int" = some true by decide +kernel)) fun _ => ev_one (ev_not (ev_isi (r := true) B (ev_var 0) (.bl b) B.bool boot_bool (show kitB "bool" "bool" = some true by decide +kernel)))) rfl
  | non => exact Ev.is (ev_and (t := false) (ev_isi (r := false) B (ev_var 0) .non B.int boot_int (show kitB "NoneType" "int" = some false by decide +kernel)) fun z => nomatch z) rfl
  | str y => exact Ev.is (ev_and (t := false) (ev_isi (r := false) B (ev_var 0) (.str y) B.int boot_int (show kitB "str" "int" = some false by decide +kernel)) fun z => nomatch z) rfl
  | tup ds => exact Ev.is (ev_and (t := false) (ev_isi (r := false) B (ev_var 0) (.tup ds) B.int boot_int (show kitB "tuple" "int" = some false by decide +kernel)) fun z => nomatch z) rfl
  | lst ds => exact Ev.is (ev_and (t := false) (ev_isi (r := false) B (ev_var 0) (.lst ds) B.int boot_int (show kitB "list" "int" = some false by decide +kernel)) fun z => nomatch z) rfl
/-! is_between -/
def isBet (x : D) (lo hi : Int) : Bool := match x with
  | .int i => decide (lo ≤ i) && decide (i ≤ hi)
  | _ => false
def RBet (ds : List D) (d : D) : Prop := ∃ x lo hi, ds = [x, .int lo, .int hi] ∧ Kind x ∧ d = .bl (isBet x lo hi)
abbrev nBet : List Str := ["thing", "low", "high"]
theorem scBet : FnScope nBet ["thing", "low", "high"] (defScope (top 9)) := ⟨rfl, rfl, rfl, by decide +kernel, rfl, by decide +kernel, by decide +kernel⟩
theorem c_bet (F : FnP K "is_between" (top 9) f fd) (g : mg "is_between" = some (.ref f)) (B : Bi mg) (G : Cal P w K mg base 1 "is_number" ["thing"] (spR RNum)) : Cal P w K mg base 2 "is_between" ["thing", "low", "high"] (spR RBet) := by
  refine fn_R F g scBet (fun ds d ⟨_, _, _, q, _⟩ => by rw [q]; rfl) (fun _ _ _ _ _ _ us hl => match us, hl with | [_, _, _], _ => rfl) fun cdv A outer s H E hr ds d h => ?_
  obtain ⟨x, lo, hi, rfl, k, rfl⟩ := h
  refine sv_one (s_ret ?_)
  have hc : Ev (cx0 P w K mg base nBet "is_between" (defScope (top 9)) f cdv A outer s H E) (init nBet [x, .int lo, .int hi]) [] ((match (defBody (top 9)).getD 0 (.Pass ⟨0, 0, 0, 0⟩) with | .Return (some (.BoolOp _ (e :: _) _)) _ => e | _ => .Constant .none 0 ⟨0, 0, 0, 0⟩)) (.bl (isNum x)) := ev_call G hr (ea_cons (ev_var 0) ea_nil) ⟨x, rfl, k, rfl⟩
  cases k with
  | int i => exact Ev.is (ev_and (r := true) (t := decide (lo ≤ i) && decide (i ≤ hi)) hc fun _ => ev_one (ev_chain (ev_var 1) (ev_var 0) (ev_var 2))) rfl
  | bl b => exact Ev.is (ev_and (r := false) (t := false) hc fun z => nomatch z) rfl
  | non => exact Ev.is (ev_and (r := false) (t := false) hc fun z => nomatch z) rfl
  | str y => exact Ev.is (ev_and (r := false) (t := false) hc fun z => nomatch z) rfl
  | tup ds => exact Ev.is (ev_and (r := false) (t := false) hc fun z => nomatch z) rfl
  | lst ds => exact Ev.is (ev_and (r := false) (t := false) hc fun z => nomatch z) rfl
end
end Bx
end

-- part BxAB
section
set_option Elab.async false
set_option linter.all false
set_option maxRecDepth 100000
set_option maxHeartbeats 1000000
/-! Boxparts: is_shape. -/
namespace Bx
open PySem PySem.Spec PyProof.Rows L2
section
variable {P : Program} {w : World} {K : PySem.W.Frag} {mg : Str → Option Value} {base : Heap} {f : Addr} {fd : FuncData}
def isShp (s : List Int) : Bool := (s.map fun i => decide (1 ≤ i)).all id && (((s.zip (s.drop 1)).map fun p => decide (p.2 ≤ p.1)).all id && decide (s.sum ≤ 16))
inductive NoTup : D → Prop
  | non : NoTup .non
  | bl (b : Bool) : NoTup (.bl b)
  | int (i : Int) : NoTup (.int i)
  | str (x : Str) : NoTup (.str x)
  | lst (ds : List D) : NoTup (.lst ds)
def RIsh (ds : List D) (d : D) : Prop := (∃ s, ds = [sh s] ∧ s.length ≤ 1000 ∧ d = .bl (isShp s)) ∨ ∃ x, ds = [x] ∧ NoTup x ∧ d = .bl false
abbrev nIsh : List Str := ["thing", "item", "here", "there"]
theorem scIsh : FnScope nIsh ["thing"] (defScope (top 15)) := ⟨rfl, rfl, rfl, by decide +kernel, rfl, by decide +kernel, by decide +kernel⟩
theorem c_ish (F : FnP K "is_shape" (top 15) f fd) (g : mg "is_shape" = some (.ref f)) (B : Bi mg) {tk : Tok} (hmb : mg "MOST_BOXES" = some (.int 16 tk)) (G : Cal P w K mg base 1 "is_number" ["thing"] (spR RNum)) : Cal P w K mg base 2 "is_shape" ["thing"] (spR RIsh) := by
  refine fn_R F g scIsh (fun ds d h => by rcases h with ⟨_, q, _⟩ | ⟨_, q, _⟩ <;> (rw [q]; rfl)) (fun _ _ _ _ _ _ us hl => match us, hl with | [_], _ => rfl) fun cdv A outer s0 H E hr ds d h => ?_
  have hN := scIsh.nd
  rcases h with ⟨s, rfl, hl, rfl⟩ | ⟨x, rfl, k, rfl⟩
  · have hall : Ev (cx0 P w K mg base nIsh "is_shape" (defScope (top 15)) f cdv A outer s0 H E) (init nIsh [sh s]) [] ((match (defBody (top 15)).getD 0 (.Pass ⟨0, 0, 0, 0⟩) with | .If (.BoolOp _ [_, .UnaryOp _ e _] _) _ _ _ => e | _ => .Constant .none 0 ⟨0, 0, 0, 0⟩)) (.bl ((s.map fun i => decide (1 ≤ i)).all id)) := by
      refine ev_all rfl B (Ev.is (ev_lcM1 nIsh (defScope (top 15)) 1 (xs := s) D.int (fun i => D.bl (true && decide (1 ≤ i))) rfl hN (ei_tup (ev_var 0)) (fun i hi _ _ _ _ _ => ?_)) ?_)
      · exact ev_and (r := true) (ev_call G hr (ea_cons (ev_var 1) ea_nil) ⟨.int i, rfl, .int i, rfl⟩) fun _ => ev_one (ev_c (ec_ge (ev_var 1) ev_int))
      · rw [List.map_map]; rfl
    by_cases hq : (s.map fun i => decide (1 ≤ i)).all id = true
    · refine sv_cons (s_ifF (EvT.is (evt_w (evw_or (r := false) (EvT.is (evt_not (evt_val (ev_isi (r := true) B (ev_var 0) (.tup _) B.tuple boot_tupleT (show kitB "tuple" "tuple" = some true by decide +kernel)))) rfl) fun _ => evw_or1 (EvT.is (evt_not (evt_val hall)) (by rw [hq]; rfl)))) rfl) sv_nil) (sv_one (s_ret (Ev.is (ev_and (r := ((s.zip (s.drop 1)).map fun p => decide (p.2 ≤ p.1)).all id) (t := decide (s.sum ≤ 16)) (ev_all rfl B (Ev.is (ev_lcM2 nIsh (defScope (top 15)) 2 3 (xs := s.zip (s.drop 1)) (fun p => D.int p.1) (fun p => D.int p.2) (fun p => D.bl (decide (p.2 ≤ p.1))) rfl hN (EvI.is (ei_zipT B (ev_var 0) (ev_slT (ev_var 0) (i := some 1) (j := none) (eo_some ev_int) eo_none)) ?_) (fun p hp _ _ _ _ _ => ev_c (ec_ge (ev_var 2) (ev_var 3))) (fun _ _ _ _ _ => pg_two (i := 2) (j := 3) rfl hN)) ?_)) fun _ => ev_one (ev_c (ec_le (ev_sumT rfl B (ev_var 0)) (ev_glob hmb)))) ?_)))
      · rw [cut_from' (by omega)]
        show List.map _ ((s.map D.int).zip ((s.map D.int).drop 1)) = _
        rw [← List.map_drop, List.zip_map, List.map_map]
        rfl
      · rw [List.map_map]; rfl
      · unfold isShp; rw [hq, Bool.true_and]
    · have hq : (s.map fun i => decide (1 ≤ i)).all id = false := by simpa using hq
      refine sv_rt (s_ifT (EvT.is (evt_w (evw_or (r := false) (EvT.is (evt_not (evt_val (ev_isi (r := true) B (ev_var 0) (.tup _) B.tuple boot_tupleT (show kitB "tuple" "tuple" = some true by decide +kernel)))) rfl) fun _ => evw_or1 (EvT.is (evt_not (evt_val hall)) (by rw [hq]; rfl)))) rfl) (sv_one (s_ret (Ev.is ev_bl ?_))))
      unfold isShp; rw [hq]; rfl
  · have hi : Ev (cx0 P w K mg base nIsh "is_shape" (defScope (top 15)) f cdv A outer s0 H E) (init nIsh [x]) [] ((match (defBody (top 15)).getD 0 (.Pass ⟨0, 0, 0, 0⟩) with | .If (.BoolOp _ [.UnaryOp _ e _, _] _) _ _ _ => e | _ => .Constant .none 0 ⟨0, 0, 0, 0⟩)) (.bl false) := by
      cases k with
      | non => exact ev_isi (r := false) B (ev_var 0) .non B.tuple boot_tupleT (show kitB "NoneType" "tuple" = some false by decide +kernel)
      | bl b => exact ev_isi (r := false) B (ev_var 0) (.bl b) B.tuple boot_tupleT (show kitB "bool" "tuple" = some false by decide +kernel)
      | int b => exact ev_isi (r := false) B (ev_var 0) (.int b) B.tuple boot_tupleT (show kitB "int" "tuple" = some false by decide +kernel)
      | str b => exact ev_isi (r := false) B (ev_var 0) (.str b) B.tuple boot_tupleT (show kitB "str" "tuple" = some false by decide +kernel)
      | lst b => exact ev_isi (r := false) B (ev_var 0) (.lst b) B.tuple boot_tupleT (show kitB "list" "tuple" = some false by decide +kernel)
    exact sv_rt (s_ifT (EvT.is (evt_w (evw_or (r := true) (t := true) (EvT.is (evt_not (evt_val hi)) rfl) fun z => nomatch z)) rfl) (sv_one (s_ret ev_bl)))
end
end Bx
end

-- part BxAC
section
set_option Elab.async false
set_option linter.all false
set_option maxRecDepth 100000
set_option maxHeartbeats 1000000
/-! Boxparts: a caught exception is kept as a value. -/
namespace Bx
open PySem PySem.Spec PyProof.Rows L2
theorem exV_ok {P : Program} {w : World} {H : Hp} {h : Heap} {a : Addr} {cls : Value} {d : Option Addr} {oe : Obj} {vs : Array Value} (e : h.get? a = some oe) (z : Zc cls d oe) (hd : oe.data = .fields vs) : ObjOk P w H h a (ExV cls d a) :=
  ⟨⟨oe, vs, e, z, hd⟩, ⟨oe, e⟩, fun h1 h2 ⟨oe, vs, e, z, hd⟩ k => ⟨oe, vs, k _ e, z, hd⟩⟩
section
variable {X : Cx} {pins : List (Addr × Obj)} {σ : L2.St} {H : Hp} {s : Shared} {a : Addr} {oe : Obj} {o : HO}
theorem trackPin (I : Inv X ((a, oe) :: pins) σ H s) (h0 : ∀ ob, X.s_0.heap.get? a = some ob → X.H_0 a = none → False) (hp : ∀ p ∈ X.pn ++ pins, p.1 ≠ a) (new : ObjOk X.prog X.w (upd H a o) s.heap a o) : Inv X pins σ (upd H a o) s := by
  obtain ⟨ea, na, nL, nF, nc⟩ := I.pin (a, oe) (List.mem_append_right _ List.mem_cons_self)
  refine ⟨I.ok, I.os, I.bare, ⟨I.base.keep, I.base.slot, fun b ob e n hx => ?_, I.base.there, fun b xs e => ?_, fun b ob u e => ?_, fun b ps e => ?_⟩, I.loc, I.cell, ?_, fun x c e => ?_, fun p hpm => ?_, HOk.laidN I.hok (fun b u e => e) na new, I.len⟩
  · by_cases hb : b = a
    · subst hb; exact (h0 ob e n).elim
    · rw [upd_ne hb]; exact I.base.free b ob e n hx
  · have z := I.base.tups b xs e
    rw [upd_ne (fun q => by subst q; rw [na] at z; cases z)]; exact z
  · have z := I.base.frzs b ob u e
    rw [upd_ne (fun q => by subst q; rw [na] at z; cases z)]; exact z
  · obtain ⟨m, z⟩ := I.base.tbls b ps e
    exact ⟨m, by rw [upd_ne (fun q => by subst q; rw [na] at z; cases z)]; exact z⟩
  · rw [upd_ne (Ne.symm nL)]; exact I.free
  · obtain ⟨v, oc, hoc, hd⟩ := I.cell x c e
    have hne : c ≠ a := fun q => by
      subst q
      have hoc : s.heap.get? c = some oc := hoc
      rw [show s.heap.get? c = some oe from ea] at hoc
      cases hoc
      exact nc v hd
    rw [upd_ne hne]; exact I.freeC x c e
  · obtain ⟨z1, z2, z3⟩ := I.pin p (by
      rcases List.mem_append.mp hpm with h | h
      · exact List.mem_append_left _ h
      · exact List.mem_append_right _ (List.mem_cons_of_mem _ h))
    exact ⟨z1, by rw [upd_ne (hp p hpm)]; exact z2, z3⟩
end
/-- what the clause wishes; behind the suite the exception's object is tracked -/
def wKeep (K : PySem.W.Frag) (N : List Str) (c : Value) (i : Nat) (ts : Addr → Value → Option Addr → TS) (D : Ends) : WX := fun cls d σ H =>
  PySem.W.exmOne K cls c = some true ∧ ∀ a, H a = none → σ.length = N.length → ts a cls d { nx := fun σ' H' => D.nx (σ'.set i none) (upd H' a (ExV cls d a)), rt := fun _ _ => False, bk := fun _ _ => False, ct := fun _ _ => False } (σ.set i (some (.ref a))) H
section
variable {X : Cx} {x n : Str} {c : Value} {i : Nat} {body suite : List Stmt} {b₀ : Stmt} {np pos pos' : Pos} {tb : WX → TS} {ts : Addr → Value → Option Addr → TS}
theorem ps_try_keep (hs : X.stack = X.env :: X.outer) (hf : X.env.frame = some X.env.locals) (hN : X.N.Nodup) (hi : X.N[i]? = some n) (hln : X.env.kindOf n = some .local) (hc : Names X x c) (hex : X.ex = [])
    (hb : ∀ (W : WX) (pn : List (Addr × Obj)) (xe : Value → Shared → Prop), L2.Takes (X.tr pn xe) W → PassesOwn (model X.prog X.w) X.A X.env xe → PSs (X.tr pn xe) body (tb W))
    (hsu : ∀ (a : Addr) (oe : Obj) (cls : Value) (d : Option Addr) (pn : List (Addr × Obj)), Zc cls d oe → (∃ vs, oe.data = .fields vs) → PSs (X.suite a ((a, oe) :: pn)) (b₀ :: suite) (ts a cls d)) :
    PS X (.Try body [.ExceptHandler (some (.Name x np)) (some n) (b₀ :: suite) pos'] [] [] pos) (fun D σ H => tb (wKeep X.K X.N c i ts D) D σ H) := by
  refine ⟨fun pins s σ H D I hw => ?_⟩
  have ok := I.ok
  have frames : X.A.frames = some (X.env :: X.outer) := by rw [ok.frames, hs]
  refine wpAny_Try_except (wpAny_mono ((hb (wKeep X.K X.N c i ts D) (X.pn ++ pins) _ (fun u s' up => ?_) PassesOwn.looking).run [] s σ H D (I.toTry _) hw) (fun fl s1 done => ?_) (fun e s1 he => he))
  · obtain ⟨a, B, sI, pins', σ', H', cls, d, rfl, J0, nb, upS, sky, na, os, ag, yes, wish⟩ := up
    have J : Inv X pins σ' H' sI := J0.ofTry ok
    have sky2 : Sky B (X.env :: X.outer) a (Zc cls d) X.env.locals s'.heap := hs ▸ sky
    refine Sky.land Zc.steady frames hf sky2 fun h3 g3 up3 => ?_
    obtain ⟨oe3, vs3, e3, z3, d3⟩ := g3.there
    have off : a ∉ frs (X.env :: X.outer) := fun hm => by
      obtain ⟨_, o', e', hnf⟩ := g3.2.2.1.mem hm
      rw [e3] at e'; cases e'
      exact hnf _ d3
    have offL : a ≠ X.env.locals := fun z => off (List.mem_filterMap.mpr ⟨X.env, List.mem_cons_self, by rw [hf, z]⟩)
    have offF : a ∉ X.fs := fun hm => by
      obtain ⟨e, he, q⟩ := List.mem_filterMap.mp hm
      exact off (List.mem_filterMap.mpr ⟨e, List.mem_cons_of_mem _ he, q⟩)
    have J3 : Inv X pins σ' H' { s' with heap := h3 } := J.landed nb g3.1 (upS.trans up3) os ag
    have S3 := J3.suite e3 d3 na offL offF
    have look : PySem.W.Looks (model X.prog X.w) h3 (typeOf (.ref a)) cls := fun A Q E s k q => wpAny_typeOf_ref (k _ _ e3) (by rw [z3.1]; exact q)
    have meet := PySem.W.exm_one (M := model X.prog X.w) (J3.kIn) look yes
    refine wpAny_handleBy_cons (codeAny_handlers_test ?_) (by intro q; cases q)
    have named : ∀ {Q : Value → Shared → Prop} {E : Value → Shared → Prop}, Q c { s' with heap := h3 } → wpAny (model X.prog X.w) (X.A.mark (some (.ref a))) (eval (.Name x np) X.env) Q E { s' with heap := h3 } := fun {Q E} q => by
      obtain ⟨gl, nd, hm | ⟨hm, hv, hnn⟩⟩ := hc
      · exact ld_glob (X := X.suite a ((a, oe3) :: (X.pn ++ pins))) S3 gl hm q nd
      · exact ld_blt (X := X.suite a ((a, oe3) :: (X.pn ++ pins))) S3 gl hm hv q hnn nd
    refine named (meet.here (codeAny_handlers_suite_as ?_))
    refine HandSPX.lands_againZ g3 fun h4 g4 up4 => ?_
    have J4 : Inv X pins σ' H' { s' with heap := h4 } := J.landed nb g4.1 ((upS.trans up3).trans up4) os ag
    obtain ⟨oe4, vs4, e4, z4, d4⟩ := g4.there
    have S4 := J4.suite e4 d4 na offL offF
    refine store_ok (X := X.suite a ((a, oe4) :: (X.pn ++ pins))) (v := .ref a) S4 hN hi (.inl hln) rfl (fun s5 S5 => ?_) (.inr hln)
    refine wpAny_mono ((hsu a oe4 cls d (X.pn ++ pins) z4 ⟨_, d4⟩).run [] s5 _ H' _ S5 (wish a na J0.len)) (fun fl s6 done => ?_) (fun _ _ z => False.elim z)
    cases fl with
    | next =>
      obtain ⟨σ6, H6, S6, q6⟩ := done
      have J6 : Inv X ((a, oe4) :: pins) σ6 H6 s6 := ⟨ok, S6.os, S6.bare, S6.base, S6.loc, S6.cell, S6.free, S6.freeC, fun p hp => S6.pin p (by
        rw [List.append_nil]
        rcases List.mem_append.mp hp with hp | hp
        · exact List.mem_cons_of_mem _ (List.mem_append_left _ hp)
        · rcases List.mem_cons.mp hp with rfl | hp
          · exact List.mem_cons_self
          · exact List.mem_cons_of_mem _ (List.mem_append_right _ hp)), S6.hok, S6.len⟩
      refine gone_ok J6 hN hi hln fun s7 J7 => ?_
      have e7 := (J7.pin (a, oe4) (List.mem_append_right _ List.mem_cons_self)).1
      refine ⟨_, _, trackPin J7 (fun ob hob hn => ?_) (fun p hp => ?_) (exV_ok e7 z4 d4), q6⟩
      · have k1 := J.base.keep a ob hob hn offF (by rw [hex]; exact fun z => nomatch z)
        have k2 := nb a ob k1 (by rw [hs]; exact off)
        rw [g3.2.1] at k2; cases k2
      · intro z
        obtain ⟨w1, w2, w3, w4, _⟩ := J.pin p hp
        rw [z] at w1 w3 w4
        have k2 := nb a _ w1 (by rw [hs]; exact off)
        rw [g3.2.1] at k2; cases k2
    | brk => obtain ⟨_, _, _, z⟩ := done; exact z.elim
    | cont => obtain ⟨_, _, _, z⟩ := done; exact z.elim
    | ret u => obtain ⟨_, _, _, _, _, z⟩ := done; exact z.elim
  · cases fl with
    | next =>
      obtain ⟨σ', H', J', q⟩ := done
      exact wpAny_execs_nil ⟨σ', H', J'.ofTry ok, q⟩
    | brk =>
      obtain ⟨σ', H', J', q⟩ := done
      exact ⟨σ', H', J'.ofTry ok, q⟩
    | cont =>
      obtain ⟨σ', H', J', q⟩ := done
      exact ⟨σ', H', J'.ofTry ok, q⟩
    | ret u =>
      obtain ⟨v, σ', H', J', r, q⟩ := done
      exact ⟨v, σ', H', J'.ofTry ok, r, q⟩
end
end Bx
end

-- part BxAD
section
set_option Elab.async false
set_option linter.all false
set_option maxRecDepth 100000
set_option maxHeartbeats 1000000
/-! Boxparts: what is asked of a kept exception: its class, its field. -/
namespace Bx
open PySem PySem.Spec PyProof.Rows L2
def rIsV (K : PySem.W.Frag) : List V → Hp → VK → Prop := fun xs H Q => ∃ (a D : Addr) (fs : Option (List (Str × V))) (c : V) (u : Value) (b : Bool), xs = [.ref a, c] ∧ Kept H a D fs ∧ ExcC K D ∧ ClsV c u ∧ PySem.W.kitOne K (.ref D) u = some b ∧ Q (.bl b) H
section
variable {X : Cx} {pins : List (Addr × Obj)} {σ : L2.St} {H : Hp} {s : Shared}
theorem kept_inst (I : Inv X pins σ H s) {a D : Addr} {fs : Option (List (Str × V))} (k : Kept H a D fs) : ∃ (oe : Obj) (od : Option Obj), PySem.W.InstAt s.heap a oe D od ∧ ∀ fs', fs = some fs' → ∃ o, od = some o ∧ ∀ n v, fs'.lookup n = some v → ∃ u, PySem.W.lookIn n o = some (some u) ∧ L2.RelV v u := by
  obtain ⟨d, ha, hd⟩ := k
  obtain ⟨⟨oe, vs, e, z, hdat⟩, _⟩ := (show ObjOk X.prog X.w H s.heap a (ExV (.ref D) d a) from I.hok a _ ha)
  have nc : PySem.W.notCls oe = true := by unfold PySem.W.notCls; rw [hdat] <;> rfl
  cases d with
  | none =>
    cases fs with
    | some _ => exact hd.elim
    | none => exact ⟨oe, none, ⟨e, z.1, nc, by rw [z.2]; trivial⟩, fun _ h => nomatch h⟩
  | some dd =>
    cases fs with
    | none => exact hd.elim
    | some fs =>
      obtain ⟨mA, hns, hr⟩ := (show ObjOk X.prog X.w H s.heap dd (.xd fs) from I.hok dd _ hd)
      obtain ⟨od, ho, hl⟩ := lookIn_ns hns
      refine ⟨oe, some od, ⟨e, z.1, nc, by rw [z.2]; exact ho⟩, fun fs' h => ?_⟩
      cases h
      refine ⟨od, rfl, fun n v hv => ?_⟩
      obtain ⟨u, hu, ru⟩ := RelO.some_of (v := v) (o := mA n) (by rw [← hv]; exact hr n)
      exact ⟨u, by rw [hl, hu], ru⟩
theorem call_isV : CallR X (.builtin "isinstance") (rIsV X.K) := by
  intro pins s σ H xs us Q I r h
  obtain ⟨a, D, fs, c, u, b, rfl, k, C, hc, e, q⟩ := h
  obtain ⟨u1, u2, rfl, r1, r2⟩ := vals2 r
  obtain rfl : u1 = Value.ref a := r1
  have e2 := hc.eq r2
  subst e2
  obtain ⟨oe, od, J, _⟩ := kept_inst I k
  have hcl : (PySem.W.clsIn X.K D).isSome = true := by obtain ⟨cd, hc, _⟩ := PySem.W.any_some C.hd; rw [hc]; rfl
  exact PySem.W.kia_one (PySem.W.kitx_exc hcl C.hg C.hk C.hs C.ha C.hn C.ht C.hm) I.kIn J e (fun z => nomatch z) fun tk => ⟨.bl b, H, I.tok tk, rfl, q⟩
/-- e.f of a kept exception -/
def tXv (n : Str) (te : TE) : TE := fun σ H Q => te σ H fun x H1 => ∃ (a D : Addr) (fs : List (Str × V)) (v : V), x = .ref a ∧ Kept H1 a D (some fs) ∧ XfC X.K D ∧ PySem.W.findIn X.K (.ref D) n = some none ∧ fs.lookup n = some v ∧ Q v H1
theorem pe_xv {e : Expr} {te : TE} {pos : Pos} {n : Str} (he : PE X e te) (hb : attributeBase e n X.env (eval e X.env) = eval e X.env := by rfl) : PE X (.Attribute e n pos) (tXv (X := X) n te) := by
  refine ⟨fun pins s σ H Q I h => ?_⟩
  refine attr_of hb (thn (he.run pins s σ H _ I h) fun u s1 hh => ?_)
  obtain ⟨x, H1, I1, rx, a, D, fs, v, rfl, k, T, hno, l, q⟩ := hh
  obtain rfl : u = Value.ref a := rx
  obtain ⟨oe, od, J, hf⟩ := kept_inst I1 k
  obtain ⟨o, rfl, hlk⟩ := hf fs rfl
  obtain ⟨u, hu, ru⟩ := hlk n v l
  exact HandSPX.exc_get I1.kIn J T.ga T.gg T.exC (PySem.W.findObj_own T.hdC hno rfl hu) (handed_of ru) ⟨v, H1, I1.tok _, ru, q⟩
end
section
variable {X : Cx} {δ : De} {μ : Mem} {a b : Expr} {p p2 pos : Pos} {d : D}
theorem ev_isX {x : Str} {Dc T : Addr} {fs : Option (List (Str × V))} {r : Bool} (B : Bi X.mg) (ha : Ev X δ μ a (.exc Dc fs)) (C : ExcC X.K Dc) (hm : X.mg x = some (.ref T)) (h : PySem.W.kitOne X.K (.ref Dc) (.ref T) = some r) (hgx : Gl X x := by rfl) (hd : (x == ("__debug__" : Str)) = false := by decide)
    (hg : Gl X "isinstance" := by rfl) (he : starEach [a, .Name x p2] X.env = (false, eval a X.env) :: starEach [.Name x p2] X.env := by rfl) (he2 : starEach [.Name x p2] X.env = (false, eval (.Name x p2) X.env) :: starEach [] X.env := by rfl) (hpl : (backTo pos (starEach [.Name x p2] X.env)).any (·.1) = false := by rfl) :
    Ev X δ μ (.Call (.Name "isinstance" p) [a, .Name x p2] [] pos) (.bl r) :=
  ev_pe (pe_callB call_isV hg B.isinstance boot_isinstance (pa_cons (pe_tw X a) (pa_cons (pe_glob (v := .ref T) hgx hm rfl hd) pa_nil he2) he) (by decide) (by decide) he hpl) fun σ H Q c q => ha σ H _ c fun v H1 e1 r1 => by
    obtain ⟨ad, rfl, k⟩ := r1
    exact ⟨ad, Dc, fs, .ref T, .ref T, r, rfl, k, C, .own T, h, q _ H1 e1 rfl⟩
theorem ev_xfS {n y : Str} {Dc : Addr} {fs : List (Str × V)} (ha : Ev X δ μ a (.exc Dc (some fs))) (T : XfC X.K Dc) (hno : PySem.W.findIn X.K (.ref Dc) n = some none) (hl : fs.lookup n = some (.str y)) (hb : attributeBase a n X.env (eval a X.env) = eval a X.env := by rfl) : Ev X δ μ (.Attribute a n pos) (.str y) :=
  ev_pe (pe_xv (pe_tw X a) hb) fun σ H Q c q => ha σ H _ c fun v H1 e1 r1 => by
    obtain ⟨ad, rfl, k⟩ := r1
    exact ⟨ad, Dc, fs, .str y, rfl, k, T, hno, hl, q _ H1 e1 rfl⟩
end
end Bx
end

-- part BxAE
section
set_option Elab.async false
set_option linter.all false
set_option maxRecDepth 100000
set_option maxHeartbeats 2000000
/-! Boxparts: an own exception over ValueError (some classes up) whose __init__ says super().__init__(text) and keeps one field. -/
namespace Bx
open PySem PySem.Spec PyProof.Rows L2
/-- ValueError.__init__ bound to the exception at e, called -/
theorem bound_ve {A : Around} {E : Value → Shared → Prop} {prog : Program} {w : World} {h : Heap} {g : Array GenState} {d : Drawn} {t : Nat} {os : OsState} {nm q : Str} {C N : Addr} {bs bm : List Value} {hdct : Bool} {sn : List Str} {sub : List Value} {ab : Bool} {col : Option Bool} {dd : Option Addr} {k0 k1 k2 k3 k5 : Option Value}
    {u e t0 : Addr} {rest : List Value} {Q : Value → Shared → Prop} (hC : h.get? C = some (excClassObj nm q C N bs bm hdct sn sub ab col dd k0 k1 k2 k3 k5 "ValueError.__new__")) (he : h.get? e = some (HandSPX.excO C t0)) (hu : h.get? u = some (PySem.W.kxs_mw "ValueError.__init__" e)) (hz : rest.length ≤ sizeLine)
    (hq : ∀ h' t1, (∀ b o, b ≠ e → h.get? b = some o → h'.get? b = some o) → h'.get? e = some (HandSPX.excO C t1) → Q .none ⟨h', g, d, t, os⟩) : wpAny (model prog w) A (call (.ref u) rest) Q E ⟨h, g, d, t, os⟩ := by
  have FB := F.excBase_ValueError
  refine wpAny_call (codeAny_of_tree (show wpAny _ A.in1 (callAny (.ref u) ⟨rest, []⟩) _ _ _ from ?_))
  unfold callAny
  refine wpAny_bind (wpAny_load hu ?_)
  simp only [PySem.W.kxs_mw, show (Value.type "method-wrapper" == Value.type "method") = false by decide, show (Value.type "method-wrapper" == Value.type "builtin_function_or_method") = false by decide, show (Value.type "method-wrapper" == Value.type "method-wrapper") = true by decide, Bool.or_true, Bool.false_or, if_true]
  refine PySem.W.KFB.if_so (by decide) (wpAny_bind (PySem.W.check_bound_init FB.toExcCallFacts hC he rfl (wpAny_bind (wpAny_pure (wpAny_pure ⟨Code.quiet_builtin _ (by decide +kernel), codeAny_builtin FB.initEntry ?_⟩)))))
  rw [Around.under_plainId FB.init.plain _]
  wp_walk
  exact hq _ h.objs.size (fun b o hb ho => by rw [Heap.get?_update_other _ _ (Ne.symm hb)]; exact Heap.get?_push_of_some _ ho) (by rw [Heap.get?_update_self _ (Heap.get?_push_of_some _ he) rfl]; rfl)
/-- what such an __init__ promises: the field is kept in a new dict -/
def spFld (K : PySem.W.Frag) (C : Addr) (f : Str) : Sp := fun vs H Q _ => ∃ a y, vs = [.ref a, y] ∧ H a = some (exo a C none) ∧ ∀ dx, H dx = none → dx ≠ a → Q .non (upd (upd H dx (exd dx [(f, y)])) a (exo a C (some dx)))
/-- what the written part says of the class and its __init__ -/
structure FldC (P : Program) (K : PySem.W.Frag) (C fI : Addr) (f : Str) (params : Arguments) (body : List Stmt) (scope : Scope) (fd : FuncData) : Prop where
  cls : OexC K C
  fn : ∃ (oc : Value) (od : Option Addr) (dV kV doc pm : Value) (an : Option Addr) (cda cc : Addr) (ct : Value) (osl : Array (Option Value)) (qual : Str), fd = PySem.W.ksFn "__init__" qual params body scope dV kV doc pm an (.ref cda) ct cc ∧ K.lookup fI = some ⟨oc, od, .func fd, osl⟩ ∧ PySem.W.codeIn K (.ref cda) qual = true ∧
    (∃ (ccl : Value) (cdd : Option Addr) (vs : Array Value) (ccs : Array (Option Value)) (file : Str) (tf : Tok), K.lookup cda = some ⟨ccl, cdd, .fields vs, ccs⟩ ∧ vs[2]? = some (.str file tf) ∧ ((P.main.file : Str) == file) = true) ∧
    ∃ (cl : Value) (cld : Option Addr) (csl : Array (Option Value)), K.lookup cc = some ⟨cl, cld, .cell (some (.ref C)), csl⟩
  sub : PySem.W.mroIn K C (.ref C) = some true
  up : PySem.W.ks_superIn K C C "__init__" = some (some (.builtin "ValueError.__init__"))
  ve : PySem.W.subIn K (.ref C) (.type "ValueError") = some true
  opq : PySem.W.nsIn K PySem.cStatics "thirdparty.any" = some none
  no : PySem.W.findIn K (.ref C) f = some none
  ini : PySem.W.findIn K (.ref C) "__init__" = some (some (.ref fI))
  typ : PySem.W.typeIn K (.ref fI) = some (.type "function")
/-- the i-th statement of a class's body -/
def inCls : Stmt → Nat → Stmt
  | .ClassDef _ _ _ b _ _ _ _ _ _ _, i => b.getD i (.Pass ⟨0, 0, 0, 0⟩)
  | s, _ => s
abbrev sBadIni : Stmt := inCls (top 2) 0
section
variable {P : Program} {w : World} {K : PySem.W.Frag} {mg : Str → Option Value} {base : Heap} {C fI : Addr} {fd : FuncData}
theorem bad_init (F : FldC P K C fI "part" (defArgs sBadIni) (defBody sBadIni) (defScope sBadIni) fd) (gs : mg "super" = none) (htop : (P.main.scope.names.lookup ("super" : Str)).isSome = false) : FnOk P w K mg base L2.CX0 1 fI fd ["self", "part"] (spFld K C "part") := by
  have hsup : (defScope sBadIni).names.lookup ("super" : Str) = some .globalImplicit := by rfl
  have hcls : (defScope sBadIni).names.lookup ("__class__" : Str) = some .free := by rfl
  have hslf : (defScope sBadIni).names.lookup ("self" : Str) = some .local := by rfl
  have hx : (defScope sBadIni).names.lookup ("part" : Str) = some .local := by rfl
  have hcell : ∀ y ∈ (defScope sBadIni).names, y.2 ≠ .cell := by decide +kernel
  obtain ⟨oc, od, dV, kV, doc, pm, an, cda, cc, ct, osl, qual, rfl, lk, hcode, ⟨ccl, cdd, fvs, ccs, file, tf, lcode, hvs, hfile⟩, cl, cld, csl, lcell⟩ := F.fn
  refine ⟨fun vs H Q E h => ?_, fun A outer s H args us vs Q E hr e0 hb r h => ?_⟩
  · obtain ⟨a, y, rfl, _⟩ := h; rfl
  obtain ⟨a, y, rfl, ea, hq⟩ := h
  obtain ⟨u0, u1, rfl, r0, r1⟩ := vals2 r
  obtain rfl : u0 = Value.ref a := r0
  have X : K.In s.heap := e0.mod.kin.keeps fun b o e => (e0.bs b o e).1
  have lim : s.heap.NoLimit := e0.mod.nolimit.keeps fun b o e => (e0.bs b o e).1
  obtain ⟨t0, hoe⟩ := exo_at e0.hok ea
  obtain ⟨nm, q, N, bs, bm, sn, sub, ab, col, dd, k0, k1, k2, k3, k5, hC, hbm⟩ := F.cls.cls
  have hcl : PySem.W.clsIn K C = some { name := nm, bases := bs, mro := .ref C :: bm, ns := N, qualname := q, hasDict := true, slotNames := sn, subclasses := sub, abstract := ab, collection := col, hasDel := false } := by unfold PySem.W.clsIn; rw [hC] <;> rfl
  have hL : s.heap.objs.size ≠ a := fun z => Nat.lt_irrefl _ (z ▸ Heap.lt_size hoe)
  refine PySem.ks_codeAny_call_defAt (binds := [("self", .ref a), ("part", u1)]) hr.depth (X _ _ lk) rfl lim (PySem.W.codeRec_of X hcode) rfl hb hcell (fun z hz => ?_) (fun h₀ hns keep => ?_) rfl rfl rfl
  · rcases List.mem_cons.mp hz with rfl | hz
    · exact hslf
    · rcases List.mem_cons.mp hz with rfl | hz
      · exact hx
      · cases hz
  have X0 : K.In h₀ := X.keeps keep
  obtain ⟨mb, gb, hbt⟩ := e0.mod.blt
  have look1 : ([("self", Value.ref a), ("part", u1)] : List (Str × Value)).reverse.lookup ("self" : Str) = some (.ref a) := by rfl
  have look2 : ([("self", Value.ref a), ("part", u1)] : List (Str × Value)).reverse.lookup ("part" : Str) = some u1 := by rfl
  have oe0 := keep _ _ hoe
  have hxC : a ≠ C := fun z => by
    have c1 := X _ _ hC
    rw [z, c1] at hoe; cases hoe
  have he0 : ∀ env : Env, starEach [.Constant (.str ("a number is wrong" : Str)) 0 ⟨7, 25, 7, 44⟩] env = [(false, eval (.Constant (.str ("a number is wrong" : Str)) 0 ⟨7, 25, 7, 44⟩) env)] := fun _ => rfl
  have bsz : ∀ b o, s.heap.get? b = some o → b ≠ s.heap.objs.size := fun b o z => Nat.ne_of_lt (Heap.lt_size z)
  refine PySem.ks_wpAt_execs_cons (PySem.ks_wpAt_Expr_any (PySem.ks_wpAt_MethodCall (PySem.ks_wpAt_super_base hsup hcls (by decide) rfl (X0 _ _ lk) rfl (ar := ⟨"self", none, ⟨6, 17, 6, 21⟩⟩) rfl rfl (X0 _ _ lcode) rfl hvs hfile htop ?_)))
  refine PySem.W.ks_loadName_global rfl hsup (Calls.loadGlobal_builtin ((e0.mod.glob.keeps fun b o e => keep b o (e0.bs b o e).1)) gs (gb.keeps fun b o e => keep b o (e0.bs b o e).1) ((hbt _ (by decide)).trans (by decide +kernel)) ⟨rfl, ?_⟩)
  refine wpAny_loadName_free rfl hcls rfl ⟨_, X0 _ _ lcell, rfl⟩ ?_
  refine wpAny_loadName_local rfl hslf hns look1 ?_
  have hC0 := X0 _ _ hC
  have I0 : PySem.W.InstAt h₀ a (HandSPX.excO C t0) C none := ⟨oe0, rfl, rfl, trivial⟩
  refine PySem.ks_wpAny_isType_cls hC0 rfl ⟨rfl, ?_⟩
  refine PySem.ks_wpAny_call_super hC0 rfl oe0 rfl (fun c z => nomatch z) (PySem.W.looks_mroIn X0 F.sub) fun h1 e1 k1 => ?_
  have X1 : K.In h1 := X0.keeps k1
  have oe1 := k1 _ _ oe0
  have I1 : PySem.W.InstAt h1 a (HandSPX.excO C t0) C none := ⟨oe1, rfl, rfl, trivial⟩
  have hup := F.up
  unfold PySem.W.ks_superIn at hup
  rw [hcl] at hup
  have hxC : a ≠ C := fun z => by
    have c1 := X _ _ hC
    rw [← z, hoe] at c1; cases c1
  refine PySem.W.kxs_getMethod PySem.W.kxs_ValueError e1 (PySem.W.looks_opaque X1 F.opq) (l₀ := .ref C :: bm) (fun A Q E s k q => wpAny_bind ((PySem.W.looks_clsIn X1 hcl) A _ E s k (wpAny_pure q))) rfl X1 hup (I1.type.andThen (PySem.W.looks_subIn X1 F.ve)) hxC (by decide) ?_
  have k2 : ∀ b o, h1.get? b = some o → (h1.push (PySem.W.kxs_mw "ValueError.__init__" a)).get? b = some o := fun b o e => Heap.get?_push_of_some _ e
  have mw2 : (h1.push (PySem.W.kxs_mw "ValueError.__init__" a)).get? h1.objs.size = some (PySem.W.kxs_mw "ValueError.__init__" a) := Heap.get?_push_at rfl rfl
  rw [he0]
  refine PySem.W.kxs_callWith (i := "ValueError.__init__") (x := a) rfl (Calls.evalArgs_plain (Calls.spliced_cons (wpAny_Constant_str (k := 0) (pos := ⟨7, 25, 7, 44⟩) (Calls.spliced_nil ⟨mw2, ?_⟩))))
  refine bound_ve (k2 _ _ (k1 _ _ hC0)) (k2 _ _ oe1) mw2 (by show 1 ≤ sizeLine; rw [sizeLine_eq]; omega) fun h3 t1 k3 oe3 => ?_
  have kk : ∀ b o, b ≠ a → s.heap.get? b = some o → h3.get? b = some o := fun b o hb e => k3 b o hb (k2 _ _ (k1 _ _ (keep _ _ e)))
  have hns3 : h3.Ns s.heap.objs.size (fun x => ([("self", Value.ref a), ("part", u1)] : List (Str × Value)).reverse.lookup x) := by
    obtain ⟨oL, es, ep, hL', rr⟩ := hns
    exact ⟨oL, es, ep, k3 _ _ hL (k2 _ _ (k1 _ _ hL')), rr⟩
  have X3 : K.In h3 := fun b o e => kk b o (fun z => by
    have q := (e0.bs b o (e0.mod.kin b o e)).2
    rw [z, ea] at q; cases q) (X b o e)
  refine PySem.ks_wpAt_execs_cons (wpAt_of_wpAny (plainObj_wpAny_Assign_Attribute (wpAny_Name (wpAny_loadName_local rfl hx hns3 look2 (wpAny_Name (wpAny_loadName_local rfl hslf hns3 look1 ?_))))))
  refine PySem.W.set_plain X3 (ox := HandSPX.excO C t1) (od := none) ⟨oe3, rfl, rfl, trivial⟩ F.cls.sa ?_
  refine PySem.HandSPX.exc_osa X3 oe3 hcl (show PySem.HandSPX.refsVE (.ref C :: bm) = true from hbm) rfl F.no (fun h' tk' dx k dn dne hx' hn => ?_)
  refine wpAt_of_wpAny (wpAny_execs_nil ?_)
  have k' : ∀ b o, b ≠ a → s.heap.get? b = some o → h'.get? b = some o := fun b o hb e => k b o hb (kk b o hb e)
  have nd : ∀ {b : Addr} {o : Obj}, s.heap.get? b = some o → b ≠ dx := fun {b o} q => by
    by_cases hb : b = a
    · rw [hb]; exact Ne.symm dne
    · exact Nat.ne_of_lt (Nat.lt_of_lt_of_le (Heap.lt_size (kk b o hb q)) dn)
  have hnd : H dx = none := by
    cases q : H dx with
    | none => rfl
    | some u =>
      obtain ⟨o, z⟩ := objOk_get (e0.hok dx u q)
      exact (nd z rfl).elim
  have na : ∀ {b : Addr}, H b = none → b ≠ a := fun {b} n z => by
    rw [z, ea] at n; cases n
  refine ⟨V.non, _, rfl, e0.bare, ⟨fun b o q n _ _ => k' b o (na n) q, fun b o q n _ _ => ⟨o.slots, k' b o (na n) q⟩, fun b o q n _ => ?_, fun b o q _ => ?_, fun b xs q => ?_, fun b o v q => ?_, fun b ps q => ⟨#[], ?_⟩⟩, fun b o q => ?_, rfl, hq dx hnd dne⟩
  · rw [upd_ne (na n), upd_ne (nd q)]; exact n
  · by_cases hb : b = a
    · exact ⟨_, by rw [hb]; exact hx'⟩
    · exact ⟨o, k' b o hb q⟩
  · rw [upd_ne (at_ne ea q exo_tup), upd_ne (ne_of_none q hnd)]; exact q
  · rw [upd_ne (at_ne ea q exo_frz), upd_ne (ne_of_none q hnd)]; exact q
  · rw [upd_ne (at_ne ea q exo_tbl), upd_ne (ne_of_none q hnd), q]; simp
  · by_cases hb : b = a
    · subst hb
      rw [upd_same] at q; cases q
      exact exo_ok hx'
    · rw [upd_ne hb] at q
      by_cases hd : b = dx
      · subst hd
        rw [upd_same] at q; cases q
        exact exd_ok hn (relO_put (fs := []) r1 fun g => True.intro)
      · rw [upd_ne hd] at q
        refine (e0.hok b o q).stay (fun c v hc z => k' c v ?_ z) (fun c hc => ?_) (fun c xs hc => ?_)
        · rcases hc with hc | hc
          · rw [hc]; exact hb
          · exact at_ne ea hc exo_own
        · rw [upd_ne (at_ne ea hc exo_own), upd_ne (ne_of_none hc hnd)]; exact hc
        · rw [upd_ne (at_ne ea hc exo_tup), upd_ne (ne_of_none hc hnd)]; exact hc
end
end Bx
end

-- part BxAF
section
set_option Elab.async false
set_option linter.all false
set_option maxRecDepth 100000
set_option maxHeartbeats 2000000
/-! Boxparts: defs that raise. -/
namespace Bx
open PySem PySem.Spec PyProof.Rows L2
/-- the fields that an exception in flight carries -/
def FldF (H : Hp) (d : Option Addr) (fs : Option (List (Str × V))) : Prop := match d, fs with
  | none, none => True
  | some dd, some fs => H dd = some (.xd fs)
  | _, _ => False
theorem FldF.ex {H H' : Hp} {d : Option Addr} {fs : Option (List (Str × V))} (e : Ex H H') (h : FldF H d fs) : FldF H' d fs := by
  cases d with
  | none => cases fs with
    | none => trivial
    | some _ => exact h
  | some dd => cases fs with
    | none => exact h
    | some fs => exact e _ _ h
/-- the promise of a def that raises -/
def spX (R : List D → Addr → Option (List (Str × V)) → Prop) : Sp := fun vs H _ E => ∃ ds C fs, R ds C fs ∧ RepL H ds vs ∧ ∀ d H', Ex H H' → FldF H' d fs → E (.ref C) d H'
structure CalX (P : Program) (w : World) (K : PySem.W.Frag) (mg : Str → Option Value) (base : Heap) (k : Nat) (x : Str) (ps : List Str) (R : List D → Addr → Option (List (Str × V)) → Prop) : Prop where
  ex : ∃ f fd, FnOk P w K mg base (L2.CX P w) k f fd ps (spX R) ∧ mg x = some (.ref f) ∧ PySem.W.keepIn K (.ref f) = true ∧ Binds K fd ps []
/-- a statement, a block that raises -/
def Rz1 (X : Cx) (W : WX) (δ : De) (μ : Mem) (st : Stmt) (C : Addr) (fs : Option (List (Str × V))) : Prop := ∀ σ H (D : Ends), Cfg δ μ σ H → (∀ d σ' H', Xs μ H [] H' → FldF H' d fs → W (.ref C) d σ' H') → twS X st D σ H
def Rz (X : Cx) (W : WX) (δ : De) (μ : Mem) (sts : List Stmt) (C : Addr) (fs : Option (List (Str × V))) : Prop := ∀ σ H (D : Ends), Cfg δ μ σ H → (∀ d σ' H', Xs μ H [] H' → FldF H' d fs → W (.ref C) d σ' H') → twSs X sts D σ H
section
variable {X : Cx} {W : WX} {δ δ1 : De} {μ μ1 : Mem} {st : Stmt} {rest sts A B : List Stmt} {o : Out} {e a b c : Expr} {es : List Expr} {p pos cpos : Pos} {d : D} {C : Addr} {fs : Option (List (Str × V))}
theorem rz1_ps {t : TS} (h : PS X st t) (k : ∀ σ H (D : Ends), Cfg δ μ σ H → (∀ d σ' H', Xs μ H [] H' → FldF H' d fs → W (.ref C) d σ' H') → t D σ H) : Rz1 X W δ μ st C fs := fun σ H D c q pins s I => h.run pins s σ H D I (k σ H D c q)
theorem rz_hd (h : Rz1 X W δ μ st C fs) : Rz X W δ μ (st :: rest) C fs := fun σ H D c q pins s I => (pss_cons (ps_tw X st) (pss_tw X rest)).run pins s σ H D I (h σ H _ c q)
theorem rz_one (h : Rz1 X W δ μ st C fs) : Rz X W δ μ [st] C fs := rz_hd h
theorem rz_cons (h : S1 X δ μ st (.nx δ1 μ1)) (k : Rz X W δ1 μ1 rest C fs) : Rz X W δ μ (st :: rest) C fs := fun σ H D c q pins s I => (pss_cons (ps_tw X st) (pss_tw X rest)).run pins s σ H D I (h σ H _ c fun σ' H' c' x => k σ' H' D c' fun d σ2 H2 x2 f => q d σ2 H2 (x.trans x2) f)
theorem rz1_if (hc : EvT X δ μ c true) (h : Rz X W δ μ A C fs) : Rz1 X W δ μ (.If c A B pos) C fs :=
  rz1_ps (ps_if (pt_tw X c) (pss_tw X A) (pss_tw X B)) fun σ H D g q => hc σ H _ g fun H1 e1 => by
    rw [if_pos rfl]
    exact h σ H1 D (g.ex e1) fun d σ' H' x f => q d σ' H' ((Xs.of e1).trans x) f
theorem s_expr (h : Ev X δ μ e d) (hs : swapsWith e none pos.line X.env = pure false := by rfl) : S1 X δ μ (.Expr e pos) (.nx δ μ) :=
  s1_ps (ps_expr (pe_tw X e) hs) fun σ H D c q => h σ H _ c fun v H' ex _ => q σ H' (c.ex ex) (.of ex)
/-- a def that raises is called -/
theorem rz1_call {R : List D → Addr → Option (List (Str × V)) → Prop} {k : Nat} {x : Str} {ps : List Str} {ds : List D} (F : CalX X.prog X.w X.K X.mg X.base k x ps R) (hr : Room k X.A) (tk : Takes X W) (ha : EvA X δ μ (e :: es) ds) (h : R ds C fs) (hg : Gl X x := by rfl)
    (hdb : (x == ("__debug__" : Str)) = false := by decide) (he : starEach (e :: es) X.env = (false, eval e X.env) :: starEach es X.env := by rfl) (hpl : (backTo cpos (starEach es X.env)).any (·.1) = false := by rfl) (hs : swapsWith (.Call (.Name x p) (e :: es) [] cpos) none pos.line X.env = pure false := by rfl) :
    Rz1 X W δ μ (.Expr (.Call (.Name x p) (e :: es) [] cpos) pos) C fs := by
  obtain ⟨f, fd, F, hm, hk, hb⟩ := F.ex
  exact rz1_ps (ps_expr (pe_callS (E := WE W) F hr hg hm hk hb (fun σ => passAt tk σ) (pa_tw X _) hdb he hpl) hs) fun σ H D c q => ha σ H _ c fun vs H1 e1 r1 =>
    ⟨ds, C, fs, h, r1, fun d H2 e2 f2 => q d σ H2 ((Xs.of (e1.trans e2)).nil) f2⟩
/-- raise BadNumber(text) -/
theorem rz1_fld {K : PySem.W.Frag} {fI : Addr} {fd : FuncData} {x m : Str} {j : Nat} {p2 : Pos} (hK : K = X.K) (T : OexC K C) (iC : PySem.W.findIn K (.ref C) "__init__" = some (some (.ref fI))) (tI : PySem.W.typeIn K (.ref fI) = some (.type "function"))
    (F1 : FnOk X.prog X.w K X.mg X.base L2.CX0 1 fI fd ["self", "part"] (spFld K C "part")) (hb : Binds K fd ["self", "part"] []) (hr : Room 2 X.A) (hc : X.calm = true) (tk : Takes X W) (hm : X.mg x = some (.ref C)) (hg : Gl X x := by rfl) (hdb : (x == ("__debug__" : Str)) = false := by decide)
    (he : starEach [.Constant (.str m) j p2] X.env = (false, eval (.Constant (.str m) j p2) X.env) :: starEach [] X.env := by rfl) (hpl : (backTo cpos (starEach [] X.env)).any (·.1) = false := by rfl) :
    Rz1 X W δ μ (.Raise (some (.Call (.Name x p) [.Constant (.str m) j p2] [] cpos)) none pos) C (some [("part", .str m)]) := by
  subst hK
  refine rz1_ps (ps_raise hc tk (pmk_oex (ta := tCons (tC (.str m)) tNil) T iC tI F1 hr hb .nil pass0 hg hm (pa_cons pe_str pa_nil he) hdb he hpl)) fun σ H D g q => ?_
  refine ⟨by show 1 ≤ 1000; decide, fun a ha => ⟨a, .str m, rfl, upd_same, fun dx hd hne => ⟨rfl, dx, [("part", .str m)], upd_same, by rw [upd_ne hne, upd_same], ?_, ?_⟩⟩⟩
  · rw [upd_ne hne] at hd; exact hd
  · rw [upd_ne hne] at hd
    refine q _ _ _ ⟨fun b o ho _ => ?_, fun _ h => nomatch h⟩ upd_same
    have b1 : b ≠ a := ne_of_none ho ha
    have b2 : b ≠ dx := ne_of_none ho hd
    rw [upd_ne b2, del_ne b1, upd_ne b1, upd_ne b2, upd_ne b1]
    exact ho
/-- raise BadShape(text) -/
theorem rz1_txt {x m : Str} {j : Nat} {p2 : Pos} {B newId initId : String} {bmB : List Value} (F : ExcBaseFacts B newId initId bmB) (hq : PySem.W.excIn X.K C bmB newId = true) (kC : PySem.W.keepIn X.K (.ref C) = true) (s1 : PySem.W.subIn X.K (.ref C) (.type "BaseException") = some true) (s2 : PySem.W.typeIn X.K (.ref C) = some (.type "type"))
    (hc : X.calm = true) (tk : Takes X W) (hm : X.mg x = some (.ref C)) (hg : Gl X x := by rfl) (hdb : (x == ("__debug__" : Str)) = false := by decide) :
    Rz1 X W δ μ (.Raise (some (.Call (.Name x p) [.Constant (.str m) j p2] [] cpos)) none pos) C none :=
  rz1_ps (ps_raise hc tk (pmk_own F hq hm kC (raises_own s1 s2) hg hdb)) fun σ H D g q => q none σ H (Xs.of (Ex.refl H)).nil trivial
end
/-- the context of a body that may raise -/
abbrev cxX (P : Program) (w : World) (K : PySem.W.Frag) (mg : Str → Option Value) (base : Heap) (N : List Str) (qual : Str) (scope : Scope) (f : Addr) (cd : Value) (A : Around) (outer : List Env) (s : Shared) (H : Hp) (E : XK) : Cx := cxOf (L2.CX P w) P w K mg base N qual scope f cd A outer s H E
abbrev wE (E : XK) : WX := fun cls d _ H => E cls d H
section
variable {P : Program} {w : World} {K : PySem.W.Frag} {mg : Str → Option Value} {base : Heap} {x : Str} {st : Stmt} {f : Addr} {fd : FuncData} {N ps : List Str} {k : Nat}
theorem fn_X {R : List D → Addr → Option (List (Str × V)) → Prop} (F : FnP K x st f fd) (g : mg x = some (.ref f)) (S : FnScope N ps (defScope st)) (hl : ∀ ds C fs, R ds C fs → ds.length = ps.length)
    (hbd : ∀ (kV doc pm : Value) (an : Option Addr) (cdv ct : Value) (us : List Value), us.length = ps.length → bindArgs (PySem.W.fnOf x x (defArgs st) (defBody st) (defScope st) .none kV doc pm an cdv ct) ⟨us, []⟩ = pure (ps.zip us))
    (hb : ∀ (cdv : Value) (A : Around) (outer : List Env) (s : Shared) (H : Hp) (E : XK), Room k (A.deeper (envOfC x (defScope st) s.heap.objs.size f cdv)) → Takes (cxX P w K mg base N x (defScope st) f cdv A outer s H E) (wE E) → ∀ ds C fs, R ds C fs → Rz (cxX P w K mg base N x (defScope st) f cdv A outer s H E) (wE E) (init N ds) [] (defBody st) C fs) :
    CalX P w K mg base (k + 1) x ps R := by
  refine ⟨f, fd, ?_, g, F.kp, F.bindsN hbd⟩
  refine F.ok S (fun vs H Q E h => ?_) fun cdv A outer s H vs Q E hr h => ?_
  · obtain ⟨ds, C, fs, h1, h2, _⟩ := h
    rw [h2.len]; exact hl ds C fs h1
  · obtain ⟨ds, C, fs, h1, h2, h3⟩ := h
    refine ⟨_, pss_tw _ _, hb cdv A outer s H E hr (takes_of rfl rfl rfl rfl) ds C fs h1 _ H _ (cfg_start h2) fun d σ' H' x f => h3 d H' (fun a o e => x.keep a o e (fun z => nomatch z)) f⟩
/-- a def that ends without a return -/
theorem fn_N {R : List D → Prop} (F : FnP K x st f fd) (g : mg x = some (.ref f)) (S : FnScope N ps (defScope st)) (hl : ∀ ds, R ds → ds.length = ps.length)
    (hbd : ∀ (kV doc pm : Value) (an : Option Addr) (cdv ct : Value) (us : List Value), us.length = ps.length → bindArgs (PySem.W.fnOf x x (defArgs st) (defBody st) (defScope st) .none kV doc pm an cdv ct) ⟨us, []⟩ = pure (ps.zip us))
    (hb : ∀ (cdv : Value) (A : Around) (outer : List Env) (s : Shared) (H : Hp) (E : XK), Room k (A.deeper (envOfC x (defScope st) s.heap.objs.size f cdv)) → ∀ ds, R ds → ∃ δ', Sv (cx0 P w K mg base N x (defScope st) f cdv A outer s H E) (init N ds) [] (defBody st) (.nx δ' [])) :
    Cal P w K mg base (k + 1) x ps (spR fun ds d => R ds ∧ d = .non) := by
  refine ⟨f, fd, ?_, g, F.kp, F.bindsN hbd⟩
  refine F.ok S (fun vs H Q E h => ?_) fun cdv A outer s H vs Q E hr h => ?_
  · obtain ⟨ds, d, ⟨h1, _⟩, h2, _⟩ := h
    rw [h2.len]; exact hl ds h1
  · obtain ⟨ds, d, ⟨h1, rfl⟩, h2, h3⟩ := h
    obtain ⟨δ', hs⟩ := hb cdv A outer s H E hr ds h1
    exact ⟨_, PSs.nox (pss_tw _ _), hs _ H _ (cfg_start h2) fun σ' H' _ x => h3 .non H' (fun a o e => x.keep a o e (fun z => nomatch z)) rfl⟩
end
end Bx
end

-- part BxAG
section
set_option Elab.async false
set_option linter.all false
set_option maxRecDepth 100000
set_option maxHeartbeats 2000000
/-! Boxparts: need_e, need_shape, need_few, need_free_shape, list_sum, need_weight, one_chain: running through, and raising. -/
namespace Bx
open PySem PySem.Spec PyProof.Rows L2
/-- what is known of the two classes -/
structure ExK (P : Program) (w : World) (K : PySem.W.Frag) (mg : Str → Option Value) (base : Heap) (Cn Cs : Addr) : Prop where
  gn : mg "BadNumber" = some (.ref Cn)
  gs : mg "BadShape" = some (.ref Cs)
  oc : OexC K Cn
  fn : ∃ fI fd, PySem.W.findIn K (.ref Cn) "__init__" = some (some (.ref fI)) ∧ PySem.W.typeIn K (.ref fI) = some (.type "function") ∧ FnOk P w K mg base L2.CX0 1 fI fd ["self", "part"] (spFld K Cn "part") ∧ Binds K fd ["self", "part"] []
  q : PySem.W.excIn K Cs [.type "ValueError", .type "Exception", .type "BaseException", .type "object"] "ValueError.__new__" = true
  kC : PySem.W.keepIn K (.ref Cs) = true
  s1 : PySem.W.subIn K (.ref Cs) (.type "BaseException") = some true
  s2 : PySem.W.typeIn K (.ref Cs) = some (.type "type")
section
variable {P : Program} {w : World} {K : PySem.W.Frag} {mg : Str → Option Value} {base : Heap} {f Cn Cs : Addr} {fd : FuncData} {tk : Tok}
theorem rzN {N : List Str} {qual m : Str} {scope : Scope} {cd : Value} {A : Around} {outer : List Env} {s : Shared} {H : Hp} {E : XK} {δ : De} {μ : Mem} {j : Nat} {p p2 cpos pos : Pos} (Z : ExK P w K mg base Cn Cs) (hr : Room 2 (cxX P w K mg base N qual scope f cd A outer s H E).A) (tk : Takes (cxX P w K mg base N qual scope f cd A outer s H E) (wE E)) (hg : Gl (cxX P w K mg base N qual scope f cd A outer s H E) "BadNumber" := by rfl) :
    Rz1 (cxX P w K mg base N qual scope f cd A outer s H E) (wE E) δ μ (.Raise (some (.Call (.Name "BadNumber" p) [.Constant (.str m) j p2] [] cpos)) none pos) Cn (some [("part", .str m)]) := by
  obtain ⟨fI, fd, z1, z2, z3, z4⟩ := Z.fn
  exact rz1_fld (K := K) rfl Z.oc z1 z2 z3 z4 hr rfl tk Z.gn hg
theorem rzS {N : List Str} {qual m : Str} {scope : Scope} {cd : Value} {A : Around} {outer : List Env} {s : Shared} {H : Hp} {E : XK} {δ : De} {μ : Mem} {j : Nat} {p p2 cpos pos : Pos} (Z : ExK P w K mg base Cn Cs) (tk : Takes (cxX P w K mg base N qual scope f cd A outer s H E) (wE E)) (hg : Gl (cxX P w K mg base N qual scope f cd A outer s H E) "BadShape" := by rfl) :
    Rz1 (cxX P w K mg base N qual scope f cd A outer s H E) (wE E) δ μ (.Raise (some (.Call (.Name "BadShape" p) [.Constant (.str m) j p2] [] cpos)) none pos) Cs none :=
  rz1_txt F.excBase_ValueError Z.q Z.kC Z.s1 Z.s2 rfl tk Z.gs hg
abbrev xN (m : Str) : Option (List (Str × V)) := some [("part", .str m)]
/-! need_e -/
def RNeedE (ds : List D) : Prop := ∃ i : Int, ds = [.int i] ∧ 2 ≤ i ∧ i ≤ 20
def RNeedEX (Cn : Addr) (ds : List D) (C : Addr) (fs : Option (List (Str × V))) : Prop := ∃ x, ds = [x] ∧ Kind x ∧ isBet x 2 20 = false ∧ C = Cn ∧ fs = xN "e"
abbrev nNeedE : List Str := ["e"]
theorem scNeedE : FnScope nNeedE ["e"] (defScope (top 10)) := ⟨rfl, rfl, rfl, by decide +kernel, rfl, by decide +kernel, by decide +kernel⟩
theorem c_needE (F : FnP K "need_e" (top 10) f fd) (g : mg "need_e" = some (.ref f)) (hm : mg "MOST_E" = some (.int 20 tk)) (G : Cal P w K mg base 2 "is_between" ["thing", "low", "high"] (spR RBet)) : Cal P w K mg base 3 "need_e" ["e"] (spR fun ds d => RNeedE ds ∧ d = .non) := by
  refine fn_N F g scNeedE (fun ds ⟨_, q, _⟩ => by rw [q]; rfl) (fun _ _ _ _ _ _ us hl => match us, hl with | [_], _ => rfl) fun cdv A outer s H E hr ds h => ?_
  obtain ⟨i, rfl, h1, h2⟩ := h
  exact ⟨_, sv_one (s_ifF (EvT.is (evt_not (evt_val (ev_call G hr (ea_cons (ev_var 0) (ea_cons ev_int (ea_cons (ev_glob hm) ea_nil))) ⟨.int i, 2, 20, rfl, .int i, rfl⟩))) (by simp [isBet, h1, h2])) sv_nil)⟩
theorem c_needEX (F : FnP K "need_e" (top 10) f fd) (g : mg "need_e" = some (.ref f)) (hm : mg "MOST_E" = some (.int 20 tk)) (Z : ExK P w K mg base Cn Cs) (G : Cal P w K mg base 2 "is_between" ["thing", "low", "high"] (spR RBet)) : CalX P w K mg base 3 "need_e" ["e"] (RNeedEX Cn) := by
  refine fn_X F g scNeedE (fun ds _ _ ⟨_, q, _⟩ => by rw [q]; rfl) (fun _ _ _ _ _ _ us hl => match us, hl with | [_], _ => rfl) fun cdv A outer s H E hr tk ds C fs h => ?_
  obtain ⟨x, rfl, k, h1, rfl, rfl⟩ := h
  exact rz_one (rz1_if (EvT.is (evt_not (evt_val (ev_call G hr (ea_cons (ev_var 0) (ea_cons ev_int (ea_cons (ev_glob hm) ea_nil))) ⟨x, 2, 20, rfl, k, rfl⟩))) (by rw [h1]; rfl)) (rz_one (rzN Z hr tk)))
/-! need_shape -/
abbrev nNeedS : List Str := ["shape"]
theorem scNeedS : FnScope nNeedS ["shape"] (defScope (top 16)) := ⟨rfl, rfl, rfl, by decide +kernel, rfl, by decide +kernel, by decide +kernel⟩
theorem ishLen {ds : List D} {d : D} (h : RIsh ds d) : ∃ x, ds = [x] := by
  rcases h with ⟨_, q, _⟩ | ⟨_, q, _⟩ <;> exact ⟨_, q⟩
theorem c_needS (F : FnP K "need_shape" (top 16) f fd) (g : mg "need_shape" = some (.ref f)) (G : Cal P w K mg base 2 "is_shape" ["thing"] (spR RIsh)) : Cal P w K mg base 3 "need_shape" ["shape"] (spR fun ds d => RIsh ds (.bl true) ∧ d = .non) := by
  refine fn_N F g scNeedS (fun ds q => by obtain ⟨x, rfl⟩ := ishLen q; rfl) (fun _ _ _ _ _ _ us hl => match us, hl with | [_], _ => rfl) fun cdv A outer s H E hr ds h => ?_
  obtain ⟨x, rfl⟩ := ishLen h
  exact ⟨_, sv_one (s_ifF (EvT.is (evt_not (evt_val (ev_call G hr (ea_cons (ev_var 0) ea_nil) h))) rfl) sv_nil)⟩
theorem c_needSX (F : FnP K "need_shape" (top 16) f fd) (g : mg "need_shape" = some (.ref f)) (Z : ExK P w K mg base Cn Cs) (G : Cal P w K mg base 2 "is_shape" ["thing"] (spR RIsh)) : CalX P w K mg base 3 "need_shape" ["shape"] (fun ds C fs => RIsh ds (.bl false) ∧ C = Cs ∧ fs = none) := by
  refine fn_X F g scNeedS (fun ds _ _ ⟨q, _⟩ => by obtain ⟨x, rfl⟩ := ishLen q; rfl) (fun _ _ _ _ _ _ us hl => match us, hl with | [_], _ => rfl) fun cdv A outer s H E hr tk ds C fs h => ?_
  obtain ⟨h, rfl, rfl⟩ := h
  obtain ⟨x, rfl⟩ := ishLen h
  exact rz_one (rz1_if (EvT.is (evt_not (evt_val (ev_call G hr (ea_cons (ev_var 0) ea_nil) h))) rfl) (rz_one (rzS Z tk)))
/-! need_few, need_free_shape, list_sum: they run through -/
abbrev nFew : List Str := ["number", "most"]
theorem scFew : FnScope nFew ["number", "most"] (defScope (top 11)) := ⟨rfl, rfl, rfl, by decide +kernel, rfl, by decide +kernel, by decide +kernel⟩
theorem c_few (F : FnP K "need_few" (top 11) f fd) (g : mg "need_few" = some (.ref f)) : Cal P w K mg base 1 "need_few" ["number", "most"] (spR fun ds d => (∃ i j : Int, ds = [.int i, .int j] ∧ i ≤ j) ∧ d = .non) := by
  refine fn_N F g scFew (fun ds ⟨_, _, q, _⟩ => by rw [q]; rfl) (fun _ _ _ _ _ _ us hl => match us, hl with | [_, _], _ => rfl) fun cdv A outer s H E hr ds h => ?_
  obtain ⟨i, j, rfl, hij⟩ := h
  exact ⟨_, sv_one (s_ifF (EvT.is (et_c (ec_gt (ev_var 0) (ev_var 1))) (decide_eq_false (by omega))) sv_nil)⟩
def RFreeS (ds : List D) : Prop := ∃ e s, ds = [.int e, sh s] ∧ 2 ≤ e ∧ e ≤ 20 ∧ isShp s = true ∧ Sm s ∧ isFree e s = true ∧ s.sum ≤ 12
abbrev nFreeS : List Str := ["e", "shape"]
theorem scFreeS : FnScope nFreeS ["e", "shape"] (defScope (top 43)) := ⟨rfl, rfl, rfl, by decide +kernel, rfl, by decide +kernel, by decide +kernel⟩
theorem c_freeS (F : FnP K "need_free_shape" (top 43) f fd) (g : mg "need_free_shape" = some (.ref f)) (B : Bi mg) (hm : mg "MOST_LISTED" = some (.int 12 tk)) (G1 : Cal P w K mg base 3 "need_e" ["e"] (spR fun ds d => RNeedE ds ∧ d = .non)) (G2 : Cal P w K mg base 3 "need_shape" ["shape"] (spR fun ds d => RIsh ds (.bl true) ∧ d = .non))
    (G3 : Cal P w K mg base 1 "is_free_of" ["e", "shape"] (spR RFree)) (G4 : Cal P w K mg base 1 "need_few" ["number", "most"] (spR fun ds d => (∃ i j : Int, ds = [.int i, .int j] ∧ i ≤ j) ∧ d = .non)) : Cal P w K mg base 4 "need_free_shape" ["e", "shape"] (spR fun ds d => RFreeS ds ∧ d = .non) := by
  refine fn_N F g scFreeS (fun ds ⟨_, _, q, _⟩ => by rw [q]; rfl) (fun _ _ _ _ _ _ us hl => match us, hl with | [_, _], _ => rfl) fun cdv A outer s H E hr ds h => ?_
  obtain ⟨e, s, rfl, h1, h2, h3, sm, h4, h5⟩ := h
  have hl := sm.len
  refine ⟨_, sv_cons (s_expr (ev_call G1 hr (ea_cons (ev_var 0) ea_nil) ⟨⟨e, rfl, h1, h2⟩, rfl⟩)) (sv_cons (s_expr (ev_call G2 hr (ea_cons (ev_var 1) ea_nil) ⟨.inl ⟨s, rfl, by omega, by rw [h3]⟩, rfl⟩)) (sv_cons (s_ifF (EvT.is (evt_not (evt_val (ev_call G3 (hr.mono (by decide)) (ea_cons (ev_var 0) (ea_cons (ev_var 1) ea_nil)) ⟨e, s, rfl, sm, by omega, by omega, rfl⟩))) (by rw [h4]; rfl)) sv_nil)
    (sv_one (s_expr (ev_call G4 (hr.mono (by decide)) (ea_cons (ev_sumT rfl B (ev_var 1)) (ea_cons (ev_glob hm) ea_nil)) ⟨⟨_, _, rfl, h5⟩, rfl⟩)))))⟩
def RLsum (ds : List D) (d : D) : Prop := ∃ e s r, ds = [.int e, sh s] ∧ RFreeS [.int e, sh s] ∧ sumR2 e s = some r ∧ d = sumD r
abbrev nLsum : List Str := ["e", "shape"]
theorem scLsum : FnScope nLsum ["e", "shape"] (defScope (top 50)) := ⟨rfl, rfl, rfl, by decide +kernel, rfl, by decide +kernel, by decide +kernel⟩
theorem c_lsum (F : FnP K "list_sum" (top 50) f fd) (g : mg "list_sum" = some (.ref f)) (G1 : Cal P w K mg base 4 "need_free_shape" ["e", "shape"] (spR fun ds d => RFreeS ds ∧ d = .non)) (G2 : Cal P w K mg base 7 "sum_of" ["e", "shape"] (spR RSumOf)) : Cal P w K mg base 8 "list_sum" ["e", "shape"] (spR RLsum) := by
  refine fn_R F g scLsum (fun ds d ⟨_, _, _, q, _⟩ => by rw [q]; rfl) (fun _ _ _ _ _ _ us hl => match us, hl with | [_, _], _ => rfl) fun cdv A outer s0 H E hr ds d h => ?_
  obtain ⟨e, s, r, rfl, h1, h2, rfl⟩ := h
  exact sv_cons (s_expr (ev_call G1 (hr.mono (by decide)) (ea_cons (ev_var 0) (ea_cons (ev_var 1) ea_nil)) ⟨h1, rfl⟩)) (sv_one (s_ret (ev_call G2 hr (ea_cons (ev_var 0) (ea_cons (ev_var 1) ea_nil)) ⟨e, s, r, rfl, h2, rfl⟩)))
/-! need_weight -/
def RWgt (ds : List D) : Prop := ∃ (e n : Int) (s : List Int) (t : List Int × Int), ds = [.int e, sh s, .int n] ∧ 2 ≤ e ∧ e ≤ 20 ∧ s.length ≤ 1000 ∧ isShp s = true ∧ coRun e s = some t ∧ t.2 = n
/-- what is refused: e, the shape, the weight -/
inductive Bad (Cn Cs : Addr) (n : Int) : D → D → Addr → Option (List (Str × V)) → Prop
  | e {x y : D} (k : Kind x) (h : isBet x 2 20 = false) : Bad Cn Cs n x y Cn (xN "e")
  | shape {e : Int} {y : D} (h1 : 2 ≤ e) (h2 : e ≤ 20) (h : RIsh [y] (.bl false)) : Bad Cn Cs n (.int e) y Cs none
  | weight {e : Int} {s : List Int} {t : List Int × Int} (h1 : 2 ≤ e) (h2 : e ≤ 20) (hl : s.length ≤ 1000) (hs : isShp s = true) (h : coRun e s = some t) (hn : t.2 ≠ n) : Bad Cn Cs n (.int e) (sh s) Cn (xN "weight")
abbrev nWgt : List Str := ["e", "shape", "weight"]
theorem scWgt : FnScope nWgt ["e", "shape", "weight"] (defScope (top 58)) := ⟨rfl, rfl, rfl, by decide +kernel, rfl, by decide +kernel, by decide +kernel⟩
theorem c_wgt (F : FnP K "need_weight" (top 58) f fd) (g : mg "need_weight" = some (.ref f)) (G1 : Cal P w K mg base 3 "need_e" ["e"] (spR fun ds d => RNeedE ds ∧ d = .non)) (G2 : Cal P w K mg base 3 "need_shape" ["shape"] (spR fun ds d => RIsh ds (.bl true) ∧ d = .non))
    (G3 : Cal P w K mg base 4 "core_of" ["e", "shape"] (spR RCore)) : Cal P w K mg base 5 "need_weight" ["e", "shape", "weight"] (spR fun ds d => RWgt ds ∧ d = .non) := by
  refine fn_N F g scWgt (fun ds ⟨_, _, _, _, q, _⟩ => by rw [q]; rfl) (fun _ _ _ _ _ _ us hl => match us, hl with | [_, _, _], _ => rfl) fun cdv A outer s0 H E hr ds h => ?_
  obtain ⟨e, n, s, t, rfl, h1, h2, hl, h3, h4, h5⟩ := h
  exact ⟨_, sv_cons (s_expr (ev_call G1 (hr.mono (by decide)) (ea_cons (ev_var 0) ea_nil) ⟨⟨e, rfl, h1, h2⟩, rfl⟩)) (sv_cons (s_expr (ev_call G2 (hr.mono (by decide)) (ea_cons (ev_var 1) ea_nil) ⟨.inl ⟨s, rfl, hl, by rw [h3]⟩, rfl⟩))
    (sv_one (s_ifF (EvT.is (et_c (ec_neI (ev_ixT (ev_call G3 hr (ea_cons (ev_var 0) (ea_cons (ev_var 1) ea_nil)) ⟨e, s, t, rfl, h4, rfl⟩) ev_int (atI_nat (j := 1) rfl)) (ev_var 2))) (by rw [h5]; simp)) sv_nil)))⟩
theorem c_wgtX (F : FnP K "need_weight" (top 58) f fd) (g : mg "need_weight" = some (.ref f)) (Z : ExK P w K mg base Cn Cs) (G1 : Cal P w K mg base 3 "need_e" ["e"] (spR fun ds d => RNeedE ds ∧ d = .non)) (G2 : Cal P w K mg base 3 "need_shape" ["shape"] (spR fun ds d => RIsh ds (.bl true) ∧ d = .non))
    (G3 : Cal P w K mg base 4 "core_of" ["e", "shape"] (spR RCore)) (G4 : CalX P w K mg base 3 "need_e" ["e"] (RNeedEX Cn)) (G5 : CalX P w K mg base 3 "need_shape" ["shape"] (fun ds C fs => RIsh ds (.bl false) ∧ C = Cs ∧ fs = none)) :
    CalX P w K mg base 5 "need_weight" ["e", "shape", "weight"] (fun ds C fs => ∃ x y n, ds = [x, y, .int n] ∧ Bad Cn Cs n x y C fs) := by
  refine fn_X F g scWgt (fun ds _ _ ⟨_, _, _, q, _⟩ => by rw [q]; rfl) (fun _ _ _ _ _ _ us hl => match us, hl with | [_, _, _], _ => rfl) fun cdv A outer s0 H E hr tk ds C fs h => ?_
  obtain ⟨x, y, n, rfl, h⟩ := h
  cases h with
  | e k h => exact rz_hd (rz1_call G4 (hr.mono (by decide)) tk (ea_cons (ev_var 0) ea_nil) ⟨x, rfl, k, h, rfl, rfl⟩)
  | @shape e y h1 h2 h => exact rz_cons (s_expr (ev_call G1 (hr.mono (by decide)) (ea_cons (ev_var 0) ea_nil) ⟨⟨e, rfl, h1, h2⟩, rfl⟩)) (rz_hd (rz1_call G5 (hr.mono (by decide)) tk (ea_cons (ev_var 1) ea_nil) ⟨h, rfl, rfl⟩))
  | @weight e s t h1 h2 hl h3 h4 h5 =>
    exact rz_cons (s_expr (ev_call G1 (hr.mono (by decide)) (ea_cons (ev_var 0) ea_nil) ⟨⟨e, rfl, h1, h2⟩, rfl⟩)) (rz_cons (s_expr (ev_call G2 (hr.mono (by decide)) (ea_cons (ev_var 1) ea_nil) ⟨.inl ⟨s, rfl, hl, by rw [h3]⟩, rfl⟩))
      (rz_one (rz1_if (EvT.is (et_c (ec_neI (ev_ixT (ev_call G3 hr (ea_cons (ev_var 0) (ea_cons (ev_var 1) ea_nil)) ⟨e, s, t, rfl, h4, rfl⟩) ev_int (atI_nat (j := 1) rfl)) (ev_var 2))) (by rw [decide_eq_false h5]; rfl)) (rz_one (rzN Z (hr.mono (by decide)) tk)))))
/-! one_chain -/
def RChain (ds : List D) (d : D) : Prop := ∃ e s t r, ds = [.int e, sh s] ∧ 2 ≤ e ∧ e ≤ 20 ∧ Sm s ∧ isShp s = true ∧ coRun e s = some t ∧ t.2 = 1 ∧ shRun s.sum = some r ∧ SortOk r.1 ∧ (∀ o ∈ sortS r.1, Sm o) ∧ SortOk (blockL e s (sortS r.1)) ∧ d = .tup ((sortR (blockL e s (sortS r.1))).map sh)
abbrev nChain : List Str := ["e", "shape"]
theorem scChain : FnScope nChain ["e", "shape"] (defScope (top 59)) := ⟨rfl, rfl, rfl, by decide +kernel, rfl, by decide +kernel, by decide +kernel⟩
theorem c_chain (F : FnP K "one_chain" (top 59) f fd) (g : mg "one_chain" = some (.ref f)) (B : Bi mg) (G1 : Cal P w K mg base 5 "need_weight" ["e", "shape", "weight"] (spR fun ds d => RWgt ds ∧ d = .non)) (G2 : Cal P w K mg base 3 "block_of" ["e", "shape"] (spR RBlock)) : Cal P w K mg base 6 "one_chain" ["e", "shape"] (spR RChain) := by
  refine fn_R F g scChain (fun ds d ⟨_, _, _, _, q, _⟩ => by rw [q]; rfl) (fun _ _ _ _ _ _ us hl => match us, hl with | [_, _], _ => rfl) fun cdv A outer s0 H E hr ds d h => ?_
  obtain ⟨e, s, t, r, rfl, h1, h2, sm, h3, h4, h5, h6, so, h7, so2, rfl⟩ := h
  have hl := sm.len
  exact sv_cons (s_expr (ev_call G1 hr (ea_cons (ev_var 0) (ea_cons (ev_var 1) (ea_cons ev_int ea_nil))) ⟨⟨e, 1, s, t, rfl, h1, h2, by omega, h3, h4, h5⟩, rfl⟩))
    (sv_one (s_ret (ev_tupleOf B (ev_sortR hr B (ev_call G2 (hr.mono (by decide)) (ea_cons (ev_var 0) (ea_cons (ev_var 1) ea_nil)) ⟨e, s, r, rfl, sm, by omega, by omega, h6, so, h7, rfl⟩) so2 (fun ta tk ha hk => pe_callBK (cr_sortShR hr.units) rfl B.sorted boot_sorted ha hk)))))
theorem c_chainX (F : FnP K "one_chain" (top 59) f fd) (g : mg "one_chain" = some (.ref f)) (G1 : CalX P w K mg base 5 "need_weight" ["e", "shape", "weight"] (fun ds C fs => ∃ x y n, ds = [x, y, .int n] ∧ Bad Cn Cs n x y C fs)) :
    CalX P w K mg base 6 "one_chain" ["e", "shape"] (fun ds C fs => ∃ x y, ds = [x, y] ∧ Bad Cn Cs 1 x y C fs) := by
  refine fn_X F g scChain (fun ds _ _ ⟨_, _, q, _⟩ => by rw [q]; rfl) (fun _ _ _ _ _ _ us hl => match us, hl with | [_, _], _ => rfl) fun cdv A outer s0 H E hr tk ds C fs h => ?_
  obtain ⟨x, y, rfl, h⟩ := h
  exact rz_hd (rz1_call G1 hr tk (ea_cons (ev_var 0) (ea_cons (ev_var 1) (ea_cons ev_int ea_nil))) ⟨x, y, 1, rfl, h⟩)
end
end Bx
end

-- part BxAH
section
set_option Elab.async false
set_option linter.all false
set_option maxRecDepth 100000
set_option maxHeartbeats 2000000
/-! Boxparts: a lambda handed to _law_caught; all but the maker's own table of code objects stays. -/
namespace Bx
open PySem PySem.Spec PyProof.Rows L2
abbrev lq (X : Cx) : Str := X.env.qual ++ "<lambda>"
/-- all but what stands at P -/
def ExP (P : Addr) (H H' : Hp) : Prop := ∀ b o, H b = some o → b ≠ P → H' b = some o
section
variable {X : Cx} {pins : List (Addr × Obj)} {σ : L2.St} {H : Hp} {s : Shared} {c P : Addr} {params : Arguments} {body : Expr} {scope : Scope} {pos : Pos} {E Q : Value → Shared → Prop}
abbrev lamO (X : Cx) (params : Arguments) (body : Expr) (scope : Scope) (pm : Value) (c' : Addr) (ctv : Value) : Obj :=
  PySem.W.kla_obj "<lambda>" (lq X) params body scope (cloFrom X.env.cells scope.names []) pm c' ctv
theorem lam_mk (I : Inv X pins σ H s) (TB : LamX.TabB X.base X.mg c P) (hcode : X.env.code = .ref c) (hT : LamX.TabS H P (lq X)) (hdef : defaultsOf params X.env = ([], [])) (hfree : ∀ y ∈ scope.names, y.2 = .free → ∃ c, X.env.cells.lookup y.1 = some c)
    (h : ∀ (f c' : Addr) (pm ctv : Value) (H1 : Hp) (s' : Shared), Inv X pins σ H1 s' → ExP P H H1 → LamX.TabS H1 P (lq X) → s'.heap.get? f = some (lamO X params body scope pm c' ctv) → H1 f = none → f ∉ frs X.stack → H1 c' = some (LamX.CodeO c' (lq X)) → Q (.ref f) s') :
    wpAny (model X.prog X.w) X.A (eval (.Lambda params body scope pos) X.env) Q E s := by
  obtain ⟨ps, hP, ht, ha⟩ := id hT
  have bP := TB.bm.keeps I.bk
  have gP : s.heap.get? P = some { cls := .none, data := .fields ps } := I.hok P _ hP
  have off : ∀ f, s.heap.objs.size ≤ f → f ∉ frs X.stack := fun f hf z =>
    (List.mem_cons.mp (I.stkSub _ z)).elim (fun e => Nat.lt_irrefl _ (Nat.lt_of_lt_of_le (e ▸ I.lt) hf)) (fun e => I.nofs hf e)
  refine PySem.W.kla_eval hdef ?_
  rcases hc : codeAmong pos ps.toList with _ | cv
  · refine PySem.W.kla_makeFunction (c := c) (P := P) (ps := ps) (mg := X.mg) (closure_ok hfree) I.ok.glob (I.mod.glob.keeps I.bk) hcode (TB.code.keeps I.bk) gP ht hc TB.gP bP ?_
    intro c' ctv h' tk hx hge hlt hrec htb
    obtain ⟨c2, oc, vs, t, e2, hoc, hd, hv⟩ := hrec
    cases e2
    have nC : H c' = none := I.hok.fresh hge
    have big := Nat.le_trans hge (Nat.le_of_lt hlt)
    have J := LamX.inv_table (q := lq X) (t' := tk) (c := c') (more := #[rawInt pos.line, rawInt pos.col, .ref c']) (h' := h'.push (lamO X params body scope ((X.mg "__name__").getD .none) c' ctv)) I hP (fun b o hb e => Heap.get?_push_of_some _ (hx b o hb e))
      (Heap.get?_push_of_some _ htb) hge ⟨oc, vs, t, Heap.get?_push_of_some _ hoc, hd, hv⟩
    have eL : (ps ++ #[rawInt pos.line, rawInt pos.col, .ref c']).toList = ps.toList ++ [rawInt pos.line, rawInt pos.col, .ref c'] := by simp
    have stays : ExP P H (upd (upd H P (.tbl (ps ++ #[rawInt pos.line, rawInt pos.col, .ref c']))) c' (LamX.CodeO c' (lq X))) := fun b o e hb => by
      rw [upd_ne (ne_of_none e nC), upd_ne hb]; exact e
    refine h _ c' _ ctv _ _ J stays ⟨_, by rw [upd_ne (ne_of_none hP nC), upd_same], by rw [eL]; exact PySem.TriplesOk_snoc _ _ _ _ ht, fun p' cv hcv => ?_⟩ (Heap.get?_push_size _ rfl) ?_ (off _ big) upd_same
    · rw [eL] at hcv
      rcases LamX.among_app _ ht hcv with z | z
      · obtain ⟨c0, e1, e2⟩ := ha p' cv z
        exact ⟨c0, e1, stays _ _ e2 fun q => by
          rw [q, hP] at e2
          exact LamX.codeO_ne ps (Option.some.inj e2).symm⟩
      · exact ⟨c', z, upd_same⟩
    · have n2 : h'.objs.size ≠ P := Nat.ne_of_gt (Nat.lt_of_lt_of_le (Heap.lt_size gP) big)
      rw [upd_ne (Nat.ne_of_gt hlt), upd_ne n2]
      exact I.hok.fresh big
  · obtain ⟨c', rfl, hco⟩ := ha pos cv hc
    refine PySem.W.kla_makeFunctionHit (c := c) (P := P) (ps := ps) (mg := X.mg) (closure_ok hfree) I.ok.glob (I.mod.glob.keeps I.bk) hcode (TB.code.keeps I.bk) gP ht hc bP ?_
    intro ctv h' tk hx hsz
    exact h h'.objs.size c' _ ctv H _ (I.kept fun b o e => Heap.get?_push_of_some _ (hx b o e)) (fun _ _ e _ => e) hT (Heap.get?_push_size _ rfl) (I.hok.fresh hsz) (off _ hsz) hco
end
/-! ### _law_caught -/
abbrev nCaught : List Str := ["_law_work", "_law_caught_here", "error"]
theorem scCaught : FnScope nCaught ["_law_work"] (defScope (top 65)) := ⟨rfl, rfl, rfl, by decide +kernel, rfl, by decide +kernel, by decide +kernel⟩
/-- what _law_caught makes of the work's reading -/
def TTc (K : PySem.W.Frag) (CB : Addr) (tl : XK → Hp → VK → Prop) (H : Hp) (Q : VK) : Prop :=
  tl (fun cls d H' => PySem.W.exmOne K cls (.ref CB) = some true ∧ ∀ a, H' a = none → Q (.ref a) (upd H' a (ExV cls d a))) H (fun _ H' => Q .non H')
section
variable {X : Cx}
theorem pe_imp {e : Expr} {te : TE} (h : PE X e te) : PE X e (fun σ H Q => ∃ Q' : VK, (∀ v H', Q' v H' → Q v H') ∧ te σ H Q') := ⟨fun pins s σ H Q I ⟨Q', hm, ht⟩ =>
  wpAny_mono (h.run pins s σ H Q' I ht) (fun u s1 ⟨v, H1, I1, r, q⟩ => ⟨v, H1, I1, r, hm _ _ q⟩) fun _ _ x => x⟩
theorem caught_gives {g CB : Addr} {cdg : Value} {q : Str} (hme : X.mg "BoxError" = some (.ref CB)) : LamX.GivesTo X nCaught "_law_caught" (defScope (top 65)) g cdg (defBody (top 65)) "_law_work" q (TTc X.K CB) := by
  intro f c' s H Q tl act hc h
  have hN : (cxOf C8.CX0 X.prog X.w X.K X.mg X.base nCaught "_law_caught" (defScope (top 65)) g cdg X.A X.stack s H C8.E0).nox.N.Nodup := scCaught.nd
  refine ⟨_, pss_cons (ps_set (i := 1) hN rfl (.inl rfl) pe_non rfl (.inl rfl)) (pss_cons (ps_try_keep (i := 2) (c := .ref CB) (ts := fun _ _ _ => tAsg (tVar 2) (gName 1))
    (tb := fun (W : WX) D σ H => ∃ Ech : XK, (∀ (cls : Value) (d : Option Addr) (σ' : L2.St) (H' : Hp), Ech cls d H' → W cls d σ' H') ∧ σ[0]? = some (some (.ref f)) ∧ H c' = some (LamX.CodeO c' q) ∧ ∃ Q' : VK, (∀ v H', Q' v H' → D.nx σ H') ∧ tl Ech H Q')
    rfl rfl hN rfl rfl ⟨rfl, by decide, .inl hme⟩ rfl (fun W pn xe tk ps => ?_) (fun a oe cls d pn hz hf => ?_)) (pss_one (ps_ret (pv 1)))), ?_⟩
  · refine ⟨fun pins s' σ H' D I h' => ?_⟩
    obtain ⟨Ech, hW, h1, h2, Q', hm, h3⟩ := h'
    exact (pss_one (ps_expr (pe_imp (act W pn xe Ech _ _ tk hW)))).run pins s' σ H' D I ⟨Q', fun v H1 q => hm v H1 q, h1, h2, h3⟩
  · exact pss_one (ps_set (i := 1) hN rfl (.inl rfl) (pv 2) rfl (.inr rfl))
  · refine ⟨fun cls d H' => PySem.W.exmOne X.K cls (.ref CB) = some true ∧ ∀ a, H' a = none → Q (.ref a) (upd H' a (ExV cls d a)), fun cls d σ' H' ⟨e, hq⟩ => ⟨e, fun a na hl => ?_⟩, rfl, hc, ?_⟩
    · have hl : σ'.length = 3 := hl
      obtain ⟨x0, x1, x2, rfl⟩ : ∃ x0 x1 x2, σ' = [x0, x1, x2] := by
        match σ', hl with
        | [x0, x1, x2], _ => exact ⟨x0, x1, x2, rfl⟩
      exact ⟨.ref a, rfl, .ref a, rfl, hq a na⟩
    · exact ⟨_, fun v H' q => ⟨.non, rfl, q⟩, h⟩
end
end Bx
end

-- part BxAI
section
set_option Elab.async false
set_option linter.all false
set_option maxRecDepth 100000
set_option maxHeartbeats 2000000
/-! Boxparts: _law_caught(lambda: ..) over data. -/
namespace Bx
open PySem PySem.Spec PyProof.Rows L2
section
variable {X : Cx} {δ : De} {μ : Mem} {body : Expr} {d : D} {Ck : Addr} {fs : Option (List (Str × V))} {e : Expr} {es : List Expr}
theorem pe_lamC {g fdg c P CB : Addr} {fd : FuncData} {k : Nat} {params : Arguments} {scope : Scope} {t : XK → TE} {p lpos pos : Pos} (F : FnP X.K "_law_caught" (top 65) g fd) (hg : Gl X "_law_caught") (hm : X.mg "_law_caught" = some (.ref g)) (hme : X.mg "BoxError" = some (.ref CB))
    (TB : LamX.TabB X.base X.mg c P) (hcode : X.env.code = .ref c) (hr : Room (k + 2) X.A) (L : LamX.LamS X.env.scope scope) (hdef : defaultsOf params X.env = ([], []))
    (hbind : ∀ (q : Str) (cl : List (Str × Addr)) (pm cv ctv : Value), bindArgs (PySem.W.kla_fn "<lambda>" q params body scope cl pm cv ctv) ⟨[], []⟩ = pure [])
    (hbody : ∀ (A : Around) (outer : List Env) (s : Shared) (H : Hp) (E : XK) (f c' : Addr), Room k (A.deeper (LamX.lamEnv X scope s.heap.objs.size f c')) → PE (LamX.lamCx X A outer s H E scope f c') body (t E)) :
    PE X (.Call (.Name "_law_caught" p) [.Lambda params body scope lpos] [] pos) (fun σ H Q => LamX.TabS H P (lq X) ∧ ∀ H1, ExP P H H1 → LamX.TabS H1 P (lq X) → TTc X.K CB (fun E H' Q' => t E σ H' Q') H1 Q) := by
  obtain ⟨oc, od, dV, kV, doc, pm, an, cdv, ct, osl, rfl, lk, hcg, _, _⟩ := F.ex
  have hbd : Binds X.K _ ["_law_work"] [] := F.bindsN fun _ _ _ _ _ _ us hl => match us, hl with | [_], _ => rfl
  refine ⟨fun pins s σ H Q I ⟨hT, h⟩ => wpAny_Call_Name_kw (ld_glob I hg hm ?_ (by decide))⟩
  refine PySem.W.callWith_K (h₀ := X.base) I.ok.mod.kin F.kp ?_ (by rfl) (by rfl)
  show wpAny _ _ (spliced ((false, eval (.Lambda params body scope lpos) X.env) :: backTo pos (starEach [] X.env))) _ _ s
  refine Calls.spliced_cons (lam_mk I TB hcode hT hdef (L.has I.ok) fun f c' pm' ctv H1 s' I1 eN T1 hf hfn hfr hco => Calls.spliced_nil ⟨I1.kIn, ?_⟩)
  refine wpAny_call (codeAny_mono (R := CR C8.CX0 X.stack X.prog X.w H1 s' Q C8.E0) (LamX.run_ofS (N := nCaught) (ps := ["_law_work"]) (us := [.ref f]) (vs := [.ref f]) lk hcg scCaught hr I1.env0 (hbd s' [.ref f] I1.kIn rfl) (.cons rfl .nil) rfl fun hr' => ?_) fun r s2 hq => ?_)
  · obtain ⟨t', ht', hq'⟩ := caught_gives (X := X) (g := g) (cdg := cdv) (q := lq X) hme f c' s' H1 Q (fun E H' Q' => t E σ H' Q') (fun W pn xe E p1 p2 tk hW =>
      LamX.pe_act (i := 0) I1 L hf hfn hfr (hbind _ _ _ _ _) tk hW hr' (fun A outer s H hr2 => hbody A outer s H E f c' hr2) rfl (.inl rfl) (by decide) (by decide)) hco (h H1 eN T1)
    exact ⟨t', ht'.nox, hq'⟩
  · cases r with
    | error er => exact (show False from hq).elim
    | ok fl => cases fl with
      | ret u => exact I1.after hq
      | next => exact (show False from hq).elim
      | brk => exact (show False from hq).elim
      | cont => exact (show False from hq).elim
theorem Cfg.exP {σ : L2.St} {H H1 : Hp} {P : Addr} {q : Str} (c : Cfg δ μ σ H) (e : ExP P H H1) (hm : (P, C.tab q) ∈ μ) (T : LamX.TabS H1 P q) : Cfg δ μ σ H1 := by
  obtain ⟨ps, hP, _⟩ := (show LamX.TabS H P q from c.cel _ hm)
  have fz : Fz H H1 := fun a o h f => e a o h fun z => by
    subst z
    rw [hP] at h; cases h
    exact f
  refine ⟨c.len, fun i d h => let ⟨v, h1, h2⟩ := c.env i d h; ⟨v, h1, Rep.mono fz _ _ h2⟩, fun p hp => ?_, c.nd⟩
  by_cases hb : p.1 = P
  · have : p = (P, C.tab q) := by
      have key : ∀ {μ : Mem}, (μ.map (·.1)).Nodup → ∀ {a b : Addr × C}, a ∈ μ → b ∈ μ → a.1 = b.1 → a = b := by
        intro μ nd
        induction μ with
        | nil => intro a b ha; cases ha
        | cons x t ih =>
          intro a b ha hb e
          have n := List.nodup_cons.mp nd
          rcases List.mem_cons.mp ha with rfl | ha' <;> rcases List.mem_cons.mp hb with rfl | hb'
          · rfl
          · exact (n.1 (by show a.1 ∈ _; rw [e]; exact List.mem_map_of_mem (f := (·.1)) hb')).elim
          · exact (n.1 (by show b.1 ∈ t.map (·.1); rw [← e]; exact List.mem_map_of_mem (f := (·.1)) ha')).elim
          · exact ih n.2 ha' hb' e
      exact key c.nd hp hm hb
    subst this
    exact T
  · exact (c.cel p hp).keep fz fun o h => e _ _ h hb
theorem ExP.xs {H H1 : Hp} {P : Addr} {q : Str} (e : ExP P H H1) (hm : (P, C.tab q) ∈ μ) : Xs μ H μ H1 := ⟨fun a o h hn => e a o h fun z => hn (by rw [z]; exact List.mem_map_of_mem (f := (·.1)) hm), fun _ h => .inl h⟩
/-- an expression that raises -/
def RzE (X : Cx) (W : WX) (δ : De) (μ : Mem) (e : Expr) (Ck : Addr) (fs : Option (List (Str × V))) : Prop := ∀ σ H (Q : VK), Cfg δ μ σ H → (∀ d H', Ex H H' → FldF H' d fs → W (.ref Ck) d σ H') → tw X e σ H Q
theorem rze_call {W : WX} {R : List D → Addr → Option (List (Str × V)) → Prop} {k : Nat} {x : Str} {ps : List Str} {ds : List D} {p cpos : Pos} (F : CalX X.prog X.w X.K X.mg X.base k x ps R) (hr : Room k X.A) (tk : Takes X W) (ha : EvA X δ μ (e :: es) ds) (h : R ds Ck fs) (hg : Gl X x := by rfl)
    (hdb : (x == ("__debug__" : Str)) = false := by decide) (he : starEach (e :: es) X.env = (false, eval e X.env) :: starEach es X.env := by rfl) (hpl : (backTo cpos (starEach es X.env)).any (·.1) = false := by rfl) : RzE X W δ μ (.Call (.Name x p) (e :: es) [] cpos) Ck fs := by
  obtain ⟨f, fd, F, hm, hk, hb⟩ := F.ex
  exact fun σ H Q c q pins s I => (pe_callS (E := WE W) F hr hg hm hk hb (fun σ => passAt tk σ) (pa_tw X _) hdb he hpl).run pins s σ H Q I (ha σ H _ c fun vs H1 e1 r1 => ⟨ds, Ck, fs, h, r1, fun d H2 e2 f2 => q d H2 (e1.trans e2) f2⟩)
/-- the facts about _law_caught and the maker's code object -/
structure Lam (X : Cx) (CB P : Addr) : Prop where
  fn : ∃ g fd, FnP X.K "_law_caught" (top 65) g fd ∧ X.mg "_law_caught" = some (.ref g)
  me : X.mg "BoxError" = some (.ref CB)
  tb : ∃ c, LamX.TabB X.base X.mg c P ∧ X.env.code = .ref c
/-- the work runs through -/
theorem em_lamN {CB P : Addr} {k : Nat} {params : Arguments} {scope : Scope} {p lpos pos : Pos} (Z : Lam X CB P) (hm : (P, C.tab (lq X)) ∈ μ) (hr : Room (k + 2) X.A)
    (hbody : ∀ (A : Around) (outer : List Env) (s : Shared) (H : Hp) (E : XK) (f c' : Addr), Room k (A.deeper (LamX.lamEnv X scope s.heap.objs.size f c')) → Ev (LamX.lamCx X A outer s H E scope f c') δ μ body d)
    (hg : Gl X "_law_caught" := by rfl) (L : LamX.LamS X.env.scope scope := by exact LamX.lamS_by (by decide +kernel)) (hdef : defaultsOf params X.env = ([], []) := by rfl)
    (hbind : ∀ (q : Str) (cl : List (Str × Addr)) (pm cv ctv : Value), bindArgs (PySem.W.kla_fn "<lambda>" q params body scope cl pm cv ctv) ⟨[], []⟩ = pure [] := by intros; rfl) :
    EvM X δ μ (.Call (.Name "_law_caught" p) [.Lambda params body scope lpos] [] pos) .non μ := by
  obtain ⟨g, fd, F, gm⟩ := Z.fn
  obtain ⟨c, TB, hc⟩ := Z.tb
  refine em_pe (pe_lamC (fdg := 0) (k := k) (t := fun _ σ H Q => Cfg δ μ σ H ∧ ∀ v H', Ex H H' → Rep H' d v → Q v H') F hg gm Z.me TB hc hr L hdef hbind fun A outer s H E f c' hr2 => ⟨fun pins s1 σ H1 Q I h => hbody A outer s H E f c' hr2 σ H1 Q h.1 h.2 pins s1 I⟩) fun σ H Q c q => ?_
  refine ⟨c.cel _ hm, fun H1 e1 T1 => ?_⟩
  have c1 := c.exP e1 hm T1
  exact ⟨c1, fun v H2 e2 _ => q .non H2 (c1.ex e2) ((e1.xs hm).trans (.of e2)) rfl⟩
/-- the work raises -/
theorem em_lamX {CB P : Addr} {k : Nat} {params : Arguments} {scope : Scope} {p lpos pos : Pos} (Z : Lam X CB P) (hm : (P, C.tab (lq X)) ∈ μ) (hr : Room (k + 2) X.A) (hx : PySem.W.exmOne X.K (.ref Ck) (.ref CB) = some true)
    (hbody : ∀ (A : Around) (outer : List Env) (s : Shared) (H : Hp) (E : XK) (f c' : Addr), Room k (A.deeper (LamX.lamEnv X scope s.heap.objs.size f c')) → Takes (LamX.lamCx X A outer s H E scope f c') (wE E) → RzE (LamX.lamCx X A outer s H E scope f c') (wE E) δ μ body Ck fs)
    (hg : Gl X "_law_caught" := by rfl) (L : LamX.LamS X.env.scope scope := by exact LamX.lamS_by (by decide +kernel)) (hdef : defaultsOf params X.env = ([], []) := by rfl)
    (hbind : ∀ (q : Str) (cl : List (Str × Addr)) (pm cv ctv : Value), bindArgs (PySem.W.kla_fn "<lambda>" q params body scope cl pm cv ctv) ⟨[], []⟩ = pure [] := by intros; rfl) :
    EvM X δ μ (.Call (.Name "_law_caught" p) [.Lambda params body scope lpos] [] pos) (.exc Ck fs) μ := by
  obtain ⟨g, fd, F, gm⟩ := Z.fn
  obtain ⟨c, TB, hc⟩ := Z.tb
  refine em_pe (pe_lamC (fdg := 0) (k := k) (t := fun E σ H Q => Cfg δ μ σ H ∧ ∀ d H', Ex H H' → FldF H' d fs → E (.ref Ck) d H') F hg gm Z.me TB hc hr L hdef hbind fun A outer s H E f c' hr2 => ⟨fun pins s1 σ H1 Q I h => hbody A outer s H E f c' hr2 (takes_of rfl rfl rfl rfl) σ H1 Q h.1 h.2 pins s1 I⟩) fun σ H Q c q => ?_
  refine ⟨c.cel _ hm, fun H1 e1 T1 => ?_⟩
  have c1 := c.exP e1 hm T1
  refine ⟨c1, fun d H2 e2 f2 => ⟨hx, fun a na => q (.ref a) _ ((c1.ex e2).ex (Ex.new na)) ((e1.xs hm).trans (.of (e2.trans (Ex.new na)))) ⟨a, rfl, d, upd_same, ?_⟩⟩⟩
  exact FldF.ex (Ex.new na) f2
end
end Bx
end

-- part BxAJ
section
set_option Elab.async false
set_option linter.all false
set_option maxRecDepth 100000
set_option maxHeartbeats 2000000
/-! Boxparts: the script, _law_begun. -/
namespace Bx
open PySem PySem.Spec PyProof.Rows L2
/-- a reference to a list of these ints, whatever the heap -/
def ScrV (K : PySem.W.Frag) (ns : List Int) : V → Prop := fun v => ∃ a, v = .ref a ∧ ∀ H, SqL K H a (ns.map V.int)
def ScrD (K : PySem.W.Frag) (ns : List Int) (d : D) : Prop := d = li ns ∨ d = .sem (ScrV K ns)
section
variable {X : Cx} {δ δ1 : De} {μ μ1 : Mem} {iter tg e : Expr} {st : Stmt} {rest : List Stmt} {o : Out} {es : List Expr} {p pos : Pos} {d : D} {ns : List Int}
theorem ei_scr (h : Ev X δ μ iter d) (s : ScrD X.K ns d) (hz : ns.length ≤ 1000) : EvI X δ μ tg iter (ns.map D.int) := by
  rcases s with rfl | rfl
  · exact ei_list h
  · refine ei_pi (pi_list (pe_tw X iter)) fun σ H R c q => h σ H _ c fun v H1 e1 r1 => ?_
    obtain ⟨a, rfl, hs⟩ := r1
    refine ⟨a, rfl, ⟨_, hs H1⟩, q _ _ e1 ⟨fun H i d f hd => ?_, fun H i f hi => ?_⟩ fun pins s I => ?_⟩
    · rw [List.getElem?_map] at hd
      cases hn : ns[i]? with
      | none => rw [hn] at hd; cases hd
      | some n =>
        rw [hn] at hd
        cases hd
        refine ⟨⟨_, .int n, hs H, by rw [List.getElem?_map, hn]; rfl⟩, fun x H' y => ?_⟩
        obtain ⟨rfl, y⟩ := y
        have e := y _ (hs _)
        rw [List.getElem?_map, hn] at e; cases e
        exact ⟨Ex.refl _, rfl⟩
    · exact ⟨_, hs H, by rw [List.length_map] at hi ⊢; exact hi⟩
    · rw [List.length_map, sizeLine_eq]; omega
theorem ev_lenScr (B : Bi X.mg) (ha : Ev X δ μ e d) (s : ScrD X.K ns d) (hg : Gl X "len" := by rfl) (he : starEach [e] X.env = (false, eval e X.env) :: starEach [] X.env := by rfl) (hpl : (backTo pos (starEach [] X.env)).any (·.1) = false := by rfl) :
    Ev X δ μ (.Call (.Name "len" p) [e] [] pos) (.int (ns.length : Int)) := by
  rcases s with rfl | rfl
  · exact Ev.is (ev_lenL B ha hg he hpl) (by rw [List.length_map])
  · exact ev_callB call_len_seq B.len PySem.boot_len (ea_cons ha ea_nil he) (fun vs H Q hr k => by
      obtain ⟨v, rfl, a, rfl, hs⟩ := hr.one
      exact ⟨a, _, rfl, .inl (hs H), k _ H (Ex.refl H) (by rw [List.length_map]; rfl)⟩) hg (by decide) (by decide) he hpl
/-- a new own list -/
theorem sv_newLo {t : TE} {i : Nat} {ds : List D} (h : PS X st (tAsg t (gName i))) (k : ∀ σ H, Cfg δ μ σ H → NewL t σ H ds) (kk : ∀ l, Sv X (δ.set i (some (.adr l))) ((l, .lst ds) :: μ) rest o) : Sv X δ μ (st :: rest) o :=
  sv_pss (pss_cons h (pss_tw X rest)) fun σ H D c q => k σ H c _ fun p vs H1 hp e1 h1 r1 => by
    have c1 := c.ex e1
    have c2 : Cfg δ ((p, .lst ds) :: μ) σ H1 := by
      refine ⟨c1.len, c1.env, fun z hz => ?_, List.nodup_cons.mpr ⟨fun z => ?_, c1.nd⟩⟩
      · rcases List.mem_cons.mp hz with rfl | hz
        · exact ⟨vs, h1, r1⟩
        · exact c1.cel z hz
      · obtain ⟨y, hy, e⟩ := List.mem_map.mp z
        obtain ⟨o, h, _⟩ := (c.cel y hy).some
        rw [e, hp] at h; cases h
    exact kk p _ _ D (c2.set (d := .adr p) rfl) (okt q ⟨fun a o h _ => e1 a o h, fun a ha => by
      rcases List.mem_cons.mp ha with e | ha
      · exact .inr (by rw [e]; exact hp)
      · exact .inl ha⟩)
/-- y = [elt for x in iter if c]: what the statement wants -/
theorem nl_lcF1 {α : Type} (k : Nat) (N : List Str) (sc : Scope) (i : Nat) {x y : Str} {xp yp spos : Pos} {xs : List α} (enc : α → D) (q : α → Bool) (fe : α → D) {elt c : Expr} {scope : Scope} (hc : X.calm = true) (hN : X.N.Nodup)
    (hi : EvI X δ μ (.Name x xp) iter (xs.map enc))
    (ht : ∀ y ∈ xs, ∀ s H C cl fp, EvT (bk X scope s H C cl fp) ((wipeD δ [i]).set i (some (enc y))) μ c (q y))
    (he : ∀ y ∈ xs, q y = true → ∀ s H C cl fp, Ev (bk X scope s H C cl fp) ((wipeD δ [i]).set i (some (enc y))) μ elt (fe y))
    (ok : BlkOk N sc scope [(x, i)] := by exact blkOk_by (by decide +kernel)) (e1 : X.N = N := by rfl) (e2 : X.env.scope = sc := by rfl)
    (hg : ∀ (s : Shared) (H : Hp) (C : Addr) (cl : List (Str × Addr)) (fp : List Addr), PG (bk X scope s H C cl fp) (.Name x xp) (gName i) := by first | exact fun _ _ _ _ _ => pg_name (by assumption) rfl (Or.inl rfl) | exact fun _ _ _ _ _ => pg_name (by assumption) rfl (Or.inr rfl))
    (hy : X.N[k]? = some y := by rfl) (hyl : X.env.scope.names.lookup y = some .local := by rfl) (hsw : swapsWith (.ListComp elt [⟨(.Name x xp), iter, [c], 0⟩] scope pos) (some (.Name y yp)) spos.line X.env = pure true := by exact sw_true rfl rfl rfl (by decide +kernel))
    (hs : ∀ x, foldedSetIterable iter X.env x = pure x := by intro _; rfl) : ∃ t, PS X (.Assign [.Name y yp] (.ListComp elt [⟨.Name x xp, iter, [c], 0⟩] scope pos) spos) (tAsg t (gName k)) ∧ ∀ σ H, Cfg δ μ σ H → NewL t σ H ((xs.filter q).map fe) := by
  subst e1 e2
  refine ⟨_, ps_setLc (tt := twsB X scope [c]) (te := twB X scope elt) hc hN hy hyl hsw (pi_tI X (.Name x xp) iter) ok hg (fun s H C cl fp => pts_tws X scope [c] s H C cl fp) (fun s H C cl fp => ⟨fun pins s1 σ H1 Q I h => h s H C cl fp pins s1 I⟩) hs, ?_⟩
  rw [← fm_filter q fe xs]
  refine lc_new hc hN hi ok hg (fun y _ => tg_name i (enc y)) (by simp) (fun x hx s H C cl fp => ?_) fun x hx y hy s H C cl fp => ?_
  · show EvT (bk X scope s H C cl fp) _ μ c _
    by_cases h : q x = true
    · rw [if_pos h]; exact (ht x hx s H C cl fp).is h
    · rw [if_neg h]; exact (ht x hx s H C cl fp).is (by simpa using h)
  · by_cases h : q x = true
    · rw [if_pos h] at hy; cases hy; exact he x hx h s H C cl fp
    · rw [if_neg h] at hy; cases hy
/-- the draw's dict: the new dict -/
theorem nk_disp4 {v1 v2 v3 v4 : Expr} {p1 p2 p3 p4 : Pos} {j1 j2 j3 j4 : Nat} {d1 d2 d3 d4 : D} (h1 : Ev X δ μ v1 d1) (h2 : Ev X δ μ v2 d2) (h3 : Ev X δ μ v3 d3) (h4 : Ev X δ μ v4 d4) :
    ∃ t, PE X (.Dict [some (.Constant (.str "large") j1 p1), some (.Constant (.str "rest") j2 p2), some (.Constant (.str "cells") j3 p3), some (.Constant (.str "turn") j4 p4)] [v1, v2, v3, v4] pos) t ∧
    ∀ (σ : L2.St) (H : Hp) (Q : VK), Cfg δ μ σ H → (∀ p kvs H', H p = none → Ex H H' → H' p = some (.dK kvs) → KM H' Sum.inr (fun d : D => d) ([("large", d1), ("rest", d2), ("cells", d3), ("turn", d4)] : List (Str × D)) kvs → Q (.ref p) H') → t σ H Q := by
  refine ⟨_, pe_disp (pps_cons pe_str (pe_tw X v1) (pps_cons pe_str (pe_tw X v2) (pps_cons pe_str (pe_tw X v3) (pps_cons pe_str (pe_tw X v4) pps_nil)))) rfl rfl (by simp) (by simp), fun σ H Q c q p hp => ?_⟩
  have c0 := c.ex (Ex.new (o := .dK []) hp)
  refine h1 σ _ _ c0 fun w1 H1 e1 r1 => h2 σ H1 _ (c0.ex e1) fun w2 H2 e2 r2 => h3 σ H2 _ ((c0.ex e1).ex e2) fun w3 H3 e3 r3 => h4 σ H3 _ (((c0.ex e1).ex e2).ex e3) fun w4 H4 e4 r4 => ?_
  have eA := ((e1.trans e2).trans e3).trans e4
  have hp4 : H4 p = some (.dK []) := eA _ _ upd_same
  refine ⟨hp4, [(.inr "large", w1), (.inr "rest", w2), (.inr "cells", w3), (.inr "turn", w4)], rfl, (by show 4 ≤ 15; decide), q p _ _ hp (((Ex.new hp).trans eA).frz hp) upd_same ?_⟩
  have f : Fz H4 (upd H4 p (.dK (mergeK [] [(.inr "large", w1), (.inr "rest", w2), (.inr "cells", w3), (.inr "turn", w4)]))) := Fz.updD ⟨_, hp4, fun z => z⟩
  have km := ((((KM.of (H := H4) (ek := (Sum.inr : Str → Key)) (enc := fun d : D => d) (m := []) (kvs := []) rfl rfl).put inr_inj "large" (Rep.ex ((e2.trans e3).trans e4) r1)).put inr_inj "rest" (Rep.ex (e3.trans e4) r2)).put inr_inj "cells" (Rep.ex e4 r3)).put inr_inj "turn" r4
  exact km.mono f
end
/-! ### _law_begun -/
/-- the promise of a def that hands back the draw's new state -/
def spB (R : List D → Dst → Prop) : Sp := fun vs H Q _ => ∃ ds s, R ds s ∧ RepL H ds vs ∧ ∀ a l H', Xs [] H (drMem a l s) H' → Cel (drMem a l s) H' → Q (.ref a) H'
def absI (i : Int) : Int := if i < 0 then -i else i
def big18 : Int := 1000000000000000000
def begun (ns : List Int) : Dst := ⟨(ns.filter fun i => decide (big18 ≤ absI i)).map fun i => absI i - big18, 0, ns.map absI, 0⟩
section
variable {P : Program} {w : World} {K : PySem.W.Frag} {mg : Str → Option Value} {base : Heap} {f : Addr} {fd : FuncData}
def RBegun (K : PySem.W.Frag) (ds : List D) (s : Dst) : Prop := ∃ ns d, ds = [d] ∧ ScrD K ns d ∧ ns.length ≤ 1000 ∧ s = begun ns
abbrev nBegun : List Str := ["_law_script", "_law_large", "_law_grain"]
theorem scBegun : FnScope nBegun ["_law_script"] (defScope (top 61)) := ⟨rfl, rfl, rfl, by decide +kernel, rfl, by decide +kernel, by decide +kernel⟩
theorem ev_big {X : Cx} {δ : De} {μ : Mem} {j k : Nat} {p1 p2 pos : Pos} : Ev X δ μ (.BinOp (.Constant (.int 10) j p1) .Pow (.Constant (.int 18) k p2) pos) (.int big18) :=
  Ev.is (ev_pow ev_int ev_int ⟨by decide, by decide, by decide⟩) (congrArg D.int (by decide +kernel))
theorem c_begun (F : FnP K "_law_begun" (top 61) f fd) (g : mg "_law_begun" = some (.ref f)) (B : Bi mg) : Cal P w K mg base 1 "_law_begun" ["_law_script"] (spB (RBegun K)) := by
  refine ⟨f, fd, ?_, g, F.kp, F.bindsN fun _ _ _ _ _ _ us hl => match us, hl with | [_], _ => rfl⟩
  refine F.ok scBegun (fun vs H Q E h => ?_) fun cdv A outer s H vs Q E hr h => ?_
  · obtain ⟨ds, s, ⟨ns, d, rfl, _⟩, h2, _⟩ := h
    rw [h2.len]; rfl
  obtain ⟨ds, s0, ⟨ns, d, rfl, hs, hz, rfl⟩, h2, h3⟩ := h
  have hN := scBegun.nd
  have key1 : ∃ t, PS (cx0 P w K mg base nBegun "_law_begun" (defScope (top 61)) f cdv A outer s H E) ((defBody (top 61)).getD 0 (.Pass ⟨0, 0, 0, 0⟩)) (tAsg t (gName 1)) ∧ ∀ σ H, Cfg (init nBegun [d]) [] σ H → NewL t σ H ((ns.filter fun i => decide (big18 ≤ absI i)).map fun i => D.int (absI i - big18)) :=
    nl_lcF1 1 nBegun (defScope (top 61)) 2 (xs := ns) D.int (fun i => decide (big18 ≤ absI i)) (fun i => D.int (absI i - big18)) rfl hN (ei_scr (ev_var 0) hs hz)
      (fun i hi _ _ _ _ _ => et_c (ec_ge (ev_abs B (ev_var 2)) ev_big)) (fun i hi _ _ _ _ _ _ => ev_sub (ev_abs B (ev_var 2)) ev_big)
  obtain ⟨t, ht, hn⟩ := key1
  refine ⟨_, PSs.nox (pss_cons ht (pss_tw _ _)), hn _ H (cfg_start h2) _ fun l vs1 H1 hl e1 hl1 rl => ?_⟩
  intro pins s1 I1
  have key2 : ∃ t, PE (cx0 P w K mg base nBegun "_law_begun" (defScope (top 61)) f cdv A outer s H E) (match (defBody (top 61)).getD 1 (.Pass ⟨0, 0, 0, 0⟩) with | .Return (some e) _ => e | _ => .Constant .none 0 ⟨0, 0, 0, 0⟩) t ∧
      ∀ (σ : L2.St) (H : Hp) (Q : VK), Cfg ((init nBegun [d]).set 1 (some (.adr l))) [] σ H → (∀ p kvs H', H p = none → Ex H H' → H' p = some (.dK kvs) → KM H' Sum.inr (fun d : D => d) ([("large", .adr l), ("rest", .int 0), ("cells", .lst (ns.map fun i => D.int (absI i))), ("turn", .int 0)] : List (Str × D)) kvs → Q (.ref p) H') → t σ H Q :=
    nk_disp4 (ev_var 1) ev_int (ev_lcM1 nBegun (defScope (top 61)) 2 (xs := ns) D.int (fun i => D.int (absI i)) rfl hN (ei_scr (ev_var 0) hs hz) (fun i hi _ _ _ _ _ => ev_abs B (ev_var 2))) ev_int
  obtain ⟨t2, ht2, hn2⟩ := key2
  refine (pss_one (ps_ret ht2)).run pins s1 _ _ _ I1 ?_
  refine hn2 _ _ _ (((cfg_start h2).ex e1).set (d := .adr l) rfl) fun p kvs H2 hp e2 hk km => ?_
  have e12 := e1.trans e2
  have hpl : p ≠ l := fun z => by rw [z, hl1] at hp; cases hp
  refine h3 p l H2 ⟨fun a o h _ => e12 a o h, fun a ha => ?_⟩ ⟨fun z hz => ?_, ?_⟩
  · rcases List.mem_cons.mp ha with e | ha
    · exact .inr (by rw [e]; exact e1.free hp)
    · exact .inr (by rw [List.mem_singleton.mp ha]; exact hl)
  · rcases List.mem_cons.mp hz with rfl | hz
    · refine ⟨kvs, hk, km.keys.trans rfl, ?_⟩
      have v := km.vals
      have e : (ns.map fun i => D.int (absI i)) = (ns.map absI).map D.int := by rw [List.map_map]; rfl
      rw [e] at v
      exact v
    · rw [List.mem_singleton.mp hz]
      refine ⟨vs1, e2 _ _ hl1, RepL.mono e2.fz _ _ ?_⟩
      show RepL H1 ((((ns.filter fun i => decide (big18 ≤ absI i)).map fun i => absI i - big18)).map D.int) vs1
      rw [List.map_map]; exact rl
  · exact List.nodup_cons.mpr ⟨fun z => hpl (List.mem_singleton.mp z), List.nodup_cons.mpr ⟨(fun z => nomatch z), List.nodup_nil⟩⟩
end
end Bx
end

-- part BxAK
section
set_option Elab.async false
set_option linter.all false
set_option maxRecDepth 100000
set_option maxHeartbeats 2000000
/-! Boxparts: further words that change own memory; what is asked of a caught exception. -/
namespace Bx
open PySem PySem.Spec PyProof.Rows L2
def EvTM (X : Cx) (δ : De) (μ : Mem) (e : Expr) (b : Bool) (μ' : Mem) : Prop := ∀ σ H (Q : Bool → Hp → Prop), Cfg δ μ σ H → (∀ H', Cfg δ μ' σ H' → Xs μ H μ' H' → Q b H') → twT X e σ H Q
section
variable {X : Cx} {δ δ1 : De} {μ μ1 μ' : Mem} {a b c e : Expr} {es : List Expr} {A B : List Stmt} {o : Out} {p p2 pos : Pos} {d : D}
theorem etm_pt {te : TT} {r : Bool} (h : PT X e te) (k : ∀ σ H (Q : Bool → Hp → Prop), Cfg δ μ σ H → (∀ H', Cfg δ μ' σ H' → Xs μ H μ' H' → Q r H') → te σ H Q) : EvTM X δ μ e r μ' := fun σ H Q c q pins s I => h.run pins s σ H Q I (k σ H Q c q)
theorem etm_of {r : Bool} (h : EvT X δ μ e r) : EvTM X δ μ e r μ := fun σ H Q c q => h σ H Q c fun H' ex => q H' (c.ex ex) (.of ex)
theorem EvTM.is {r r' : Bool} (h : EvTM X δ μ e r μ') (q : r = r') : EvTM X δ μ e r' μ' := q ▸ h
theorem etm_val {r : Bool} (h : EvM X δ μ e (.bl r) μ') (he : ∀ whole, isTrue e X.env whole = (do let v ← whole; standAt e.pos; holding [v] (truthy v)) := by intro _; rfl) : EvTM X δ μ e r μ' :=
  etm_pt (pt_val (pe_tw X e) he) fun σ H Q c q => h σ H _ c fun u H1 c1 x1 r1 => ⟨r, r1, q H1 c1 x1⟩
theorem etm_not {r : Bool} (h : EvTM X δ μ a r μ') : EvTM X δ μ (.UnaryOp .Not a pos) (!r) μ' := etm_pt (pt_not (pt_tw X a)) fun σ H Q c q => h σ H _ c fun H1 c1 x1 => q H1 c1 x1
theorem s_ifFM (hc : EvTM X δ μ c false μ1) (h : Sv X δ μ1 B o) : S1 X δ μ (.If c A B pos) o :=
  s1_ps (ps_if (pt_tw X c) (pss_tw X A) (pss_tw X B)) fun σ H D g q => hc σ H _ g fun H1 c1 x1 => by
    rw [if_neg Bool.false_ne_true]; exact h σ H1 D c1 (okt q x1)
theorem em_tup {k : Nat} {ds : List D} (h : EvAM X δ μ es ds μ') (hz : ds.length ≤ 100000 := by first | decide | exact Nat.le_of_ble_eq_true rfl) : EvM X δ μ (.Tuple es k pos) (.tup ds) μ' :=
  em_pe (pe_tup (pa_tw X es)) fun σ H Q c q => h σ H _ c fun vs H1 c1 x1 r1 => ⟨by rw [r1.len]; exact Nat.le_trans hz (by decide), fun p hp => q _ _ (c1.ex (Ex.new hp)) (x1.trans (.of (Ex.new hp))) ⟨p, vs, rfl, upd_same, r1.ex (Ex.new hp)⟩⟩
/-- a, b = e, e a tuple of two that is made by changing own memory -/
theorem s_twoM {d1 d2 : D} {i j : Nat} {x y : Str} {px py pt : Pos} {kt} (hc : X.calm = true) (hN : X.N.Nodup) (he : EvM X δ μ e (.tup [d1, d2]) μ') (hi : X.N[i]? = some x := by rfl) (hj : X.N[j]? = some y := by rfl)
    (hx : Loc X.env.scope x := by first | exact .inl rfl | exact .inr rfl) (hy : Loc X.env.scope y := by first | exact .inl rfl | exact .inr rfl) (hf : X.fn x = true ∨ X.env.scope.names.lookup x = some .local := by first | exact .inl rfl | exact .inr rfl) (hf2 : X.fn y = true ∨ X.env.scope.names.lookup y = some .local := by first | exact .inl rfl | exact .inr rfl)
    (hs1 : (assignEach [.Name x px, .Name y py] X.env).map (·.2) = assign (.Name x px) X.env :: (assignEach [.Name y py] X.env).map (·.2) := by rfl) (hs2 : (assignEach [.Name y py] X.env).map (·.2) = assign (.Name y py) X.env :: (assignEach [] X.env).map (·.2) := by rfl)
    (hn : (assignEach [.Name x px, .Name y py] X.env).length = 2 := by rfl) (hst : (assignEach [.Name x px, .Name y py] X.env).findIdx? (·.1) = none := by rfl)
    (hs : swapsWithSole [.Tuple [.Name x px, .Name y py] kt pt] e pos.line X.env = pure false := by rfl) (hw : swappedStores [.Tuple [.Name x px, .Name y py] kt pt] e X.env = pure none := by rfl)
    (h1 : (assignEach [.Tuple [.Name x px, .Name y py] kt pt] X.env).map (·.2) = [assign (.Tuple [.Name x px, .Name y py] kt pt) X.env] := by rfl) :
    S1 X δ μ (.Assign [.Tuple [.Name x px, .Name y py] kt pt] e pos) (.nx ((δ.set i (some d1)).set j (some d2)) μ') :=
  s1_ps (ps_asg (pe_tw X e) (pg_tup hc (pgs_cons (pg_name hN hi hx hf) (pgs_cons (pg_name hN hj hy hf2) pgs_nil hs2) hs1) hn hst) hs hw h1) fun σ H D c q => he σ H _ c fun v H1 c1 x1 r1 =>
    tg_two X.K i j d1 d2 δ μ' v σ H1 _ c1 r1 fun σ' c' _ _ => q σ' H1 c' x1
theorem em_isX {x : Str} {Dc T : Addr} {fs : Option (List (Str × V))} {r : Bool} (B : Bi X.mg) (ha : EvM X δ μ a (.exc Dc fs) μ') (C : ExcC X.K Dc) (hm : X.mg x = some (.ref T)) (h : PySem.W.kitOne X.K (.ref Dc) (.ref T) = some r) (hgx : Gl X x := by rfl) (hd : (x == ("__debug__" : Str)) = false := by decide)
    (hg : Gl X "isinstance" := by rfl) (he : starEach [a, .Name x p2] X.env = (false, eval a X.env) :: starEach [.Name x p2] X.env := by rfl) (he2 : starEach [.Name x p2] X.env = (false, eval (.Name x p2) X.env) :: starEach [] X.env := by rfl) (hpl : (backTo pos (starEach [.Name x p2] X.env)).any (·.1) = false := by rfl) :
    EvM X δ μ (.Call (.Name "isinstance" p) [a, .Name x p2] [] pos) (.bl r) μ' :=
  em_pe (pe_callB call_isV hg B.isinstance boot_isinstance (pa_cons (pe_tw X a) (pa_cons (pe_glob (v := .ref T) hgx hm rfl hd) pa_nil he2) he) (by decide) (by decide) he hpl) fun σ H Q c q => ha σ H _ c fun v H1 c1 x1 r1 => by
    obtain ⟨ad, rfl, k⟩ := r1
    exact ⟨ad, Dc, fs, .ref T, .ref T, r, rfl, k, C, .own T, h, q _ H1 c1 x1 rfl⟩
/-! arguments side by side: nothing is unfolded -/
def Plain (e : Expr) : Prop := ∀ es env, starEach (e :: es) env = (false, eval e env) :: starEach es env
theorem plK {v : Const} {j : Nat} : Plain (.Constant v j p) := fun _ _ => rfl
theorem plT {l : List Expr} {j : Nat} : Plain (.Tuple l j p) := fun _ _ => rfl
theorem plL {l : List Expr} : Plain (.List l p) := fun _ _ => rfl
inductive EvL (X : Cx) (δ : De) (μ : Mem) : List Expr → List D → Prop
  | nil : EvL X δ μ [] []
  | cons {e : Expr} {d : D} {es : List Expr} {ds : List D} (h : Ev X δ μ e d) (s : Plain e) (k : EvL X δ μ es ds) : EvL X δ μ (e :: es) (d :: ds)
theorem EvL.ea {ds : List D} (h : EvL X δ μ es ds) : EvA X δ μ es ds := by
  induction h with
  | nil => exact ea_nil
  | cons h s _ ih => exact ea_cons h ih (s _ _)
theorem el_int {i : Int} {j : Nat} {ds : List D} (k : EvL X δ μ es ds) : EvL X δ μ (.Constant (.int i) j p :: es) (.int i :: ds) := .cons ev_int plK k
theorem el_non {j : Nat} {ds : List D} (k : EvL X δ μ es ds) : EvL X δ μ (.Constant .none j p :: es) (.non :: ds) := .cons ev_non plK k
theorem el_bl {i : Bool} {j : Nat} {ds : List D} (k : EvL X δ μ es ds) : EvL X δ μ (.Constant (.bool i) j p :: es) (.bl i :: ds) := .cons ev_bl plK k
theorem el_str {i : Str} {j : Nat} {ds : List D} (k : EvL X δ μ es ds) : EvL X δ μ (.Constant (.str i) j p :: es) (.str i :: ds) := .cons ev_str plK k
theorem el_tup {l : List Expr} {j : Nat} {ds gs : List D} (h : EvL X δ μ l gs) (hz : gs.length ≤ 100000) (k : EvL X δ μ es ds) : EvL X δ μ (.Tuple l j p :: es) (.tup gs :: ds) := .cons (ev_tup h.ea hz) plT k
theorem el_lst {l : List Expr} {ds gs : List D} (h : EvL X δ μ l gs) (hz : gs.length ≤ 100000) (k : EvL X δ μ es ds) : EvL X δ μ (.List l p :: es) (.lst gs :: ds) := .cons (ev_lst h.ea hz) plL k
/-- None is None -/
theorem ec_isNon (ha : Ev X δ μ a .non) (hb : Ev X δ μ b .non) : EvC X δ μ .Is a b (.bl true) :=
  ec_of op_isN ha hb fun u v H Q h1 h2 k => by
    obtain rfl : u = V.non := h1
    obtain rfl : v = V.non := h2
    exact ⟨rfl, k _ H (Ex.refl H) rfl⟩
end
/-- _law_pick(draw, [..]) -/
theorem em_pickL {X : Cx} {δ : De} {fr : Mem} {x : Str} {pa pl p pos : Pos} {es : List Expr} {ad l : Addr} {s s' : Dst} {xs : List D} {d : D} (G1 : Cal X.prog X.w X.K X.mg X.base 3 "_law_pick" ["_law_draw", "_law_some"] (spM RPick)) (hr : Room 3 X.A) (ha : Ev X δ (drMem ad l s ++ fr) (.Name x pa) (.adr ad)) (h : EvL X δ (drMem ad l s ++ fr) es xs) (hz : xs.length ≤ 100000)
    (R : RPick [.adr ad, .lst xs] (drMem ad l s) d (drMem ad l s')) (hg : Gl X "_law_pick" := by rfl) : EvM X δ (drMem ad l s ++ fr) (.Call (.Name "_law_pick" p) [.Name x pa, .List es pl] [] pos) d (drMem ad l s' ++ fr) :=
  em_call (fr := fr) (μr := drMem ad l s) (μr' := drMem ad l s') G1 hr (eam_cons (em_of ha) (eam_cons (em_of (ev_lst h.ea hz)) eam_nil)) (List.Perm.refl _) R hg
/-- what is asked of the exceptions' classes -/
structure ExK2 (K : PySem.W.Frag) (Cn Cs CB : Addr) : Prop where
  cn : ExcC K Cn
  cs : ExcC K Cs
  xf : XfC K Cn
  no : PySem.W.findIn K (.ref Cn) "part" = some none
  nn : PySem.W.kitOne K (.ref Cn) (.ref Cn) = some true
  ss : PySem.W.kitOne K (.ref Cs) (.ref Cs) = some true
  nB : PySem.W.exmOne K (.ref Cn) (.ref CB) = some true
  sB : PySem.W.exmOne K (.ref Cs) (.ref CB) = some true
end Bx
end

-- part BxAL
section
set_option Elab.async false
set_option linter.all false
set_option maxRecDepth 100000
set_option maxHeartbeats 400000
/-! Boxparts: _law_refused. -/
namespace Bx
open PySem PySem.Spec PyProof.Rows L2
/-- fn_M for a def that makes lambdas: its code object is told -/
theorem fn_ML {P : Program} {w : World} {K : PySem.W.Frag} {mg : Str → Option Value} {base : Heap} {x : Str} {st : Stmt} {f c : Addr} {fd : FuncData} {N ps : List Str} {k : Nat} {sp : Sp} (F : FnP K x st f fd) (hcode : fd.code = .ref c) (g : mg x = some (.ref f)) (S : FnScope N ps (defScope st)) (hl : ∀ vs H Q E, sp vs H Q E → vs.length = ps.length)
    (hbd : ∀ (kV doc pm : Value) (an : Option Addr) (cdv ct : Value) (us : List Value), us.length = ps.length → bindArgs (PySem.W.fnOf x x (defArgs st) (defBody st) (defScope st) .none kV doc pm an cdv ct) ⟨us, []⟩ = pure (ps.zip us))
    (hb : ∀ (A : Around) (outer : List Env) (s : Shared) (H : Hp) (vs : List V) (Q : VK) (E : XK), Room k (A.deeper (envOfC x (defScope st) s.heap.objs.size f (.ref c))) → sp vs H Q E → twSs (cx0 P w K mg base N x (defScope st) f (.ref c) A outer s H E) (defBody st) { nx := fun _ H' => Q .non H', rt := Q } (L2.start N vs) H) :
    Cal P w K mg base (k + 1) x ps sp := by
  refine ⟨f, fd, ?_, g, F.kp, F.bindsN hbd⟩
  obtain ⟨oc, od, dV, kV, doc, pm, an, cdv, ct, osl, rfl, lk, hcd, _, _⟩ := F.ex
  obtain rfl : cdv = .ref c := hcode
  exact fn_of lk hcd S hl fun A outer s H vs Q E hr h => ⟨_, PSs.nox (pss_tw _ _), hb A outer s H vs Q E hr h⟩
def noL : List D := [.non, .int 5, .lst [.int 2, .int 1], sh [1, 2], sh [0], .str "21", sh [16, 1]]
def badL : List D := [.int 1, .int 21, .non, .bl true, .str "2"]
def eL : List Int := [2, 3, 4]
theorem getD_mem {α : Type} {l : List α} {i : Nat} {z : α} (h : i < l.length) : l.getD i z ∈ l := by
  rw [List.getD_eq_getElem?_getD, List.getElem?_eq_getElem h]
  exact List.getElem_mem h
theorem bad_ok {d : D} (h : d ∈ badL) : Kind d ∧ isBet d 2 20 = false := by
  simp only [badL, List.mem_cons, List.mem_nil_iff, or_false] at h
  rcases h with rfl | rfl | rfl | rfl | rfl
  · exact ⟨.int 1, by decide⟩
  · exact ⟨.int 21, by decide⟩
  · exact ⟨.non, rfl⟩
  · exact ⟨.bl true, rfl⟩
  · exact ⟨.str _, rfl⟩
theorem no_ok {d : D} (h : d ∈ noL) : RIsh [d] (.bl false) := by
  simp only [noL, List.mem_cons, List.mem_nil_iff, or_false] at h
  rcases h with rfl | rfl | rfl | rfl | rfl | rfl | rfl
  · exact .inr ⟨_, rfl, .non, rfl⟩
  · exact .inr ⟨_, rfl, .int 5, rfl⟩
  · exact .inr ⟨_, rfl, .lst _, rfl⟩
  · exact .inl ⟨[1, 2], rfl, by decide, rfl⟩
  · exact .inl ⟨[0], rfl, by decide, rfl⟩
  · exact .inr ⟨_, rfl, .str _, rfl⟩
  · exact .inl ⟨[16, 1], rfl, by decide, rfl⟩
/-- what one_chain does at e and s fits what the law asks -/
def GoodR (e : Int) (s : List Int) : Prop := lcoreAll e s = true ∧ s.length ≤ 1000 ∧ isShp s = true ∧ ∃ t, coRun e s = some t ∧ (((lcore e s).2 = 1 ∧ ∃ d, RChain [.int e, sh s] d) ∨ ((lcore e s).2 ≠ 1 ∧ t.2 ≠ 1))
def ref3 (s : Dst) : Dst := takeS (takeS s 7) 5
def refE (s : Dst) : Int := eL.getD (takeV (ref3 s) 3).toNat 0
def refT (s : Dst) : Dst := takeS (ref3 s) 3
def refN (s : Dst) : Nat := (takeV (refT s) 11).toNat
def refSt (s : Dst) : List Int × Dst := itM lshStep (refN s) ([], takeS (refT s) 11)
section
variable {P : Program} {w : World} {K : PySem.W.Frag} {mg : Str → Option Value} {base : Heap} {f c Pr Cn Cs CB : Addr} {fd : FuncData} {tb : Mem}
def RRef (tb : Mem) (ds : List D) (μ : Mem) (d : D) (μ' : Mem) : Prop := ∃ a l s, ds = [.adr a] ∧ μ = drMem a l s ++ tb ∧ d = .bl true ∧ μ' = drMem a l (refSt s).2 ++ tb
abbrev nRef : List Str := ["_law_draw", "_law_no", "_law_bad", "_law_caught_here", "_law_e_here", "_law_other"]
theorem scRef : FnScope nRef ["_law_draw"] (defScope (top 78)) := ⟨rfl, rfl, rfl, by decide +kernel, rfl, by decide +kernel, by decide +kernel⟩
theorem c_ref (F : FnP K "_law_refused" (top 78) f fd) (hcode : fd.code = .ref c) (TB : LamX.TabB base mg c Pr) (g : mg "_law_refused" = some (.ref f)) (B : Bi mg) (hg1 : ∃ g fd, FnP K "_law_caught" (top 65) g fd ∧ mg "_law_caught" = some (.ref g)) (hme : mg "BoxError" = some (.ref CB))
    (Z : ExK P w K mg base Cn Cs) (Z2 : ExK2 K Cn Cs CB) (hS : ∀ (s : Dst) i, i ≤ 10 → Sm (itM lshStep i ([], s)).1) (hG : ∀ (s : Dst) i, i ≤ 10 → ∀ e ∈ eL, GoodR e (itM lshStep i ([], s)).1)
    (G1 : Cal P w K mg base 3 "_law_pick" ["_law_draw", "_law_some"] (spM RPick)) (G2 : Cal P w K mg base 4 "_law_shape" ["_law_draw", "_law_most"] (spM RLshape)) (G3 : Cal P w K mg base 3 "_law_core" ["_law_e_here", "_law_shape_here"] (spR RLcore)) (G4 : Cal P w K mg base 6 "one_chain" ["e", "shape"] (spR RChain))
    (G5 : CalX P w K mg base 6 "one_chain" ["e", "shape"] (fun ds C fs => ∃ x y, ds = [x, y] ∧ Bad Cn Cs 1 x y C fs)) (htb : (Pr, Bx.C.tab "_law_refused.<locals>.<lambda>") ∈ tb) : Cal P w K mg base 9 "_law_refused" ["_law_draw"] (spM (RRef tb)) := by
  refine fn_ML F hcode g scRef (fun vs H Q E h => ?_) (fun _ _ _ _ _ _ us hl => match us, hl with | [_], _ => rfl) fun A outer s0 H vs Q E hr h => ?_
  · obtain ⟨ds, μ, d, μ', ⟨a, l, s, rfl, _⟩, h2, _⟩ := h
    rw [h2.len]; rfl
  obtain ⟨ds, μ, d, μ', ⟨a, l, s, rfl, rfl, rfl, rfl⟩, h2, h3, h4⟩ := h
  have hN := scRef.nd
  have hb1 := takeV_bd s (n := 7) (by decide)
  have hb2 := takeV_bd (takeS s 7) (n := 5) (by decide)
  have hb3 := takeV_bd (ref3 s) (n := 3) (by decide)
  have hb4 := takeV_bd (refT s) (n := 11) (by decide)
  generalize hno : noL.getD (takeV s 7).toNat .non = no
  generalize hbad : badL.getD (takeV (takeS s 7) 5).toNat .non = bad
  have mno : no ∈ noL := hno ▸ getD_mem (by show _ < 7; omega)
  have mbad : bad ∈ badL := hbad ▸ getD_mem (by show _ < 5; omega)
  have me : refE s ∈ eL := getD_mem (by show _ < 3; omega)
  have hn10 : refN s ≤ 10 := by unfold refN; omega
  have good := hG (takeS (refT s) 11) (refN s) hn10 _ me
  have he : 2 ≤ refE s ∧ refE s ≤ 20 := by
    have h := me
    simp only [eL, List.mem_cons, List.mem_nil_iff, or_false] at h
    rcases h with h | h | h <;> rw [h] <;> decide
  have e7 : ((noL.length : Nat) : Int) = 7 := rfl
  have e5 : ((badL.length : Nat) : Int) = 5 := rfl
  have e3 : (((eL.map D.int).length : Nat) : Int) = 3 := rfl
  have e11 : (10 : Int) + 1 = 11 := rfl
  have R1 : RPick [.adr a, .lst noL] (drMem a l s) no (drMem a l (takeS s 7)) := ⟨a, l, s, noL, rfl, rfl, by decide, by decide, by rw [e7]; exact hno.symm, by rw [e7]⟩
  have R2 : RPick [.adr a, .lst badL] (drMem a l (takeS s 7)) bad (drMem a l (ref3 s)) := ⟨a, l, takeS s 7, badL, rfl, rfl, by decide, by decide, by rw [e5]; exact hbad.symm, by rw [e5]; rfl⟩
  have R3 : RPick [.adr a, .lst (eL.map D.int)] (drMem a l (ref3 s)) (.int (refE s)) (drMem a l (refT s)) := ⟨a, l, ref3 s, eL.map D.int, rfl, rfl, by decide, by decide, by
    rw [e3, List.getD_eq_getElem?_getD, List.getElem?_map]
    unfold refE
    rw [List.getD_eq_getElem?_getD, List.getElem?_eq_getElem (show _ < eL.length by show _ < 3; omega)]
    rfl, by rw [e3]; rfl⟩
  have R4 : RLshape [.adr a, .int 10] (drMem a l (refT s)) (sh (refSt s).1) (drMem a l (refSt s).2) := ⟨a, l, refT s, 10, rfl, rfl, by decide, by decide, fun i => by
    rw [e11]
    by_cases h : i ≤ 10
    · exact .inl (hS _ i h)
    · exact .inr (by omega), by rw [e11]; rfl, by rw [e11]; rfl⟩
  have hs1 : (refSt s).1 = (itM lshStep (refN s) ([], takeS (refT s) 11)).1 := rfl
  rw [← hs1] at good
  generalize takeS s 7 = s1 at R1 R2
  generalize ref3 s = s2 at R2 R3
  generalize refT s = s3 at R3 R4
  generalize (refSt s).2 = s4 at R4 h4
  generalize (refSt s).1 = o at R4 good
  generalize refE s = e at R3 good he
  clear hS hG hno hbad me hn10 e7 e5 e3 e11 hs1 hb1 hb2 hb3 hb4
  have Lz : Lam (cx0 P w K mg base nRef "_law_refused" (defScope (top 78)) f (.ref c) A outer s0 H E) CB Pr := ⟨hg1, hme, c, TB, rfl⟩
  have hm : ∀ s, (Pr, Bx.C.tab (lq (cx0 P w K mg base nRef "_law_refused" (defScope (top 78)) f (.ref c) A outer s0 H E))) ∈ drMem a l s ++ tb := fun s => List.mem_append_right _ htb
  suffices hbody : Sv (cx0 P w K mg base nRef "_law_refused" (defScope (top 78)) f (.ref c) A outer s0 H E) (init nRef [.adr a]) (drMem a l s ++ tb) (defBody (top 78)) (.rt (.bl true) (drMem a l s4 ++ tb)) from
    hbody _ H _ (cfg_startM h2 h3) fun v H' r ce x => h4 v H' x ce r
  have k1 : ∀ δ, EvM (cx0 P w K mg base nRef "_law_refused" (defScope (top 78)) f (.ref c) A outer s0 H E) (some (.adr a) :: δ) (drMem a l s ++ tb) (match (defBody (top 78)).getD 0 (.Pass ⟨0, 0, 0, 0⟩) with | .Assign _ e _ => e | _ => .Constant .none 0 ⟨0, 0, 0, 0⟩) (.tup [no, bad]) (drMem a l s2 ++ tb) := fun δ =>
    em_tup (eam_cons (em_pickL (s' := s1) G1 (hr.mono (by decide)) (ev_var 0) (xs := noL) (el_non (el_int (el_lst (el_int (el_int .nil)) (by decide) (el_tup (el_int (el_int .nil)) (by decide) (el_tup (el_int .nil) (by decide) (el_str (el_tup (el_int (el_int .nil)) (by decide) .nil))))))) (by decide) R1)
      (eam_cons (em_pickL (s' := s2) G1 (hr.mono (by decide)) (ev_var 0) (xs := badL) (el_int (el_int (el_non (el_bl (el_str .nil))))) (by decide) R2) eam_nil))
  have k2 : ∀ δ, EvM (cx0 P w K mg base nRef "_law_refused" (defScope (top 78)) f (.ref c) A outer s0 H E) (some (.adr a) :: δ) (drMem a l s2 ++ tb) (match (defBody (top 78)).getD 4 (.Pass ⟨0, 0, 0, 0⟩) with | .Assign _ e _ => e | _ => .Constant .none 0 ⟨0, 0, 0, 0⟩) (.tup [.int e, sh o]) (drMem a l s4 ++ tb) := fun δ =>
    em_tup (eam_cons (em_pickL (s' := s3) G1 (hr.mono (by decide)) (ev_var 0) (xs := eL.map D.int) (el_int (el_int (el_int .nil))) (by decide) R3)
      (eam_cons (em_call (fr := tb) (μr := drMem a l s3) (μr' := drMem a l s4) G2 (hr.mono (by decide)) (eam_cons (em_of (ev_var 0)) (eam_cons (em_of ev_int) eam_nil)) (List.Perm.refl _) R4) eam_nil))
  obtain ⟨hk, hbd⟩ := bad_ok mbad
  have hno2 := no_ok mno
  refine sv_cons (δ1 := [some (.adr a), some no, some bad, none, none, none]) (μ1 := drMem a l s2 ++ tb) (s_twoM rfl hN (k1 _) (i := 1) (j := 2)) ?_
  refine sv_cons (δ1 := [some (.adr a), some no, some bad, some (.exc Cn (xN "e")), none, none]) (μ1 := drMem a l s2 ++ tb) (s_setM 3 hN (em_lamX (L := show LamX.LamS (defScope (top 78)) _ from LamX.lamS_by (by decide +kernel)) (k := 6) Lz (hm _) hr Z2.nB fun A' outer' s' H' E' f' c' hr' tk' => rze_call G5 hr' tk' (ea_cons (ev_var 2) (ea_cons (ev_var 1) ea_nil)) ⟨bad, no, rfl, .e hk hbd⟩)) ?_
  refine sv_cons (s_ifF (EvT.is (evt_w (evw_or (r := false) (t := false) (EvT.is (evt_not (evt_val (ev_isX B (ev_var 3) Z2.cn Z.gn Z2.nn))) rfl) fun _ => evw_or1 (EvT.is (et_c (ec_neS (ev_xfS (ev_var 3) Z2.xf Z2.no rfl) ev_str)) rfl))) rfl) sv_nil) ?_
  refine sv_cons (s_ifFM (EvTM.is (etm_not (etm_val (em_isX B (em_lamX (L := show LamX.LamS (defScope (top 78)) _ from LamX.lamS_by (by decide +kernel)) (k := 6) Lz (hm _) hr Z2.sB fun A' outer' s' H' E' f' c' hr' tk' => rze_call G5 hr' tk' (ea_cons ev_int (ea_cons (ev_var 1) ea_nil)) ⟨_, no, rfl, .shape (by decide) (by decide) hno2⟩) Z2.cs Z.gs Z2.ss))) rfl) sv_nil) ?_
  refine sv_cons (δ1 := [some (.adr a), some no, some bad, some (.exc Cn (xN "e")), some (.int e), some (sh o)]) (μ1 := drMem a l s4 ++ tb) (s_twoM rfl hN (k2 _) (i := 4) (j := 5)) ?_
  obtain ⟨hlc, hl, hi, t, hco, ⟨hw, dd, hch⟩ | ⟨hw, hne⟩⟩ := good
  · refine sv_cons (δ1 := [some (.adr a), some no, some bad, some .non, some (.int e), some (sh o)]) (μ1 := drMem a l s4 ++ tb) (s_setM 3 hN (em_lamN (L := show LamX.LamS (defScope (top 78)) _ from LamX.lamS_by (by decide +kernel)) (k := 6) (d := dd) Lz (hm _) hr fun A' outer' s' H' E' f' c' hr' => ev_call G4 hr' (ea_cons (ev_var 4) (ea_cons (ev_var 5) ea_nil)) hch)) ?_
    exact sv_rt (s_ifT (EvT.is (et_c (ec_eqI (ev_ixT (ev_call G3 (hr.mono (by decide)) (ea_cons (ev_var 4) (ea_cons (ev_var 5) ea_nil)) (lcoreAll_spec hlc)) ev_int (atI_nat (j := 1) rfl)) ev_int)) (decide_eq_true hw)) (sv_one (s_ret (ev_c (ec_isNon (ev_var 3) ev_non)) (List.Sublist.refl _))))
  · refine sv_cons (δ1 := [some (.adr a), some no, some bad, some (.exc Cn (xN "weight")), some (.int e), some (sh o)]) (μ1 := drMem a l s4 ++ tb) (s_setM 3 hN (em_lamX (L := show LamX.LamS (defScope (top 78)) _ from LamX.lamS_by (by decide +kernel)) (k := 6) Lz (hm _) hr Z2.nB fun A' outer' s' H' E' f' c' hr' tk' => rze_call G5 hr' tk' (ea_cons (ev_var 4) (ea_cons (ev_var 5) ea_nil)) ⟨_, _, rfl, .weight he.1 he.2 hl hi hco hne⟩)) ?_
    refine sv_cons (s_ifF (EvT.is (et_c (ec_eqI (ev_ixT (ev_call G3 (hr.mono (by decide)) (ea_cons (ev_var 4) (ea_cons (ev_var 5) ea_nil)) (lcoreAll_spec hlc)) ev_int (atI_nat (j := 1) rfl)) ev_int)) (decide_eq_false hw)) sv_nil) ?_
    exact sv_one (s_ret (Ev.is (ev_and (r := true) (t := true) (ev_isX B (ev_var 3) Z2.cn Z.gn Z2.nn) fun _ => ev_one (ev_c (EvC.is (ec_eqS (ev_xfS (ev_var 3) Z2.xf Z2.no rfl) ev_str) rfl))) rfl) (List.Sublist.refl _))
end
end Bx
end

-- part BxAM
section
set_option Elab.async false
set_option linter.all false
set_option maxRecDepth 100000
set_option maxHeartbeats 1000000
/-! Boxparts: repr of a tuple of shapes, a call with keywords alone, the draw begun. -/
namespace Bx
open PySem PySem.Spec PyProof.Rows L2
/-! ### repr -/
def pdS (s : List Int) : PyData := .tuple (s.map PyData.int)
def pdSS (ss : List (List Int)) : PyData := .tuple (ss.map pdS)
def reprSS (ss : List (List Int)) : Str := (pdSS ss).shown
theorem shownAll_map : ∀ xs : List PyData, PyData.shownAll xs = xs.map PyData.shown
  | [] => rfl
  | x :: xs => by rw [PyData.shownAll, shownAll_map xs]; rfl
theorem showableAll_of : ∀ {xs : List PyData}, (∀ x ∈ xs, x.showable = true) → PyData.showableAll xs = true
  | [], _ => rfl
  | x :: xs, h => by
    rw [PyData.showableAll, h x List.mem_cons_self, showableAll_of fun y hy => h y (List.mem_cons_of_mem _ hy)]; rfl
theorem depthAll_le {n : Nat} : ∀ {xs : List PyData}, (∀ x ∈ xs, x.depth ≤ n) → PyData.depthAll xs ≤ n
  | [], _ => Nat.zero_le _
  | x :: xs, h => by
    rw [PyData.depthAll]
    exact Nat.max_le.mpr ⟨h x List.mem_cons_self, depthAll_le fun y hy => h y (List.mem_cons_of_mem _ hy)⟩
theorem piled_le {n : Nat} : ∀ {ts : List Str}, (∀ t ∈ ts, t.length ≤ n) → piled ts ≤ ts.length * (n + 2)
  | [], _ => Nat.zero_le _
  | t :: ts, h => by
    have h1 := h t List.mem_cons_self
    have h2 := piled_le fun y hy => h y (List.mem_cons_of_mem _ hy)
    rw [piled_cons, List.length_cons, Nat.add_mul]
    omega
theorem tupText_le {n : Nat} {ts : List Str} (h : ∀ t ∈ ts, t.length ≤ n) : (tupleText ts).length ≤ ts.length * (n + 2) + 3 := by
  have h1 := piled_le h
  unfold tupleText
  rw [strLen_append, strLen_append]
  have e1 : ((("(" : String) : Str)).length = 1 := rfl
  have e2 : (((if ts.length == 1 then ",)" else ")" : String) : Str)).length ≤ 2 := by split <;> decide
  have e3 : (Str.join ", " ts).length ≤ piled ts := by
    cases ts with
    | nil => exact Nat.zero_le _
    | cons t r => have := join_length_add (t :: r) (by simp); omega
  omega
theorem int_len {i : Int} (h0 : 0 ≤ i) (h1 : i ≤ 100) : (PyData.int i).shown.length ≤ 3 := by
  have key : ∀ n : Nat, n ≤ 100 → (PyData.int (n : Int)).shown.length ≤ 3 := by decide +kernel
  have e : i = ((i.toNat : Nat) : Int) := by omega
  rw [e]
  exact key _ (by omega)
theorem pdS_len {s : List Int} (h : Sm s) : (pdS s).shown.length ≤ 600 := by
  have hl := h.len
  show (tupleText (PyData.shownAll (s.map PyData.int))).length ≤ 600
  rw [shownAll_map]
  have := tupText_le (n := 3) (ts := (s.map PyData.int).map PyData.shown) (fun t ht => by
    rw [List.map_map] at ht
    obtain ⟨i, hi, rfl⟩ := List.mem_map.mp ht
    exact int_len (h.lo i hi) (h.hi i hi))
  rw [List.length_map, List.length_map] at this
  omega
theorem pdSS_len {ss : List (List Int)} (h : ∀ s ∈ ss, Sm s) (hl : ss.length ≤ 1000) : (pdSS ss).shown.length ≤ sizeLine := by
  show (tupleText (PyData.shownAll (ss.map pdS))).length ≤ sizeLine
  rw [shownAll_map, sizeLine_eq]
  have := tupText_le (n := 600) (ts := (ss.map pdS).map PyData.shown) (fun t ht => by
    rw [List.map_map] at ht
    obtain ⟨i, hi, rfl⟩ := List.mem_map.mp ht
    exact pdS_len (h i hi))
  rw [List.length_map, List.length_map] at this
  omega
theorem pdSS_showable {ss : List (List Int)} (h : ∀ s ∈ ss, Sm s) : (pdSS ss).showable = true := by
  show PyData.showableAll (ss.map pdS) = true
  refine showableAll_of fun x hx => ?_
  obtain ⟨s, hs, rfl⟩ := List.mem_map.mp hx
  show PyData.showableAll (s.map PyData.int) = true
  refine showableAll_of fun y hy => ?_
  obtain ⟨i, hi, rfl⟩ := List.mem_map.mp hy
  have a := (h s hs).lo i hi
  have b := (h s hs).hi i hi
  show decide (i.natAbs.log2 < 1920) = true
  refine decide_eq_true (Nat.lt_of_le_of_lt (Nat.log2_le_self _) (by omega))
theorem pdSS_depth (ss : List (List Int)) : (pdSS ss).depth ≤ 2 := by
  show PyData.depthAll (ss.map pdS) + 1 ≤ 2
  have : PyData.depthAll (ss.map pdS) ≤ 1 := depthAll_le fun x hx => by
    obtain ⟨s, hs, rfl⟩ := List.mem_map.mp hx
    show PyData.depthAll (s.map PyData.int) + 1 ≤ 1
    have : PyData.depthAll (s.map PyData.int) ≤ 0 := depthAll_le fun y hy => by
      obtain ⟨i, _, rfl⟩ := List.mem_map.mp hy
      exact Nat.le_refl 0
    omega
  omega
theorem reads_ints {h : Heap} : ∀ {s : List Int} {us : List Value}, Vals (s.map V.int) us → ReadsAll h us (s.map PyData.int) []
  | [], _, r => by cases r; exact .nil
  | i :: s, _, r => by
    cases r with
    | @cons x u xs us rx rr =>
      obtain ⟨t, rfl⟩ := (show ∃ t, u = Value.int i t from rx)
      exact .cons (as := []) (bs := []) (.int i t) (reads_ints rr)
theorem reads_sh {P : Program} {w : World} {H : Hp} {h : Heap} (hok : HOk P w H h) {s : List Int} {v : V} {u : Value} (r : Rep H (sh s) v) (ru : RelV v u) : Reads h u (pdS s) [] := by
  obtain ⟨a, vs, rfl, ha, hr⟩ := r
  obtain rfl : u = Value.ref a := ru
  obtain rfl := RepL.ints hr
  obtain ⟨_, its, hv, o, h1, h2, n, h3⟩ := (show ObjOk P w H h a (.tup (s.map V.int)) from hok a _ ha)
  exact .tuple h1 h2 h3 (reads_ints hv)
theorem reads_shs {P : Program} {w : World} {H : Hp} {h : Heap} (hok : HOk P w H h) : ∀ {ss : List (List Int)} {vs : List V} {us : List Value}, RepL H (ss.map sh) vs → Vals vs us → ReadsAll h us (ss.map pdS) []
  | [], _, _, r, rv => by
    have e : _ = [] := r
    subst e
    cases rv
    exact .nil
  | s :: ss, _, _, r, rv => by
    obtain ⟨v, ws, rfl, r1, r2⟩ := r
    cases rv with
    | @cons x u xs us rx rr => exact .cons (as := []) (bs := []) (reads_sh hok r1 rx) (reads_shs hok r2 rr)
section
variable {X : Cx} {δ δ1 : De} {μ μ1 : Mem} {a b e : Expr} {es : List Expr} {rest : List Stmt} {o : Out} {p pos : Pos} {d : D}
theorem cr_repr (hg : X.A.guards = some []) (hu : X.A.units + 64 < cLine) : CallR X (.builtin "repr") (fun xs H Q => ∃ a vs ss, xs = [.ref a] ∧ H a = some (.tup vs) ∧ RepL H (ss.map sh) vs ∧ (∀ s ∈ ss, Sm s) ∧ ss.length ≤ 1000 ∧ Q (.str (reprSS ss)) H) := by
  intro pins s σ H xs us Q I r h
  obtain ⟨a, vs, ss, rfl, ha, hr, sm, hl, q⟩ := h
  obtain rfl := Vals.ref1 r
  obtain ⟨_, its, hv, o, h1, h2, n, h3⟩ := (show ObjOk X.prog X.w H s.heap a (.tup vs) from I.hok a _ ha)
  have rd : Reads s.heap (.ref a) (pdSS ss) [] := .tuple h1 h2 h3 (reads_shs I.hok hr hv)
  refine repr_of_reads' rd (pdSS_showable sm) (fun _ => List.not_mem_nil) hg (by have := pdSS_depth ss; omega) (fun _ _ e => e) (fun h' u tk k => ?_) (pdSS_len sm hl)
  exact ⟨.str (reprSS ss), H, I.kept k, ⟨u, rfl⟩, q⟩
theorem ev_repr {k : Nat} {ss : List (List Int)} (hgd : X.A.guards = some []) (hr : Room k X.A) (B : Bi X.mg) (ha : Ev X δ μ e (.tup (ss.map sh))) (sm : ∀ s ∈ ss, Sm s) (hl : ss.length ≤ 1000) (hg : Gl X "repr" := by rfl) (he : starEach [e] X.env = (false, eval e X.env) :: starEach [] X.env := by rfl) (hpl : (backTo pos (starEach [] X.env)).any (·.1) = false := by rfl) :
    Ev X δ μ (.Call (.Name "repr" p) [e] [] pos) (.str (reprSS ss)) :=
  ev_callB (cr_repr hgd hr.units) B.repr boot_repr (ea_cons ha ea_nil he) (fun vs H Q hr k => by
    obtain ⟨v, rfl, a, ws, rfl, ha, hs⟩ := hr.one
    exact ⟨a, ws, ss, rfl, ha, hs, sm, hl, k _ H (Ex.refl H) rfl⟩) hg (by decide) (by decide) he hpl
/-! ### a call with keywords alone -/
theorem pe_callK0 {k : Nat} {f : Addr} {fd : FuncData} {ps ks : List Str} {sp : Sp} {x : Str} {kws : List Keyword} {tk : TA} {g : List Value → List Value → List Value} {gV : List V → List V → List V} (F : FnOk X.prog X.w X.K X.mg X.base CX0 k f fd ps sp) (hr : Room k X.A) (hg : Gl X x) (hm : X.mg x = some (.ref f)) (hk : PySem.W.keepIn X.K (.ref f) = true) (hb : KBinds X.K fd ps ks g gV)
    (hkw : PK X kws tk) (hall : (backToKw pos (keywordEach kws X.env)).all (·.1.isSome) = true) (hks : (backToKw pos (keywordEach kws X.env)).filterMap (·.1) = ks) (hpl : ((backTo pos (starEach [] X.env)).any (·.1) || (backToKw pos (keywordEach kws X.env)).any (·.1.isNone)) = false) (hdb : (x == ("__debug__" : Str)) = false := by decide) :
    PE X (.Call (.Name x p) [] kws pos) (fun σ H Q => tk σ H fun zs H2 => sp (gV [] zs) H2 Q E0) :=
  ⟨fun pins s σ H Q I h => wpAny_Call_Name_kw (ld_glob I hg hm (PySem.W.callWith_KW0 (h₀ := X.base) I.ok.mod.kin hk hall (thn (hkw.run pos pins s σ H _ I h) fun ws s2 ⟨zs, H2, I2, rz, q2⟩ => ⟨I2.kIn, by
    rw [hks]
    exact run_fnk F hr hb pass0 I2 .nil rz q2⟩) hpl) hdb)⟩
def revK (us ws : List Value) : List Value := match us with
  | [] => ws.reverse
  | _ => []
def revV (us ws : List V) : List V := match us with
  | [] => ws.reverse
  | _ => []
/-- the draw's state is new -/
theorem sv_begun {R : List D → Dst → Prop} {k n : Nat} {x y : Str} {ps : List Str} {ds : List D} {s : Dst} {px : Pos} (F : Cal X.prog X.w X.K X.mg X.base k x ps (spB R)) (hr : Room k X.A) (hN : X.N.Nodup) (ha : EvA X δ μ (e :: es) ds) (h : R ds s) (kk : ∀ a l, Sv X (δ.set n (some (.adr a))) (drMem a l s ++ μ) rest o)
    (hi : X.N[n]? = some y := by rfl) (hx : Loc X.env.scope y := by first | exact .inl rfl | exact .inr rfl) (hf : X.fn y = true ∨ X.env.scope.names.lookup y = some .local := by first | exact .inl rfl | exact .inr rfl) (hg : Gl X x := by rfl) (hdb : (x == ("__debug__" : Str)) = false := by decide)
    (he : starEach (e :: es) X.env = (false, eval e X.env) :: starEach es X.env := by rfl) (hpl : (backTo pos (starEach es X.env)).any (·.1) = false := by rfl) {spos : Pos} (hs : swapsWith (.Call (.Name x p) (e :: es) [] pos) (some (.Name y px)) spos.line X.env = pure false := by rfl) :
    Sv X δ μ (.Assign [.Name y px] (.Call (.Name x p) (e :: es) [] pos) spos :: rest) o := by
  obtain ⟨f, fd, F, hm, hk, hb⟩ := F.ex
  refine sv_pss (pss_cons (ps_set hN hi hx (pe_call F hr hg hm hk hb .nil (pass0) (pa_tw X _) hdb he hpl) hs hf) (pss_tw X rest)) fun σ H D c q => ha σ H _ c fun vs H1 e1 r1 => ?_
  show spB R (vs ++ []) H1 _ E0
  rw [List.append_nil]
  refine ⟨ds, s, h, r1, fun a l H2 x2 ce => ?_⟩
  have c1 := c.ex e1
  have e2 : Ex H1 H2 := fun b o hb => x2.keep b o hb (fun z => nomatch z)
  have nw : ∀ b ∈ dm (drMem a l s), H1 b = none := fun b hb => (x2.new b hb).resolve_left (fun z => nomatch z)
  have c2 : Cfg δ (drMem a l s ++ μ) σ H2 := by
    have c3 := c1.ex e2
    refine ⟨c3.len, c3.env, fun z hz => (List.mem_append.mp hz).elim (ce.cel z) (c3.cel z), ?_⟩
    rw [List.map_append]
    refine List.nodup_append.mpr ⟨ce.nd, c1.nd, fun b hb b2 hb2 e => ?_⟩
    subst e
    obtain ⟨y, hy, rfl⟩ := List.mem_map.mp hb2
    obtain ⟨o, ho, _⟩ := (c1.cel y hy).some
    rw [nw _ hb] at ho; cases ho
  exact kk a l _ H2 D (c2.set (d := .adr a) rfl) (okt q ⟨fun b o hb _ => e2 _ _ (e1 _ _ hb), fun b hb => by
    unfold dm at hb
    rw [List.map_append] at hb
    rcases List.mem_append.mp hb with hb | hb
    · exact .inr (e1.free (nw _ hb))
    · exact .inl hb⟩)
end
end Bx
end

-- part BxAN
section
set_option Elab.async false
set_option linter.all false
set_option maxRecDepth 100000
set_option maxHeartbeats 1000000
/-! Boxparts: what the law's laps ask; one_chain called with keywords. -/
namespace Bx
open PySem PySem.Spec PyProof.Rows L2
def e8 : List Int := [2, 2, 3, 3, 4, 5, 6, 8]
def m4 : List Int := [9, 9, 9, 12]
def g4 : List (List Int) := [[16], [8, 8], [16], [9, 7]]
def h4 : List Int := [9, 10, 13, 16]
/-- what is asked of e and a drawn shape s; tl: the chain -/
structure GoodL (e : Int) (s : List Int) (tl : List (List Int)) : Prop where
  ch : RChain [.int e, sh s] (.tup (tl.map sh))
  bl : RLblock [.int e, sh s] (.lst (tl.reverse.map sh))
  len : (tl.length : Int) = e
  lim : tl.length ≤ 1000
  sm : ∀ o ∈ tl, Sm o
  each : ∀ (k : Nat) o, tl[k]? = some o → lfree e o = decide (k + 1 < tl.length) ∧ RChain [.int e, sh o] (.tup (tl.map sh))
  next : ∀ (k : Nat) o o2, tl[k]? = some o → tl[k + 1]? = some o2 → above o o2 = true ∧ (s.sum < 10 → ∃ r, RLsum [.int e, sh o] (sumD r) ∧ eqSum r (putAll [(o, [((0 : Int), (1 : Int))]), (o2, [((1 : Int), (1 : Int))])]) = true)
/-- what is asked of the last e and shape -/
def GoodG (e : Int) (s : List Int) : Prop := lcoreAll e s = true ∧ 2 ≤ e ∧ e ≤ 20 ∧ s.length ≤ 1000 ∧ isShp s = true ∧ ∃ t, coRun e s = some t ∧
  (((lcore e s).2 = 1 ∧ ∃ tl : List (List Int), RChain [.int e, sh s] (.tup (tl.map sh)) ∧ RLblock [.int e, sh s] (.lst (tl.reverse.map sh)) ∧ (∀ o ∈ tl, Sm o) ∧ tl.length ≤ 1000) ∨ ((lcore e s).2 ≠ 1 ∧ t.2 ≠ 1))
/-- one lap of the law, from one state of the draws to the next -/
def LapOk (s s' : Dst) : Prop := ∃ e most o tl s1 s2 s3, (∀ a l, RPick [.adr a, .lst (e8.map D.int)] (drMem a l s) (.int e) (drMem a l s1)) ∧ (∀ a l, RPick [.adr a, .lst (m4.map D.int)] (drMem a l s1) (.int most) (drMem a l s2)) ∧
  (∀ a l, RWone [.adr a, .int e, .int most] (drMem a l s2) (sh o) (drMem a l s3)) ∧ GoodL e o tl ∧ s' = (refSt s3).2
section
variable {P : Program} {w : World} {K : PySem.W.Frag} {mg : Str → Option Value} {base : Heap} {f : Addr} {fd : FuncData}
theorem fn_R0 {x : Str} {st : Stmt} {N ps : List Str} {k : Nat} {R : List D → D → Prop} (F : FnP K x st f fd) (S : FnScope N ps (defScope st)) (hl : ∀ ds d, R ds d → ds.length = ps.length)
    (hb : ∀ (cdv : Value) (A : Around) (outer : List Env) (s : Shared) (H : Hp) (E : XK), Room k (A.deeper (envOfC x (defScope st) s.heap.objs.size f cdv)) → ∀ ds d, R ds d → Sv (cx0 P w K mg base N x (defScope st) f cdv A outer s H E) (init N ds) [] (defBody st) (.rt d [])) :
    FnOk P w K mg base CX0 (k + 1) f fd ps (spR R) := by
  refine F.ok S (fun vs H Q E h => ?_) fun cdv A outer s H vs Q E hr h => ?_
  · obtain ⟨ds, d, h1, h2, _⟩ := h
    rw [h2.len]; exact hl ds d h1
  · obtain ⟨ds, d, h1, h2, h3⟩ := h
    exact ⟨_, PSs.nox (pss_tw _ _), hb cdv A outer s H E hr ds d h1 _ H _ (cfg_start h2) fun v H' r _ x => h3 v H' (fun a o e => x.keep a o e (fun z => nomatch z)) r⟩
theorem ok_chain (F : FnP K "one_chain" (top 59) f fd) (B : Bi mg) (G1 : Cal P w K mg base 5 "need_weight" ["e", "shape", "weight"] (spR fun ds d => RWgt ds ∧ d = .non)) (G2 : Cal P w K mg base 3 "block_of" ["e", "shape"] (spR RBlock)) : FnOk P w K mg base CX0 6 f fd ["e", "shape"] (spR RChain) := by
  refine fn_R0 F scChain (fun ds d ⟨_, _, _, _, q, _⟩ => by rw [q]; rfl) fun cdv A outer s0 H E hr ds d h => ?_
  obtain ⟨e, s, t, r, rfl, h1, h2, sm, h3, h4, h5, h6, so, h7, so2, rfl⟩ := h
  have hl := sm.len
  exact sv_cons (s_expr (ev_call G1 hr (ea_cons (ev_var 0) (ea_cons (ev_var 1) (ea_cons ev_int ea_nil))) ⟨⟨e, 1, s, t, rfl, h1, h2, by omega, h3, h4, h5⟩, rfl⟩))
    (sv_one (s_ret (ev_tupleOf B (ev_sortR hr B (ev_call G2 (hr.mono (by decide)) (ea_cons (ev_var 0) (ea_cons (ev_var 1) ea_nil)) ⟨e, s, r, rfl, sm, by omega, by omega, h6, so, h7, rfl⟩) so2 (fun ta tk ha hk => pe_callBK (cr_sortShR hr.units) rfl B.sorted boot_sorted ha hk)))))
theorem vals_rev : ∀ {zs : List V} {ws : List Value}, Vals zs ws → Vals zs.reverse ws.reverse
  | _, _, .nil => .nil
  | _, _, .cons h t => by
    rw [List.reverse_cons, List.reverse_cons]
    exact (vals_rev t).append (.cons h .nil)
theorem kb_chain (F : FnP K "one_chain" (top 59) f fd) : KBinds K fd ["e", "shape"] ["shape", "e"] revK revV := by
  obtain ⟨oc, od, dV, kV, doc, pm, an, cdv, ct, osl, rfl, lk, hcd, hD, hK⟩ := F.ex
  refine ⟨fun s us ws kin hl => ?_, fun {vs us zs ws} r1 r2 => ?_⟩
  · cases us with
    | cons u us => exact absurd (show 0 = 2 from hl) (by decide)
    | nil =>
      have h2 : ws.reverse.length = 2 := hl
      rw [List.length_reverse] at h2
      match ws, h2 with
      | [w1, w2], _ =>
        rcases hD with ⟨_, rfl⟩ | ⟨e, _⟩
        · exact .of_eq (by rfl)
        · exact absurd rfl e
  · cases r1 with
    | nil => exact vals_rev r2
    | cons _ _ => exact .nil
end
section
variable {X : Cx} {δ : De} {μ : Mem} {a b : Expr} {p p1 p2 pos : Pos} {k : Nat}
theorem ec_neSS {s t : List (List Int)} (hr : Room k X.A) (ha : Ev X δ μ a (.tup (s.map sh))) (hb : Ev X δ μ b (.tup (t.map sh))) : EvC X δ μ .NotEq a b (.bl (!decide (s = t))) :=
  (ec_neD hr ha hb (Shp.shs s).pu (Shp.shs t).pu ((Shp.shs s).shaped (by decide)) ((Shp.shs t).shaped (by decide))).is (by rw [eqv_shsT])
theorem ev_chainK {f : Addr} {fd : FuncData} {d1 d2 d : D} (F : FnP X.K "one_chain" (top 59) f fd) (hm : X.mg "one_chain" = some (.ref f)) (G : FnOk X.prog X.w X.K X.mg X.base CX0 6 f fd ["e", "shape"] (spR RChain)) (hr : Room 6 X.A) (ha : Ev X δ μ a d1) (hb : Ev X δ μ b d2) (h : RChain [d2, d1] d) (hg : Gl X "one_chain" := by rfl) :
    Ev X δ μ (.Call (.Name "one_chain" p) [] [⟨some "shape", a, p1⟩, ⟨some "e", b, p2⟩] pos) d :=
  ev_pe (pe_callK0 (ks := ["shape", "e"]) G hr hg hm F.kp (kb_chain F) (pk_cons (pe_tw X a) (pk_cons (pe_tw X b) pk_nil)) rfl rfl rfl) fun σ H Q c q => ha σ H _ c fun v H1 e1 r1 => hb σ H1 _ (c.ex e1) fun u H2 e2 r2 =>
    ⟨[d2, d1], d, h, ⟨u, [v], rfl, r2, ⟨v, [], rfl, r1.ex e2, rfl⟩⟩, fun w H3 e3 r3 => q w H3 ((e1.trans e2).trans e3) r3⟩
end
end Bx
end

-- part BxAO
section
set_option Elab.async false
set_option linter.all false
set_option maxRecDepth 100000
set_option maxHeartbeats 400000
/-! Boxparts: law. -/
namespace Bx
open PySem PySem.Spec PyProof.Rows L2
section
variable {P : Program} {w : World} {K : PySem.W.Frag} {mg : Str → Option Value} {base : Heap} {f fc c Pl Cn Cs CB : Addr} {fdc : FuncData} {tb : Mem}
abbrev nLaw : List Str := ["_law_script", "_law_draw", "_law_turn", "_law_e_here", "_law_shape_here", "_law_told", "_law_k", "_law_great", "_law_caught_here"]
theorem scLaw : FnScope nLaw ["_law_script"] (defScope (top 79)) := ⟨rfl, rfl, rfl, by decide +kernel, rfl, by decide +kernel, by decide +kernel⟩
abbrev cxL (P : Program) (w : World) (K : PySem.W.Frag) (mg : Str → Option Value) (base : Heap) (f c : Addr) (A : Around) (outer : List Env) (s : Shared) (H : Hp) (E : XK) : Cx := cx0 P w K mg base nLaw "law" (defScope (top 79)) f (.ref c) A outer s H E
/-- the facts of the law's callees -/
structure LawF (P : Program) (w : World) (K : PySem.W.Frag) (mg : Str → Option Value) (base : Heap) (fc Cn Cs CB : Addr) (fdc : FuncData) (tb : Mem) : Prop where
  B : Bi mg
  caught : ∃ g fd, FnP K "_law_caught" (top 65) g fd ∧ mg "_law_caught" = some (.ref g)
  me : mg "BoxError" = some (.ref CB)
  Z : ExK P w K mg base Cn Cs
  Z2 : ExK2 K Cn Cs CB
  begun : Cal P w K mg base 1 "_law_begun" ["_law_script"] (spB (RBegun K))
  pick : Cal P w K mg base 3 "_law_pick" ["_law_draw", "_law_some"] (spM RPick)
  wone : Cal P w K mg base 4 "_law_weight_one" ["_law_draw", "_law_e_here", "_law_most"] (spM RWone)
  core : Cal P w K mg base 3 "_law_core" ["_law_e_here", "_law_shape_here"] (spR RLcore)
  block : Cal P w K mg base 4 "_law_block" ["_law_e_here", "_law_shape_here"] (spR RLblock)
  free : Cal P w K mg base 1 "_law_is_free" ["_law_e_here", "_law_shape_here"] (spR RLfree)
  above : Cal P w K mg base 1 "_law_is_above" ["_law_one", "_law_other"] (spR RAbove)
  chain : Cal P w K mg base 6 "one_chain" ["e", "shape"] (spR RChain)
  chainX : CalX P w K mg base 6 "one_chain" ["e", "shape"] (fun ds C fs => ∃ x y, ds = [x, y] ∧ Bad Cn Cs 1 x y C fs)
  fch : FnP K "one_chain" (top 59) fc fdc
  gch : mg "one_chain" = some (.ref fc)
  ok : FnOk P w K mg base CX0 6 fc fdc ["e", "shape"] (spR RChain)
  lsum : Cal P w K mg base 8 "list_sum" ["e", "shape"] (spR RLsum)
  ref : Cal P w K mg base 9 "_law_refused" ["_law_draw"] (spM (RRef tb))
theorem map_get {α : Type} {l : List α} {k : Nat} {x : α} (enc : α → D) (h : l[k]? = some x) : (l.map enc)[k]? = some (enc x) := by rw [List.getElem?_map, h]; rfl
/-- {k1: {0: 1}, k2: {1: 1}} -/
theorem ev_two {X : Cx} {δ : De} {μ : Mem} {k0 : Nat} {k1 k2 z1 z2 y1 y2 : Expr} {p1 p2 pos : Pos} {o o2 : List Int} (hr : Room k0 X.A) (h1 : Ev X δ μ k1 (sh o)) (h2 : Ev X δ μ k2 (sh o2)) (a1 : Ev X δ μ z1 (.int 0)) (b1 : Ev X δ μ y1 (.int 1)) (a2 : Ev X δ μ z2 (.int 1)) (b2 : Ev X δ μ y2 (.int 1)) :
    Ev X δ μ (.Dict [some k1, some k2] [.Dict [some z1] [y1] p1, .Dict [some z2] [y2] p2] pos) (sumD (putAll [(o, [((0 : Int), (1 : Int))]), (o2, [((1 : Int), (1 : Int))])])) :=
  ev_disp2T (enc := rowD) hr h1 (ev_disp1K (enc := D.int) a1 b1) h2 (ev_disp1K (enc := D.int) a2 b2)
/-- a test of the list's sum -/
theorem ec_two {X : Cx} {δ : De} {μ : Mem} {k0 : Nat} {a k1 k2 z1 z2 y1 y2 : Expr} {p1 p2 pos : Pos} {o o2 : List Int} {r : Summ} (hr : Room k0 X.A) (ha : Ev X δ μ a (sumD r)) (h1 : Ev X δ μ k1 (sh o)) (h2 : Ev X δ μ k2 (sh o2)) (a1 : Ev X δ μ z1 (.int 0)) (b1 : Ev X δ μ y1 (.int 1)) (a2 : Ev X δ μ z2 (.int 1)) (b2 : Ev X δ μ y2 (.int 1))
    (h : eqSum r (putAll [(o, [((0 : Int), (1 : Int))]), (o2, [((1 : Int), (1 : Int))])]) = true) : EvC X δ μ .NotEq a (.Dict [some k1, some k2] [.Dict [some z1] [y1] p1, .Dict [some z2] [y2] p2] pos) (.bl false) :=
  ec_neSum hr ha (ev_two hr h1 h2 a1 b1 a2 b2) h
abbrev inBody : List Stmt := match (match (defBody (top 79)).getD 1 (.Pass ⟨0, 0, 0, 0⟩) with | .For _ _ b _ _ => b.getD 4 (.Pass ⟨0, 0, 0, 0⟩) | x => x) with | .For _ _ b _ _ => b | _ => []
/-- the three tests of one turn of the inner loop -/
theorem sv_inner {A : Around} {outer : List Env} {s0 : Shared} {H : Hp} {E : XK} {μ : Mem} {d0 d1 d2 d7 d8 : Option D} {e : Int} {s : List Int} {tl : List (List Int)} {k : Nat} (hr : Room 9 (cxL P w K mg base f c A outer s0 H E).A) (Z : LawF P w K mg base fc Cn Cs CB fdc tb) (g : GoodL e s tl) (hk : k < tl.length) :
    Sv (cxL P w K mg base f c A outer s0 H E) [d0, d1, d2, some (.int e), some (sh s), some (.tup (tl.map sh)), some (.int (k : Int)), d7, d8] μ inBody (.nx [d0, d1, d2, some (.int e), some (sh s), some (.tup (tl.map sh)), some (.int (k : Int)), d7, d8] μ) := by
  have hlen := g.len
  have B := Z.B
  obtain ⟨o, ho⟩ : ∃ o, tl[k]? = some o := ⟨tl[k], List.getElem?_eq_getElem hk⟩
  obtain ⟨fr, ch⟩ := g.each k o ho
  have ho' := map_get sh ho
  have smo := g.sm o (List.mem_of_getElem? ho)
  have e1 : (!(lfree e o == decide ((k : Int) < e - 1))) = false := by
    rw [fr]
    have : decide (k + 1 < tl.length) = decide ((k : Int) < e - 1) := by rw [decide_eq_decide]; omega
    rw [this]; simp
  refine sv_cons (s_ifF (EvT.is (evt_w (evw_or (r := false) (t := false) (EvT.is (et_c (ec_neB (ev_call Z.free (hr.mono (by decide)) (ea_cons (ev_var 3) (ea_cons (ev_ixT (ev_var 5) (ev_var 6) (atI_nat ho')) ea_nil)) ⟨e, o, rfl, rfl⟩) (ev_c (ec_lt (ev_var 6) (ev_sub (ev_var 3) ev_int))))) e1) fun _ => evw_or1 (EvT.is (et_c (ec_neSS hr (ev_call Z.chain (hr.mono (by decide)) (ea_cons (ev_var 3) (ea_cons (ev_ixT (ev_var 5) (ev_var 6) (atI_nat ho')) ea_nil)) ch) (ev_var 5))) (by simp)))) rfl) sv_nil) ?_
  by_cases hl : k + 1 < tl.length
  · obtain ⟨o2, ho2⟩ : ∃ o, tl[k + 1]? = some o := ⟨tl[k + 1], List.getElem?_eq_getElem hl⟩
    obtain ⟨ab, ls⟩ := g.next k o o2 ho ho2
    have smo2 := g.sm o2 (List.mem_of_getElem? ho2)
    have ho2' : atI (tl.map sh) ((k : Int) + 1) = some (sh o2) := atI_nat (j := k + 1) (map_get sh ho2)
    have hlt : decide ((k : Int) < e - 1) = true := decide_eq_true (by omega)
    refine sv_cons (s_ifF (EvT.is (evt_w (evw_and (r := true) (t := false) (EvT.is (et_c (ec_lt (ev_var 6) (ev_sub (ev_var 3) ev_int))) hlt) fun _ => evw_and1 (EvT.is (evt_not (evt_val (ev_call Z.above (hr.mono (by decide)) (ea_cons (ev_ixT (ev_var 5) (ev_var 6) (atI_nat ho')) (ea_cons (ev_ixT (ev_var 5) (ev_add (ev_var 6) ev_int) ho2') ea_nil)) ⟨o, o2, rfl, smo, smo2, rfl⟩))) (by rw [ab]; rfl)))) rfl) sv_nil) ?_
    by_cases h10 : s.sum < 10
    · obtain ⟨r, hR, hE⟩ := ls h10
      exact sv_one (s_ifF (EvT.is (evt_w (evw_and (r := true) (t := false) (EvT.is (et_c (ec_lt (ev_var 6) (ev_sub (ev_var 3) ev_int))) hlt) fun _ => evw_and (r := true) (t := false) (EvT.is (et_c (ec_lt (ev_sumT rfl B (ev_var 4)) ev_int)) (decide_eq_true h10)) fun _ => evw_and1 (et_c (ec_two hr (ev_call Z.lsum (hr.mono (by decide)) (ea_cons (ev_var 3) (ea_cons (ev_ixT (ev_var 5) (ev_var 6) (atI_nat ho')) ea_nil)) hR)
        (ev_ixT (ev_var 5) (ev_var 6) (atI_nat ho')) (ev_ixT (ev_var 5) (ev_add (ev_var 6) ev_int) ho2') ev_int ev_int ev_int ev_int hE)))) rfl) sv_nil)
    · exact sv_one (s_ifF (EvT.is (evt_w (evw_and (r := true) (t := false) (EvT.is (et_c (ec_lt (ev_var 6) (ev_sub (ev_var 3) ev_int))) hlt) fun _ => evw_and (r := false) (t := false) (EvT.is (et_c (ec_lt (ev_sumT rfl B (ev_var 4)) ev_int)) (decide_eq_false h10)) fun z => nomatch z)) rfl) sv_nil)
  · have hlt : decide ((k : Int) < e - 1) = false := decide_eq_false (by omega)
    exact sv_cons (s_ifF (EvT.is (evt_w (evw_and (r := false) (t := false) (EvT.is (et_c (ec_lt (ev_var 6) (ev_sub (ev_var 3) ev_int))) hlt) fun z => nomatch z)) rfl) sv_nil)
      (sv_one (s_ifF (EvT.is (evt_w (evw_and (r := false) (t := false) (EvT.is (et_c (ec_lt (ev_var 6) (ev_sub (ev_var 3) ev_int))) hlt) fun z => nomatch z)) rfl) sv_nil))
end
end Bx
end

-- part BxAP
section
set_option Elab.async false
set_option linter.all false
set_option maxRecDepth 100000
set_option maxHeartbeats 400000
/-! Boxparts: law's laps and its end. -/
namespace Bx
open PySem PySem.Spec PyProof.Rows L2
section
variable {P : Program} {w : World} {K : PySem.W.Frag} {mg : Str → Option Value} {base : Heap} {f fc c Pl Cn Cs CB : Addr} {fdc : FuncData} {tb : Mem}
abbrev outBody : List Stmt := match (defBody (top 79)).getD 1 (.Pass ⟨0, 0, 0, 0⟩) with | .For _ _ b _ _ => b | _ => []
theorem sv_lap {A : Around} {outer : List Env} {s0 : Shared} {H : Hp} {E : XK} {d0 dt : D} {a l : Addr} {s s' : Dst} (hr : Room 9 (cxL P w K mg base f c A outer s0 H E).A) (hgd : (cxL P w K mg base f c A outer s0 H E).A.guards = some []) (Z : LawF P w K mg base fc Cn Cs CB fdc tb) (g : LapOk s s') :
    Sv (cxL P w K mg base f c A outer s0 H E) [some d0, some (.adr a), some dt, none, none, none, none, none, none] (drMem a l s ++ tb) outBody (.nx [some d0, some (.adr a), none, none, none, none, none, none, none] (drMem a l s' ++ tb)) := by
  obtain ⟨e, most, o, tl, s1, s2, s3, R1, R2, R3, G, rfl⟩ := g
  have B := Z.B
  have hN := scLaw.nd
  have hlen := G.len
  have hlim := G.lim
  have hbl : (tl.reverse.map sh).reverse = tl.map sh := by rw [← List.map_reverse, List.reverse_reverse]
  refine sv_cons (δ1 := [some d0, some (.adr a), some dt, some (.int e), none, none, none, none, none]) (μ1 := drMem a l s1 ++ tb) (s_setM 3 hN (em_pickL (s' := s1) (xs := e8.map D.int) Z.pick (hr.mono (by decide)) (ev_var 1) (el_int (el_int (el_int (el_int (el_int (el_int (el_int (el_int .nil)))))))) (by decide) (R1 a l))) ?_
  refine sv_cons (δ1 := [some d0, some (.adr a), some dt, some (.int e), some (sh o), none, none, none, none]) (μ1 := drMem a l s3 ++ tb) (s_setM 4 hN (em_call (fr := tb) (μr := drMem a l s2) (μr' := drMem a l s3) Z.wone (hr.mono (by decide)) (eam_cons (em_of (ev_var 1)) (eam_cons (em_of (ev_var 3)) (eam_cons (em_pickL (s' := s2) (xs := m4.map D.int) Z.pick (hr.mono (by decide)) (ev_var 1) (el_int (el_int (el_int (el_int .nil)))) (by decide) (R2 a l)) eam_nil))) (List.Perm.refl _) (R3 a l))) ?_
  refine sv_cons (δ1 := [some d0, some (.adr a), some dt, some (.int e), some (sh o), some (.tup (tl.map sh)), none, none, none]) (μ1 := drMem a l s3 ++ tb) (s_set 5 hN (ev_chainK Z.fch Z.gch Z.ok (hr.mono (by decide)) (ev_var 4) (ev_var 3) G.ch)) ?_
  refine sv_cons (s_ifF (EvT.is (evt_w (evw_or (r := false) (t := false) (EvT.is (et_c (ec_neS (ev_repr hgd hr B (ev_var 5) G.sm hlim) (ev_repr hgd hr B (Ev.is (ev_tupleOf B (ev_revL (ev_call Z.block (hr.mono (by decide)) (ea_cons (ev_var 3) (ea_cons (ev_var 4) ea_nil)) G.bl))) (by rw [hbl])) G.sm hlim))) (by simp)) fun _ => evw_or1 (EvT.is (et_c (ec_neI (ev_lenT B (ev_var 5)) (ev_var 3))) (by rw [List.length_map, hlen]; simp)))) rfl) sv_nil) ?_
  refine sv_cons (δ1 := [some d0, some (.adr a), some dt, some (.int e), some (sh o), some (.tup (tl.map sh)), none, none, none]) (μ1 := drMem a l s3 ++ tb) (s_for (xs := List.range tl.length) (enc := fun (i : Nat) => D.int (i : Int)) (S := fun _ => [some d0, some (.adr a), some dt, some (.int e), some (sh o), some (.tup (tl.map sh)), none, none, none]) (M := fun _ => drMem a l s3 ++ tb) PassesOwn.never rfl
    (EvI.is (ei_range0 B (ev_var 3) (by omega) (by omega)) (by rw [← hlen]; rfl)) (pg_name (i := 6) hN rfl (Or.inl rfl)) (fun _ _ => tg_name 6 _) fun i x hx => ?_) ?_
  · obtain ⟨hi, rfl⟩ := range_get hx
    exact sv_fg (sv_inner hr Z G hi)
  · exact sv_fg (sv_one (s_ifFM (EvTM.is (etm_not (etm_val (em_callA Z.ref hr (eam_cons (em_of (ev_var 1)) eam_nil) ⟨a, l, s3, rfl, rfl, rfl, rfl⟩))) rfl) sv_nil))
end
end Bx
end

-- part BxAQ
section
set_option Elab.async false
set_option linter.all false
set_option maxRecDepth 100000
set_option maxHeartbeats 400000
/-! Boxparts: law's body. -/
namespace Bx
open PySem PySem.Spec PyProof.Rows L2
theorem pick_at {α : Type} {l : List α} {enc : α → D} {i : Nat} {z : α} (h : i < l.length) : (l.map enc).getD i .non = enc (l.getD i z) := by
  rw [List.getD_eq_getElem?_getD, List.getElem?_map, List.getD_eq_getElem?_getD, List.getElem?_eq_getElem h]
  rfl
theorem rpick {α : Type} {xs : List α} {enc : α → D} {n : Int} {z : α} (hn : ((xs.length : Nat) : Int) = n) (h0 : 0 < n) (h1 : n < 1000) (a l : Addr) (s : Dst) : RPick [.adr a, .lst (xs.map enc)] (drMem a l s) (enc (xs.getD (takeV s n).toNat z)) (drMem a l (takeS s n)) := by
  have hb := takeV_bd s (n := n) h0
  refine ⟨a, l, s, xs.map enc, rfl, rfl, by rw [List.length_map]; omega, by rw [List.length_map]; omega, ?_, by rw [List.length_map, hn]⟩
  rw [List.length_map, hn, pick_at (z := z) (by omega)]
section
variable {P : Program} {w : World} {K : PySem.W.Frag} {mg : Str → Option Value} {base : Heap} {f fc c Pl Cn Cs CB : Addr} {fdc : FuncData} {tb : Mem}
theorem law_body {A : Around} {outer : List Env} {s0 : Shared} {H : Hp} {E : XK} {d0 : D} {ns : List Int} {step : Dst → Dst} (hr : Room 9 (cxL P w K mg base f c A outer s0 H E).A) (hgd : (cxL P w K mg base f c A outer s0 H E).A.guards = some []) (Z : LawF P w K mg base fc Cn Cs CB fdc tb) (TB : LamX.TabB base mg c Pl)
    (htb : (Pl, Bx.C.tab "law.<locals>.<lambda>") ∈ tb) (hs : ScrD K ns d0) (hn : ns.length ≤ 1000) (hst : ∀ s, LapOk s (step s)) (hG : ∀ e ∈ h4, ∀ s ∈ g4, GoodG e s) :
    Sv (cxL P w K mg base f c A outer s0 H E) (init nLaw [d0]) tb (defBody (top 79)) (.rt (.bl true) []) := by
  have B := Z.B
  have hN := scLaw.nd
  have Lz : Lam (cxL P w K mg base f c A outer s0 H E) CB Pl := ⟨Z.caught, Z.me, c, TB, rfl⟩
  refine sv_begun (n := 1) Z.begun (hr.mono (by decide)) hN (ea_cons (ev_var 0) ea_nil) ⟨ns, d0, rfl, hs, hn, rfl⟩ fun a l => ?_
  have hm : ∀ s, (Pl, Bx.C.tab (lq (cxL P w K mg base f c A outer s0 H E))) ∈ drMem a l s ++ tb := fun s => List.mem_append_right _ htb
  generalize begun ns = b0
  refine sv_cons (s_for (xs := List.range (2 + (if (ns.length : Int) < 3 then (ns.length : Int) else 3)).toNat) (enc := fun (i : Nat) => D.int (i : Int)) (S := fun _ => [some d0, some (.adr a), none, none, none, none, none, none, none]) (M := fun i => drMem a l (itM step i b0) ++ tb) PassesOwn.never rfl
    (ei_range0 B (ev_add ev_int (ev_min2 rfl B ev_int (ev_lenScr B (ev_var 0) hs))) (by split <;> omega) (by split <;> omega)) (pg_name (i := 2) hN rfl (Or.inl rfl)) (fun _ _ => tg_name 2 _) fun i x hx => ?_) ?_
  · have h1 := sv_lap (d0 := d0) (dt := .int (x : Int)) (a := a) (l := l) hr hgd Z (hst (itM step i b0))
    rw [itM_succ]
    exact h1
  rw [List.length_range]
  generalize itM step (2 + (if (ns.length : Int) < 3 then (ns.length : Int) else 3)).toNat b0 = s
  have hb1 := takeV_bd s (n := 4) (by decide)
  have hb2 := takeV_bd (takeS s 4) (n := 4) (by decide)
  have R1 := rpick (xs := g4) (enc := sh) (n := 4) (z := []) rfl (by decide) (by decide) a l s
  have R2 := rpick (xs := h4) (enc := D.int) (n := 4) (z := 0) rfl (by decide) (by decide) a l (takeS s 4)
  have good := hG _ (getD_mem (l := h4) (i := (takeV (takeS s 4) 4).toNat) (z := 0) (by show _ < 4; omega)) _ (getD_mem (l := g4) (i := (takeV s 4).toNat) (z := []) (by show _ < 4; omega))
  generalize g4.getD (takeV s 4).toNat [] = o at R1 good
  generalize h4.getD (takeV (takeS s 4) 4).toNat 0 = e at R2 good
  generalize takeS s 4 = s1 at R1 R2
  generalize takeS s1 4 = s2 at R2
  refine sv_cons (δ1 := [some d0, some (.adr a), none, none, none, none, none, some (sh o), none]) (μ1 := drMem a l s1 ++ tb) (s_setM 7 hN (em_pickL (s' := s1) (xs := g4.map sh) Z.pick (hr.mono (by decide)) (ev_var 1) (el_tup (el_int .nil) (by decide) (el_tup (el_int (el_int .nil)) (by decide) (el_tup (el_int .nil) (by decide) (el_tup (el_int (el_int .nil)) (by decide) .nil)))) (by decide) R1)) ?_
  refine sv_cons (δ1 := [some d0, some (.adr a), none, some (.int e), none, none, none, some (sh o), none]) (μ1 := drMem a l s2 ++ tb) (s_setM 3 hN (em_pickL (s' := s2) (xs := h4.map D.int) Z.pick (hr.mono (by decide)) (ev_var 1) (el_int (el_int (el_int (el_int .nil)))) (by decide) R2)) ?_
  obtain ⟨hlc, he1, he2, hl, hi, t, hco, ⟨hw, tl, hch, hbk, sm, hlim⟩ | ⟨hw, hne⟩⟩ := good
  · have hbl : (tl.reverse.map sh).reverse = tl.map sh := by rw [← List.map_reverse, List.reverse_reverse]
    exact sv_rt (s_ifT (EvT.is (et_c (ec_eqI (ev_ixT (ev_call Z.core (hr.mono (by decide)) (ea_cons (ev_var 3) (ea_cons (ev_var 7) ea_nil)) (lcoreAll_spec hlc)) ev_int (atI_nat (j := 1) rfl)) ev_int)) (decide_eq_true hw)) (sv_one (s_ret (ev_c (EvC.is (ec_eqS (ev_repr hgd hr B (ev_call Z.chain (hr.mono (by decide)) (ea_cons (ev_var 3) (ea_cons (ev_var 7) ea_nil)) hch) sm hlim)
      (ev_repr hgd hr B (Ev.is (ev_tupleOf B (ev_revL (ev_call Z.block (hr.mono (by decide)) (ea_cons (ev_var 3) (ea_cons (ev_var 7) ea_nil)) hbk))) (by rw [hbl])) sm hlim)) (by simp))) (List.nil_sublist _))))
  · refine sv_cons (s_ifF (EvT.is (et_c (ec_eqI (ev_ixT (ev_call Z.core (hr.mono (by decide)) (ea_cons (ev_var 3) (ea_cons (ev_var 7) ea_nil)) (lcoreAll_spec hlc)) ev_int (atI_nat (j := 1) rfl)) ev_int)) (decide_eq_false hw)) sv_nil) ?_
    refine sv_cons (δ1 := [some d0, some (.adr a), none, some (.int e), none, none, none, some (sh o), some (.exc Cn (xN "weight"))]) (μ1 := drMem a l s2 ++ tb) (s_setM 8 hN (em_lamX (L := show LamX.LamS (defScope (top 79)) _ from LamX.lamS_by (by decide +kernel)) (k := 6) Lz (hm _) (hr.mono (by decide)) Z.Z2.nB fun A' outer' s' H' E' f' c' hr' tk' => rze_call Z.chainX hr' tk' (ea_cons (ev_var 3) (ea_cons (ev_var 7) ea_nil)) ⟨_, _, rfl, .weight he1 he2 hl hi hco hne⟩)) ?_
    exact sv_one (s_ret (Ev.is (ev_and (r := true) (t := true) (ev_isX B (ev_var 8) Z.Z2.cn Z.Z.gn Z.Z2.nn) fun _ => ev_one (ev_c (EvC.is (ec_eqS (ev_xfS (ev_var 8) Z.Z2.xf Z.Z2.no rfl) ev_str) rfl))) rfl) (List.nil_sublist _))
end
end Bx
end

-- part BxHk
section
set_option Elab.async false
set_option linter.all false
set_option maxRecDepth 100000
set_option maxHeartbeats 1000000
/-! Boxparts: what the head tells. -/
namespace Bx
open PySem PySem.Spec PyProof.Rows L2
/-! ### an own exception with its own __init__ -/
def oexB (K : PySem.W.Frag) (C : Addr) : Bool := match K.lookup C with
  | some ⟨.type t, _, .cls cd, sl⟩ => decide (t = "type") && ((match sl.toList with
    | [_, _, _, _, some (.builtin n), _] => decide (n = "ValueError.__new__")
    | _ => false) && ((match cd.mro with
    | .ref c :: bm => decide (c = C) && PySem.HandSPX.refsVE bm
    | _ => false) && (cd.hasDict && !cd.hasDel)))
  | _ => false
theorem oexB_ok {K : PySem.W.Frag} {C : Addr} (h : oexB K C = true) : ∃ nm q N bs bm sn sub ab col dd k0 k1 k2 k3 k5, K.lookup C = some (excClassObj nm q C N bs bm true sn sub ab col dd k0 k1 k2 k3 k5 "ValueError.__new__") ∧ PySem.HandSPX.refsVE bm = true := by
  unfold oexB at h
  split at h
  · rename_i t dd cd sl ho
    simp only [Bool.and_eq_true, decide_eq_true_eq, Bool.not_eq_true'] at h
    obtain ⟨rfl, hs, hm, hd, hl⟩ := h
    obtain ⟨nm, bs, mro, ns, qn, hdd, sn, sub, ab, col, del⟩ := cd
    dsimp only at hm hd hl
    subst hd hl
    split at hs
    · rename_i k0 k1 k2 k3 n k5 es
      have hs : n = "ValueError.__new__" := of_decide_eq_true hs
      subst hs
      have esl : sl = #[k0, k1, k2, k3, some (.builtin "ValueError.__new__"), k5] := by
        obtain ⟨l⟩ := sl
        simp only at es
        rw [es]
      split at hm
      · rename_i c bm
        simp only [Bool.and_eq_true, decide_eq_true_eq] at hm
        obtain ⟨rfl, hb⟩ := hm
        subst esl
        exact ⟨nm, qn, ns, bs, bm, sn, sub, ab, col, dd, k0, k1, k2, k3, k5, ho, hb⟩
      · cases hm
    · cases hs
  · cases h
/-! ### __init__ of BadNumber -/
def iniA (K : PySem.W.Frag) : Addr := He.ma K (He.ga K "BadNumber") "__init__"
abbrev IniW : Type := Option (Str × Str × Arguments × FuncBody × Scope × Addr × List Str × Addr)
def iniW (K : PySem.W.Frag) : IniW := match K.lookup (iniA K) with
  | some ⟨_, _, .func fd, _⟩ => some (fd.name, fd.qualname, fd.params, fd.body, fd.scope, fd.globals, fd.closure.map (·.1), fd.builtins)
  | _ => none
def iniV : IniW := some ("__init__", "BadNumber.__init__", defArgs sBadIni, .stmts (defBody sBadIni), defScope sBadIni, mainGlobals, ["__class__"], builtinsNs)
def iniB (file : Str) (K : PySem.W.Frag) : Bool := match K.lookup (iniA K) with
  | some ⟨_, _, .func fd, _⟩ => PySem.W.codeIn K fd.code fd.qualname && ((match fd.defaults with
    | .none => true
    | _ => false) && ((match fd.code with
    | .ref cda => (match K.lookup cda with
      | some ⟨_, _, .fields vs, _⟩ => (match (vs[2]? : Option Value) with
        | some (.str f _) => file == f
        | _ => false)
      | _ => false)
    | _ => false) && (match fd.closure with
    | [(_, cc)] => (match K.lookup cc with
      | some ⟨_, _, .cell (some (.ref C)), _⟩ => decide (C = He.ga K "BadNumber")
      | _ => false)
    | _ => false)))
  | _ => false
theorem ini_ok {K : PySem.W.Frag} {P : Program} (e : iniW K = iniV) (h : iniB P.main.file K = true) : ∃ (fd : FuncData) (oc : Value) (od : Option Addr) (kV doc pm : Value) (an : Option Addr) (cda cc : Addr) (ct : Value) (osl : Array (Option Value)),
    fd = PySem.W.ksFn "__init__" "BadNumber.__init__" (defArgs sBadIni) (defBody sBadIni) (defScope sBadIni) .none kV doc pm an (.ref cda) ct cc ∧ K.lookup (iniA K) = some ⟨oc, od, .func fd, osl⟩ ∧ PySem.W.codeIn K (.ref cda) "BadNumber.__init__" = true ∧
    (∃ (ccl : Value) (cdd : Option Addr) (vs : Array Value) (ccs : Array (Option Value)) (file : Str) (tf : Tok), K.lookup cda = some ⟨ccl, cdd, .fields vs, ccs⟩ ∧ vs[2]? = some (.str file tf) ∧ ((P.main.file : Str) == file) = true) ∧
    ∃ (cl : Value) (cld : Option Addr) (csl : Array (Option Value)), K.lookup cc = some ⟨cl, cld, .cell (some (.ref (He.ga K "BadNumber"))), csl⟩ := by
  unfold iniW at e
  unfold iniB at h
  split at h
  · rename_i oc od fd osl lk
    rw [lk] at e
    obtain ⟨n1, n2, n3, n4, n5, n6, n7, n8, n9, n10, n11, n12, n13, n14, n15⟩ := fd
    have e2 : (some (n1, n2, n3, n4, n5, n6, n7.map (·.1), n15) : IniW) = iniV := e
    simp only [iniV, Option.some.injEq, Prod.mk.injEq] at e2
    obtain ⟨rfl, rfl, rfl, rfl, rfl, rfl, h7, rfl⟩ := e2
    simp only [Bool.and_eq_true] at h
    obtain ⟨hc, hd, hf, hcl⟩ := h
    have hd2 : n8 = .none := by
      cases n8 <;> first | rfl | cases hd
    subst hd2
    split at hf
    · rename_i cda
      split at hf
      · rename_i ccl cdd vs ccs lc
        split at hf
        · rename_i file tf hv
          split at hcl
          · rename_i nm cc
            split at hcl
            · rename_i cl cld Ck csl lcc
              have hC : Ck = He.ga K "BadNumber" := of_decide_eq_true hcl
              subst hC
              have hn : nm = "__class__" := by simpa using h7
              subst hn
              exact ⟨_, oc, od, n9, n10, n11, n12, cda, cc, n14, osl, rfl, lk, hc, ⟨ccl, cdd, vs, ccs, file, tf, lc, hv, hf⟩, cl, cld, csl, lcc⟩
            · cases hcl
          · cases hcl
        · cases hf
      · cases hf
    · cases hf
  · cases h
/-! ### what is told of the classes, in one Bool -/
def opt (a b : Option (Option Value)) : Bool := decide (a = b)
def excB (K : PySem.W.Frag) (C : Addr) : Bool := decide (PySem.W.findIn K (.ref C) "__getattribute__" = some (some (.builtin "BaseException.__getattribute__"))) && (decide (PySem.W.findIn K (.ref C) "__getattr__" = some none) && (decide (PySem.W.subIn K (.ref C) (.type "BaseException") = some true) && (PySem.W.hasDictIn K C &&
  (decide (PySem.W.findIn K (.ref C) "__class__" = some (some (.builtin "object.__class__"))) && (decide (PySem.W.specialIn K (.builtin "object.__class__") "__get__" = some (some (.builtin "getset_descriptor.__get__"))) && (decide (PySem.W.takesIn K (.builtin "object.__class__") = some true) && decide (PySem.W.mroIn K C (.type "object") = some true)))))))
theorem excB_ok {K : PySem.W.Frag} {C : Addr} (h : excB K C = true) : ExcC K C := by
  simp only [excB, Bool.and_eq_true, decide_eq_true_eq] at h
  obtain ⟨h1, h2, h3, h4, h5, h6, h7, h8⟩ := h
  exact ⟨h1, h2, h3, h4, h5, h6, h7, h8⟩
def clsB (file : Str) (K : PySem.W.Frag) : Bool :=
  let C := He.ga K "BadNumber"
  let S := He.ga K "BadShape"
  let B := He.ga K "BoxError"
  oexB K C && (decide (PySem.W.findIn K (.ref C) "__setattr__" = some (some (.builtin "object.__setattr__"))) && (decide (PySem.W.subIn K (.ref C) (.type "BaseException") = some true) && (decide (PySem.W.typeIn K (.ref C) = some (.type "type")) && (PySem.W.keepIn K (.ref C) &&
  (iniB file K && (decide (PySem.W.mroIn K C (.ref C) = some true) && (decide (PySem.W.ks_superIn K C C "__init__" = some (some (.builtin "ValueError.__init__"))) && (decide (PySem.W.subIn K (.ref C) (.type "ValueError") = some true) && (decide (PySem.W.nsIn K PySem.cStatics "thirdparty.any" = some none) &&
  (decide (PySem.W.findIn K (.ref C) "part" = some none) && (decide (PySem.W.findIn K (.ref C) "__init__" = some (some (.ref (iniA K)))) && (decide (PySem.W.typeIn K (.ref (iniA K)) = some (.type "function")) &&
  (excB K C && (excB K S && (decide (PySem.W.kitOne K (.ref C) (.ref C) = some true) && (decide (PySem.W.kitOne K (.ref S) (.ref S) = some true) && (decide (PySem.W.exmOne K (.ref C) (.ref B) = some true) && decide (PySem.W.exmOne K (.ref S) (.ref B) = some true))))))))))))))))))

/-! ### the defs -/
def dfn (i : Nat) (x : Str) : He.DefD := ⟨(x, none), x, x, defArgs (top i), defBody (top i), defScope (top i), [], []⟩
def fn0 : List He.DefD := [dfn 8 "is_number", dfn 9 "is_between", dfn 10 "need_e", dfn 11 "need_few", dfn 15 "is_shape", dfn 16 "need_shape", dfn 17 "shapes_of", dfn 18 "turned_of", dfn 19 "is_free_of", dfn 21 "boxes_of", dfn 22 "colour_of", dfn 23 "all_open", dfn 24 "all_loose", dfn 25 "put_on", dfn 26 "colours_of", dfn 28 "plain", dfn 29 "row_added", dfn 30 "row_product", dfn 32 "sorted_sum", dfn 33 "sum_of_two"]
def fn1 : List He.DefD := [dfn 35 "of_colour", dfn 36 "lots_of", dfn 37 "counted", dfn 38 "put_steps", dfn 39 "led", dfn 40 "put_of", dfn 42 "course_of", dfn 43 "need_free_shape", dfn 44 "ladders_of", dfn 46 "even_part", dfn 47 "settled", dfn 48 "list_of", dfn 49 "sum_of", dfn 50 "list_sum", dfn 52 "hook_of", dfn 53 "rimless", dfn 54 "rimless_all", dfn 55 "core_of", dfn 56 "block_of", dfn 58 "need_weight"]
def fn2 : List He.DefD := [dfn 59 "one_chain", dfn 61 "_law_begun", dfn 62 "_law_mixed", dfn 63 "_law_take", dfn 64 "_law_pick", dfn 65 "_law_caught", dfn 66 "_law_shapes", dfn 67 "_law_shape", dfn 68 "_law_open", dfn 69 "_law_put", dfn 70 "_law_beads", dfn 71 "_law_of_beads", dfn 72 "_law_without", dfn 73 "_law_core", dfn 74 "_law_is_free", dfn 75 "_law_is_above", dfn 76 "_law_block", dfn 77 "_law_weight_one", dfn 78 "_law_refused", dfn 79 "law"]
def fnA : List He.DefD := fn0 ++ (fn1 ++ (fn2))
def fg0 : List He.Fa := [.glo "is_number", .glo "is_between", .glo "need_e", .glo "need_few", .glo "is_shape", .glo "need_shape", .glo "shapes_of", .glo "turned_of", .glo "is_free_of", .glo "boxes_of", .glo "colour_of", .glo "all_open", .glo "all_loose", .glo "put_on", .glo "colours_of", .glo "plain", .glo "row_added", .glo "row_product", .glo "sorted_sum", .glo "sum_of_two"]
def fg1 : List He.Fa := [.glo "of_colour", .glo "lots_of", .glo "counted", .glo "put_steps", .glo "led", .glo "put_of", .glo "course_of", .glo "need_free_shape", .glo "ladders_of", .glo "even_part", .glo "settled", .glo "list_of", .glo "sum_of", .glo "list_sum", .glo "hook_of", .glo "rimless", .glo "rimless_all", .glo "core_of", .glo "block_of", .glo "need_weight"]
def fg2 : List He.Fa := [.glo "one_chain", .glo "_law_begun", .glo "_law_mixed", .glo "_law_take", .glo "_law_pick", .glo "_law_caught", .glo "_law_shapes", .glo "_law_shape", .glo "_law_open", .glo "_law_put", .glo "_law_beads", .glo "_law_of_beads", .glo "_law_without", .glo "_law_core", .glo "_law_is_free", .glo "_law_is_above", .glo "_law_block", .glo "_law_weight_one", .glo "_law_refused", .glo "law"]
def fgB : List He.Fa := [.free "len", .free "sum", .free "min", .free "max", .free "range", .free "sorted", .free "tuple", .free "list", .free "dict", .free "all", .free "zip", .free "enumerate", .free "isinstance", .free "int", .free "bool", .free "abs", .free "repr", .free "super", .free "ValueError"]
def fgC : List He.Fa := [.glo "BadNumber", .glo "BadShape", .glo "BoxError", .int "MOST_E" 20, .int "MOST_BOXES" 16, .int "MOST_LISTED" 12, .exc "BadShape"]
def faA : List He.Fa := fgC ++ (fgB ++ (fg0 ++ (fg1 ++ (fg2))))
def nm0 : List PySem.Str := ["BoxError", "BadNumber", "BadShape", "TooMany", "NotFree", "MOST_E", "is_number", "is_between", "need_e", "need_few", "MOST_BOXES", "MOST_LISTED", "is_shape", "need_shape", "shapes_of", "turned_of", "is_free_of", "boxes_of", "colour_of", "all_open"]
def nm1 : List PySem.Str := ["all_loose", "put_on", "colours_of", "plain", "row_added", "row_product", "sorted_sum", "sum_of_two", "of_colour", "lots_of", "counted", "put_steps", "led", "put_of", "course_of", "need_free_shape", "ladders_of", "even_part", "settled", "list_of"]
def nm2 : List PySem.Str := ["sum_of", "list_sum", "hook_of", "rimless", "rimless_all", "core_of", "block_of", "need_weight", "one_chain", "_law_begun", "_law_mixed", "_law_take", "_law_pick", "_law_caught", "_law_shapes", "_law_shape", "_law_open", "_law_put", "_law_beads", "_law_of_beads"]
def nm3 : List PySem.Str := ["_law_without", "_law_core", "_law_is_free", "_law_is_above", "_law_block", "_law_weight_one", "_law_refused"]
def namesA : List PySem.Str := nm0 ++ (nm1 ++ (nm2 ++ (nm3)))
def tfA : List He.Defn := [("law", none), ("_law_refused", none)]
/-! ### the Hook -/
structure SaysY (file : Str) (h : Heap) (K : PySem.W.Frag) : Prop where
  d : He.SaysD faA fnA K
  cls : clsB file K = true
  ini : iniW K = iniV
  hd : ∀ p ∈ tfA, PySem.W.codeHdIn K (He.cT K p).1 (He.cT K p).2 = true
  out : ∀ p ∈ tfA, K.lookup (He.cT K p).2 = none
  empty : ∀ p ∈ tfA, h.get? (He.cT K p).2 = some { cls := .none, data := .fields #[] }
  ne : (He.cT K ("law", none)).2 ≠ (He.cT K ("_law_refused", none)).2
abbrev AlY : Type := He.AlD × IniW × Bool
def kY (g : Addr → Option Obj) : PySem.W.Frag := He.frT g (PySem.cStatics :: He.asD g 5)
def moreB (file : Str) (g : Addr → Option Obj) (K : PySem.W.Frag) : Bool := clsB file K && (He.tabsB g tfA K && decide ((He.cT K ("law", none)).2 ≠ (He.cT K ("_law_refused", none)).2))
def obsK (file : Str) (g : Addr → Option Obj) (K : PySem.W.Frag) : AlY := (He.obsD faA fnA K, iniW K, moreB file g K)
def obsY (file : Str) (g : Addr → Option Obj) : AlY := obsK file g (kY g)
def valY : AlY := (He.valD fnA, iniV, true)
theorem saysY_of {file : Str} {h : Heap} (e : obsY file h.get? = valY) : SaysY file h (kY h.get?) := by
  have e1 : He.obsD faA fnA (kY h.get?) = He.valD fnA := congrArg (fun z : AlY => z.1) e
  have e2 : iniW (kY h.get?) = iniV := congrArg (fun z : AlY => z.2.1) e
  have e3 : moreB file h.get? (kY h.get?) = true := congrArg (fun z : AlY => z.2.2) e
  obtain ⟨h1, h2⟩ := He.ba e3
  obtain ⟨h3, h4⟩ := He.ba h2
  have key : ∀ p ∈ tfA, PySem.W.codeHdIn (kY h.get?) (He.cT (kY h.get?) p).1 (He.cT (kY h.get?) p).2 = true ∧ ∃ o, h.get? (He.cT (kY h.get?) p).2 = some o ∧ He.emptyTab o = true := fun p hp => by
    obtain ⟨z1, z2⟩ := He.ba (List.all_eq_true.mp h3 p hp)
    refine ⟨z1, ?_⟩
    cases q : h.get? (He.cT (kY h.get?) p).2 with
    | none => rw [q] at z2; cases z2
    | some o => rw [q] at z2; exact ⟨o, rfl, z2⟩
  exact ⟨e1, h1, e2, fun p hp => (key p hp).1, fun p hp => by
    obtain ⟨_, o, q, z⟩ := key p hp
    exact He.frT_none q z, fun p hp => by
    obtain ⟨_, o, q, z⟩ := key p hp
    rw [q, He.emptyTab_eq z], of_decide_eq_true h4⟩
def hookY (file : Str) : PySem.W.Hook where
  α := AlY
  obs := fun s => obsY file s.heap.get?
  val := fun _ => valY
  says := fun _ h => ∃ K : PySem.W.Frag, K.In h ∧ SaysY file h K
  of := fun _ _ e => ⟨_, He.frT_in, saysY_of e⟩
  keeps := fun _ _ _ ⟨K, hK, c⟩ k => ⟨K, PySem.W.Frag.In.keeps hK k, ⟨c.d, c.cls, c.ini, c.hd, c.out, fun p hp => k _ _ (c.empty p hp), c.ne⟩⟩
theorem obsY_eq {file : Str} {g : Addr → Option Obj} {s : Shared} (h : ∀ a, g a = s.heap.get? a) : obsY file g = (hookY file).obs s := by
  have e : g = s.heap.get? := funext h
  rw [e] <;> rfl
end Bx
end

-- part BxHr
section
set_option Elab.async false
set_option linter.all false
set_option maxRecDepth 100000
set_option maxHeartbeats 0
/-! Boxparts: the top's run. -/
namespace BxHead
open PySem PySem.W PySem.Calls PyProof.Rows
abbrev R : OpenRow := OpenLaw.row PySem.Challenge.rw_boxparts_k48_whole_weight_one
abbrev fl : PySem.Str := "/claim/cut.py"
abbrev qv : Program := view R.prog [79]
def ob (s : SharedT) : Bx.AlY := Bx.obsY fl (HandSHeadRun.getT s)
theorem ob_eq (s : SharedT) : ob s = (Bx.hookY fl).obs s.abs := Bx.obsY_eq (HandSHeadRun.getT_eq s)
theorem run (w : World) : HandSHeadRun.RunEq R qv (Bx.hookY fl) ob 6000 Bx.namesA w := by
  intro os
  kernel_rfl
end BxHead
end

-- part BxFi
section
set_option Elab.async false
set_option linter.all false
set_option maxRecDepth 100000
set_option maxHeartbeats 1000000
/-! Boxparts: the finite check, its words. -/
namespace Bx
open PySem PySem.Spec PyProof.Rows L2
def lcF (e : Int) : Nat → CoSt → Option CoSt
  | 0, _ => none
  | n + 1, q0 => match lcoreOk e q0 with
    | false => none
    | true => match (lwithout q0.1 e).getLast? with
      | none => some q0
      | some t => lcF e n (t, q0.2 + 1)
theorem itM_fix {α : Type} {f : α → α} {a : α} (h : f a = a) : ∀ i, itM f i a = a
  | 0 => rfl
  | i + 1 => by
    show itM f i (f a) = a
    rw [h, itM_fix h i]
theorem lcF_spec {e : Int} {r : CoSt} : ∀ {n : Nat} {q0 : CoSt}, lcF e n q0 = some r → ∀ i, lcoreOk e (itM (lcoreStep e) i q0) = true ∧ (n ≤ i → itM (lcoreStep e) i q0 = r)
  | 0, _, h => nomatch h
  | n + 1, q0, h => by
    unfold lcF at h
    cases hok : lcoreOk e q0 with
    | false => rw [hok] at h; cases h
    | true =>
      rw [hok] at h
      cases hg : (lwithout q0.1 e).getLast? with
      | none =>
        simp only [hg] at h
        have hf : lcoreStep e q0 = q0 := by unfold lcoreStep; rw [hg]
        intro i
        rw [itM_fix hf]
        exact ⟨hok, fun _ => Option.some.inj h⟩
      | some t =>
        simp only [hg] at h
        have hs : lcoreStep e q0 = (t, q0.2 + 1) := by unfold lcoreStep; rw [hg]
        intro i
        cases i with
        | zero => exact ⟨hok, fun z => absurd z (by omega)⟩
        | succ i =>
          show lcoreOk e (itM (lcoreStep e) i (lcoreStep e q0)) = true ∧ (n + 1 ≤ i + 1 → itM (lcoreStep e) i (lcoreStep e q0) = r)
          rw [hs]
          obtain ⟨h1, h2⟩ := lcF_spec h i
          exact ⟨h1, fun z => h2 (by omega)⟩
def lc (e : Int) (s : List Int) : Option CoSt := lcF e 20 (s, 0)
theorem lc_spec {e : Int} {s : List Int} {c : CoSt} (h : lc e s = some c) : lcoreAll e s = true ∧ lcore e s = c :=
  ⟨List.all_eq_true.mpr fun i _ => (lcF_spec h i).1, (lcF_spec h 20).2 (Nat.le_refl _)⟩
def wOf (e : Int) (s : List Int) : Int := match lc e s with
  | some c => c.2
  | none => -1
def kOf (e : Int) (s : List Int) : List Int := match lc e s with
  | some c => c.1
  | none => [-1]
theorem lc_w {e : Int} {s : List Int} (h : (lc e s).isSome = true) : lcoreAll e s = true ∧ (lcore e s).2 = wOf e s ∧ (lcore e s).1 = kOf e s := by
  obtain ⟨c, hc⟩ := Option.isSome_iff_exists.mp h
  obtain ⟨h1, h2⟩ := lc_spec hc
  unfold wOf kOf
  rw [hc, h2]
  exact ⟨h1, rfl, rfl⟩
def shP (n : Int) (P : List (List Int)) : Bool := match shRun n with
  | some r => sortOkB r.1 && decide (sortS r.1 = P)
  | none => false
def lsP (n : Int) (P : List (List Int)) : Bool := match lsRun n with
  | some r => sortOkB r.1 && decide (sortS r.1 = P)
  | none => false
def plP (n : Int) (P : List (List Int)) : Bool := P.all (fun s => smB s && (isShp s && decide (s.sum = n))) && decide (P.length < 1000)
structure PtOk (n : Int) (P : List (List Int)) : Prop where
  sh : ∃ r, shRun n = some r ∧ SortOk r.1 ∧ sortS r.1 = P
  ls : ∃ r, lsRun n = some r ∧ SortOk r.1 ∧ sortS r.1 = P
  sm : ∀ s ∈ P, Sm s
  shp : ∀ s ∈ P, isShp s = true
  sum : ∀ s ∈ P, s.sum = n
  len : P.length < 1000
theorem ptOk {n : Int} {P : List (List Int)} (h1 : shP n P = true) (h2 : lsP n P = true) (h3 : plP n P = true) : PtOk n P := by
  unfold shP at h1
  unfold lsP at h2
  unfold plP at h3
  have h3 := Bool.and_eq_true_iff.mp h3
  have key : ∀ s ∈ P, Sm s ∧ isShp s = true ∧ s.sum = n := fun s hs => by
    have z := List.all_eq_true.mp h3.1 s hs
    simp only [Bool.and_eq_true, decide_eq_true_eq] at z
    exact ⟨sm_of z.1, z.2.1, z.2.2⟩
  refine ⟨?_, ?_, fun s hs => (key s hs).1, fun s hs => (key s hs).2.1, fun s hs => (key s hs).2.2, of_decide_eq_true h3.2⟩
  · cases hr : shRun n with
    | none => rw [hr] at h1; cases h1
    | some r =>
      rw [hr] at h1
      have z := Bool.and_eq_true_iff.mp h1
      exact ⟨r, rfl, sortOk_of z.1, of_decide_eq_true z.2⟩
  · cases hr : lsRun n with
    | none => rw [hr] at h2; cases h2
    | some r =>
      rw [hr] at h2
      have z := Bool.and_eq_true_iff.mp h2
      exact ⟨r, rfl, sortOk_of z.1, of_decide_eq_true z.2⟩
def coW (e : Int) (o : List Int) (n : Int) : Bool := match coRun e o with
  | some t => decide (t.2 = n)
  | none => false
theorem coW_ok {e n : Int} {o : List Int} (h : coW e o n = true) : ∃ t, coRun e o = some t ∧ t.2 = n := by
  unfold coW at h
  cases hr : coRun e o with
  | none => rw [hr] at h; cases h
  | some t => rw [hr] at h; exact ⟨t, rfl, of_decide_eq_true h⟩
/-- one_chain at o is tl -/
def chB (e : Int) (P tl : List (List Int)) (o : List Int) : Bool := coW e o 1 && (sortOkB (blockL e o P) && decide (sortR (blockL e o P) = tl))
def eachB (e : Int) (P tl : List (List Int)) : List (List Int) → Bool
  | [] => true
  | o :: t => (lfree e o == !t.isEmpty) && (chB e P tl o && eachB e P tl t)
def lsumB (e : Int) (m : Option (List (List Int × Summ))) (o o2 : List Int) : Bool := match m with
  | none => true
  | some m => match look m o with
    | none => false
    | some r => isFree e o && eqSum r (putAll [(o, [((0 : Int), (1 : Int))]), (o2, [((1 : Int), (1 : Int))])])
def nextB (e : Int) (m : Option (List (List Int × Summ))) : List (List Int) → Bool
  | [] => true
  | [_] => true
  | o :: o2 :: t => above o o2 && (lsumB e m o o2 && nextB e m (o2 :: t))
def glB (e : Int) (P : List (List Int)) (m : Option (List (List Int × Summ))) (o : List Int) : Bool :=
  let tl := sortR (blockL e o P)
  decide ((tl.length : Int) = e) && (decide (P.filter (fun p => decide (kOf e p = kOf e o)) = tl.reverse) && (eachB e P tl tl && nextB e m tl))
def enB (e n : Int) (P : List (List Int)) : Bool := P.all (fun o => (lc e o).isSome) && (match decide (n < 10) with
  | true => (match listR2 e n with
    | some m => P.all fun o => !decide (wOf e o = 1) || glB e P (some m) o
    | none => false)
  | false => P.all fun o => !decide (wOf e o = 1) || glB e P none o)
end Bx
end

-- part BxFo
section
set_option Elab.async false
set_option linter.all false
set_option maxRecDepth 100000
set_option maxHeartbeats 1000000
/-! Boxparts: from the finite check to what the laps ask. -/
namespace Bx
open PySem PySem.Spec PyProof.Rows L2
section
variable {e n : Int} {P : List (List Int)} {m : Option (List (List Int × Summ))} {o : List Int}
theorem mem_sortR {l : List (List Int)} {x : List Int} : x ∈ sortR l ↔ x ∈ l := (isrt_perm _ l).mem_iff
theorem chB_ok {tl : List (List Int)} (pt : PtOk n P) (he : 2 ≤ e) (he2 : e ≤ 20) (ho : o ∈ P) (h : chB e P tl o = true) : RChain [.int e, sh o] (.tup (tl.map sh)) := by
  simp only [chB, Bool.and_eq_true, decide_eq_true_eq] at h
  obtain ⟨h1, h2, h3⟩ := h
  obtain ⟨t, ht, ht2⟩ := coW_ok h1
  obtain ⟨r, hr, so, hP⟩ := pt.sh
  refine ⟨e, o, t, r, rfl, he, he2, pt.sm o ho, pt.shp o ho, ht, ht2, by rw [pt.sum o ho]; exact hr, so, by rw [hP]; exact pt.sm, by rw [hP]; exact sortOk_of h2, by rw [hP, h3]⟩
theorem eachB_spec {tl : List (List Int)} : ∀ {L : List (List Int)}, eachB e P tl L = true → ∀ (k : Nat) o, L[k]? = some o → lfree e o = decide (k + 1 < L.length) ∧ chB e P tl o = true
  | [], _, k, o, h => by simp at h
  | x :: L, h, 0, o, hk => by
    simp only [eachB, Bool.and_eq_true, beq_iff_eq] at h
    have e1 : x = o := by simpa using hk
    subst e1
    refine ⟨?_, h.2.1⟩
    rw [h.1]
    cases L with
    | nil => rfl
    | cons y t => simp
  | x :: L, h, k + 1, o, hk => by
    simp only [eachB, Bool.and_eq_true] at h
    obtain ⟨a, b⟩ := eachB_spec h.2.2 k o (by simpa using hk)
    refine ⟨?_, b⟩
    rw [a, decide_eq_decide, List.length_cons]
    omega
theorem nextB_spec : ∀ {L : List (List Int)}, nextB e m L = true → ∀ (k : Nat) o o2, L[k]? = some o → L[k + 1]? = some o2 → above o o2 = true ∧ lsumB e m o o2 = true
  | [], _, k, o, o2, h, _ => by simp at h
  | [x], _, k, o, o2, h, h2 => by simp at h2
  | x :: y :: L, h, 0, o, o2, hk, hk2 => by
    simp only [nextB, Bool.and_eq_true] at h
    have e1 : x = o := by simpa using hk
    have e2 : y = o2 := by simpa using hk2
    subst e1 e2
    exact ⟨h.1, h.2.1⟩
  | x :: y :: L, h, k + 1, o, o2, hk, hk2 => by
    simp only [nextB, Bool.and_eq_true] at h
    exact nextB_spec h.2.2 k o o2 (by simpa using hk) (by simpa using hk2)
theorem filter_core (hl : ∀ p ∈ P, (lc e p).isSome = true) (ho : o ∈ P) : lblock e o P = P.filter fun p => decide (kOf e p = kOf e o) := by
  unfold lblock
  refine List.filter_congr fun p hp => ?_
  rw [(lc_w (hl p hp)).2.2, (lc_w (hl o ho)).2.2]
theorem lblock_ok {tl : List (List Int)} (pt : PtOk n P) (hl : ∀ p ∈ P, (lc e p).isSome = true) (ho : o ∈ P) (h : P.filter (fun p => decide (kOf e p = kOf e o)) = tl.reverse) : RLblock [.int e, sh o] (.lst (tl.reverse.map sh)) := by
  obtain ⟨r, hr, so, hP⟩ := pt.ls
  exact ⟨e, o, r, rfl, (lc_w (hl o ho)).1, by rw [pt.sum o ho]; exact hr, so, by rw [hP]; exact fun p hp => (lc_w (hl p hp)).1, by rw [hP, filter_core hl ho, h]⟩
theorem glB_ok (pt : PtOk n P) (he : 2 ≤ e) (he2 : e ≤ 20) (hn : n ≤ 12) (hl : ∀ p ∈ P, (lc e p).isSome = true) (hm : n < 10 → ∃ mm, m = some mm ∧ listR2 e n = some mm) (ho : o ∈ P) (h : glB e P m o = true) : GoodL e o (sortR (blockL e o P)) := by
  simp only [glB, Bool.and_eq_true, decide_eq_true_eq] at h
  obtain ⟨hlen, hbl, heach, hnext⟩ := h
  have sub : ∀ {x}, x ∈ sortR (blockL e o P) → x ∈ P := fun hx => (List.mem_filter.mp (mem_sortR.mp hx)).1
  have mo : o ∈ sortR (blockL e o P) := mem_sortR.mpr (List.mem_filter.mpr ⟨ho, decide_eq_true rfl⟩)
  generalize hT : sortR (blockL e o P) = tl at hlen hbl heach hnext sub mo ⊢
  refine ⟨?_, lblock_ok pt hl ho hbl, hlen, ?_, fun x hx => pt.sm x (sub hx), fun k x hk => ?_, fun k x x2 hk hk2 => ?_⟩
  · obtain ⟨k, hk, hk2⟩ := List.mem_iff_getElem.mp mo
    exact chB_ok pt he he2 ho (eachB_spec heach k o (by rw [List.getElem?_eq_getElem hk, hk2])).2
  · omega
  · obtain ⟨a, b⟩ := eachB_spec heach k x hk
    exact ⟨a, chB_ok pt he he2 (sub (List.mem_of_getElem? hk)) b⟩
  · obtain ⟨a, b⟩ := nextB_spec hnext k x x2 hk hk2
    refine ⟨a, fun h10 => ?_⟩
    have hxP := sub (List.mem_of_getElem? hk)
    rw [pt.sum o ho] at h10
    obtain ⟨mm, rfl, hmm⟩ := hm h10
    unfold lsumB at b
    cases hr : look mm x with
    | none => simp only [hr] at b; cases b
    | some r =>
      simp only [hr, Bool.and_eq_true] at b
      refine ⟨r, ⟨e, x, r, rfl, ⟨e, x, rfl, he, he2, pt.shp x hxP, pt.sm x hxP, b.1, by rw [pt.sum x hxP]; exact hn⟩, ?_, rfl⟩, b.2⟩
      unfold sumR2
      rw [pt.sum x hxP, hmm]
      exact hr
end
/-- what is known of e and all shapes of n boxes -/
structure EnOk (e n : Int) (P : List (List Int)) : Prop where
  pt : PtOk n P
  lc : ∀ p ∈ P, (lc e p).isSome = true
  good : ∀ o ∈ P, wOf e o = 1 → GoodL e o (sortR (blockL e o P))
theorem enOk {e n : Int} {P : List (List Int)} (pt : PtOk n P) (he : 2 ≤ e) (he2 : e ≤ 20) (hn : n ≤ 12) (h : enB e n P = true) : EnOk e n P := by
  unfold enB at h
  obtain ⟨h1, h2⟩ := Bool.and_eq_true_iff.mp h
  have hl : ∀ p ∈ P, (lc e p).isSome = true := fun p hp => List.all_eq_true.mp h1 p hp
  refine ⟨pt, hl, fun o ho hw => ?_⟩
  have use : ∀ {m : Option (List (List Int × Summ))}, (P.all fun o => !decide (wOf e o = 1) || glB e P m o) = true → glB e P m o = true := fun h => by
    have z := List.all_eq_true.mp h o ho
    rw [hw] at z
    simpa using z
  by_cases hn10 : n < 10
  · rw [decide_eq_true hn10] at h2
    cases hm : listR2 e n with
    | none => simp only [hm] at h2; cases h2
    | some mm =>
      simp only [hm] at h2
      exact glB_ok pt he he2 hn hl (fun _ => ⟨mm, rfl, hm⟩) ho (use h2)
  · rw [decide_eq_false hn10] at h2
    exact glB_ok pt he he2 hn hl (fun z => absurd z hn10) ho (use h2)
/-! ### the laps -/
theorem wSome_mem {e : Int} {k : Nat} {x : Int} (h : x ∈ wSome e k) : ∃ i : Nat, i < k ∧ x = e + (i : Int) := by
  obtain ⟨i, hi, hx⟩ := List.mem_flatMap.mp h
  exact ⟨i, List.mem_range.mp hi, List.eq_of_mem_replicate hx⟩
theorem wLen : ∀ e ∈ e8, ∀ m ∈ m4, 0 < (wSome e (m + 1 - e).toNat).length ∧ (wSome e (m + 1 - e).toNat).length < 1000 := by decide +kernel
theorem e8_bd : ∀ e ∈ e8, 2 ≤ e ∧ e ≤ 8 := by decide
theorem m4_bd : ∀ m ∈ m4, 9 ≤ m ∧ m ≤ 12 := by decide
theorem lap_ok (pt : Int → List (List Int)) (H : ∀ e ∈ e8, ∀ n, e ≤ n → n ≤ 12 → EnOk e n (pt n)) (H1 : ∀ e ∈ e8, [e] ∈ pt e ∧ wOf e [e] = 1) (s : Dst) : ∃ s', LapOk s s' := by
  have hb1 := takeV_bd s (n := 8) (by decide)
  have hb2 := takeV_bd (takeS s 8) (n := 4) (by decide)
  have me : e8.getD (takeV s 8).toNat 0 ∈ e8 := getD_mem (by show _ < 8; omega)
  have mm : m4.getD (takeV (takeS s 8) 4).toNat 0 ∈ m4 := getD_mem (by show _ < 4; omega)
  have R1 := fun a l => rpick (xs := e8) (enc := D.int) (n := 8) (z := 0) rfl (by decide) (by decide) a l s
  have R2 := fun a l => rpick (xs := m4) (enc := D.int) (n := 4) (z := 0) rfl (by decide) (by decide) a l (takeS s 8)
  generalize e8.getD (takeV s 8).toNat 0 = e at me R1
  generalize m4.getD (takeV (takeS s 8) 4).toNat 0 = most at mm R2
  generalize takeS s 8 = s1 at R1 R2
  generalize takeS s1 4 = s2 at R2
  obtain ⟨be1, be2⟩ := e8_bd e me
  obtain ⟨bm1, bm2⟩ := m4_bd most mm
  obtain ⟨l1, l2⟩ := wLen e me most mm
  have hb3 := takeV_bd s2 (n := (wSome e (most + 1 - e).toNat).length) (by omega)
  have hmem : wMany e most s2 ∈ wSome e (most + 1 - e).toNat := getD_mem (by omega)
  obtain ⟨i, hi, hwm⟩ := wSome_mem hmem
  have en := H e me (wMany e most s2) (by omega) (by omega)
  obtain ⟨t, ht, so, hP⟩ := en.pt.ls
  have hw : ∀ p ∈ pt (wMany e most s2), (lcore e p).2 = wOf e p := fun p hp => (lc_w (en.lc p hp)).2.1
  have R3 : ∀ a l, RWone [.adr a, .int e, .int most] (drMem a l s2) (sh (wRes e most s2 (sortS t.1))) (drMem a l (wS2 e most s2 (sortS t.1))) := fun a l =>
    ⟨a, l, s2, e, most, t, rfl, rfl, by omega, by omega, by omega, l2, l1, ht, so, by rw [hP]; exact fun o ho => (lc_w (en.lc o ho)).1, by rw [hP]; exact en.pt.len, rfl, rfl⟩
  have hgood : ∃ tl, GoodL e (wRes e most s2 (sortS t.1)) tl := by
    rw [hP]
    unfold wRes
    by_cases hem : (wFound e (pt (wMany e most s2))).isEmpty = true
    · rw [if_pos hem]
      obtain ⟨h1, h2⟩ := H1 e me
      exact ⟨_, (H e me e (by omega) (by omega)).good _ h1 h2⟩
    · rw [if_neg hem]
      have hpos : 0 < (wFound e (pt (wMany e most s2))).length := by
        cases q : wFound e (pt (wMany e most s2)) with
        | nil => rw [q] at hem; exact absurd rfl hem
        | cons _ _ => simp
      have hb4 := takeV_bd (wS1 e most s2) (n := (wFound e (pt (wMany e most s2))).length) (by omega)
      have hm2 : (wFound e (pt (wMany e most s2))).getD (takeV (wS1 e most s2) (wFound e (pt (wMany e most s2))).length).toNat [] ∈ wFound e (pt (wMany e most s2)) := getD_mem (by omega)
      obtain ⟨h1, h2⟩ := List.mem_filter.mp hm2
      have h2 := of_decide_eq_true h2
      rw [hw _ h1] at h2
      exact ⟨_, en.good _ h1 h2⟩
  obtain ⟨tl, hG⟩ := hgood
  exact ⟨_, e, most, _, tl, s1, s2, _, R1, R2, R3, hG, rfl⟩
/-! ### drawn shapes of other weights -/
def grB (e : Int) (P : List (List Int)) : Bool := P.all fun o => (lc e o).isSome && (match coRun e o with
  | some t => decide (t.2 = 1) == decide (wOf e o = 1)
  | none => false)
theorem goodR_of {e n : Int} {P : List (List Int)} {o : List Int} (h : grB e P = true) (hP : ∀ s ∈ P, Sm s ∧ isShp s = true) (hg : wOf e o = 1 → ∃ d, RChain [.int e, sh o] d) (ho : o ∈ P) : GoodR e o := by
  have z := List.all_eq_true.mp h o ho
  obtain ⟨z1, z2⟩ := Bool.and_eq_true_iff.mp z
  obtain ⟨a, b, _⟩ := lc_w z1
  have hl := (hP o ho).1.len
  cases hr : coRun e o with
  | none => simp only [hr] at z2; cases z2
  | some t =>
    simp only [hr, beq_iff_eq] at z2
    refine ⟨a, by omega, (hP o ho).2, t, hr, ?_⟩
    rw [b]
    by_cases hw : wOf e o = 1
    · exact .inl ⟨hw, hg hw⟩
    · rw [decide_eq_false hw] at z2
      exact .inr ⟨hw, of_decide_eq_false z2⟩
def closB (P Q : List (List Int)) : Bool := P.all fun s => (lopen s).all fun p => Q.contains (lput s p)
theorem clos_ok {pt : Nat → List (List Int)} (h0 : [] ∈ pt 0) (h : ∀ i, i < 10 → closB (pt i) (pt (i + 1)) = true) (s : Dst) : ∀ i, i ≤ 10 → (itM lshStep i ([], s)).1 ∈ pt i
  | 0, _ => h0
  | i + 1, hi => by
    have ih := clos_ok h0 h s i (by omega)
    rw [itM_succ]
    generalize itM lshStep i ([], s) = q at ih ⊢
    have z := List.all_eq_true.mp (List.all_eq_true.mp (h i (by omega)) q.1 ih)
    obtain ⟨_, _, l3, _⟩ := lopen_spec (s := q.1)
    have hb := takeV_bd q.2 (n := (lopen q.1).length) (by omega)
    have hm : (lopen q.1).getD (takeV q.2 (lopen q.1).length).toNat (0, 0) ∈ lopen q.1 := getD_mem (by omega)
    exact List.contains_iff_mem.mp (z _ hm)
/-! ### the last shapes -/
def ggB (e : Int) (P : List (List Int)) (s : List Int) : Bool := match decide (wOf e s = 1) with
  | true => chB e P (sortR (blockL e s P)) s && decide (P.filter (fun p => decide (kOf e p = kOf e s)) = (sortR (blockL e s P)).reverse)
  | false => match coRun e s with
    | some t => !decide (t.2 = 1)
    | none => false
theorem goodG_of {e n : Int} {P : List (List Int)} {s : List Int} (pt : PtOk n P) (he : 2 ≤ e) (he2 : e ≤ 20) (hl : ∀ p ∈ P, (lc e p).isSome = true) (ho : s ∈ P) (h : ggB e P s = true) : GoodG e s := by
  obtain ⟨a, b, _⟩ := lc_w (hl s ho)
  have hsl := (pt.sm s ho).len
  unfold ggB at h
  by_cases hw : wOf e s = 1
  · rw [decide_eq_true hw] at h
    obtain ⟨h1, h2⟩ := Bool.and_eq_true_iff.mp h
    have h1' := h1
    simp only [chB, Bool.and_eq_true] at h1'
    obtain ⟨t, ht, ht2⟩ := coW_ok h1'.1
    have sub : ∀ {x}, x ∈ sortR (blockL e s P) → x ∈ P := fun hx => (List.mem_filter.mp (mem_sortR.mp hx)).1
    refine ⟨a, he, he2, by omega, pt.shp s ho, t, ht, .inl ⟨by rw [b]; exact hw, sortR (blockL e s P), chB_ok pt he he2 ho h1, lblock_ok pt hl ho (of_decide_eq_true h2), fun o h => pt.sm o (sub h), ?_⟩⟩
    have l1 : (sortR (blockL e s P)).length = (blockL e s P).length := (isrt_perm _ _).length_eq
    have l2 : (blockL e s P).length ≤ P.length := List.length_filter_le _ _
    have l3 := pt.len
    omega
  · rw [decide_eq_false hw] at h
    cases hr : coRun e s with
    | none => simp only [hr] at h; cases h
    | some t =>
      simp only [hr, Bool.not_eq_true', decide_eq_false_iff_not] at h
      exact ⟨a, he, he2, by omega, pt.shp s ho, t, hr, .inr ⟨by rw [b]; exact hw, h⟩⟩
end Bx
end

-- part BxEn
section
set_option Elab.async false
set_option linter.all false
set_option maxRecDepth 100000
set_option maxHeartbeats 1000000
/-! Boxparts: the end of the law's row: the law's def called from the claim's caller, under whom no repr is under way. -/
namespace Bx
open PySem PySem.Spec PyProof.Rows L2
/-- what is tracked at the start: the empty tables, and the script where the written part does not tell it -/
noncomputable def H00 (K : PySem.W.Frag) (ts : List Addr) (a : Addr) (u : HO) : Hp := fun b =>
  if b ∈ ts then some (.tbl #[]) else if b = a ∧ K.lookup a = none then some u else none
section
variable {K : PySem.W.Frag} {ts : List Addr} {a b : Addr} {u o : HO}
theorem H00.tab (h : b ∈ ts) : H00 K ts a u b = some (.tbl #[]) := if_pos h
theorem H00.cases (h : H00 K ts a u b = some o) : (b ∈ ts ∧ o = .tbl #[]) ∨ (b ∉ ts ∧ b = a ∧ K.lookup a = none ∧ o = u) := by
  unfold H00 at h
  split at h
  · rename_i q; cases h; exact .inl ⟨q, rfl⟩
  · rename_i q
    split at h
    · rename_i z; cases h; exact .inr ⟨q, z.1, z.2, rfl⟩
    · cases h
theorem H00.script (h : a ∉ ts) (hk : K.lookup a = none) : H00 K ts a u a = some u := by
  unfold H00
  rw [if_neg h, if_pos ⟨rfl, hk⟩]
end
section
variable {P : Program} {w : World} {K : PySem.W.Frag} {mg mb : Str → Option Value} {fa a : Addr} {cs : List (Addr × Addr)} {s₁ : Shared} {vs : List Value} {ns : List Int}
/-- the call of the law's def, where the body is told of callerA alone -/
theorem law_end (KX : K.In s₁.heap) (gl : s₁.heap.Ns mainGlobals mg) (bl : s₁.heap.Ns builtinsNs mb) (bb : ∀ x : Str, x ≠ "__name__" → mb x = bootBuiltins x) (lim : s₁.heap.NoLimit) (gens : s₁.gens = #[])
    (hT : ∀ p ∈ cs, s₁.heap.get? p.2 = some { cls := .none, data := .fields #[] }) (nT : ∀ p ∈ cs, K.lookup p.2 = none) (hC : ∀ p ∈ cs, PySem.W.CodeHd s₁.heap p.1 p.2)
    (bm : ∃ (bm : Addr) (ob : Obj), mg "__builtins__" = some (.ref bm) ∧ bm ≠ builtinsNs ∧ s₁.heap.get? bm = some ob ∧ ob.cls = .type "module" ∧ ob.dict = some builtinsNs ∧ ob.data = .plain)
    (ha : s₁.heap.get? a = some { cls := .type "list", data := .seq vs.toArray }) (hi : IntsAre vs ns) (hl : ns.length ≤ sizeLine)
    (F : ∀ (base : Heap) (H : Hp), K.In base → base.Ns mainGlobals mg → (∀ p ∈ cs, LamX.TabB base mg p.1 p.2) → (∀ p ∈ cs, H p.2 = some (.tbl #[])) → ((∃ o, H a = some (.frz o (.lst (ns.map V.int)))) ∨ ∀ H', SqL K H' a (ns.map V.int)) → Env0 P w K mg base callerA [] s₁ H →
      codeAny (model P w) callerA (.call (.ref fa) ⟨[.ref a], []⟩) (CR CX0 [] P w H s₁ (fun v _ => v = .bl true) E0) s₁) :
    codeAny (model P w) callerA (.call (.ref fa) ⟨[.ref a], []⟩) (fun r s' => r = .ok (.ret (.bool true)) ∧ OldK s₁.heap s'.heap ∧ s'.os = s₁.os ∧ AllBare s'.gens) s₁ := by
  have rv := vals_ints hi
  have lenV := hi.length
  have tsT : ∀ b ∈ cs.map (·.2), s₁.heap.get? b = some { cls := .none, data := .fields #[] } := fun b hb => by
    obtain ⟨p, hp, rfl⟩ := List.mem_map.mp hb
    exact hT p hp
  have mT : ∀ {p}, p ∈ cs → p.2 ∈ cs.map (·.2) := fun hp => List.mem_map_of_mem (f := (·.2)) hp
  have aT : a ∉ cs.map (·.2) := fun z => by
    have q := (tsT a z).symm.trans ha
    cases q
  obtain ⟨H, eH⟩ : ∃ H, H = H00 K (cs.map (·.2)) a (.frz { cls := .type "list", data := .seq vs.toArray } (.lst (ns.map V.int))) := ⟨_, rfl⟩
  have hH : ∀ p ∈ cs, H p.2 = some (.tbl #[]) := fun p hp => by rw [eH]; exact H00.tab (mT hp)
  have who : ∀ {b : Addr} {o : HO}, H b = some o → (b ∈ cs.map (·.2) ∧ o = .tbl #[]) ∨ (b ∉ cs.map (·.2) ∧ b = a ∧ K.lookup a = none ∧ o = .frz { cls := .type "list", data := .seq vs.toArray } (.lst (ns.map V.int))) := fun h => by
    rw [eH] at h; exact H00.cases h
  have hS : (∃ o, H a = some (.frz o (.lst (ns.map V.int)))) ∨ ∀ H', SqL K H' a (ns.map V.int) := by
    cases hk : K.lookup a with
    | none => exact .inl ⟨_, by rw [eH]; exact H00.script aT hk⟩
    | some o =>
      have e := (KX a o hk).symm.trans ha
      cases e
      exact .inr fun _ => .inr ⟨_, vs.toArray, _, hk, rfl, rfl, rfl, by rw [List.size_toArray, lenV]; exact hl, by simpa using rv⟩
  have hok : HOk P w H s₁.heap := fun b o hb => by
    rcases who hb with ⟨h1, rfl⟩ | ⟨_, rfl, _, rfl⟩
    · exact tsT b h1
    · exact ⟨ha, by rw [List.length_map]; exact hl, vs, _, rv, ha⟩
  -- what is not tracked stands in the base
  have off : ∀ {b : Addr} {o : Obj}, s₁.heap.get? b = some o → (∀ us n, o.data ≠ .seq us n) → o.data ≠ .fields #[] → H b = none := fun {b o} e h1 h2 => by
    cases q : H b with
    | none => rfl
    | some u =>
      rcases who q with ⟨z, _⟩ | ⟨_, rfl, _, _⟩
      · have e2 := e.symm.trans (tsT b z)
        cases e2
        exact (h2 rfl).elim
      · have e2 := e.symm.trans ha
        cases e2
        exact (h1 _ _ rfl).elim
  have offD : ∀ {b : Addr} {o : Obj} {es : Array DictEntry} {ep : Nat}, s₁.heap.get? b = some o → o.data = .dict es ep → H b = none := fun e d =>
    off e (fun _ _ z => by rw [d] at z; cases z) fun z => by rw [d] at z; cases z
  have nsB : ∀ {b : Addr} {m : Str → Option Value}, s₁.heap.Ns b m → (hidT s₁.heap H).Ns b m := fun h => by
    obtain ⟨o, es, ep, e, d, r⟩ := h
    exact ⟨o, es, ep, hidT_get e (offD e d), d, r⟩
  have KB : K.In (hidT s₁.heap H) := fun b o e => hidT_get (KX b o e) (by
    cases q : H b with
    | none => rfl
    | some u =>
      rcases who q with ⟨z, _⟩ | ⟨_, rfl, z, _⟩
      · obtain ⟨p, hp, rfl⟩ := List.mem_map.mp z
        rw [nT p hp] at e; cases e
      · rw [z] at e; cases e)
  have md : L2.Mod K mg (hidT s₁.heap H) := ⟨KB, nsB gl, ⟨mb, nsB bl, bb⟩, let ⟨mc, h1, h2⟩ := lim; ⟨mc, nsB h1, h2⟩⟩
  have TB : ∀ p ∈ cs, LamX.TabB (hidT s₁.heap H) mg p.1 p.2 := fun p hp => by
    refine ⟨?_, ?_, fun z => ?_⟩
    · obtain ⟨o, us, file, tf, fl, tg, inF, tx, tt, e1, r1, r2, r3, rest⟩ := hC p hp
      refine ⟨o, us, file, tf, fl, tg, inF, tx, tt, hidT_get e1 (off e1 (fun vs n z => ?_) fun z => ?_), r1, r2, r3, rest⟩
      · rw [r2] at z; cases z
      · rw [r2] at z; cases z; simp at r3
    · obtain ⟨bm, ob, b1, b2, b3, b4, b5, b6⟩ := bm
      refine ⟨bm, ob, b1, b2, fun q => ?_, fun q => ?_, hidT_get b3 (off b3 (fun vs n z => ?_) fun z => ?_), b4, b5, b6⟩
      · obtain ⟨o, es, ep, e, hd, _⟩ := gl
        have e2 := (q ▸ b3).symm.trans e
        cases e2
        rw [hd] at b6; cases b6
      · have e2 := (q ▸ b3).symm.trans (hT p hp)
        cases e2
        cases b6
      · rw [b6] at z; cases z
      · rw [b6] at z; cases z
    · obtain ⟨o, es, ep, e, hd, _⟩ := gl
      have e2 := (z ▸ e).symm.trans (hT p hp)
      cases e2
      cases hd
  have e0 : Env0 P w K mg (hidT s₁.heap H) callerA [] s₁ H := ⟨rfl, md, fun _ _ e => of_hidT e, Nat.le_of_eq (hidT_size _ _), trivial, (fun _ hb => nomatch hb), hok, .of_eq gens⟩
  refine codeAny_mono (F _ H KB (nsB gl) TB hH hS e0) fun r s' h => ?_
  cases r with
  | error e => exact (show False from h).elim
  | ok fl => cases fl with
    | next => exact (show False from h).elim
    | brk => exact (show False from h).elim
    | cont => exact (show False from h).elim
    | ret u =>
      obtain ⟨v, H', os, bare, un, hok', r', q⟩ := h
      obtain rfl : v = .bl true := q
      obtain rfl : u = Value.bool true := r'
      have key : ∀ b o, b ∉ cs.map (·.2) → s₁.heap.get? b = some o → s'.heap.get? b = some o := fun b o nb e => by
        cases q : H b with
        | none => exact un.keep b o e q (fun z => nomatch z) (fun z => nomatch z)
        | some u =>
          rcases who q with ⟨z, _⟩ | ⟨_, _, _, rfl⟩
          · exact absurd z nb
          · have e1 := (hok b _ q).1
            have e2 := (hok' b _ (un.frzs b _ _ q)).1
            rw [e] at e1; cases e1
            exact e2
      have grown : ∀ p ∈ cs, ∃ more : Array Value, s'.heap.get? p.2 = some { cls := .none, data := .fields more } := fun p hp => by
        obtain ⟨more, z⟩ := un.tbls p.2 #[] (hH p hp)
        exact ⟨_, hok' p.2 _ z⟩
      refine ⟨rfl, ⟨fun b o e => ?_, fun b o e => ?_⟩, os, bare⟩
      all_goals by_cases hb : b ∈ cs.map (·.2)
      · obtain ⟨p, hp, rfl⟩ := List.mem_map.mp hb
        obtain ⟨more, hm⟩ := grown p hp
        have e2 := e.symm.trans (hT p hp)
        cases e2
        exact .inr (.inl ⟨((hC p hp).tab (hT p hp)).isCodeTable, rfl, #[], more, rfl, by rw [Array.empty_append]; exact hm⟩)
      · exact .inl (key b o hb e)
      · obtain ⟨p, hp, rfl⟩ := List.mem_map.mp hb
        obtain ⟨more, hm⟩ := grown p hp
        exact ⟨_, hm⟩
      · exact ⟨o, key b o hb e⟩
end
end Bx
end

-- part BxFx
section
set_option Elab.async false
set_option linter.all false
set_option maxRecDepth 100000
set_option maxHeartbeats 1000000
/-! Boxparts: the facts of the head, joined. -/
namespace Bx
open PySem PySem.Spec PyProof.Rows L2
section
variable {P : Program} {w : World} {K : PySem.W.Frag} {mg : Str → Option Value} {base h : Heap} {fl : Str}
theorem defAt (c : SaysY fl h K) (k : Nat) {i : Nat} {x : Str} (e : fnA[k]? = some (dfn i x)) : ∃ fd, FnP K x (top i) (He.ga K x) fd := c.d.def_ k e
theorem gloAt (X : K.In base) (G : base.Ns mainGlobals mg) (c : SaysY fl h K) (k : Nat) {x : Str} (e : faA[k]? = some (.glo x)) : mg x = some (.ref (He.ga K x)) := He.glo_ok X G (c.d.fact k e)
theorem freeAt (X : K.In base) (G : base.Ns mainGlobals mg) (c : SaysY fl h K) (k : Nat) {x : Str} (e : faA[k]? = some (.free x)) : mg x = none := He.free_ok X G (c.d.fact k e)
theorem biAt (X : K.In base) (G : base.Ns mainGlobals mg) (c : SaysY fl h K) : Bi mg :=
  ⟨freeAt X G c 7 rfl, freeAt X G c 8 rfl, freeAt X G c 9 rfl, freeAt X G c 10 rfl, freeAt X G c 11 rfl, freeAt X G c 12 rfl, freeAt X G c 13 rfl, freeAt X G c 14 rfl, freeAt X G c 15 rfl, freeAt X G c 16 rfl, freeAt X G c 17 rfl, freeAt X G c 18 rfl, freeAt X G c 19 rfl, freeAt X G c 20 rfl, freeAt X G c 21 rfl, freeAt X G c 22 rfl, freeAt X G c 23 rfl, freeAt X G c 24 rfl, freeAt X G c 25 rfl⟩
theorem clsAt (X : K.In base) (G : base.Ns mainGlobals mg) (c : SaysY fl h K) (hf : P.main.file = fl) (htop : (P.main.scope.names.lookup ("super" : Str)).isSome = false) : ExK P w K mg base (He.ga K "BadNumber") (He.ga K "BadShape") ∧ ExK2 K (He.ga K "BadNumber") (He.ga K "BadShape") (He.ga K "BoxError") := by
  have B := biAt X G c
  have hc := c.cls
  simp only [clsB, Bool.and_eq_true, decide_eq_true_eq] at hc
  obtain ⟨h1, h2, h3, h4, h5, h6, h7, h8, h9, h10, h11, h12, h13, h14, h15, h16, h17, h18, h19⟩ := hc
  subst hf
  obtain ⟨fd, oc, od, kV, doc, pm, an, cda, cc, ct, osl, efd, lk, hcode, hfile, hcell⟩ := ini_ok c.ini h6
  have OC : OexC K (He.ga K "BadNumber") := ⟨oexB_ok h1, h2, h3, h4, h5⟩
  have FC : FldC P K (He.ga K "BadNumber") (iniA K) "part" (defArgs sBadIni) (defBody sBadIni) (defScope sBadIni) fd := ⟨OC, ⟨oc, od, .none, kV, doc, pm, an, cda, cc, ct, osl, _, efd, lk, hcode, hfile, hcell⟩, h7, h8, h9, h10, h11, h12, h13⟩
  have hb : Binds K fd ["self", "part"] [] := by
    subst efd
    refine .all fun us hl => ?_
    match us, hl with
    | [_, _], _ => rfl
  obtain ⟨e1, e2, e3, e4⟩ := He.exc_ok (c.d.fact 6 (f := .exc "BadShape") rfl)
  refine ⟨⟨gloAt X G c 0 rfl, gloAt X G c 1 rfl, OC, ⟨iniA K, fd, h12, h13, bad_init FC B.super htop, hb⟩, e1, e2, e3, e4⟩, ⟨excB_ok h14, excB_ok h15, ?_, h11, h16, h17, h18, h19⟩⟩
  have x := excB_ok h14
  exact ⟨x.hg, x.hk, x.hs, x.hd⟩

theorem lawAt {Pr c2 : Addr} {tb : Mem} (X : K.In base) (G : base.Ns mainGlobals mg) (c : SaysY fl h K) (hf : P.main.file = fl) (htop : (P.main.scope.names.lookup ("super" : Str)).isSome = false)
    (hc2 : ∀ fd, FnP K "_law_refused" (top 78) (He.ga K "_law_refused") fd → fd.code = .ref c2) (TB2 : LamX.TabB base mg c2 Pr) (htb : (Pr, Bx.C.tab "_law_refused.<locals>.<lambda>") ∈ tb)
    (hS : ∀ (s : Dst) i, i ≤ 10 → Sm (itM lshStep i ([], s)).1) (hG : ∀ (s : Dst) i, i ≤ 10 → ∀ e ∈ eL, GoodR e (itM lshStep i ([], s)).1) : ∃ fdc, LawF P w K mg base (He.ga K "one_chain") (He.ga K "BadNumber") (He.ga K "BadShape") (He.ga K "BoxError") fdc tb := by
  have B := biAt X G c
  obtain ⟨Z, Z2⟩ := clsAt (w := w) X G c hf htop
  obtain ⟨t1, m1⟩ := He.int_ok X G (c.d.fact 3 (f := .int "MOST_E" 20) rfl)
  obtain ⟨t2, m2⟩ := He.int_ok X G (c.d.fact 4 (f := .int "MOST_BOXES" 16) rfl)
  obtain ⟨t3, m3⟩ := He.int_ok X G (c.d.fact 5 (f := .int "MOST_LISTED" 12) rfl)
  have me : mg "BoxError" = some (.ref (He.ga K "BoxError")) := gloAt X G c 2 rfl
  obtain ⟨d_is_number, F_is_number⟩ := defAt c 0 (i := 8) (x := "is_number") rfl
  have g_is_number : mg "is_number" = some (.ref (He.ga K "is_number")) := gloAt X G c 26 rfl
  obtain ⟨d_is_between, F_is_between⟩ := defAt c 1 (i := 9) (x := "is_between") rfl
  have g_is_between : mg "is_between" = some (.ref (He.ga K "is_between")) := gloAt X G c 27 rfl
  obtain ⟨d_need_e, F_need_e⟩ := defAt c 2 (i := 10) (x := "need_e") rfl
  have g_need_e : mg "need_e" = some (.ref (He.ga K "need_e")) := gloAt X G c 28 rfl
  obtain ⟨d_need_few, F_need_few⟩ := defAt c 3 (i := 11) (x := "need_few") rfl
  have g_need_few : mg "need_few" = some (.ref (He.ga K "need_few")) := gloAt X G c 29 rfl
  obtain ⟨d_is_shape, F_is_shape⟩ := defAt c 4 (i := 15) (x := "is_shape") rfl
  have g_is_shape : mg "is_shape" = some (.ref (He.ga K "is_shape")) := gloAt X G c 30 rfl
  obtain ⟨d_need_shape, F_need_shape⟩ := defAt c 5 (i := 16) (x := "need_shape") rfl
  have g_need_shape : mg "need_shape" = some (.ref (He.ga K "need_shape")) := gloAt X G c 31 rfl
  obtain ⟨d_shapes_of, F_shapes_of⟩ := defAt c 6 (i := 17) (x := "shapes_of") rfl
  have g_shapes_of : mg "shapes_of" = some (.ref (He.ga K "shapes_of")) := gloAt X G c 32 rfl
  obtain ⟨d_turned_of, F_turned_of⟩ := defAt c 7 (i := 18) (x := "turned_of") rfl
  have g_turned_of : mg "turned_of" = some (.ref (He.ga K "turned_of")) := gloAt X G c 33 rfl
  obtain ⟨d_is_free_of, F_is_free_of⟩ := defAt c 8 (i := 19) (x := "is_free_of") rfl
  have g_is_free_of : mg "is_free_of" = some (.ref (He.ga K "is_free_of")) := gloAt X G c 34 rfl
  obtain ⟨d_boxes_of, F_boxes_of⟩ := defAt c 9 (i := 21) (x := "boxes_of") rfl
  have g_boxes_of : mg "boxes_of" = some (.ref (He.ga K "boxes_of")) := gloAt X G c 35 rfl
  obtain ⟨d_colour_of, F_colour_of⟩ := defAt c 10 (i := 22) (x := "colour_of") rfl
  have g_colour_of : mg "colour_of" = some (.ref (He.ga K "colour_of")) := gloAt X G c 36 rfl
  obtain ⟨d_all_open, F_all_open⟩ := defAt c 11 (i := 23) (x := "all_open") rfl
  have g_all_open : mg "all_open" = some (.ref (He.ga K "all_open")) := gloAt X G c 37 rfl
  obtain ⟨d_all_loose, F_all_loose⟩ := defAt c 12 (i := 24) (x := "all_loose") rfl
  have g_all_loose : mg "all_loose" = some (.ref (He.ga K "all_loose")) := gloAt X G c 38 rfl
  obtain ⟨d_put_on, F_put_on⟩ := defAt c 13 (i := 25) (x := "put_on") rfl
  have g_put_on : mg "put_on" = some (.ref (He.ga K "put_on")) := gloAt X G c 39 rfl
  obtain ⟨d_colours_of, F_colours_of⟩ := defAt c 14 (i := 26) (x := "colours_of") rfl
  have g_colours_of : mg "colours_of" = some (.ref (He.ga K "colours_of")) := gloAt X G c 40 rfl
  obtain ⟨d_plain, F_plain⟩ := defAt c 15 (i := 28) (x := "plain") rfl
  have g_plain : mg "plain" = some (.ref (He.ga K "plain")) := gloAt X G c 41 rfl
  obtain ⟨d_row_added, F_row_added⟩ := defAt c 16 (i := 29) (x := "row_added") rfl
  have g_row_added : mg "row_added" = some (.ref (He.ga K "row_added")) := gloAt X G c 42 rfl
  obtain ⟨d_row_product, F_row_product⟩ := defAt c 17 (i := 30) (x := "row_product") rfl
  have g_row_product : mg "row_product" = some (.ref (He.ga K "row_product")) := gloAt X G c 43 rfl
  obtain ⟨d_sorted_sum, F_sorted_sum⟩ := defAt c 18 (i := 32) (x := "sorted_sum") rfl
  have g_sorted_sum : mg "sorted_sum" = some (.ref (He.ga K "sorted_sum")) := gloAt X G c 44 rfl
  obtain ⟨d_sum_of_two, F_sum_of_two⟩ := defAt c 19 (i := 33) (x := "sum_of_two") rfl
  have g_sum_of_two : mg "sum_of_two" = some (.ref (He.ga K "sum_of_two")) := gloAt X G c 45 rfl
  obtain ⟨d_of_colour, F_of_colour⟩ := defAt c 20 (i := 35) (x := "of_colour") rfl
  have g_of_colour : mg "of_colour" = some (.ref (He.ga K "of_colour")) := gloAt X G c 46 rfl
  obtain ⟨d_lots_of, F_lots_of⟩ := defAt c 21 (i := 36) (x := "lots_of") rfl
  have g_lots_of : mg "lots_of" = some (.ref (He.ga K "lots_of")) := gloAt X G c 47 rfl
  obtain ⟨d_counted, F_counted⟩ := defAt c 22 (i := 37) (x := "counted") rfl
  have g_counted : mg "counted" = some (.ref (He.ga K "counted")) := gloAt X G c 48 rfl
  obtain ⟨d_put_steps, F_put_steps⟩ := defAt c 23 (i := 38) (x := "put_steps") rfl
  have g_put_steps : mg "put_steps" = some (.ref (He.ga K "put_steps")) := gloAt X G c 49 rfl
  obtain ⟨d_led, F_led⟩ := defAt c 24 (i := 39) (x := "led") rfl
  have g_led : mg "led" = some (.ref (He.ga K "led")) := gloAt X G c 50 rfl
  obtain ⟨d_put_of, F_put_of⟩ := defAt c 25 (i := 40) (x := "put_of") rfl
  have g_put_of : mg "put_of" = some (.ref (He.ga K "put_of")) := gloAt X G c 51 rfl
  obtain ⟨d_course_of, F_course_of⟩ := defAt c 26 (i := 42) (x := "course_of") rfl
  have g_course_of : mg "course_of" = some (.ref (He.ga K "course_of")) := gloAt X G c 52 rfl
  obtain ⟨d_need_free_shape, F_need_free_shape⟩ := defAt c 27 (i := 43) (x := "need_free_shape") rfl
  have g_need_free_shape : mg "need_free_shape" = some (.ref (He.ga K "need_free_shape")) := gloAt X G c 53 rfl
  obtain ⟨d_ladders_of, F_ladders_of⟩ := defAt c 28 (i := 44) (x := "ladders_of") rfl
  have g_ladders_of : mg "ladders_of" = some (.ref (He.ga K "ladders_of")) := gloAt X G c 54 rfl
  obtain ⟨d_even_part, F_even_part⟩ := defAt c 29 (i := 46) (x := "even_part") rfl
  have g_even_part : mg "even_part" = some (.ref (He.ga K "even_part")) := gloAt X G c 55 rfl
  obtain ⟨d_settled, F_settled⟩ := defAt c 30 (i := 47) (x := "settled") rfl
  have g_settled : mg "settled" = some (.ref (He.ga K "settled")) := gloAt X G c 56 rfl
  obtain ⟨d_list_of, F_list_of⟩ := defAt c 31 (i := 48) (x := "list_of") rfl
  have g_list_of : mg "list_of" = some (.ref (He.ga K "list_of")) := gloAt X G c 57 rfl
  obtain ⟨d_sum_of, F_sum_of⟩ := defAt c 32 (i := 49) (x := "sum_of") rfl
  have g_sum_of : mg "sum_of" = some (.ref (He.ga K "sum_of")) := gloAt X G c 58 rfl
  obtain ⟨d_list_sum, F_list_sum⟩ := defAt c 33 (i := 50) (x := "list_sum") rfl
  have g_list_sum : mg "list_sum" = some (.ref (He.ga K "list_sum")) := gloAt X G c 59 rfl
  obtain ⟨d_hook_of, F_hook_of⟩ := defAt c 34 (i := 52) (x := "hook_of") rfl
  have g_hook_of : mg "hook_of" = some (.ref (He.ga K "hook_of")) := gloAt X G c 60 rfl
  obtain ⟨d_rimless, F_rimless⟩ := defAt c 35 (i := 53) (x := "rimless") rfl
  have g_rimless : mg "rimless" = some (.ref (He.ga K "rimless")) := gloAt X G c 61 rfl
  obtain ⟨d_rimless_all, F_rimless_all⟩ := defAt c 36 (i := 54) (x := "rimless_all") rfl
  have g_rimless_all : mg "rimless_all" = some (.ref (He.ga K "rimless_all")) := gloAt X G c 62 rfl
  obtain ⟨d_core_of, F_core_of⟩ := defAt c 37 (i := 55) (x := "core_of") rfl
  have g_core_of : mg "core_of" = some (.ref (He.ga K "core_of")) := gloAt X G c 63 rfl
  obtain ⟨d_block_of, F_block_of⟩ := defAt c 38 (i := 56) (x := "block_of") rfl
  have g_block_of : mg "block_of" = some (.ref (He.ga K "block_of")) := gloAt X G c 64 rfl
  obtain ⟨d_need_weight, F_need_weight⟩ := defAt c 39 (i := 58) (x := "need_weight") rfl
  have g_need_weight : mg "need_weight" = some (.ref (He.ga K "need_weight")) := gloAt X G c 65 rfl
  obtain ⟨d_one_chain, F_one_chain⟩ := defAt c 40 (i := 59) (x := "one_chain") rfl
  have g_one_chain : mg "one_chain" = some (.ref (He.ga K "one_chain")) := gloAt X G c 66 rfl
  obtain ⟨d_law_begun, F_law_begun⟩ := defAt c 41 (i := 61) (x := "_law_begun") rfl
  have g_law_begun : mg "_law_begun" = some (.ref (He.ga K "_law_begun")) := gloAt X G c 67 rfl
  obtain ⟨d_law_mixed, F_law_mixed⟩ := defAt c 42 (i := 62) (x := "_law_mixed") rfl
  have g_law_mixed : mg "_law_mixed" = some (.ref (He.ga K "_law_mixed")) := gloAt X G c 68 rfl
  obtain ⟨d_law_take, F_law_take⟩ := defAt c 43 (i := 63) (x := "_law_take") rfl
  have g_law_take : mg "_law_take" = some (.ref (He.ga K "_law_take")) := gloAt X G c 69 rfl
  obtain ⟨d_law_pick, F_law_pick⟩ := defAt c 44 (i := 64) (x := "_law_pick") rfl
  have g_law_pick : mg "_law_pick" = some (.ref (He.ga K "_law_pick")) := gloAt X G c 70 rfl
  obtain ⟨d_law_caught, F_law_caught⟩ := defAt c 45 (i := 65) (x := "_law_caught") rfl
  have g_law_caught : mg "_law_caught" = some (.ref (He.ga K "_law_caught")) := gloAt X G c 71 rfl
  obtain ⟨d_law_shapes, F_law_shapes⟩ := defAt c 46 (i := 66) (x := "_law_shapes") rfl
  have g_law_shapes : mg "_law_shapes" = some (.ref (He.ga K "_law_shapes")) := gloAt X G c 72 rfl
  obtain ⟨d_law_shape, F_law_shape⟩ := defAt c 47 (i := 67) (x := "_law_shape") rfl
  have g_law_shape : mg "_law_shape" = some (.ref (He.ga K "_law_shape")) := gloAt X G c 73 rfl
  obtain ⟨d_law_open, F_law_open⟩ := defAt c 48 (i := 68) (x := "_law_open") rfl
  have g_law_open : mg "_law_open" = some (.ref (He.ga K "_law_open")) := gloAt X G c 74 rfl
  obtain ⟨d_law_put, F_law_put⟩ := defAt c 49 (i := 69) (x := "_law_put") rfl
  have g_law_put : mg "_law_put" = some (.ref (He.ga K "_law_put")) := gloAt X G c 75 rfl
  obtain ⟨d_law_beads, F_law_beads⟩ := defAt c 50 (i := 70) (x := "_law_beads") rfl
  have g_law_beads : mg "_law_beads" = some (.ref (He.ga K "_law_beads")) := gloAt X G c 76 rfl
  obtain ⟨d_law_of_beads, F_law_of_beads⟩ := defAt c 51 (i := 71) (x := "_law_of_beads") rfl
  have g_law_of_beads : mg "_law_of_beads" = some (.ref (He.ga K "_law_of_beads")) := gloAt X G c 77 rfl
  obtain ⟨d_law_without, F_law_without⟩ := defAt c 52 (i := 72) (x := "_law_without") rfl
  have g_law_without : mg "_law_without" = some (.ref (He.ga K "_law_without")) := gloAt X G c 78 rfl
  obtain ⟨d_law_core, F_law_core⟩ := defAt c 53 (i := 73) (x := "_law_core") rfl
  have g_law_core : mg "_law_core" = some (.ref (He.ga K "_law_core")) := gloAt X G c 79 rfl
  obtain ⟨d_law_is_free, F_law_is_free⟩ := defAt c 54 (i := 74) (x := "_law_is_free") rfl
  have g_law_is_free : mg "_law_is_free" = some (.ref (He.ga K "_law_is_free")) := gloAt X G c 80 rfl
  obtain ⟨d_law_is_above, F_law_is_above⟩ := defAt c 55 (i := 75) (x := "_law_is_above") rfl
  have g_law_is_above : mg "_law_is_above" = some (.ref (He.ga K "_law_is_above")) := gloAt X G c 81 rfl
  obtain ⟨d_law_block, F_law_block⟩ := defAt c 56 (i := 76) (x := "_law_block") rfl
  have g_law_block : mg "_law_block" = some (.ref (He.ga K "_law_block")) := gloAt X G c 82 rfl
  obtain ⟨d_law_weight_one, F_law_weight_one⟩ := defAt c 57 (i := 77) (x := "_law_weight_one") rfl
  have g_law_weight_one : mg "_law_weight_one" = some (.ref (He.ga K "_law_weight_one")) := gloAt X G c 83 rfl
  obtain ⟨d_law_refused, F_law_refused⟩ := defAt c 58 (i := 78) (x := "_law_refused") rfl
  have g_law_refused : mg "_law_refused" = some (.ref (He.ga K "_law_refused")) := gloAt X G c 84 rfl
  have C_turned_of := c_turned (P := P) (w := w) (base := base) F_turned_of g_turned_of B 
  have C_is_free_of := c_free (P := P) (w := w) (base := base) F_is_free_of g_is_free_of B 
  have C_boxes_of := c_boxes (P := P) (w := w) (base := base) F_boxes_of g_boxes_of B 
  have C_colour_of := c_colour (P := P) (w := w) (base := base) F_colour_of g_colour_of B 
  have C_hook_of := c_hook (P := P) (w := w) (base := base) F_hook_of g_hook_of B C_turned_of
  have C_rimless := c_rim (P := P) (w := w) (base := base) F_rimless g_rimless B C_turned_of
  have C_rimless_all := c_rims (P := P) (w := w) (base := base) F_rimless_all g_rimless_all B C_boxes_of C_hook_of C_rimless
  have C_colours_of := c_colours (P := P) (w := w) (base := base) F_colours_of g_colours_of B C_boxes_of C_colour_of
  have C_all_open := c_open (P := P) (w := w) (base := base) F_all_open g_all_open B 
  have C_all_loose := c_loose (P := P) (w := w) (base := base) F_all_loose g_all_loose B 
  have C_put_on := c_put (P := P) (w := w) (base := base) F_put_on g_put_on B 
  have C_of_colour := c_ofc (P := P) (w := w) (base := base) F_of_colour g_of_colour B C_colour_of
  have C_lots_of := c_lots (P := P) (w := w) (base := base) F_lots_of g_lots_of B 
  have C_counted := c_counted (P := P) (w := w) (base := base) F_counted g_counted B 
  have C_put_steps := c_steps (P := P) (w := w) (base := base) F_put_steps g_put_steps B C_of_colour C_all_loose C_all_open C_lots_of C_put_on C_counted
  have C_core_of := c_core (P := P) (w := w) (base := base) F_core_of g_core_of B C_rimless_all
  have C_shapes_of := c_shapes (P := P) (w := w) (base := base) F_shapes_of g_shapes_of B 
  have C_block_of := c_block (P := P) (w := w) (base := base) F_block_of g_block_of B C_colours_of C_shapes_of
  have C_plain := c_plain (P := P) (w := w) (base := base) F_plain g_plain B 
  have C_row_added := c_add (P := P) (w := w) (base := base) F_row_added g_row_added B C_plain
  have C_row_product := c_mul (P := P) (w := w) (base := base) F_row_product g_row_product B C_plain
  have C_sorted_sum := c_sorted (P := P) (w := w) (base := base) F_sorted_sum g_sorted_sum B C_plain
  have C_sum_of_two := c_two (P := P) (w := w) (base := base) F_sum_of_two g_sum_of_two B C_row_added C_row_product C_sorted_sum
  have C_led := c_led (P := P) (w := w) (base := base) F_led g_led B C_row_added C_row_product C_sorted_sum
  have C_put_of := c_putOf (P := P) (w := w) (base := base) F_put_of g_put_of B C_led C_put_steps
  have C_course_of := c_course (P := P) (w := w) (base := base) F_course_of g_course_of B C_put_of
  have C_even_part := c_even (P := P) (w := w) (base := base) F_even_part g_even_part B 
  have C_settled := c_settled (P := P) (w := w) (base := base) F_settled g_settled B C_even_part C_sum_of_two
  have C_ladders_of := c_lad (P := P) (w := w) (base := base) F_ladders_of g_ladders_of B C_boxes_of C_colour_of
  have C_list_of := c_listOf (P := P) (w := w) (base := base) F_list_of g_list_of B C_shapes_of C_is_free_of C_settled C_course_of C_ladders_of
  have C_sum_of := c_sumOf (P := P) (w := w) (base := base) F_sum_of g_sum_of B C_list_of
  have C_law_put := c_lput (P := P) (w := w) (base := base) F_law_put g_law_put B 
  have C_law_beads := c_lbeads (P := P) (w := w) (base := base) F_law_beads g_law_beads B 
  have C_law_of_beads := c_ofBeads (P := P) (w := w) (base := base) F_law_of_beads g_law_of_beads B 
  have C_law_is_free := c_lfree (P := P) (w := w) (base := base) F_law_is_free g_law_is_free B 
  have C_law_without := c_lwo (P := P) (w := w) (base := base) F_law_without g_law_without B C_law_beads C_law_of_beads
  have C_law_core := c_lcore (P := P) (w := w) (base := base) F_law_core g_law_core B C_law_without
  have C_law_is_above := c_above (P := P) (w := w) (base := base) F_law_is_above g_law_is_above B 
  have C_law_open := c_lopen (P := P) (w := w) (base := base) F_law_open g_law_open B 
  have C_law_shapes := c_lshapes (P := P) (w := w) (base := base) F_law_shapes g_law_shapes B 
  have C_law_block := c_lblock (P := P) (w := w) (base := base) F_law_block g_law_block B C_law_core C_law_shapes
  have C_law_mixed := c_mixed (P := P) (w := w) (base := base) F_law_mixed g_law_mixed B 
  have C_law_take := c_take (P := P) (w := w) (base := base) F_law_take g_law_take B C_law_mixed
  have C_law_pick := c_pick (P := P) (w := w) (base := base) F_law_pick g_law_pick B C_law_take
  have C_law_shape := c_lshape (P := P) (w := w) (base := base) F_law_shape g_law_shape B C_law_take C_law_pick C_law_open C_law_put
  have C_law_weight_one := c_wone (P := P) (w := w) (base := base) F_law_weight_one g_law_weight_one B C_law_pick C_law_shapes C_law_core
  have C_is_number := c_num (P := P) (w := w) (base := base) F_is_number g_is_number B 
  have C_is_between := c_bet (P := P) (w := w) (base := base) F_is_between g_is_between B C_is_number
  have C_law_begun := c_begun (P := P) (w := w) (base := base) F_law_begun g_law_begun B 
  have C_is_shape := c_ish (P := P) (w := w) (base := base) F_is_shape g_is_shape B m2 C_is_number
  have C_need_e := c_needE (P := P) (w := w) (base := base) F_need_e g_need_e m1 C_is_between
  have X_need_e := c_needEX F_need_e g_need_e m1 Z C_is_between
  have C_need_shape := c_needS (P := P) (w := w) (base := base) F_need_shape g_need_shape C_is_shape
  have X_need_shape := c_needSX F_need_shape g_need_shape Z C_is_shape
  have C_need_few := c_few (P := P) (w := w) (base := base) F_need_few g_need_few
  have C_need_free_shape := c_freeS F_need_free_shape g_need_free_shape B m3 C_need_e C_need_shape C_is_free_of C_need_few
  have C_list_sum := c_lsum F_list_sum g_list_sum C_need_free_shape C_sum_of
  have C_need_weight := c_wgt F_need_weight g_need_weight C_need_e C_need_shape C_core_of
  have X_need_weight := c_wgtX F_need_weight g_need_weight Z C_need_e C_need_shape C_core_of X_need_e X_need_shape
  have C_one_chain := c_chain F_one_chain g_one_chain B C_need_weight C_block_of
  have X_one_chain := c_chainX F_one_chain g_one_chain X_need_weight
  have hca : ∃ g fd, FnP K "_law_caught" (top 65) g fd ∧ mg "_law_caught" = some (.ref g) := ⟨_, _, F_law_caught, g_law_caught⟩
  have C_ref := c_ref (tb := tb) F_law_refused (hc2 _ F_law_refused) TB2 g_law_refused B hca me Z Z2 hS hG C_law_pick C_law_shape C_law_core C_one_chain X_one_chain htb
  exact ⟨d_one_chain, ⟨B, hca, me, Z, Z2, C_law_begun, C_law_pick, C_law_weight_one, C_law_core, C_law_block, C_law_is_free, C_law_is_above, C_one_chain, X_one_chain, F_one_chain, g_one_chain, ok_chain F_one_chain B C_need_weight C_block_of, C_list_sum, C_ref⟩⟩
end
end Bx
end

-- part BxPt
section
set_option Elab.async false
set_option linter.all false
set_option maxRecDepth 100000
set_option maxHeartbeats 4000000
/-! Boxparts: the shapes of some boxes, written out. -/
namespace Bx
def q0 : List (List Int) := [[]]
def q1 : List (List Int) := [[1]]
def q2 : List (List Int) := [[1, 1], [2]]
def q3 : List (List Int) := [[1, 1, 1], [2, 1], [3]]
def q4 : List (List Int) := [[1, 1, 1, 1], [2, 1, 1], [2, 2], [3, 1], [4]]
def q5 : List (List Int) := [[1, 1, 1, 1, 1], [2, 1, 1, 1], [2, 2, 1], [3, 1, 1], [3, 2], [4, 1], [5]]
def q6 : List (List Int) := [[1, 1, 1, 1, 1, 1], [2, 1, 1, 1, 1], [2, 2, 1, 1], [2, 2, 2], [3, 1, 1, 1], [3, 2, 1], [3, 3], [4, 1, 1], [4, 2], [5, 1], [6]]
def q7 : List (List Int) := [[1, 1, 1, 1, 1, 1, 1], [2, 1, 1, 1, 1, 1], [2, 2, 1, 1, 1], [2, 2, 2, 1], [3, 1, 1, 1, 1], [3, 2, 1, 1], [3, 2, 2], [3, 3, 1], [4, 1, 1, 1], [4, 2, 1], [4, 3], [5, 1, 1], [5, 2], [6, 1], [7]]
def q8 : List (List Int) := [[1, 1, 1, 1, 1, 1, 1, 1], [2, 1, 1, 1, 1, 1, 1], [2, 2, 1, 1, 1, 1], [2, 2, 2, 1, 1], [2, 2, 2, 2], [3, 1, 1, 1, 1, 1], [3, 2, 1, 1, 1], [3, 2, 2, 1], [3, 3, 1, 1], [3, 3, 2], [4, 1, 1, 1, 1], [4, 2, 1, 1], [4, 2, 2], [4, 3, 1], [4, 4], [5, 1, 1, 1], [5, 2, 1], [5, 3], [6, 1, 1], [6, 2], [7, 1], [8]]
def q9 : List (List Int) := [[1, 1, 1, 1, 1, 1, 1, 1, 1], [2, 1, 1, 1, 1, 1, 1, 1], [2, 2, 1, 1, 1, 1, 1], [2, 2, 2, 1, 1, 1], [2, 2, 2, 2, 1], [3, 1, 1, 1, 1, 1, 1], [3, 2, 1, 1, 1, 1], [3, 2, 2, 1, 1], [3, 2, 2, 2], [3, 3, 1, 1, 1], [3, 3, 2, 1], [3, 3, 3], [4, 1, 1, 1, 1, 1], [4, 2, 1, 1, 1], [4, 2, 2, 1], [4, 3, 1, 1], [4, 3, 2], [4, 4, 1], [5, 1, 1, 1, 1], [5, 2, 1, 1], [5, 2, 2], [5, 3, 1], [5, 4], [6, 1, 1, 1], [6, 2, 1], [6, 3], [7, 1, 1], [7, 2], [8, 1], [9]]
def q10 : List (List Int) := [[1, 1, 1, 1, 1, 1, 1, 1, 1, 1], [2, 1, 1, 1, 1, 1, 1, 1, 1], [2, 2, 1, 1, 1, 1, 1, 1], [2, 2, 2, 1, 1, 1, 1], [2, 2, 2, 2, 1, 1], [2, 2, 2, 2, 2], [3, 1, 1, 1, 1, 1, 1, 1], [3, 2, 1, 1, 1, 1, 1], [3, 2, 2, 1, 1, 1], [3, 2, 2, 2, 1], [3, 3, 1, 1, 1, 1], [3, 3, 2, 1, 1], [3, 3, 2, 2], [3, 3, 3, 1], [4, 1, 1, 1, 1, 1, 1], [4, 2, 1, 1, 1, 1], [4, 2, 2, 1, 1], [4, 2, 2, 2], [4, 3, 1, 1, 1], [4, 3, 2, 1], [4, 3, 3], [4, 4, 1, 1], [4, 4, 2], [5, 1, 1, 1, 1, 1], [5, 2, 1, 1, 1], [5, 2, 2, 1], [5, 3, 1, 1], [5, 3, 2], [5, 4, 1], [5, 5], [6, 1, 1, 1, 1], [6, 2, 1, 1], [6, 2, 2], [6, 3, 1], [6, 4], [7, 1, 1, 1], [7, 2, 1], [7, 3], [8, 1, 1], [8, 2], [9, 1], [10]]
def q11 : List (List Int) := [[1, 1, 1, 1, 1, 1, 1, 1, 1, 1, 1], [2, 1, 1, 1, 1, 1, 1, 1, 1, 1], [2, 2, 1, 1, 1, 1, 1, 1, 1], [2, 2, 2, 1, 1, 1, 1, 1], [2, 2, 2, 2, 1, 1, 1], [2, 2, 2, 2, 2, 1], [3, 1, 1, 1, 1, 1, 1, 1, 1], [3, 2, 1, 1, 1, 1, 1, 1], [3, 2, 2, 1, 1, 1, 1], [3, 2, 2, 2, 1, 1], [3, 2, 2, 2, 2], [3, 3, 1, 1, 1, 1, 1], [3, 3, 2, 1, 1, 1], [3, 3, 2, 2, 1], [3, 3, 3, 1, 1], [3, 3, 3, 2], [4, 1, 1, 1, 1, 1, 1, 1], [4, 2, 1, 1, 1, 1, 1], [4, 2, 2, 1, 1, 1], [4, 2, 2, 2, 1], [4, 3, 1, 1, 1, 1], [4, 3, 2, 1, 1], [4, 3, 2, 2], [4, 3, 3, 1], [4, 4, 1, 1, 1], [4, 4, 2, 1], [4, 4, 3], [5, 1, 1, 1, 1, 1, 1], [5, 2, 1, 1, 1, 1], [5, 2, 2, 1, 1], [5, 2, 2, 2], [5, 3, 1, 1, 1], [5, 3, 2, 1], [5, 3, 3], [5, 4, 1, 1], [5, 4, 2], [5, 5, 1], [6, 1, 1, 1, 1, 1], [6, 2, 1, 1, 1], [6, 2, 2, 1], [6, 3, 1, 1], [6, 3, 2], [6, 4, 1], [6, 5], [7, 1, 1, 1, 1], [7, 2, 1, 1], [7, 2, 2], [7, 3, 1], [7, 4], [8, 1, 1, 1], [8, 2, 1], [8, 3], [9, 1, 1], [9, 2], [10, 1], [11]]
def q12 : List (List Int) := [[1, 1, 1, 1, 1, 1, 1, 1, 1, 1, 1, 1], [2, 1, 1, 1, 1, 1, 1, 1, 1, 1, 1], [2, 2, 1, 1, 1, 1, 1, 1, 1, 1], [2, 2, 2, 1, 1, 1, 1, 1, 1], [2, 2, 2, 2, 1, 1, 1, 1], [2, 2, 2, 2, 2, 1, 1], [2, 2, 2, 2, 2, 2], [3, 1, 1, 1, 1, 1, 1, 1, 1, 1], [3, 2, 1, 1, 1, 1, 1, 1, 1], [3, 2, 2, 1, 1, 1, 1, 1], [3, 2, 2, 2, 1, 1, 1], [3, 2, 2, 2, 2, 1], [3, 3, 1, 1, 1, 1, 1, 1], [3, 3, 2, 1, 1, 1, 1], [3, 3, 2, 2, 1, 1], [3, 3, 2, 2, 2], [3, 3, 3, 1, 1, 1], [3, 3, 3, 2, 1], [3, 3, 3, 3], [4, 1, 1, 1, 1, 1, 1, 1, 1], [4, 2, 1, 1, 1, 1, 1, 1], [4, 2, 2, 1, 1, 1, 1], [4, 2, 2, 2, 1, 1], [4, 2, 2, 2, 2], [4, 3, 1, 1, 1, 1, 1], [4, 3, 2, 1, 1, 1], [4, 3, 2, 2, 1], [4, 3, 3, 1, 1], [4, 3, 3, 2], [4, 4, 1, 1, 1, 1], [4, 4, 2, 1, 1], [4, 4, 2, 2], [4, 4, 3, 1], [4, 4, 4], [5, 1, 1, 1, 1, 1, 1, 1], [5, 2, 1, 1, 1, 1, 1], [5, 2, 2, 1, 1, 1], [5, 2, 2, 2, 1], [5, 3, 1, 1, 1, 1], [5, 3, 2, 1, 1], [5, 3, 2, 2], [5, 3, 3, 1], [5, 4, 1, 1, 1], [5, 4, 2, 1], [5, 4, 3], [5, 5, 1, 1], [5, 5, 2], [6, 1, 1, 1, 1, 1, 1], [6, 2, 1, 1, 1, 1], [6, 2, 2, 1, 1], [6, 2, 2, 2], [6, 3, 1, 1, 1], [6, 3, 2, 1], [6, 3, 3], [6, 4, 1, 1], [6, 4, 2], [6, 5, 1], [6, 6], [7, 1, 1, 1, 1, 1], [7, 2, 1, 1, 1], [7, 2, 2, 1], [7, 3, 1, 1], [7, 3, 2], [7, 4, 1], [7, 5], [8, 1, 1, 1, 1], [8, 2, 1, 1], [8, 2, 2], [8, 3, 1], [8, 4], [9, 1, 1, 1], [9, 2, 1], [9, 3], [10, 1, 1], [10, 2], [11, 1], [12]]
def q16 : List (List Int) := [[1, 1, 1, 1, 1, 1, 1, 1, 1, 1, 1, 1, 1, 1, 1, 1], [2, 1, 1, 1, 1, 1, 1, 1, 1, 1, 1, 1, 1, 1, 1], [2, 2, 1, 1, 1, 1, 1, 1, 1, 1, 1, 1, 1, 1], [2, 2, 2, 1, 1, 1, 1, 1, 1, 1, 1, 1, 1], [2, 2, 2, 2, 1, 1, 1, 1, 1, 1, 1, 1], [2, 2, 2, 2, 2, 1, 1, 1, 1, 1, 1], [2, 2, 2, 2, 2, 2, 1, 1, 1, 1], [2, 2, 2, 2, 2, 2, 2, 1, 1], [2, 2, 2, 2, 2, 2, 2, 2], [3, 1, 1, 1, 1, 1, 1, 1, 1, 1, 1, 1, 1, 1], [3, 2, 1, 1, 1, 1, 1, 1, 1, 1, 1, 1, 1], [3, 2, 2, 1, 1, 1, 1, 1, 1, 1, 1, 1], [3, 2, 2, 2, 1, 1, 1, 1, 1, 1, 1], [3, 2, 2, 2, 2, 1, 1, 1, 1, 1], [3, 2, 2, 2, 2, 2, 1, 1, 1], [3, 2, 2, 2, 2, 2, 2, 1], [3, 3, 1, 1, 1, 1, 1, 1, 1, 1, 1, 1], [3, 3, 2, 1, 1, 1, 1, 1, 1, 1, 1], [3, 3, 2, 2, 1, 1, 1, 1, 1, 1], [3, 3, 2, 2, 2, 1, 1, 1, 1], [3, 3, 2, 2, 2, 2, 1, 1], [3, 3, 2, 2, 2, 2, 2], [3, 3, 3, 1, 1, 1, 1, 1, 1, 1], [3, 3, 3, 2, 1, 1, 1, 1, 1], [3, 3, 3, 2, 2, 1, 1, 1], [3, 3, 3, 2, 2, 2, 1], [3, 3, 3, 3, 1, 1, 1, 1], [3, 3, 3, 3, 2, 1, 1], [3, 3, 3, 3, 2, 2], [3, 3, 3, 3, 3, 1], [4, 1, 1, 1, 1, 1, 1, 1, 1, 1, 1, 1, 1], [4, 2, 1, 1, 1, 1, 1, 1, 1, 1, 1, 1], [4, 2, 2, 1, 1, 1, 1, 1, 1, 1, 1], [4, 2, 2, 2, 1, 1, 1, 1, 1, 1], [4, 2, 2, 2, 2, 1, 1, 1, 1], [4, 2, 2, 2, 2, 2, 1, 1], [4, 2, 2, 2, 2, 2, 2], [4, 3, 1, 1, 1, 1, 1, 1, 1, 1, 1], [4, 3, 2, 1, 1, 1, 1, 1, 1, 1], [4, 3, 2, 2, 1, 1, 1, 1, 1], [4, 3, 2, 2, 2, 1, 1, 1], [4, 3, 2, 2, 2, 2, 1], [4, 3, 3, 1, 1, 1, 1, 1, 1], [4, 3, 3, 2, 1, 1, 1, 1], [4, 3, 3, 2, 2, 1, 1], [4, 3, 3, 2, 2, 2], [4, 3, 3, 3, 1, 1, 1], [4, 3, 3, 3, 2, 1], [4, 3, 3, 3, 3], [4, 4, 1, 1, 1, 1, 1, 1, 1, 1], [4, 4, 2, 1, 1, 1, 1, 1, 1], [4, 4, 2, 2, 1, 1, 1, 1], [4, 4, 2, 2, 2, 1, 1], [4, 4, 2, 2, 2, 2], [4, 4, 3, 1, 1, 1, 1, 1], [4, 4, 3, 2, 1, 1, 1], [4, 4, 3, 2, 2, 1], [4, 4, 3, 3, 1, 1], [4, 4, 3, 3, 2], [4, 4, 4, 1, 1, 1, 1], [4, 4, 4, 2, 1, 1], [4, 4, 4, 2, 2], [4, 4, 4, 3, 1], [4, 4, 4, 4], [5, 1, 1, 1, 1, 1, 1, 1, 1, 1, 1, 1], [5, 2, 1, 1, 1, 1, 1, 1, 1, 1, 1], [5, 2, 2, 1, 1, 1, 1, 1, 1, 1], [5, 2, 2, 2, 1, 1, 1, 1, 1], [5, 2, 2, 2, 2, 1, 1, 1], [5, 2, 2, 2, 2, 2, 1], [5, 3, 1, 1, 1, 1, 1, 1, 1, 1], [5, 3, 2, 1, 1, 1, 1, 1, 1], [5, 3, 2, 2, 1, 1, 1, 1], [5, 3, 2, 2, 2, 1, 1], [5, 3, 2, 2, 2, 2], [5, 3, 3, 1, 1, 1, 1, 1], [5, 3, 3, 2, 1, 1, 1], [5, 3, 3, 2, 2, 1], [5, 3, 3, 3, 1, 1], [5, 3, 3, 3, 2], [5, 4, 1, 1, 1, 1, 1, 1, 1], [5, 4, 2, 1, 1, 1, 1, 1], [5, 4, 2, 2, 1, 1, 1], [5, 4, 2, 2, 2, 1], [5, 4, 3, 1, 1, 1, 1], [5, 4, 3, 2, 1, 1], [5, 4, 3, 2, 2], [5, 4, 3, 3, 1], [5, 4, 4, 1, 1, 1], [5, 4, 4, 2, 1], [5, 4, 4, 3], [5, 5, 1, 1, 1, 1, 1, 1], [5, 5, 2, 1, 1, 1, 1], [5, 5, 2, 2, 1, 1], [5, 5, 2, 2, 2], [5, 5, 3, 1, 1, 1], [5, 5, 3, 2, 1], [5, 5, 3, 3], [5, 5, 4, 1, 1], [5, 5, 4, 2], [5, 5, 5, 1], [6, 1, 1, 1, 1, 1, 1, 1, 1, 1, 1], [6, 2, 1, 1, 1, 1, 1, 1, 1, 1], [6, 2, 2, 1, 1, 1, 1, 1, 1], [6, 2, 2, 2, 1, 1, 1, 1], [6, 2, 2, 2, 2, 1, 1], [6, 2, 2, 2, 2, 2], [6, 3, 1, 1, 1, 1, 1, 1, 1], [6, 3, 2, 1, 1, 1, 1, 1], [6, 3, 2, 2, 1, 1, 1], [6, 3, 2, 2, 2, 1], [6, 3, 3, 1, 1, 1, 1], [6, 3, 3, 2, 1, 1], [6, 3, 3, 2, 2], [6, 3, 3, 3, 1], [6, 4, 1, 1, 1, 1, 1, 1], [6, 4, 2, 1, 1, 1, 1], [6, 4, 2, 2, 1, 1], [6, 4, 2, 2, 2], [6, 4, 3, 1, 1, 1], [6, 4, 3, 2, 1], [6, 4, 3, 3], [6, 4, 4, 1, 1], [6, 4, 4, 2], [6, 5, 1, 1, 1, 1, 1], [6, 5, 2, 1, 1, 1], [6, 5, 2, 2, 1], [6, 5, 3, 1, 1], [6, 5, 3, 2], [6, 5, 4, 1], [6, 5, 5], [6, 6, 1, 1, 1, 1], [6, 6, 2, 1, 1], [6, 6, 2, 2], [6, 6, 3, 1], [6, 6, 4], [7, 1, 1, 1, 1, 1, 1, 1, 1, 1], [7, 2, 1, 1, 1, 1, 1, 1, 1], [7, 2, 2, 1, 1, 1, 1, 1], [7, 2, 2, 2, 1, 1, 1], [7, 2, 2, 2, 2, 1], [7, 3, 1, 1, 1, 1, 1, 1], [7, 3, 2, 1, 1, 1, 1], [7, 3, 2, 2, 1, 1], [7, 3, 2, 2, 2], [7, 3, 3, 1, 1, 1], [7, 3, 3, 2, 1], [7, 3, 3, 3], [7, 4, 1, 1, 1, 1, 1], [7, 4, 2, 1, 1, 1], [7, 4, 2, 2, 1], [7, 4, 3, 1, 1], [7, 4, 3, 2], [7, 4, 4, 1], [7, 5, 1, 1, 1, 1], [7, 5, 2, 1, 1], [7, 5, 2, 2], [7, 5, 3, 1], [7, 5, 4], [7, 6, 1, 1, 1], [7, 6, 2, 1], [7, 6, 3], [7, 7, 1, 1], [7, 7, 2], [8, 1, 1, 1, 1, 1, 1, 1, 1], [8, 2, 1, 1, 1, 1, 1, 1], [8, 2, 2, 1, 1, 1, 1], [8, 2, 2, 2, 1, 1], [8, 2, 2, 2, 2], [8, 3, 1, 1, 1, 1, 1], [8, 3, 2, 1, 1, 1], [8, 3, 2, 2, 1], [8, 3, 3, 1, 1], [8, 3, 3, 2], [8, 4, 1, 1, 1, 1], [8, 4, 2, 1, 1], [8, 4, 2, 2], [8, 4, 3, 1], [8, 4, 4], [8, 5, 1, 1, 1], [8, 5, 2, 1], [8, 5, 3], [8, 6, 1, 1], [8, 6, 2], [8, 7, 1], [8, 8], [9, 1, 1, 1, 1, 1, 1, 1], [9, 2, 1, 1, 1, 1, 1], [9, 2, 2, 1, 1, 1], [9, 2, 2, 2, 1], [9, 3, 1, 1, 1, 1], [9, 3, 2, 1, 1], [9, 3, 2, 2], [9, 3, 3, 1], [9, 4, 1, 1, 1], [9, 4, 2, 1], [9, 4, 3], [9, 5, 1, 1], [9, 5, 2], [9, 6, 1], [9, 7], [10, 1, 1, 1, 1, 1, 1], [10, 2, 1, 1, 1, 1], [10, 2, 2, 1, 1], [10, 2, 2, 2], [10, 3, 1, 1, 1], [10, 3, 2, 1], [10, 3, 3], [10, 4, 1, 1], [10, 4, 2], [10, 5, 1], [10, 6], [11, 1, 1, 1, 1, 1], [11, 2, 1, 1, 1], [11, 2, 2, 1], [11, 3, 1, 1], [11, 3, 2], [11, 4, 1], [11, 5], [12, 1, 1, 1, 1], [12, 2, 1, 1], [12, 2, 2], [12, 3, 1], [12, 4], [13, 1, 1, 1], [13, 2, 1], [13, 3], [14, 1, 1], [14, 2], [15, 1], [16]]
def ptN : Nat → List (List Int)
  | 0 => q0
  | 1 => q1
  | 2 => q2
  | 3 => q3
  | 4 => q4
  | 5 => q5
  | 6 => q6
  | 7 => q7
  | 8 => q8
  | 9 => q9
  | 10 => q10
  | 11 => q11
  | 12 => q12
  | _ => q16
def pt (n : Int) : List (List Int) := ptN n.toNat
end Bx
end

-- part BxPa
section
set_option Elab.async false
set_option linter.all false
set_option maxRecDepth 100000
set_option maxHeartbeats 4000000
/-! Boxparts: the two lists of shapes agree, up to twelve boxes. -/
namespace Bx
theorem ptOk2 : PtOk 2 q2 := ptOk (by decide +kernel) (by decide +kernel) (by decide +kernel)
theorem ptOk3 : PtOk 3 q3 := ptOk (by decide +kernel) (by decide +kernel) (by decide +kernel)
theorem ptOk4 : PtOk 4 q4 := ptOk (by decide +kernel) (by decide +kernel) (by decide +kernel)
theorem ptOk5 : PtOk 5 q5 := ptOk (by decide +kernel) (by decide +kernel) (by decide +kernel)
theorem ptOk6 : PtOk 6 q6 := ptOk (by decide +kernel) (by decide +kernel) (by decide +kernel)
theorem ptOk7 : PtOk 7 q7 := ptOk (by decide +kernel) (by decide +kernel) (by decide +kernel)
theorem ptOk8 : PtOk 8 q8 := ptOk (by decide +kernel) (by decide +kernel) (by decide +kernel)
theorem ptOk9 : PtOk 9 q9 := ptOk (by decide +kernel) (by decide +kernel) (by decide +kernel)
theorem ptOk10 : PtOk 10 q10 := ptOk (by decide +kernel) (by decide +kernel) (by decide +kernel)
theorem ptOk11 : PtOk 11 q11 := ptOk (by decide +kernel) (by decide +kernel) (by decide +kernel)
theorem ptOk12 : PtOk 12 q12 := ptOk (by decide +kernel) (by decide +kernel) (by decide +kernel)
end Bx
end

-- part BxPb
section
set_option Elab.async false
set_option linter.all false
set_option maxRecDepth 100000
set_option maxHeartbeats 4000000
/-! Boxparts: the two lists of shapes agree, sixteen boxes. -/
namespace Bx
theorem ptOk16 : PtOk 16 q16 := ptOk (by decide +kernel) (by decide +kernel) (by decide +kernel)
end Bx
end

-- part BxCr
section
set_option Elab.async false
set_option linter.all false
set_option maxRecDepth 100000
set_option maxHeartbeats 4000000
/-! Boxparts: drawn shapes of up to ten boxes. -/
namespace Bx
theorem clos : ∀ i, i < 10 → closB (ptN i) (ptN (i + 1)) = true := by decide +kernel
theorem plq : ∀ i, i ≤ 10 → (ptN i).all (fun s => smB s && isShp s) = true := by decide +kernel
theorem gr_2 : ∀ i, i ≤ 10 → grB 2 (ptN i) = true := by decide +kernel
theorem gr_3 : ∀ i, i ≤ 10 → grB 3 (ptN i) = true := by decide +kernel
theorem gr_4 : ∀ i, i ≤ 10 → grB 4 (ptN i) = true := by decide +kernel
end Bx
end

-- part BxCg
section
set_option Elab.async false
set_option linter.all false
set_option maxRecDepth 100000
set_option maxHeartbeats 4000000
/-! Boxparts: the last shapes. -/
namespace Bx
theorem lc16_9 : (q16.all fun p => (lc 9 p).isSome) = true := by decide +kernel
theorem gg_9_0 : ggB 9 q16 [16] = true := by decide +kernel
theorem gg_9_1 : ggB 9 q16 [8, 8] = true := by decide +kernel
theorem gg_9_2 : ggB 9 q16 [9, 7] = true := by decide +kernel
theorem lc16_10 : (q16.all fun p => (lc 10 p).isSome) = true := by decide +kernel
theorem gg_10_0 : ggB 10 q16 [16] = true := by decide +kernel
theorem gg_10_1 : ggB 10 q16 [8, 8] = true := by decide +kernel
theorem gg_10_2 : ggB 10 q16 [9, 7] = true := by decide +kernel
theorem lc16_13 : (q16.all fun p => (lc 13 p).isSome) = true := by decide +kernel
theorem gg_13_0 : ggB 13 q16 [16] = true := by decide +kernel
theorem gg_13_1 : ggB 13 q16 [8, 8] = true := by decide +kernel
theorem gg_13_2 : ggB 13 q16 [9, 7] = true := by decide +kernel
theorem lc16_16 : (q16.all fun p => (lc 16 p).isSome) = true := by decide +kernel
theorem gg_16_0 : ggB 16 q16 [16] = true := by decide +kernel
theorem gg_16_1 : ggB 16 q16 [8, 8] = true := by decide +kernel
theorem gg_16_2 : ggB 16 q16 [9, 7] = true := by decide +kernel
theorem m16 : [16] ∈ q16 ∧ [8, 8] ∈ q16 ∧ [9, 7] ∈ q16 := by decide +kernel
end Bx
end

-- part BxC2
section
set_option Elab.async false
set_option linter.all false
set_option maxRecDepth 100000
set_option maxHeartbeats 4000000
/-! Boxparts: the finite check for e = 2. -/
namespace Bx
theorem en_2_2 : enB 2 2 q2 = true := by decide +kernel
theorem en_2_3 : enB 2 3 q3 = true := by decide +kernel
theorem en_2_4 : enB 2 4 q4 = true := by decide +kernel
theorem en_2_5 : enB 2 5 q5 = true := by decide +kernel
theorem en_2_6 : enB 2 6 q6 = true := by decide +kernel
theorem en_2_7 : enB 2 7 q7 = true := by decide +kernel
theorem en_2_8 : enB 2 8 q8 = true := by decide +kernel
theorem en_2_9 : enB 2 9 q9 = true := by decide +kernel
theorem en_2_10 : enB 2 10 q10 = true := by decide +kernel
theorem en_2_11 : enB 2 11 q11 = true := by decide +kernel
theorem en_2_12 : enB 2 12 q12 = true := by decide +kernel
theorem h1_2 : [(2 : Int)] ∈ q2 ∧ wOf 2 [2] = 1 := by decide +kernel
end Bx
end

-- part BxC3
section
set_option Elab.async false
set_option linter.all false
set_option maxRecDepth 100000
set_option maxHeartbeats 4000000
/-! Boxparts: the finite check for e = 3. -/
namespace Bx
theorem en_3_3 : enB 3 3 q3 = true := by decide +kernel
theorem en_3_4 : enB 3 4 q4 = true := by decide +kernel
theorem en_3_5 : enB 3 5 q5 = true := by decide +kernel
theorem en_3_6 : enB 3 6 q6 = true := by decide +kernel
theorem en_3_7 : enB 3 7 q7 = true := by decide +kernel
theorem en_3_8 : enB 3 8 q8 = true := by decide +kernel
theorem en_3_9 : enB 3 9 q9 = true := by decide +kernel
theorem en_3_10 : enB 3 10 q10 = true := by decide +kernel
theorem en_3_11 : enB 3 11 q11 = true := by decide +kernel
theorem en_3_12 : enB 3 12 q12 = true := by decide +kernel
theorem h1_3 : [(3 : Int)] ∈ q3 ∧ wOf 3 [3] = 1 := by decide +kernel
end Bx
end

-- part BxC4
section
set_option Elab.async false
set_option linter.all false
set_option maxRecDepth 100000
set_option maxHeartbeats 4000000
/-! Boxparts: the finite check for e = 4. -/
namespace Bx
theorem en_4_4 : enB 4 4 q4 = true := by decide +kernel
theorem en_4_5 : enB 4 5 q5 = true := by decide +kernel
theorem en_4_6 : enB 4 6 q6 = true := by decide +kernel
theorem en_4_7 : enB 4 7 q7 = true := by decide +kernel
theorem en_4_8 : enB 4 8 q8 = true := by decide +kernel
theorem en_4_9 : enB 4 9 q9 = true := by decide +kernel
theorem en_4_10 : enB 4 10 q10 = true := by decide +kernel
theorem en_4_11 : enB 4 11 q11 = true := by decide +kernel
theorem en_4_12 : enB 4 12 q12 = true := by decide +kernel
theorem h1_4 : [(4 : Int)] ∈ q4 ∧ wOf 4 [4] = 1 := by decide +kernel
end Bx
end

-- part BxC5
section
set_option Elab.async false
set_option linter.all false
set_option maxRecDepth 100000
set_option maxHeartbeats 4000000
/-! Boxparts: the finite check for e = 5. -/
namespace Bx
theorem en_5_5 : enB 5 5 q5 = true := by decide +kernel
theorem en_5_6 : enB 5 6 q6 = true := by decide +kernel
theorem en_5_7 : enB 5 7 q7 = true := by decide +kernel
theorem en_5_8 : enB 5 8 q8 = true := by decide +kernel
theorem en_5_9 : enB 5 9 q9 = true := by decide +kernel
theorem en_5_10 : enB 5 10 q10 = true := by decide +kernel
theorem en_5_11 : enB 5 11 q11 = true := by decide +kernel
theorem en_5_12 : enB 5 12 q12 = true := by decide +kernel
theorem h1_5 : [(5 : Int)] ∈ q5 ∧ wOf 5 [5] = 1 := by decide +kernel
end Bx
end

-- part BxC6
section
set_option Elab.async false
set_option linter.all false
set_option maxRecDepth 100000
set_option maxHeartbeats 4000000
/-! Boxparts: the finite check for e = 6. -/
namespace Bx
theorem en_6_6 : enB 6 6 q6 = true := by decide +kernel
theorem en_6_7 : enB 6 7 q7 = true := by decide +kernel
theorem en_6_8 : enB 6 8 q8 = true := by decide +kernel
theorem en_6_9 : enB 6 9 q9 = true := by decide +kernel
theorem en_6_10 : enB 6 10 q10 = true := by decide +kernel
theorem en_6_11 : enB 6 11 q11 = true := by decide +kernel
theorem en_6_12 : enB 6 12 q12 = true := by decide +kernel
theorem h1_6 : [(6 : Int)] ∈ q6 ∧ wOf 6 [6] = 1 := by decide +kernel
end Bx
end

-- part BxC8
section
set_option Elab.async false
set_option linter.all false
set_option maxRecDepth 100000
set_option maxHeartbeats 4000000
/-! Boxparts: the finite check for e = 8. -/
namespace Bx
theorem en_8_8 : enB 8 8 q8 = true := by decide +kernel
theorem en_8_9 : enB 8 9 q9 = true := by decide +kernel
theorem en_8_10 : enB 8 10 q10 = true := by decide +kernel
theorem en_8_11 : enB 8 11 q11 = true := by decide +kernel
theorem en_8_12 : enB 8 12 q12 = true := by decide +kernel
theorem h1_8 : [(8 : Int)] ∈ q8 ∧ wOf 8 [8] = 1 := by decide +kernel
end Bx
end

-- part BxFin
section
set_option Elab.async false
set_option linter.all false
set_option maxRecDepth 100000
set_option maxHeartbeats 2000000
/-! Boxparts: all joined. -/
namespace Bx
open PySem PySem.Spec PyProof.Rows L2
theorem enAll : ∀ e ∈ e8, ∀ n, e ≤ n → n ≤ 12 → EnOk e n (pt n) := by
  intro e he n h1 h2
  simp only [e8, List.mem_cons, List.mem_nil_iff, or_false] at he
  have k2 : e = 2 → EnOk e n (pt n) := by
    rintro rfl
    have : n = 2 ∨ n = 3 ∨ n = 4 ∨ n = 5 ∨ n = 6 ∨ n = 7 ∨ n = 8 ∨ n = 9 ∨ n = 10 ∨ n = 11 ∨ n = 12 := by omega
    rcases this with rfl | rfl | rfl | rfl | rfl | rfl | rfl | rfl | rfl | rfl | rfl
    · exact enOk ptOk2 (by decide) (by decide) (by decide) en_2_2
    · exact enOk ptOk3 (by decide) (by decide) (by decide) en_2_3
    · exact enOk ptOk4 (by decide) (by decide) (by decide) en_2_4
    · exact enOk ptOk5 (by decide) (by decide) (by decide) en_2_5
    · exact enOk ptOk6 (by decide) (by decide) (by decide) en_2_6
    · exact enOk ptOk7 (by decide) (by decide) (by decide) en_2_7
    · exact enOk ptOk8 (by decide) (by decide) (by decide) en_2_8
    · exact enOk ptOk9 (by decide) (by decide) (by decide) en_2_9
    · exact enOk ptOk10 (by decide) (by decide) (by decide) en_2_10
    · exact enOk ptOk11 (by decide) (by decide) (by decide) en_2_11
    · exact enOk ptOk12 (by decide) (by decide) (by decide) en_2_12
  have k3 : e = 3 → EnOk e n (pt n) := by
    rintro rfl
    have : n = 3 ∨ n = 4 ∨ n = 5 ∨ n = 6 ∨ n = 7 ∨ n = 8 ∨ n = 9 ∨ n = 10 ∨ n = 11 ∨ n = 12 := by omega
    rcases this with rfl | rfl | rfl | rfl | rfl | rfl | rfl | rfl | rfl | rfl
    · exact enOk ptOk3 (by decide) (by decide) (by decide) en_3_3
    · exact enOk ptOk4 (by decide) (by decide) (by decide) en_3_4
    · exact enOk ptOk5 (by decide) (by decide) (by decide) en_3_5
    · exact enOk ptOk6 (by decide) (by decide) (by decide) en_3_6
    · exact enOk ptOk7 (by decide) (by decide) (by decide) en_3_7
    · exact enOk ptOk8 (by decide) (by decide) (by decide) en_3_8
    · exact enOk ptOk9 (by decide) (by decide) (by decide) en_3_9
    · exact enOk ptOk10 (by decide) (by decide) (by decide) en_3_10
    · exact enOk ptOk11 (by decide) (by decide) (by decide) en_3_11
    · exact enOk ptOk12 (by decide) (by decide) (by decide) en_3_12
  have k4 : e = 4 → EnOk e n (pt n) := by
    rintro rfl
    have : n = 4 ∨ n = 5 ∨ n = 6 ∨ n = 7 ∨ n = 8 ∨ n = 9 ∨ n = 10 ∨ n = 11 ∨ n = 12 := by omega
    rcases this with rfl | rfl | rfl | rfl | rfl | rfl | rfl | rfl | rfl
    · exact enOk ptOk4 (by decide) (by decide) (by decide) en_4_4
    · exact enOk ptOk5 (by decide) (by decide) (by decide) en_4_5
    · exact enOk ptOk6 (by decide) (by decide) (by decide) en_4_6
    · exact enOk ptOk7 (by decide) (by decide) (by decide) en_4_7
    · exact enOk ptOk8 (by decide) (by decide) (by decide) en_4_8
    · exact enOk ptOk9 (by decide) (by decide) (by decide) en_4_9
    · exact enOk ptOk10 (by decide) (by decide) (by decide) en_4_10
    · exact enOk ptOk11 (by decide) (by decide) (by decide) en_4_11
    · exact enOk ptOk12 (by decide) (by decide) (by decide) en_4_12
  have k5 : e = 5 → EnOk e n (pt n) := by
    rintro rfl
    have : n = 5 ∨ n = 6 ∨ n = 7 ∨ n = 8 ∨ n = 9 ∨ n = 10 ∨ n = 11 ∨ n = 12 := by omega
    rcases this with rfl | rfl | rfl | rfl | rfl | rfl | rfl | rfl
    · exact enOk ptOk5 (by decide) (by decide) (by decide) en_5_5
    · exact enOk ptOk6 (by decide) (by decide) (by decide) en_5_6
    · exact enOk ptOk7 (by decide) (by decide) (by decide) en_5_7
    · exact enOk ptOk8 (by decide) (by decide) (by decide) en_5_8
    · exact enOk ptOk9 (by decide) (by decide) (by decide) en_5_9
    · exact enOk ptOk10 (by decide) (by decide) (by decide) en_5_10
    · exact enOk ptOk11 (by decide) (by decide) (by decide) en_5_11
    · exact enOk ptOk12 (by decide) (by decide) (by decide) en_5_12
  have k6 : e = 6 → EnOk e n (pt n) := by
    rintro rfl
    have : n = 6 ∨ n = 7 ∨ n = 8 ∨ n = 9 ∨ n = 10 ∨ n = 11 ∨ n = 12 := by omega
    rcases this with rfl | rfl | rfl | rfl | rfl | rfl | rfl
    · exact enOk ptOk6 (by decide) (by decide) (by decide) en_6_6
    · exact enOk ptOk7 (by decide) (by decide) (by decide) en_6_7
    · exact enOk ptOk8 (by decide) (by decide) (by decide) en_6_8
    · exact enOk ptOk9 (by decide) (by decide) (by decide) en_6_9
    · exact enOk ptOk10 (by decide) (by decide) (by decide) en_6_10
    · exact enOk ptOk11 (by decide) (by decide) (by decide) en_6_11
    · exact enOk ptOk12 (by decide) (by decide) (by decide) en_6_12
  have k8 : e = 8 → EnOk e n (pt n) := by
    rintro rfl
    have : n = 8 ∨ n = 9 ∨ n = 10 ∨ n = 11 ∨ n = 12 := by omega
    rcases this with rfl | rfl | rfl | rfl | rfl
    · exact enOk ptOk8 (by decide) (by decide) (by decide) en_8_8
    · exact enOk ptOk9 (by decide) (by decide) (by decide) en_8_9
    · exact enOk ptOk10 (by decide) (by decide) (by decide) en_8_10
    · exact enOk ptOk11 (by decide) (by decide) (by decide) en_8_11
    · exact enOk ptOk12 (by decide) (by decide) (by decide) en_8_12
  rcases he with h | h | h | h | h | h | h | h
  · exact k2 h
  · exact k2 h
  · exact k3 h
  · exact k3 h
  · exact k4 h
  · exact k5 h
  · exact k6 h
  · exact k8 h
theorem h1All : ∀ e ∈ e8, [e] ∈ pt e ∧ wOf e [e] = 1 := by
  intro e he
  simp only [e8, List.mem_cons, List.mem_nil_iff, or_false] at he
  rcases he with rfl | rfl | rfl | rfl | rfl | rfl | rfl | rfl
  · exact h1_2
  · exact h1_2
  · exact h1_3
  · exact h1_3
  · exact h1_4
  · exact h1_5
  · exact h1_6
  · exact h1_8
theorem drawn (s : Dst) (i : Nat) (h : i ≤ 10) : (itM lshStep i ([], s)).1 ∈ ptN i := clos_ok (pt := ptN) (List.mem_singleton.mpr rfl) clos s i h
theorem plqOk {i : Nat} (h : i ≤ 10) {s : List Int} (hs : s ∈ ptN i) : Sm s ∧ isShp s = true := by
  have z := Bool.and_eq_true_iff.mp (List.all_eq_true.mp (plq i h) s hs)
  exact ⟨sm_of z.1, z.2⟩
theorem hSall (s : Dst) (i : Nat) (h : i ≤ 10) : Sm (itM lshStep i ([], s)).1 := (plqOk h (drawn s i h)).1
theorem w0 {e : Int} {i : Nat} (he : e ∈ e8) (hi : i ≤ 10) {o : List Int} (ho : o ∈ ptN i) (hw : wOf e o = 1) (hsmall : e ≤ i) : ∃ d, RChain [.int e, sh o] d :=
  ⟨_, ((enAll e he (i : Int) hsmall (by omega)).good o (show o ∈ ptN ((i : Int)).toNat by rw [Int.toNat_natCast]; exact ho) hw).ch⟩
theorem noW : ∀ e ∈ eL, ∀ i : Nat, i ≤ 3 → (i : Int) < e → (ptN i).all (fun o => !decide (wOf e o = 1)) = true := by decide +kernel
theorem hGall (s : Dst) (i : Nat) (h : i ≤ 10) : ∀ e ∈ eL, GoodR e (itM lshStep i ([], s)).1 := by
  intro e he
  have hd := drawn s i h
  have he8 : e ∈ e8 := by
    simp only [eL, List.mem_cons, List.mem_nil_iff, or_false] at he
    rcases he with rfl | rfl | rfl <;> decide
  have hg : grB e (ptN i) = true := by
    simp only [eL, List.mem_cons, List.mem_nil_iff, or_false] at he
    rcases he with rfl | rfl | rfl
    · exact gr_2 i h
    · exact gr_3 i h
    · exact gr_4 i h
  refine goodR_of (n := 0) hg (fun x hx => plqOk h hx) (fun hw => ?_) hd
  by_cases hsm : e ≤ (i : Int)
  · exact w0 he8 h hd hw hsm
  · have he4 : e ≤ 4 := by
      simp only [eL, List.mem_cons, List.mem_nil_iff, or_false] at he
      rcases he with rfl | rfl | rfl <;> decide
    have z := List.all_eq_true.mp (noW e he i (by omega) (by omega)) _ hd
    rw [hw] at z
    exact absurd z (by decide)
theorem hGG : ∀ e ∈ h4, ∀ s ∈ g4, GoodG e s := by
  intro e he s hs
  obtain ⟨m1, m2, m3⟩ := m16
  simp only [h4, List.mem_cons, List.mem_nil_iff, or_false] at he
  simp only [g4, List.mem_cons, List.mem_nil_iff, or_false] at hs
  rcases he with rfl | rfl | rfl | rfl
  · have hl := fun p hp => List.all_eq_true.mp lc16_9 p hp
    rcases hs with rfl | rfl | rfl | rfl
    · exact goodG_of ptOk16 (by decide) (by decide) hl m1 gg_9_0
    · exact goodG_of ptOk16 (by decide) (by decide) hl m2 gg_9_1
    · exact goodG_of ptOk16 (by decide) (by decide) hl m1 gg_9_0
    · exact goodG_of ptOk16 (by decide) (by decide) hl m3 gg_9_2
  · have hl := fun p hp => List.all_eq_true.mp lc16_10 p hp
    rcases hs with rfl | rfl | rfl | rfl
    · exact goodG_of ptOk16 (by decide) (by decide) hl m1 gg_10_0
    · exact goodG_of ptOk16 (by decide) (by decide) hl m2 gg_10_1
    · exact goodG_of ptOk16 (by decide) (by decide) hl m1 gg_10_0
    · exact goodG_of ptOk16 (by decide) (by decide) hl m3 gg_10_2
  · have hl := fun p hp => List.all_eq_true.mp lc16_13 p hp
    rcases hs with rfl | rfl | rfl | rfl
    · exact goodG_of ptOk16 (by decide) (by decide) hl m1 gg_13_0
    · exact goodG_of ptOk16 (by decide) (by decide) hl m2 gg_13_1
    · exact goodG_of ptOk16 (by decide) (by decide) hl m1 gg_13_0
    · exact goodG_of ptOk16 (by decide) (by decide) hl m3 gg_13_2
  · have hl := fun p hp => List.all_eq_true.mp lc16_16 p hp
    rcases hs with rfl | rfl | rfl | rfl
    · exact goodG_of ptOk16 (by decide) (by decide) hl m1 gg_16_0
    · exact goodG_of ptOk16 (by decide) (by decide) hl m2 gg_16_1
    · exact goodG_of ptOk16 (by decide) (by decide) hl m1 gg_16_0
    · exact goodG_of ptOk16 (by decide) (by decide) hl m3 gg_16_2
/-- the law's def, called under the claim's caller -/
theorem law_call {P : Program} {w : World} {K : PySem.W.Frag} {mg : Str → Option Value} {h base : Heap} {s₁ : Shared} {H : Hp} {a fa : Addr} {ns : List Int} (c : SaysY P.main.file h K) (htop : (P.main.scope.names.lookup ("super" : Str)).isSome = false) (KB : K.In base) (Gb : base.Ns mainGlobals mg) (hmg : mg "law" = some (.ref fa))
    (TB : ∀ p ∈ tfA.map (He.cT K), LamX.TabB base mg p.1 p.2) (hH : ∀ p ∈ tfA.map (He.cT K), H p.2 = some (.tbl #[])) (hS : (∃ o, H a = some (.frz o (.lst (ns.map V.int)))) ∨ ∀ H', SqL K H' a (ns.map V.int)) (hn : ns.length ≤ 63) (e0 : Env0 P w K mg base callerA [] s₁ H) :
    codeAny (model P w) callerA (.call (.ref fa) ⟨[.ref a], []⟩) (CR CX0 [] P w H s₁ (fun v _ => v = .bl true) E0) s₁ := by
  obtain ⟨fdL, FL⟩ := defAt c 59 (i := 79) (x := "law") rfl
  have gl := gloAt KB Gb c 85 (x := "law") rfl
  have efa := gl.symm.trans hmg
  cases efa
  have m1 : He.cT K ("law", none) ∈ tfA.map (He.cT K) := List.mem_cons_self
  have m2 : He.cT K ("_law_refused", none) ∈ tfA.map (He.cT K) := List.mem_cons_of_mem _ List.mem_cons_self
  have code : ∀ {x : Str} {st : Stmt} {fd : FuncData}, FnP K x st (He.ga K x) fd → fd.code = .ref (He.cT K (x, none)).1 := fun {x _ _} F => by
    obtain ⟨oc, od, dV, kV, doc, pm, an, cdv, ct, osl, rfl, lk, hcd, _, _⟩ := F.ex
    obtain ⟨cc, rfl⟩ := He.codeIn_ref hcd
    exact congrArg Value.ref (He.codeOf_eq (p := (x, none)) lk rfl).symm
  obtain ⟨fdc, Z⟩ := lawAt (P := P) (w := w) (Pr := (He.cT K ("_law_refused", none)).2) (c2 := (He.cT K ("_law_refused", none)).1) (tb := [((He.cT K ("law", none)).2, .tab "law.<locals>.<lambda>"), ((He.cT K ("_law_refused", none)).2, .tab "_law_refused.<locals>.<lambda>")])
    KB Gb c rfl htop (fun fd F => code F) (TB _ m2) (List.mem_cons_of_mem _ List.mem_cons_self) hSall hGall
  have hcL := code FL
  have hst : ∃ step : Dst → Dst, ∀ s, LapOk s (step s) := ⟨fun s => Classical.choose (lap_ok pt enAll h1All s), fun s => Classical.choose_spec (lap_ok pt enAll h1All s)⟩
  obtain ⟨step, hst⟩ := hst
  obtain ⟨d0, hd0, hr0⟩ : ∃ d0, ScrD K ns d0 ∧ Rep H d0 (.ref a) := by
    rcases hS with ⟨o, ho⟩ | hk
    · exact ⟨li ns, .inl rfl, a, o, _, rfl, ho, RepL.ofInts ns⟩
    · exact ⟨.sem (ScrV K ns), .inr rfl, a, rfl, hk⟩
  have hbind := FL.bindsA (ps := ["_law_script"]) (fun _ _ _ _ _ _ us hl => match us, hl with | [_], _ => rfl) s₁ [.ref a] rfl
  obtain ⟨oc, od, dV, kV, doc, pm, an, cdv, ct, osl, rfl, lk, hcd, _, _⟩ := FL.ex
  obtain rfl : cdv = .ref (He.cT K ("law", none)).1 := hcL
  have cel : Cel [((He.cT K ("law", none)).2, Bx.C.tab "law.<locals>.<lambda>"), ((He.cT K ("_law_refused", none)).2, Bx.C.tab "_law_refused.<locals>.<lambda>")] H := by
    refine ⟨fun p hp => ?_, List.nodup_cons.mpr ⟨fun z => c.ne (List.mem_singleton.mp z), List.nodup_cons.mpr ⟨(fun z => nomatch z), List.nodup_nil⟩⟩⟩
    rcases List.mem_cons.mp hp with rfl | hp
    · exact LamX.TabS.nil (hH _ m1)
    · rw [List.mem_singleton.mp hp]
      exact LamX.TabS.nil (hH _ m2)
  refine LamX.run_ofS (k := 9) (N := nLaw) (ps := ["_law_script"]) (us := [.ref a]) (vs := [.ref a]) lk hcd scLaw ⟨rfl, by decide, by decide⟩ e0 hbind (.cons rfl .nil) rfl fun hr => ⟨_, PSs.nox (pss_tw _ _), ?_⟩
  refine law_body (ns := ns) (d0 := d0) (step := step) hr rfl Z (TB _ m1) List.mem_cons_self hd0 (by omega) hst hGG _ H _ (cfg_startM ⟨.ref a, [], rfl, hr0, rfl⟩ cel) fun v H' r _ _ => r
end Bx
end

-- part BxZz
section
set_option Elab.async false
set_option linter.all false
set_option maxRecDepth 100000
set_option maxHeartbeats 2000000
/-! Boxparts: the last theorem. -/
open PySem PySem.W PySem.Calls PyProof.Rows
theorem BxHead.walk {q : Program} {loose : List PySem.Str} {XP : (PySem.Str → Option Value) → Heap → Prop} {d : DefRec} (hdf : d.params.defaults = []) (hdn : d.name = ("law" : PySem.Str)) :
    PySem.W.WalkO q loose XP (Bx.hookY BxHead.fl).says (PySem.Challenge.rw_boxparts_k48_whole_weight_one).row.toRowW d [] (fun f vs => PySem.call f vs) := by
  refine Att.attach_callB (n := 63) rfl hdf fun w s₀ s₁ mg mb fa o pm cd doc a vs ns G Y ho hd hcd hmg hobj hints hlen hbits hg => ?_
  obtain ⟨K, KX, c⟩ := Y
  rw [hdn] at hmg
  refine Bx.law_end (cs := Bx.tfA.map (He.cT K)) KX G.T.g G.T.b G.T.builtins G.T.nolimit hg (fun p hp => ?_) (fun p hp => ?_) (fun p hp => ?_) G.T.bmain hobj hints (Nat.le_trans hlen (by decide)) fun base H KB Gb TB hH hS e0 => ?_
  · obtain ⟨x, hx, rfl⟩ := List.mem_map.mp hp
    exact c.empty x hx
  · obtain ⟨x, hx, rfl⟩ := List.mem_map.mp hp
    exact c.out x hx
  · obtain ⟨x, hx, rfl⟩ := List.mem_map.mp hp
    exact PySem.W.codeHd_of_K KX (c.hd x hx)
  · exact Bx.law_call (P := (PySem.Challenge.rw_boxparts_k48_whole_weight_one).prog) c (by decide +kernel) KB Gb hmg TB hH hS hlen e0
theorem PySem.Challenge.cw_boxparts_k48_whole_weight_one_holds : PySem.Challenge.rw_boxparts_k48_whole_weight_one.Holds := by
  w_on; o_law
  refine HandSHeadRun.head_any (r := OpenLaw.row PySem.Challenge.rw_boxparts_k48_whole_weight_one) (q := view (OpenLaw.row PySem.Challenge.rw_boxparts_k48_whole_weight_one).prog [79]) (H := Bx.hookY BxHead.fl) (ob := BxHead.ob) (M := 6000) (loose := Bx.namesA) (d := HandSHeadRun.topDef (OpenLaw.row PySem.Challenge.rw_boxparts_k48_whole_weight_one).prog 79) (kwd := []) BxHead.ob_eq
    (by kernel_rfl) (fun s => by kernel_rfl) BxHead.run (by kernel_rfl) (by kernel_rfl) (by kernel_rfl) (by rfl) (by first | assumption | decide +kernel) (by decide +kernel) ⟨rfl, rfl, rfl, rfl, rfl, by decide +kernel⟩ ?hw ?hc
  case hw => w_witness2
  case hc => exact BxHead.walk rfl (by kernel_rfl)
end
