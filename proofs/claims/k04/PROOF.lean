import PyProof.Rows.All
import Wide.All
import OpenK.AllK
import Wide.FinOn
import HandS.ForMost
import HandS.Flow
import HandS.TupAny
import HandS.Deep
import HandS.IsInst
import PySem.Challenge.RW_swapwarrant_k04_tokens
set_option Elab.async false
set_option linter.all false
set_option maxRecDepth 100000
set_option maxHeartbeats 8000000
/-! DLa: a data layer over the hand layer: deep data D, a heap Mh of what may change, and the relation to V and Hp. -/
namespace DL
open PySem PySem.Spec L2
open PyProof.Rows hiding St

/-- data: tuples by value, what may change by its address -/
inductive D where
  | non
  | bl (b : Bool)
  | int (i : Int)
  | str (x : Str)
  | tup (ds : List D)
  | rol (ds : List D)
  | ref (a : Addr)

/-- what may change -/
inductive MO where
  | lst (ds : List D)

abbrev Mh := Addr → Option MO
def mup (M : Mh) (a : Addr) (o : MO) : Mh := fun b => if b = a then some o else M b
@[simp] theorem mup_same {M : Mh} {a : Addr} {o : MO} : mup M a o a = some o := if_pos rfl
theorem mup_ne {M : Mh} {a b : Addr} {o : MO} (h : b ≠ a) : mup M a o b = M b := if_neg h

abbrev Ev := List (Option D)
abbrev PQ := D → Mh → Prop
abbrev DT := Ev → Mh → PQ → Prop
abbrev DB := Ev → Mh → (Bool → Mh → Prop) → Prop
abbrev DA := Ev → Mh → (List D → Mh → Prop) → Prop
structure De where
  nx : Ev → Mh → Prop
  rt : PQ
  bk : Ev → Mh → Prop := fun _ _ => False
  ct : Ev → Mh → Prop := fun _ _ => False
abbrev DS := De → Ev → Mh → Prop

section
variable (K : PySem.W.Frag) (H : Hp)
/-- a list that is never written -/
def SqF (a : Addr) (xs : List V) : Prop :=
  (∃ o, H a = some (.frz o (.lst xs))) ∨
    ∃ (o : Obj) (its : Array Value) (n : Nat), K.lookup a = some o ∧ o.cls = .type "list" ∧ o.dict = none ∧ o.data = .seq its n ∧ its.size ≤ sizeLine ∧ Vals xs its.toList
mutual
inductive DR : D → V → Prop
  | non : DR .non .non
  | bl (b : Bool) : DR (.bl b) (.bl b)
  | int (i : Int) : DR (.int i) (.int i)
  | str (x : Str) : DR (.str x) (.str x)
  | tup {a : Addr} {vs : List V} {ds : List D} : SqT K H a vs → DRs ds vs → DR (.tup ds) (.ref a)
  | rol {a : Addr} {vs : List V} {ds : List D} : SqF K H a vs → DRs ds vs → DR (.rol ds) (.ref a)
  | ref (a : Addr) : DR (.ref a) (.ref a)
inductive DRs : List D → List V → Prop
  | nil : DRs [] []
  | cons {d : D} {v : V} {ds : List D} {vs : List V} : DR d v → DRs ds vs → DRs (d :: ds) (v :: vs)
end
def MR (a : Addr) : MO → Prop
  | .lst ds => ∃ vs, H a = some (.lst vs) ∧ DRs K H ds vs
def HR (M : Mh) : Prop := ∀ a o, M a = some o → MR K H a o
/-- slots -/
def ER (ρ : Ev) (σ : St) : Prop := ρ.length = σ.length ∧ ∀ (i : Nat) (d : D), ρ[i]? = some (some d) → ∃ v, σ[i]? = some (some v) ∧ DR K H d v
end
/-- the tuples and what is frozen stand -/
structure Ext (K : PySem.W.Frag) (H H' : Hp) : Prop where
  tup : ∀ a vs, SqT K H a vs → SqT K H' a vs
  frz : ∀ a o u, H a = some (.frz o u) → H' a = some (.frz o u)

section
variable {K : PySem.W.Frag} {H H1 H2 : Hp}
theorem Ext.refl (K : PySem.W.Frag) (H : Hp) : Ext K H H := ⟨fun _ _ h => h, fun _ _ _ h => h⟩
theorem Ext.trans (x : Ext K H H1) (y : Ext K H1 H2) : Ext K H H2 := ⟨fun a vs h => y.tup a vs (x.tup a vs h), fun a o u h => y.frz a o u (x.frz a o u h)⟩
theorem Ext.of_ne {p : Addr} {o : HO} (ht : ∀ xs, H p ≠ some (.tup xs)) (hf : ∀ ob u, H p ≠ some (.frz ob u)) : Ext K H (upd H p o) := by
  have nt : ∀ a xs, H a = some (.tup xs) → a ≠ p := fun a xs e z => ht xs (z ▸ e)
  have nf : ∀ a ob u, H a = some (.frz ob u) → a ≠ p := fun a ob u e z => hf ob u (z ▸ e)
  refine ⟨fun a vs q => ?_, fun a ob u q => by rw [upd_ne (nf a ob u q)]; exact q⟩
  rcases q with (q | ⟨ob, q⟩) | q
  · exact .inl (.inl (by rw [upd_ne (nt a _ q)]; exact q))
  · exact .inl (.inr ⟨ob, by rw [upd_ne (nf a _ _ q)]; exact q⟩)
  · exact .inr q
theorem Ext.fresh {p : Addr} {o : HO} (h : H p = none) : Ext K H (upd H p o) := .of_ne (fun xs z => by rw [h] at z; cases z) fun ob u z => by rw [h] at z; cases z
theorem Ext.lst {p : Addr} {xs : List V} {o : HO} (h : H p = some (.lst xs)) : Ext K H (upd H p o) := .of_ne (fun xs z => by rw [h] at z; cases z) fun ob u z => by rw [h] at z; cases z
theorem SqF.mono {a : Addr} {xs : List V} (x : Ext K H H1) (h : SqF K H a xs) : SqF K H1 a xs := by
  rcases h with ⟨o, h⟩ | h
  · exact .inl ⟨o, x.frz _ _ _ h⟩
  · exact .inr h
theorem SqF.seq {a : Addr} {xs : List V} (h : SqF K H a xs) : SqL K H a xs := by
  rcases h with ⟨o, h⟩ | h
  · exact .inl (.inr ⟨o, h⟩)
  · exact .inr h
mutual
theorem DR.mono (x : Ext K H H1) : ∀ {d : D} {v : V}, DR K H d v → DR K H1 d v
  | _, _, .non => .non
  | _, _, .bl b => .bl b
  | _, _, .int i => .int i
  | _, _, .str z => .str z
  | _, _, .tup h r => .tup (x.tup _ _ h) (DRs.mono x r)
  | _, _, .rol h r => .rol (h.mono x) (DRs.mono x r)
  | _, _, .ref a => .ref a
theorem DRs.mono (x : Ext K H H1) : ∀ {ds : List D} {vs : List V}, DRs K H ds vs → DRs K H1 ds vs
  | _, _, .nil => .nil
  | _, _, .cons h r => .cons (DR.mono x h) (DRs.mono x r)
end
theorem DRs.length : ∀ {ds : List D} {vs : List V}, DRs K H ds vs → ds.length = vs.length
  | _, _, .nil => rfl
  | _, _, .cons _ r => by rw [List.length_cons, List.length_cons, r.length]
theorem DRs.get : ∀ {ds : List D} {vs : List V} {i : Nat} {d : D}, DRs K H ds vs → ds[i]? = some d → ∃ v, vs[i]? = some v ∧ DR K H d v
  | _, _, _, _, .nil, e => by simp at e
  | _, _, 0, _, .cons h _, e => by
    simp only [List.getElem?_cons_zero, Option.some.injEq] at e
    exact ⟨_, rfl, e ▸ h⟩
  | _, _, i + 1, _, .cons _ r, e => by
    simp only [List.getElem?_cons_succ] at e
    obtain ⟨v, h1, h2⟩ := DRs.get r e
    exact ⟨v, by simpa using h1, h2⟩
theorem DRs.get' : ∀ {ds : List D} {vs : List V} {i : Nat} {v : V}, DRs K H ds vs → vs[i]? = some v → ∃ d, ds[i]? = some d ∧ DR K H d v
  | _, _, _, _, .nil, e => by simp at e
  | _, _, 0, _, .cons h _, e => by
    simp only [List.getElem?_cons_zero, Option.some.injEq] at e
    exact ⟨_, rfl, e ▸ h⟩
  | _, _, i + 1, _, .cons _ r, e => by
    simp only [List.getElem?_cons_succ] at e
    obtain ⟨v, h1, h2⟩ := DRs.get' r e
    exact ⟨v, by simpa using h1, h2⟩
theorem DRs.append : ∀ {ds es : List D} {vs ws : List V}, DRs K H ds vs → DRs K H es ws → DRs K H (ds ++ es) (vs ++ ws)
  | _, _, _, _, .nil, s => s
  | _, _, _, _, .cons h r, s => .cons h (DRs.append r s)
theorem DRs.drop : ∀ {ds : List D} {vs : List V} (n : Nat), DRs K H ds vs → DRs K H (ds.drop n) (vs.drop n)
  | _, _, 0, r => r
  | _, _, _ + 1, .nil => .nil
  | _, _, n + 1, .cons _ r => DRs.drop n r
theorem DRs.take : ∀ {ds : List D} {vs : List V} (n : Nat), DRs K H ds vs → DRs K H (ds.take n) (vs.take n)
  | _, _, 0, _ => .nil
  | _, _, _ + 1, .nil => .nil
  | _, _, n + 1, .cons h r => .cons h (DRs.take n r)
theorem DRs.set : ∀ {ds : List D} {vs : List V} (i : Nat) {d : D} {v : V}, DRs K H ds vs → DR K H d v → DRs K H (ds.set i d) (vs.set i v)
  | _, _, _, _, _, .nil, _ => .nil
  | _, _, 0, _, _, .cons _ r, q => .cons q r
  | _, _, i + 1, _, _, .cons h r, q => .cons h (DRs.set i r q)
theorem DRs.erase : ∀ {ds : List D} {vs : List V} (i : Nat), DRs K H ds vs → DRs K H (ds.eraseIdx i) (vs.eraseIdx i)
  | _, _, _, .nil => .nil
  | _, _, 0, .cons _ r => r
  | _, _, i + 1, .cons h r => .cons h (DRs.erase i r)
theorem DRs.dropLast {ds : List D} {vs : List V} (r : DRs K H ds vs) : DRs K H ds.dropLast vs.dropLast := by
  rw [List.dropLast_eq_take, List.dropLast_eq_take, r.length]; exact r.take _
theorem DRs.one {d : D} {v : V} (h : DR K H d v) : DRs K H [d] [v] := .cons h .nil
theorem DRs.two {d e : D} {v w : V} (h : DR K H d v) (g : DR K H e w) : DRs K H [d, e] [v, w] := .cons h (.cons g .nil)

theorem ER.mono {ρ : Ev} {σ : St} (x : Ext K H H1) (e : ER K H ρ σ) : ER K H1 ρ σ := ⟨e.1, fun i d h => let ⟨v, h1, h2⟩ := e.2 i d h; ⟨v, h1, h2.mono x⟩⟩
theorem ER.set {ρ : Ev} {σ : St} {i : Nat} {d : D} {v : V} (e : ER K H ρ σ) (h : DR K H d v) : ER K H (ρ.set i (some d)) (σ.set i (some v)) := by
  refine ⟨by rw [List.length_set, List.length_set, e.1], fun j c q => ?_⟩
  by_cases hj : i = j
  · subst hj
    rw [List.getElem?_set] at q
    by_cases hl : i < ρ.length
    · rw [if_pos rfl, if_pos hl] at q
      cases q
      exact ⟨v, by rw [List.getElem?_set, if_pos rfl, if_pos (by rw [← e.1]; exact hl)], h⟩
    · rw [if_pos rfl, if_neg hl] at q
      cases q
  · rw [List.getElem?_set_ne hj] at q
    obtain ⟨w, h1, h2⟩ := e.2 j c q
    exact ⟨w, by rw [List.getElem?_set_ne hj]; exact h1, h2⟩

theorem HR.free {M : Mh} {p : Addr} (r : HR K H M) (h : H p = none) : M p = none := by
  cases e : M p with
  | none => rfl
  | some o =>
    cases o with
    | lst ds =>
      obtain ⟨vs, q, _⟩ := r p _ e
      rw [h] at q; cases q
/-- the objects of M elsewhere stand -/
theorem HR.keep {M : Mh} (r : HR K H M) (x : Ext K H H1) (k : ∀ a vs, (M a).isSome = true → H a = some (.lst vs) → H1 a = some (.lst vs)) : HR K H1 M := fun a o e => by
  cases o with
  | lst ds =>
    obtain ⟨vs, q, d⟩ := r a _ e
    exact ⟨vs, k a vs (by rw [e]; rfl) q, d.mono x⟩
/-- something new that M does not speak of -/
theorem HR.fresh {M : Mh} {p : Addr} {o : HO} (r : HR K H M) (h : H p = none) : HR K (upd H p o) M :=
  r.keep (.fresh h) fun a vs _ e => by rw [upd_ne (ne_of_none e h)]; exact e
/-- a new list -/
theorem HR.new {M : Mh} {p : Addr} {ds : List D} {vs : List V} (r : HR K H M) (h : H p = none) (d : DRs K H ds vs) : HR K (upd H p (.lst vs)) (mup M p (.lst ds)) := fun a o e => by
  by_cases z : a = p
  · subst z
    rw [mup_same] at e; cases e
    exact ⟨vs, upd_same, d.mono (.fresh h)⟩
  · rw [mup_ne z] at e
    exact (r.fresh (o := .lst vs) h) a o e
/-- a list is written -/
theorem HR.write {M : Mh} {p : Addr} {ds : List D} {vs xs : List V} (r : HR K H M) (h : H p = some (.lst xs)) (d : DRs K H ds vs) : HR K (upd H p (.lst vs)) (mup M p (.lst ds)) := fun a o e => by
  by_cases z : a = p
  · subst z
    rw [mup_same] at e; cases e
    exact ⟨vs, upd_same, d.mono (.lst h)⟩
  · rw [mup_ne z] at e
    cases o with
    | lst es =>
      obtain ⟨ws, q, w⟩ := r a _ e
      exact ⟨ws, by rw [upd_ne z]; exact q, w.mono (.lst h)⟩
end
end DL
/-! DLb: rules of the data layer for expressions and tests. -/
namespace DL
open PySem PySem.Spec L2
open PyProof.Rows hiding St

/-! ### transformers over data, seen as the hand layer's readings -/
def up (K : PySem.W.Frag) (w : DT) : TE := fun σ H Q => ∃ ρ M P, ER K H ρ σ ∧ HR K H M ∧ w ρ M P ∧ ∀ d M' v H', P d M' → Ext K H H' → DR K H' d v → HR K H' M' → Q v H'
def upB (K : PySem.W.Frag) (w : DB) : TT := fun σ H Q => ∃ ρ M P, ER K H ρ σ ∧ HR K H M ∧ w ρ M P ∧ ∀ b M' H', P b M' → Ext K H H' → HR K H' M' → Q b H'
def upA (K : PySem.W.Frag) (w : DA) : TA := fun σ H Q => ∃ ρ M P, ER K H ρ σ ∧ HR K H M ∧ w ρ M P ∧ ∀ ds M' vs H', P ds M' → Ext K H H' → DRs K H' ds vs → HR K H' M' → Q vs H'
/-- operations on values -/
def up1 (K : PySem.W.Frag) (r : D → Mh → PQ → Prop) : V → Hp → VK → Prop := fun v H Q => ∃ x M P, DR K H x v ∧ HR K H M ∧ r x M P ∧ ∀ d M' v' H', P d M' → Ext K H H' → DR K H' d v' → HR K H' M' → Q v' H'
def up2 (K : PySem.W.Frag) (r : D → D → Mh → PQ → Prop) : R2 := fun v u H Q => ∃ x y M P, DR K H x v ∧ DR K H y u ∧ HR K H M ∧ r x y M P ∧ ∀ d M' v' H', P d M' → Ext K H H' → DR K H' d v' → HR K H' M' → Q v' H'
def upL (K : PySem.W.Frag) (r : List D → Mh → PQ → Prop) : List V → Hp → VK → Prop := fun vs H Q => ∃ xs M P, DRs K H xs vs ∧ HR K H M ∧ r xs M P ∧ ∀ d M' v' H', P d M' → Ext K H H' → DR K H' d v' → HR K H' M' → Q v' H'
def upM (K : PySem.W.Frag) (r : D → List D → Mh → PQ → Prop) : V → List V → Hp → VK → Prop := fun v vs H Q => ∃ x xs M P, DR K H x v ∧ DRs K H xs vs ∧ HR K H M ∧ r x xs M P ∧ ∀ d M' v' H', P d M' → Ext K H H' → DR K H' d v' → HR K H' M' → Q v' H'
abbrev Dx (X : Cx) (e : Expr) (w : DT) : Prop := PE X e (up X.K w)
abbrev Dt (X : Cx) (e : Expr) (w : DB) : Prop := PT X e (upB X.K w)
abbrev Da (X : Cx) (es : List Expr) (w : DA) : Prop := PA X es (upA X.K w)
theorem pe_wk {X : Cx} {e : Expr} {t t' : TE} (h : PE X e t) (k : ∀ σ H Q, t' σ H Q → t σ H Q) : PE X e t' := ⟨fun pins s σ H Q I q => h.run pins s σ H Q I (k σ H Q q)⟩
theorem pt_wk {X : Cx} {e : Expr} {t t' : TT} (h : PT X e t) (k : ∀ σ H Q, t' σ H Q → t σ H Q) : PT X e t' := ⟨fun pins s σ H Q I q => h.run pins s σ H Q I (k σ H Q q)⟩
theorem pa_wk {X : Cx} {es : List Expr} {t t' : TA} (h : PA X es t) (k : ∀ σ H Q, t' σ H Q → t σ H Q) : PA X es t' := ⟨fun pos pins s σ H Q I q => h.run pos pins s σ H Q I (k σ H Q q)⟩

/-! ### the combinators -/
def slot : Ev → Nat → Option D
  | [], _ => none
  | x :: _, 0 => x
  | _ :: r, n + 1 => slot r n
theorem slot_get : ∀ {ρ : Ev} {i : Nat} {d : D}, slot ρ i = some d → ρ[i]? = some (some d)
  | x :: _, 0, d, h => by simpa [slot] using h
  | _ :: r, n + 1, d, h => by
    have := slot_get (ρ := r) (i := n) (d := d) h
    simpa using this
def eVar (i : Nat) : DT := fun ρ M P => match slot ρ i with
  | some d => P d M
  | none => False
def eC (d : D) : DT := fun _ M P => P d M
def eBin (r : D → D → Mh → PQ → Prop) (a b : DT) : DT := fun ρ M P => a ρ M fun x M1 => b ρ M1 fun y M2 => r x y M2 P
def eUn (r : D → Mh → PQ → Prop) (a : DT) : DT := fun ρ M P => a ρ M fun x M1 => r x M1 P
/-- a comparison's answer -/
abbrev Cmp := D → D → Mh → (Bool → Prop) → Prop
def eCmp (r : Cmp) (a b : DT) : DT := fun ρ M P => a ρ M fun x M1 => b ρ M1 fun y M2 => r x y M2 fun k => P (.bl k) M2
def bCmp (r : Cmp) (a b : DT) : DB := fun ρ M P => a ρ M fun x M1 => b ρ M1 fun y M2 => r x y M2 fun k => P k M2
/-- truth -/
def truD (x : D) (M : Mh) (P : Bool → Prop) : Prop := match x with
  | .non => P false
  | .bl b => P b
  | .int i => P (i != 0)
  | .str z => z.length ≤ sizeLine ∧ P ((z.length : Int) != 0)
  | .tup ds => P (!ds.isEmpty)
  | .rol ds => P (!ds.isEmpty)
  | .ref a => match M a with
    | some (.lst ds) => P (!ds.isEmpty)
    | _ => False
def bTru (a : DT) : DB := fun ρ M P => a ρ M fun x M1 => truD x M1 fun k => P k M1
def bNot (a : DB) : DB := fun ρ M P => a ρ M fun k M1 => P (!k) M1
def bAnd (a b : DB) : DB := fun ρ M P => a ρ M fun k M1 => if k = true then b ρ M1 P else P false M1
def bOr (a b : DB) : DB := fun ρ M P => a ρ M fun k M1 => if k = true then P true M1 else b ρ M1 P
def eNot (a : DT) : DT := fun ρ M P => a ρ M fun x M1 => truD x M1 fun k => P (.bl (!k)) M1
def eAnd (a b : DT) : DT := fun ρ M P => a ρ M fun x M1 => truD x M1 fun k => if k = true then b ρ M1 P else P x M1
def eOr (a b : DT) : DT := fun ρ M P => a ρ M fun x M1 => truD x M1 fun k => if k = true then P x M1 else b ρ M1 P
def eIf (c : DB) (a b : DT) : DT := fun ρ M P => c ρ M fun k M1 => if k = true then a ρ M1 P else b ρ M1 P
def aNil : DA := fun _ M P => P [] M
def aCons (a : DT) (r : DA) : DA := fun ρ M P => a ρ M fun x M1 => r ρ M1 fun xs M2 => P (x :: xs) M2
def eTup (a : DA) : DT := fun ρ M P => a ρ M fun xs M1 => xs.length ≤ sizeLine ∧ P (.tup xs) M1
def eLst (a : DA) : DT := fun ρ M P => a ρ M fun xs M1 => xs.length ≤ sizeLine ∧ ∀ p, M1 p = none → P (.ref p) (mup M1 p (.lst xs))
/-- f(..) by what f promises -/
def eCall (sp : List D → Mh → PQ → Prop) (a : DA) : DT := fun ρ M P => a ρ M fun xs M1 => sp xs M1 P
/-- o.m(..) -/
def eMet (r : D → List D → Mh → PQ → Prop) (o : DT) (a : DA) : DT := fun ρ M P => o ρ M fun x M1 => a ρ M1 fun xs M2 => r x xs M2 P

section
variable {X : Cx}
theorem dx_var {i : Nat} {x : Str} {pos : Pos} (hN : X.N[i]? = some x) (hv : Vis X.env.scope x) (hd : (x == ("__debug__" : Str)) = false) (hcd : (x == ("__classdict__" : Str)) = false) : Dx X (.Name x pos) (eVar i) :=
  pe_wk (pe_var hN hv hd hcd) fun σ H Q ⟨ρ, M, P, er, hr, w, k⟩ => by
    unfold eVar at w
    cases e : slot ρ i with
    | none => rw [e] at w; exact w.elim
    | some d =>
      rw [e] at w
      obtain ⟨v, h1, h2⟩ := er.2 i d (slot_get e)
      exact ⟨v, h1, k d M v H w (.refl _ _) h2 hr⟩
theorem dx_c {e : Expr} {v : V} {d : D} (h : PE X e (tC v)) (r : ∀ H, DR X.K H d v) : Dx X e (eC d) :=
  pe_wk h fun σ H Q ⟨ρ, M, P, er, hr, w, k⟩ => k d M v H w (.refl _ _) (r H) hr
theorem dx_bin {op : Operator} {r : D → D → Mh → PQ → Prop} {a b : Expr} {wa wb : DT} {pos : Pos} (ho : OpR X (binaryOp op) (up2 X.K r)) (ha : Dx X a wa) (hb : Dx X b wb) : Dx X (.BinOp a op b pos) (eBin r wa wb) :=
  pe_wk (pe_op ho ha hb) fun σ H Q ⟨ρ, M, P, er, hr, w, k⟩ =>
    ⟨ρ, M, _, er, hr, w, fun x M1 v H1 p1 e1 d1 h1 => ⟨ρ, M1, _, er.mono e1, h1, p1, fun y M2 u H2 p2 e2 d2 h2 => ⟨x, y, M2, P, d1.mono e2, d2, h2, p2, fun d M3 v3 H3 p3 e3 => k d M3 v3 H3 p3 (e1.trans (e2.trans e3))⟩⟩⟩
theorem dx_un {op : UnaryOp} {r : D → Mh → PQ → Prop} {a : Expr} {wa : DT} {pos : Pos} (ho : UnR X (unaryOp op) (up1 X.K r)) (ha : Dx X a wa) : Dx X (.UnaryOp op a pos) (eUn r wa) :=
  pe_wk (pe_un ho ha) fun σ H Q ⟨ρ, M, P, er, hr, w, k⟩ =>
    ⟨ρ, M, _, er, hr, w, fun x M1 v H1 p1 e1 d1 h1 => ⟨x, M1, P, d1, h1, p1, fun d M3 v3 H3 p3 e3 => k d M3 v3 H3 p3 (e1.trans e3)⟩⟩
/-- a comparison by values -/
def upC (K : PySem.W.Frag) (r : Cmp) : R2 := fun v u H Q => ∃ x y M P, DR K H x v ∧ DR K H y u ∧ HR K H M ∧ r x y M P ∧ ∀ k, P k → Q (.bl k) H
theorem dx_cmp {op : CmpOp} {r : Cmp} {a b : Expr} {wa wb : DT} {pos : Pos} (ho : OpR X (compareOp op) (upC X.K r)) (ha : Dx X a wa) (hb : Dx X b wb) (hm : behindInMarks op b = false) : Dx X (.Compare a [op] [b] pos) (eCmp r wa wb) :=
  pe_wk (pe_cmpR ho ha hb hm) fun σ H Q ⟨ρ, M, P, er, hr, w, k⟩ =>
    ⟨ρ, M, _, er, hr, w, fun x M1 v H1 p1 e1 d1 h1 => ⟨ρ, M1, _, er.mono e1, h1, p1, fun y M2 u H2 p2 e2 d2 h2 => ⟨x, y, M2, _, d1.mono e2, d2, h2, p2, fun c p3 => k _ M2 _ H2 p3 (e1.trans e2) (.bl c) h2⟩⟩⟩
theorem dt_cmp {op : CmpOp} {r : Cmp} {a b : Expr} {wa wb : DT} {pos : Pos} (ho : OpR X (compareOp op) (upC X.K r)) (ha : Dx X a wa) (hb : Dx X b wb) (hm : behindInMarks op b = false) : Dt X (.Compare a [op] [b] pos) (bCmp r wa wb) :=
  pt_wk (pt_cmpR ho ha hb hm) fun σ H Q ⟨ρ, M, P, er, hr, w, k⟩ =>
    ⟨ρ, M, _, er, hr, w, fun x M1 v H1 p1 e1 d1 h1 => ⟨ρ, M1, _, er.mono e1, h1, p1, fun y M2 u H2 p2 e2 d2 h2 => ⟨x, y, M2, _, d1.mono e2, d2, h2, p2, fun c p3 => ⟨c, rfl, k _ M2 H2 p3 (e1.trans e2) h2⟩⟩⟩⟩
theorem DRs.isEmpty {K : PySem.W.Frag} {H : Hp} : ∀ {ds : List D} {vs : List V}, DRs K H ds vs → ds.isEmpty = vs.isEmpty
  | _, _, .nil => rfl
  | _, _, .cons _ _ => rfl
/-- truth by values -/
theorem tru_of {K : PySem.W.Frag} {H : Hp} {x : D} {v : V} {M : Mh} {P : Bool → Prop} (d : DR K H x v) (h : HR K H M) (t : truD x M P) : ∃ k, TruV K v H k ∧ P k := by
  cases d with
  | non => exact ⟨false, rfl, t⟩
  | bl b => exact ⟨b, rfl, t⟩
  | int i => exact ⟨_, rfl, t⟩
  | str z => exact ⟨_, ⟨t.1, rfl⟩, t.2⟩
  | tup s r => exact ⟨_, .inr (.inl ⟨_, s, rfl⟩), by rw [← r.isEmpty]; exact t⟩
  | rol s r => exact ⟨_, .inl ⟨_, s.seq, rfl⟩, by rw [← r.isEmpty]; exact t⟩
  | ref a =>
    have t : (match M a with | some (.lst ds) => P (!ds.isEmpty) | _ => False) := t
    cases e : M a with
    | none => rw [e] at t; exact False.elim t
    | some o =>
      cases o with
      | lst ds =>
        rw [e] at t
        obtain ⟨vs, q, r⟩ := h a _ e
        exact ⟨_, .inl ⟨_, SqL.of q, rfl⟩, by rw [← r.isEmpty]; exact t⟩
theorem dt_tru {a : Expr} {wa : DT} (ha : Dx X a wa) (he : ∀ whole, isTrue a X.env whole = (do let v ← whole; standAt a.pos; holding [v] (truthy v))) : Dt X a (bTru wa) :=
  pt_wk (pt_truth ha he) fun σ H Q ⟨ρ, M, P, er, hr, w, k⟩ =>
    ⟨ρ, M, _, er, hr, w, fun x M1 v H1 p1 e1 d1 h1 => let ⟨c, t, p⟩ := tru_of d1 h1 p1; ⟨c, t, k c M1 H1 p e1 h1⟩⟩
theorem dt_not {a : Expr} {wa : DB} {pos : Pos} (ha : Dt X a wa) : Dt X (.UnaryOp .Not a pos) (bNot wa) :=
  pt_wk (pt_not ha) fun σ H Q ⟨ρ, M, P, er, hr, w, k⟩ => ⟨ρ, M, _, er, hr, w, fun b M1 H1 p1 e1 h1 => k _ M1 H1 p1 e1 h1⟩
/-- a row of tests -/
abbrev Dw (X : Cx) (e : Expr) (w : DB) : Prop := PW X e (upB X.K w)
theorem pw_wk {e : Expr} {t t' : TT} (h : PW X e t) (k : ∀ σ H Q, t' σ H Q → t σ H Q) : PW X e t' := ⟨fun whole pins s σ H Q I q => h.run whole pins s σ H Q I (k σ H Q q)⟩
theorem dw_and {a b : Expr} {rest : List Expr} {wa wb : DB} {pos : Pos} (ha : Dt X a wa) (hb : Dw X (.BoolOp .And (b :: rest) pos) wb) : Dw X (.BoolOp .And (a :: b :: rest) pos) (bAnd wa wb) :=
  pw_wk (pw_and ha hb) fun σ H Q ⟨ρ, M, P, er, hr, w, k⟩ => ⟨ρ, M, _, er, hr, w, fun b M1 H1 p1 e1 h1 => by
    cases b with
    | true => exact ⟨ρ, M1, P, er.mono e1, h1, p1, fun c M2 H2 p2 e2 h2 => k c M2 H2 p2 (e1.trans e2) h2⟩
    | false => exact k _ M1 H1 p1 e1 h1⟩
theorem dw_or {a b : Expr} {rest : List Expr} {wa wb : DB} {pos : Pos} (ha : Dt X a wa) (hb : Dw X (.BoolOp .Or (b :: rest) pos) wb) : Dw X (.BoolOp .Or (a :: b :: rest) pos) (bOr wa wb) :=
  pw_wk (pw_or ha hb) fun σ H Q ⟨ρ, M, P, er, hr, w, k⟩ => ⟨ρ, M, _, er, hr, w, fun b M1 H1 p1 e1 h1 => by
    cases b with
    | false => exact ⟨ρ, M1, P, er.mono e1, h1, p1, fun c M2 H2 p2 e2 h2 => k c M2 H2 p2 (e1.trans e2) h2⟩
    | true => exact k _ M1 H1 p1 e1 h1⟩
theorem dx_not {a : Expr} {wa : DT} {pos : Pos} (ha : Dx X a wa) : Dx X (.UnaryOp .Not a pos) (eNot wa) :=
  pe_wk (pe_notT ha) fun σ H Q ⟨ρ, M, P, er, hr, w, k⟩ => ⟨ρ, M, _, er, hr, w, fun x M1 v H1 p1 e1 d1 h1 => let ⟨c, t, p⟩ := tru_of d1 h1 p1; ⟨c, t, k _ M1 _ H1 p e1 (.bl _) h1⟩⟩
theorem dx_and {a b : Expr} {rest : List Expr} {wa wb : DT} {pos : Pos} (ha : Dx X a wa) (hb : Dx X (.BoolOp .And (b :: rest) pos) wb) : Dx X (.BoolOp .And (a :: b :: rest) pos) (eAnd wa wb) :=
  pe_wk (pe_andT ha hb) fun σ H Q ⟨ρ, M, P, er, hr, w, k⟩ => ⟨ρ, M, _, er, hr, w, fun x M1 v H1 p1 e1 d1 h1 => by
    obtain ⟨c, t, p⟩ := tru_of d1 h1 p1
    refine ⟨c, t, ?_⟩
    cases c with
    | true => exact ⟨ρ, M1, P, er.mono e1, h1, p, fun d M2 v2 H2 p2 e2 => k d M2 v2 H2 p2 (e1.trans e2)⟩
    | false => exact k _ M1 _ H1 p e1 d1 h1⟩
theorem dx_or {a b : Expr} {rest : List Expr} {wa wb : DT} {pos : Pos} (ha : Dx X a wa) (hb : Dx X (.BoolOp .Or (b :: rest) pos) wb) : Dx X (.BoolOp .Or (a :: b :: rest) pos) (eOr wa wb) :=
  pe_wk (pe_orT ha hb) fun σ H Q ⟨ρ, M, P, er, hr, w, k⟩ => ⟨ρ, M, _, er, hr, w, fun x M1 v H1 p1 e1 d1 h1 => by
    obtain ⟨c, t, p⟩ := tru_of d1 h1 p1
    refine ⟨c, t, ?_⟩
    cases c with
    | false => exact ⟨ρ, M1, P, er.mono e1, h1, p, fun d M2 v2 H2 p2 e2 => k d M2 v2 H2 p2 (e1.trans e2)⟩
    | true => exact k _ M1 _ H1 p e1 d1 h1⟩
theorem dx_if {c a b : Expr} {wc : DB} {wa wb : DT} {pos : Pos} (hc : Dt X c wc) (ha : Dx X a wa) (hb : Dx X b wb) : Dx X (.IfExp c a b pos) (eIf wc wa wb) :=
  pe_wk (pe_ifExp hc ha hb) fun σ H Q ⟨ρ, M, P, er, hr, w, k⟩ => ⟨ρ, M, _, er, hr, w, fun c M1 H1 p1 e1 h1 => by
    cases c with
    | true => exact ⟨ρ, M1, P, er.mono e1, h1, p1, fun d M2 v2 H2 p2 e2 => k d M2 v2 H2 p2 (e1.trans e2)⟩
    | false => exact ⟨ρ, M1, P, er.mono e1, h1, p1, fun d M2 v2 H2 p2 e2 => k d M2 v2 H2 p2 (e1.trans e2)⟩⟩
theorem da_nil : Da X [] aNil := pa_wk pa_nil fun σ H Q ⟨ρ, M, P, er, hr, w, k⟩ => k [] M [] H w (.refl _ _) .nil hr
theorem da_cons {e : Expr} {es : List Expr} {wa : DT} {wr : DA} (ha : Dx X e wa) (hr : Da X es wr) (hs : starEach (e :: es) X.env = (false, eval e X.env) :: starEach es X.env) : Da X (e :: es) (aCons wa wr) :=
  pa_wk (pa_cons ha hr hs) fun σ H Q ⟨ρ, M, P, er, hr, w, k⟩ => ⟨ρ, M, _, er, hr, w, fun x M1 v H1 p1 e1 d1 h1 => ⟨ρ, M1, _, er.mono e1, h1, p1, fun xs M2 vs H2 p2 e2 d2 h2 => k _ M2 _ H2 p2 (e1.trans e2) (.cons (d1.mono e2) d2) h2⟩⟩
theorem dx_tup {es : List Expr} {wa : DA} {n : Nat} {pos : Pos} (ha : Da X es wa) : Dx X (.Tuple es n pos) (eTup wa) :=
  pe_wk (pe_tup ha) fun σ H Q ⟨ρ, M, P, er, hr, w, k⟩ => ⟨ρ, M, _, er, hr, w, fun xs M1 vs H1 p1 e1 d1 h1 => ⟨by rw [← d1.length]; exact p1.1, fun p np =>
    k _ M1 _ _ p1.2 (e1.trans (.fresh np)) (.tup (SqT.of upd_same) (d1.mono (.fresh np))) (h1.fresh np)⟩⟩
theorem dx_lst {es : List Expr} {wa : DA} {pos : Pos} (ha : Da X es wa) : Dx X (.List es pos) (eLst wa) :=
  pe_wk (pe_lst ha) fun σ H Q ⟨ρ, M, P, er, hr, w, k⟩ => ⟨ρ, M, _, er, hr, w, fun xs M1 vs H1 p1 e1 d1 h1 => ⟨by rw [← d1.length]; exact p1.1, fun p np =>
    k _ _ _ _ (p1.2 p (h1.free np)) (e1.trans (.fresh np)) (.ref p) (h1.new np d1)⟩⟩
end
end DL
/-! DLc: operations of the data layer by values. -/
namespace DL
open PySem PySem.Spec L2
open PyProof.Rows hiding St

/-- the items of a list or tuple -/
def itemsD (x : D) (M : Mh) : Option (List D) := match x with
  | .tup ds => some ds
  | .rol ds => some ds
  | .ref a => match M a with
    | some (.lst ds) => some ds
    | _ => none
  | _ => none
theorem items_of {K : PySem.W.Frag} {H : Hp} {x : D} {v : V} {M : Mh} {ds : List D} (d : DR K H x v) (h : HR K H M) (e : itemsD x M = some ds) : ∃ p vs, v = .ref p ∧ (SqL K H p vs ∨ SqT K H p vs) ∧ DRs K H ds vs := by
  cases d with
  | tup s r => cases e; exact ⟨_, _, rfl, .inr s, r⟩
  | rol s r => cases e; exact ⟨_, _, rfl, .inl s.seq, r⟩
  | ref a =>
    have e : (match M a with | some (.lst ds) => some ds | _ => none) = some ds := e
    cases q : M a with
    | none => rw [q] at e; cases e
    | some o =>
      cases o with
      | lst es =>
        rw [q] at e; cases e
        obtain ⟨vs, q, r⟩ := h a _ q
        exact ⟨_, _, rfl, .inl (SqL.of q), r⟩
  | _ => cases e

/-! ### arithmetic -/
def addD : D → D → Mh → PQ → Prop
  | .int i, .int j, M, P => P (.int (i + j)) M
  | .str a, .str b, M, P => a.length + b.length ≤ sizeLine ∧ P (.str (a ++ b)) M
  | .tup xs, .tup ys, M, P => xs.length + ys.length ≤ sizeLine ∧ P (.tup (xs ++ ys)) M
  | .ref a, .ref b, M, P => ∃ xs ys, M a = some (.lst xs) ∧ M b = some (.lst ys) ∧ xs.length + ys.length ≤ sizeLine ∧ ∀ p, M p = none → P (.ref p) (mup M p (.lst (xs ++ ys)))
  | _, _, _, _ => False
def subD : D → D → Mh → PQ → Prop
  | .int i, .int j, M, P => P (.int (i - j)) M
  | _, _, _, _ => False
def mulD : D → D → Mh → PQ → Prop
  | .int i, .int j, M, P => CMul i j ∧ P (.int (i * j)) M
  | .str a, .int j, M, P => (0 ≤ j ∧ j ≤ 1) ∧ P (.str (if j = 1 then a else Str.empty)) M
  | _, _, _, _ => False
def divD : D → D → Mh → PQ → Prop
  | .int i, .int j, M, P => (0 < j ∧ j < 1073741824) ∧ P (.int (i / j)) M
  | _, _, _, _ => False
def modD : D → D → Mh → PQ → Prop
  | .int i, .int j, M, P => 0 < j ∧ P (.int (i % j)) M
  | _, _, _, _ => False
def powD : D → D → Mh → PQ → Prop
  | .int i, .int j, M, P => CPow i j ∧ P (.int (i ^ j.toNat)) M
  | _, _, _, _ => False
def negD : D → Mh → PQ → Prop
  | .int i, M, P => P (.int (-i)) M
  | _, _, _ => False

section
variable {X : Cx}
theorem od_sub : OpR X (binaryOp .Sub) (up2 X.K subD) := by
  rintro pins s σ H v u a b Q I ra rb ⟨x, y, M, P, dx, dy, hr, w, k⟩
  cases dx <;> cases dy <;> first | exact False.elim w | skip
  exact op_sub pins s σ H _ _ a b Q I ra rb ⟨_, _, rfl, rfl, k _ _ _ _ w (.refl _ _) (.int _) hr⟩
theorem iod_sub : OpR X (inplaceOp .Sub) (up2 X.K subD) := by
  rintro pins s σ H v u a b Q I ra rb ⟨x, y, M, P, dx, dy, hr, w, k⟩
  cases dx <;> cases dy <;> first | exact False.elim w | skip
  exact iop_sub pins s σ H _ _ a b Q I ra rb ⟨_, _, rfl, rfl, k _ _ _ _ w (.refl _ _) (.int _) hr⟩
theorem od_div : OpR X (binaryOp .FloorDiv) (up2 X.K divD) := by
  rintro pins s σ H v u a b Q I ra rb ⟨x, y, M, P, dx, dy, hr, w, k⟩
  cases dx <;> cases dy <;> first | exact False.elim w | skip
  exact op_fdiv pins s σ H _ _ a b Q I ra rb ⟨_, _, rfl, rfl, w.1, k _ _ _ _ w.2 (.refl _ _) (.int _) hr⟩
theorem od_mod : OpR X (binaryOp .Mod) (up2 X.K modD) := by
  rintro pins s σ H v u a b Q I ra rb ⟨x, y, M, P, dx, dy, hr, w, k⟩
  cases dx <;> cases dy <;> first | exact False.elim w | skip
  exact op_mod pins s σ H _ _ a b Q I ra rb ⟨_, _, rfl, rfl, w.1, k _ _ _ _ w.2 (.refl _ _) (.int _) hr⟩
theorem od_pow : OpR X (binaryOp .Pow) (up2 X.K powD) := by
  rintro pins s σ H v u a b Q I ra rb ⟨x, y, M, P, dx, dy, hr, w, k⟩
  cases dx <;> cases dy <;> first | exact False.elim w | skip
  exact op_pow pins s σ H _ _ a b Q I ra rb ⟨_, _, rfl, rfl, w.1, k _ _ _ _ w.2 (.refl _ _) (.int _) hr⟩
theorem ud_neg : UnR X (unaryOp .USub) (up1 X.K negD) := by
  rintro pins s σ H v a Q I ra ⟨x, M, P, dx, hr, w, k⟩
  cases dx <;> first | exact False.elim w | skip
  exact un_neg pins s σ H _ a Q I ra ⟨_, rfl, k _ _ _ _ w (.refl _ _) (.int _) hr⟩
theorem od_mul : OpR X (binaryOp .Mult) (up2 X.K mulD) := by
  rintro pins s σ H v u a b Q I ra rb ⟨x, y, M, P, dx, dy, hr, w, k⟩
  cases dx <;> cases dy <;> first | exact False.elim w | skip
  · exact op_mul pins s σ H _ _ a b Q I ra rb ⟨_, _, rfl, rfl, w.1, k _ _ _ _ w.2 (.refl _ _) (.int _) hr⟩
  · rename_i z j
    obtain ⟨⟨h0, h1⟩, w⟩ := w
    obtain ⟨t, rfl⟩ := ra
    obtain ⟨t', rfl⟩ := rb
    have hj : j = 0 ∨ j = 1 := by omega
    rcases hj with rfl | rfl
    · exact PySem.P.mul_str_none (by decide) (by decide) ⟨.str _, H, I.tok _, ⟨_, rfl⟩, k _ _ _ _ w (.refl _ _) (.str _) hr⟩
    · refine PySem.P.mul_str (by decide) (fun _ h => ?_) (fun _ h => ?_) ?_
      · simp at h
      · simp at h
      · rw [if_neg (by decide), if_pos (by simp)]
        exact ⟨.str _, H, I, ⟨_, rfl⟩, k _ _ _ _ w (.refl _ _) (.str _) hr⟩
theorem od_add : OpR X (binaryOp .Add) (up2 X.K addD) := by
  rintro pins s σ H v u a b Q I ra rb ⟨x, y, M, P, dx, dy, hr, w, k⟩
  cases dx <;> cases dy <;> first | exact False.elim w | skip
  · exact op_add pins s σ H _ _ a b Q I ra rb ⟨_, _, rfl, rfl, k _ _ _ _ w (.refl _ _) (.int _) hr⟩
  · exact op_add_str pins s σ H _ _ a b Q I ra rb ⟨_, _, rfl, rfl, w.1, k _ _ _ _ w.2 (.refl _ _) (.str _) hr⟩
  · rename_i s1 r1 _ _ _ s2 r2
    obtain ⟨hz, w⟩ := w
    refine op_catA pins s σ H _ _ a b Q I ra rb ⟨_, _, _, _, rfl, rfl, s1, s2, by rw [← r1.length, ← r2.length]; exact hz, fun e => ?_, fun e1 e2 => ?_, fun e1 e2 p np => ?_⟩
    · subst e
      cases r1
      exact k _ _ _ _ w (.refl _ _) (.tup s2 r2) hr
    · subst e2
      cases r2
      rw [List.append_nil] at w
      exact k _ _ _ _ w (.refl _ _) (.tup s1 r1) hr
    · exact k _ _ _ _ w (.fresh np) (.tup (SqT.of upd_same) ((r1.append r2).mono (.fresh np))) (hr.fresh np)
  · obtain ⟨xs, ys, e1, e2, hz, w⟩ := w
    obtain ⟨vs, q1, r1⟩ := hr _ _ e1
    obtain ⟨ws, q2, r2⟩ := hr _ _ e2
    exact op_cat pins s σ H _ _ a b Q I ra rb ⟨_, _, _, _, rfl, rfl, q1, q2, by rw [← r1.length, ← r2.length]; exact hz, fun p np => k _ _ _ _ (w p (hr.free np)) (.fresh np) (.ref p) (hr.new np (r1.append r2))⟩
/-- += : ints and texts -/
def iaddD : D → D → Mh → PQ → Prop
  | .int i, .int j, M, P => P (.int (i + j)) M
  | .str a, .str b, M, P => a.length + b.length ≤ sizeLine ∧ P (.str (a ++ b)) M
  | _, _, _, _ => False
theorem iod_add : OpR X (inplaceOp .Add) (up2 X.K iaddD) := by
  rintro pins s σ H v u a b Q I ra rb ⟨x, y, M, P, dx, dy, hr, w, k⟩
  cases dx <;> cases dy <;> first | exact False.elim w | skip
  · exact iop_add pins s σ H _ _ a b Q I ra rb ⟨_, _, rfl, rfl, k _ _ _ _ w (.refl _ _) (.int _) hr⟩
  · exact iop_add_str pins s σ H _ _ a b Q I ra rb ⟨_, _, rfl, rfl, w.1, k _ _ _ _ w.2 (.refl _ _) (.str _) hr⟩
end

/-! ### equality, membership, order -/
mutual
def pd : D → PyData
  | .non => .none
  | .bl b => .bool b
  | .int i => .int i
  | .str x => .str x
  | .tup ds => .tuple (pds ds)
  | .rol ds => .list (pds ds)
  | .ref _ => .dict []
def pds : List D → List PyData
  | [] => []
  | d :: ds => pd d :: pds ds
end
def deq (x y : D) : Bool := PyData.eqv (pd x) (pd y)
def okD (x : D) : Bool := SeqAt.shaped (pd x)
/-- what == of two scalars asks nothing for -/
def scalD : D → D → Bool
  | .non, .non => true | .non, .int _ => true | .int _, .non => true | .non, .bl _ => true | .bl _, .non => true | .non, .str _ => true | .str _, .non => true
  | .int _, .int _ => true | .bl _, .bl _ => true | .str _, .str _ => true
  | .int _, .str _ => true | .str _, .int _ => true | .bl _, .str _ => true | .str _, .bl _ => true
  | _, _ => false
def eqD : Cmp := fun x y _ P => (scalD x y = true ∨ (okD x = true ∧ okD y = true)) ∧ P (deq x y)
def neD : Cmp := fun x y _ P => (scalD x y = true ∨ (okD x = true ∧ okD y = true)) ∧ P (!deq x y)
def flatD : D → Bool
  | .non => true | .bl _ => true | .int _ => true | .str _ => true
  | _ => false
def memD (x : D) (ys : List D) : Bool := ys.any fun y => deq y x
def strIn (i j : Str) : Bool := !(Builtin.Str.occurrences j i 0 j.length 1).isEmpty
def inD : Cmp := fun x y M P => match x, y with
  | .str i, .str j => P (strIn i j)
  | x, y => match itemsD y M with
    | some ys => (flatD x = true ∧ ys.all flatD = true) ∧ P (memD x ys)
    | none => False
def ninD : Cmp := fun x y M P => inD x y M fun k => P (!k)
def ltD : Cmp := fun x y _ P => match x, y with
  | .int i, .int j => P (decide (i < j))
  | .str i, .str j => P (decide (i.cps.toList < j.cps.toList))
  | _, _ => False
def leD : Cmp := fun x y _ P => match x, y with
  | .int i, .int j => P (decide (i ≤ j))
  | .str i, .str j => P (!decide (j.cps.toList < i.cps.toList))
  | _, _ => False
def gtD : Cmp := fun x y _ P => match x, y with
  | .int i, .int j => P (decide (j < i))
  | .str i, .str j => P (decide (j.cps.toList < i.cps.toList))
  | _, _ => False
def geD : Cmp := fun x y _ P => match x, y with
  | .int i, .int j => P (decide (j ≤ i))
  | .str i, .str j => P (!decide (i.cps.toList < j.cps.toList))
  | _, _ => False
def isNon : D → Bool
  | .non => true
  | _ => false
def isD : Cmp := fun x y _ P => match y with
  | .non => P (isNon x)
  | _ => False
def isnD : Cmp := fun x y _ P => match y with
  | .non => P (!isNon x)
  | _ => False

section
variable {K : PySem.W.Frag} {H : Hp}
mutual
theorem dp_of : ∀ {x : D} {v : V}, DR K H x v → (pd x).canLay0 = true → Dp K H v (pd x)
  | _, _, .non, _ => .non
  | _, _, .bl b, _ => .bl b
  | _, _, .int i, _ => .int i
  | _, _, .str z, _ => .str z
  | _, _, .tup s r, h => by
    rw [pd] at h ⊢
    exact .tup s (dps_of r (by simpa [PyData.canLay0] using h))
  | _, _, .rol s r, h => by
    rw [pd] at h ⊢
    exact .lst s.seq (dps_of r (by simpa [PyData.canLay0] using h))
  | _, _, .ref a, h => by
    rw [pd] at h
    simp [PyData.canLay0] at h
theorem dps_of : ∀ {xs : List D} {vs : List V}, DRs K H xs vs → PyData.canLayAll0 (pds xs) = true → DpAll K H vs (pds xs)
  | _, _, .nil, _ => .nil
  | _, _, .cons d r, h => by
    rw [pds] at h ⊢
    simp only [PyData.canLayAll0, Bool.and_eq_true] at h
    exact .cons (dp_of d h.1) (dps_of r h.2)
end
theorem flat_eq {x y : D} {v u : V} (dx : DR K H x v) (dy : DR K H y u) (fx : flatD x = true) (fy : flatD y = true) : flatV v = true ∧ flatV u = true ∧ eqV v u = deq x y := by
  cases dx <;> cases dy <;> first | (exact absurd (show false = true from fx) Bool.false_ne_true) | (exact absurd (show false = true from fy) Bool.false_ne_true) | skip
  all_goals (refine ⟨rfl, rfl, ?_⟩; simp [eqV, deq, pd, PyData.eqv])
theorem flats : ∀ {ys : List D} {us : List V} {x : D} {v : V}, DRs K H ys us → DR K H x v → flatD x = true → ys.all flatD = true → us.all flatV = true ∧ inV v us = memD x ys
  | _, _, _, _, .nil, _, _, _ => ⟨rfl, rfl⟩
  | _, _, _, _, .cons d r, dx, fx, fy => by
    rw [List.all_cons, Bool.and_eq_true] at fy
    obtain ⟨h1, h2⟩ := flats r dx fx fy.2
    obtain ⟨h3, _, h4⟩ := flat_eq d dx fy.1 fx
    refine ⟨by rw [List.all_cons, h3, h1]; rfl, ?_⟩
    unfold inV memD at h2 ⊢
    rw [List.any_cons, List.any_cons, h4, h2]
theorem scal_eq {x y : D} {v u : V} (dx : DR K H x v) (dy : DR K H y u) (h : scalD x y = true) : scal v u = true ∧ decide (v = u) = deq x y := by
  cases dx <;> cases dy <;> first | (exact absurd (show false = true from h) Bool.false_ne_true) | skip
  all_goals (refine ⟨rfl, ?_⟩; simp [deq, pd, PyData.eqv] <;> rfl)
end

section
variable {X : Cx}
theorem cd_eq (hu : X.A.units + 64 < cLine) : OpR X (compareOp .Eq) (upC X.K eqD) := by
  rintro pins s σ H v u a b Q I ra rb ⟨x, y, M, P, dx, dy, hr, ⟨o, w⟩, k⟩
  rcases o with o | ⟨o1, o2⟩
  · obtain ⟨h1, h2⟩ := scal_eq dx dy o
    exact op_eq pins s σ H _ _ a b Q I ra rb ⟨h1, by rw [h2]; exact k _ w⟩
  · exact op_eqD hu pins s σ H _ _ a b Q I ra rb ⟨_, _, dp_of dx (SeqAt.canLay_of_shaped o1), dp_of dy (SeqAt.canLay_of_shaped o2), o1, o2, k _ w⟩
theorem cd_ne (hu : X.A.units + 64 < cLine) : OpR X (compareOp .NotEq) (upC X.K neD) := by
  rintro pins s σ H v u a b Q I ra rb ⟨x, y, M, P, dx, dy, hr, ⟨o, w⟩, k⟩
  rcases o with o | ⟨o1, o2⟩
  · obtain ⟨h1, h2⟩ := scal_eq dx dy o
    exact op_ne pins s σ H _ _ a b Q I ra rb ⟨h1, by rw [h2]; exact k _ w⟩
  · exact op_neD hu pins s σ H _ _ a b Q I ra rb ⟨_, _, dp_of dx (SeqAt.canLay_of_shaped o1), dp_of dy (SeqAt.canLay_of_shaped o2), o1, o2, k _ w⟩
theorem in_cases {x y : D} {M : Mh} {P : Bool → Prop} (w : inD x y M P) : (∃ i j, x = .str i ∧ y = .str j ∧ P (strIn i j)) ∨ ∃ ys, itemsD y M = some ys ∧ (flatD x = true ∧ ys.all flatD = true) ∧ P (memD x ys) := by
  unfold inD at w
  split at w
  · exact .inl ⟨_, _, rfl, rfl, w⟩
  · split at w
    · exact .inr ⟨_, by assumption, w⟩
    · exact w.elim
theorem cd_in : OpR X (compareOp .In) (upC X.K inD) := by
  rintro pins s σ H v u a b Q I ra rb ⟨x, y, M, P, dx, dy, hr, w, k⟩
  rcases in_cases w with ⟨i, j, rfl, rfl, w⟩ | ⟨ys, e, f, w⟩
  · cases dx
    cases dy
    exact op_in_str pins s σ H _ _ a b Q I ra rb ⟨_, _, rfl, rfl, k _ w⟩
  · obtain ⟨p, us, rfl, q, r⟩ := items_of dy hr e
    obtain ⟨h1, h2⟩ := flats r dx f.1 f.2
    have fx : flatV v = true := (flat_eq dx dx f.1 f.1).1
    exact op_in_seq pins s σ H _ _ a b Q I ra rb ⟨_, _, rfl, q, fx, h1, by rw [if_neg Bool.false_ne_true, h2]; exact k _ w⟩
theorem cd_nin : OpR X (compareOp .NotIn) (upC X.K ninD) := by
  rintro pins s σ H v u a b Q I ra rb ⟨x, y, M, P, dx, dy, hr, w, k⟩
  rcases in_cases w with ⟨i, j, rfl, rfl, w⟩ | ⟨ys, e, f, w⟩
  · cases dx
    cases dy
    exact op_notin_str pins s σ H _ _ a b Q I ra rb ⟨_, _, rfl, rfl, k _ w⟩
  · obtain ⟨p, us, rfl, q, r⟩ := items_of dy hr e
    obtain ⟨h1, h2⟩ := flats r dx f.1 f.2
    have fx : flatV v = true := (flat_eq dx dx f.1 f.1).1
    exact op_notIn_seq pins s σ H _ _ a b Q I ra rb ⟨_, _, rfl, q, fx, h1, by rw [if_pos rfl, h2]; exact k _ w⟩
theorem cd_lt : OpR X (compareOp .Lt) (upC X.K ltD) := by
  rintro pins s σ H v u a b Q I ra rb ⟨x, y, M, P, dx, dy, hr, w, k⟩
  cases dx <;> cases dy <;> first | exact False.elim w | skip
  · exact op_lt pins s σ H _ _ a b Q I ra rb ⟨_, _, rfl, rfl, k _ w⟩
  · exact op_lt_str pins s σ H _ _ a b Q I ra rb ⟨_, _, rfl, rfl, k _ w⟩
theorem cd_le : OpR X (compareOp .LtE) (upC X.K leD) := by
  rintro pins s σ H v u a b Q I ra rb ⟨x, y, M, P, dx, dy, hr, w, k⟩
  cases dx <;> cases dy <;> first | exact False.elim w | skip
  · exact op_le pins s σ H _ _ a b Q I ra rb ⟨_, _, rfl, rfl, k _ w⟩
  · exact op_le_str pins s σ H _ _ a b Q I ra rb ⟨_, _, rfl, rfl, k _ w⟩
theorem cd_gt : OpR X (compareOp .Gt) (upC X.K gtD) := by
  rintro pins s σ H v u a b Q I ra rb ⟨x, y, M, P, dx, dy, hr, w, k⟩
  cases dx <;> cases dy <;> first | exact False.elim w | skip
  · exact op_gt pins s σ H _ _ a b Q I ra rb ⟨_, _, rfl, rfl, k _ w⟩
  · exact op_gt_str pins s σ H _ _ a b Q I ra rb ⟨_, _, rfl, rfl, k _ w⟩
theorem cd_ge : OpR X (compareOp .GtE) (upC X.K geD) := by
  rintro pins s σ H v u a b Q I ra rb ⟨x, y, M, P, dx, dy, hr, w, k⟩
  cases dx <;> cases dy <;> first | exact False.elim w | skip
  · exact op_ge pins s σ H _ _ a b Q I ra rb ⟨_, _, rfl, rfl, k _ w⟩
  · exact op_ge_str pins s σ H _ _ a b Q I ra rb ⟨_, _, rfl, rfl, k _ w⟩
theorem non_eq {K : PySem.W.Frag} {H : Hp} {x : D} {v : V} (d : DR K H x v) : decide (v = .non) = isNon x := by
  cases d <;> simp [isNon]
theorem cd_is : OpR X (compareOp .Is) (upC X.K isD) := by
  rintro pins s σ H v u a b Q I ra rb ⟨x, y, M, P, dx, dy, hr, w, k⟩
  cases dy <;> first | exact False.elim w | skip
  exact op_isN pins s σ H _ _ a b Q I ra rb ⟨rfl, by rw [non_eq dx]; exact k _ w⟩
theorem cd_isn : OpR X (compareOp .IsNot) (upC X.K isnD) := by
  rintro pins s σ H v u a b Q I ra rb ⟨x, y, M, P, dx, dy, hr, w, k⟩
  cases dy <;> first | exact False.elim w | skip
  exact op_notN pins s σ H _ _ a b Q I ra rb ⟨rfl, by rw [non_eq dx]; exact k _ w⟩
end

/-! ### built-in functions -/
def lenD : List D → Mh → PQ → Prop
  | [.str z], M, P => z.length ≤ sizeLine ∧ P (.int z.length) M
  | [x], M, P => match itemsD x M with
    | some ds => P (.int ds.length) M
    | none => False
  | _, _, _ => False
def intD : List D → Mh → PQ → Prop
  | [.int i], M, P => P (.int i) M
  | [.bl b], M, P => P (.int (if b then 1 else 0)) M
  | _, _, _ => False
def strD : List D → Mh → PQ → Prop
  | [.int i], M, P => i.natAbs.log2 < 1920 ∧ P (.str (toString i)) M
  | _, _, _ => False
def tupleD : List D → Mh → PQ → Prop
  | [x], M, P => match itemsD x M with
    | some ds => P (.tup ds) M
    | none => False
  | _, _, _ => False
def listD : List D → Mh → PQ → Prop
  | [x], M, P => match itemsD x M with
    | some ds => ∀ p, M p = none → P (.ref p) (mup M p (.lst ds))
    | none => False
  | _, _, _ => False
def intsOf : List D → Option (List Int)
  | [] => some []
  | .int i :: r => (intsOf r).map (i :: ·)
  | _ => none
def strsOf : List D → Option (List Str)
  | [] => some []
  | .str i :: r => (strsOf r).map (i :: ·)
  | _ => none
/-- the items of a list -/
def litemsD (x : D) (M : Mh) : Option (List D) := match x with
  | .rol ds => some ds
  | .ref a => match M a with
    | some (.lst ds) => some ds
    | _ => none
  | _ => none
theorem litems_of {K : PySem.W.Frag} {H : Hp} {x : D} {v : V} {M : Mh} {ds : List D} (d : DR K H x v) (h : HR K H M) (e : litemsD x M = some ds) : ∃ p vs, v = .ref p ∧ SqL K H p vs ∧ DRs K H ds vs := by
  cases d with
  | rol s r => cases e; exact ⟨_, _, rfl, s.seq, r⟩
  | ref a =>
    have e : (match M a with | some (.lst ds) => some ds | _ => none) = some ds := e
    cases q : M a with
    | none => rw [q] at e; cases e
    | some o =>
      cases o with
      | lst es =>
        rw [q] at e; cases e
        obtain ⟨vs, q, r⟩ := h a _ q
        exact ⟨_, _, rfl, SqL.of q, r⟩
  | _ => cases e
def sumD : List D → Mh → PQ → Prop
  | [x], M, P => match litemsD x M with
    | some ds => match intsOf ds with
      | some ns => P (.int ns.sum) M
      | none => False
    | none => False
  | _, _, _ => False
def absD : List D → Mh → PQ → Prop
  | [.int i], M, P => P (.int (if i < 0 then -i else i)) M
  | _, _, _ => False
def maxD : List D → Mh → PQ → Prop
  | [.int i, .int j], M, P => P (.int (if j > i then j else i)) M
  | _, _, _ => False
def minD : List D → Mh → PQ → Prop
  | [.int i, .int j], M, P => P (.int (if j < i then j else i)) M
  | _, _, _ => False
/-- isinstance, by the type's name -/
def isiD (T : String) (x : D) (M : Mh) (P : PQ) : Prop := match x with
  | .non => P (.bl false) M
  | .bl _ => P (.bl (T == "bool" || T == "int")) M
  | .int _ => P (.bl (T == "int")) M
  | .str _ => P (.bl (T == "str")) M
  | .tup _ => P (.bl (T == "tuple")) M
  | .rol _ => P (.bl (T == "list")) M
  | .ref a => match M a with
    | some (.lst _) => P (.bl (T == "list")) M
    | none => False
theorem intsOf_rel {K : PySem.W.Frag} {H : Hp} : ∀ {ds : List D} {vs : List V} {ns : List Int}, DRs K H ds vs → intsOf ds = some ns → vs = ns.map V.int
  | _, _, _, .nil, e => by cases e; rfl
  | _, _, _, .cons (d := d) h r, e => by
    cases h <;> first | (cases (show none = some _ from e); done) | skip
    unfold intsOf at e
    obtain ⟨ms, e1, rfl⟩ := Option.map_eq_some_iff.mp e
    rw [intsOf_rel r e1]; rfl
theorem strsOf_rel {K : PySem.W.Frag} {H : Hp} : ∀ {ds : List D} {vs : List V} {ns : List Str}, DRs K H ds vs → strsOf ds = some ns → vs = ns.map V.str
  | _, _, _, .nil, e => by cases e; rfl
  | _, _, _, .cons (d := d) h r, e => by
    cases h <;> first | (cases (show none = some _ from e); done) | skip
    unfold strsOf at e
    obtain ⟨ms, e1, rfl⟩ := Option.map_eq_some_iff.mp e
    rw [strsOf_rel r e1]; rfl
section
variable {X : Cx}
theorem fd_len : CallR X (.builtin "len") (upL X.K lenD) := by
  rintro pins s σ H vs us Q I r ⟨xs, M, P, dx, hr, w, k⟩
  match xs, dx with
  | [], _ => exact False.elim w
  | _ :: _ :: _, .cons d _ => cases d <;> exact False.elim w
  | [x], .cons d .nil =>
    have gen : ∀ ds, itemsD x M = some ds → P (.int ds.length) M → wpAny (model X.prog X.w) X.A (call (.builtin "len") us) (EP X pins σ Q) X.xe s := fun ds e w => by
      obtain ⟨p, ws, rfl, q, r'⟩ := items_of d hr e
      exact call_len_seq pins s σ H _ us Q I r ⟨_, _, rfl, q, by rw [← r'.length]; exact k _ _ _ _ w (.refl _ _) (.int _) hr⟩
    cases d with
    | str z => exact call_len_str pins s σ H _ us Q I r ⟨_, rfl, w.1, k _ _ _ _ w.2 (.refl _ _) (.int _) hr⟩
    | tup s1 r1 => exact gen _ rfl w
    | rol s1 r1 => exact gen _ rfl w
    | ref a =>
      cases e : itemsD (.ref a) M with
      | none => rw [lenD, e] at w; exact w.elim; (intro z; exact fun q => nomatch q)
      | some ds => rw [lenD, e] at w; exact gen _ e w; (intro z; exact fun q => nomatch q)
    | _ => exact False.elim w
theorem fd_int : CallR X (.type "int") (upL X.K intD) := by
  rintro pins s σ H vs us Q I r ⟨xs, M, P, dx, hr, w, k⟩
  match xs, dx with
  | [], _ => exact False.elim w
  | _ :: _ :: _, .cons d _ => cases d <;> exact False.elim w
  | [x], .cons d .nil =>
    cases d <;> first | exact False.elim w | skip
    · exact call_int1 pins s σ H _ us Q I r (.inr ⟨_, rfl, k _ _ _ _ w (.refl _ _) (.int _) hr⟩)
    · exact call_int1 pins s σ H _ us Q I r (.inl ⟨_, rfl, k _ _ _ _ w (.refl _ _) (.int _) hr⟩)
theorem fd_str : CallR X (.type "str") (upL X.K strD) := by
  rintro pins s σ H vs us Q I r ⟨xs, M, P, dx, hr, w, k⟩
  match xs, dx with
  | [], _ => exact False.elim w
  | _ :: _ :: _, .cons d _ => cases d <;> exact False.elim w
  | [x], .cons d .nil =>
    cases d <;> first | exact False.elim w | skip
    exact call_str_int pins s σ H _ us Q I r ⟨_, rfl, w.1, k _ _ _ _ w.2 (.refl _ _) (.str _) hr⟩
theorem fd_abs : CallR X (.builtin "abs") (upL X.K absD) := by
  rintro pins s σ H vs us Q I r ⟨xs, M, P, dx, hr, w, k⟩
  match xs, dx with
  | [], _ => exact False.elim w
  | _ :: _ :: _, .cons d _ => cases d <;> exact False.elim w
  | [x], .cons d .nil =>
    cases d <;> first | exact False.elim w | skip
    exact call_abs pins s σ H _ us Q I r ⟨_, rfl, k _ _ _ _ w (.refl _ _) (.int _) hr⟩
theorem fd_tuple : CallR X (.type "tuple") (upL X.K tupleD) := by
  rintro pins s σ H vs us Q I r ⟨xs, M, P, dx, hr, w, k⟩
  match xs, dx with
  | [], _ => exact False.elim w
  | _ :: _ :: _, _ => exact False.elim w
  | [x], .cons d .nil =>
    have w : (match itemsD x M with | some ds => P (.tup ds) M | none => False) := w
    cases e : itemsD x M with
    | none => rw [e] at w; exact w.elim
    | some ds =>
      rw [e] at w
      obtain ⟨p, ws, rfl, q, r'⟩ := items_of d hr e
      rcases q with q | q
      · exact call_tuple_of pins s σ H _ us Q I r ⟨_, _, rfl, .inl ⟨q, fun l nl => k _ _ _ _ w (.fresh nl) (.tup (SqT.of upd_same) (r'.mono (.fresh nl))) (hr.fresh nl)⟩⟩
      · exact call_tuple_of pins s σ H _ us Q I r ⟨_, _, rfl, .inr ⟨q, k _ _ _ _ w (.refl _ _) (.tup q r') hr⟩⟩
theorem fd_list : CallR X (.type "list") (upL X.K listD) := by
  rintro pins s σ H vs us Q I r ⟨xs, M, P, dx, hr, w, k⟩
  match xs, dx with
  | [], _ => exact False.elim w
  | _ :: _ :: _, _ => exact False.elim w
  | [x], .cons d .nil =>
    have w : (match itemsD x M with | some ds => ∀ p, M p = none → P (.ref p) (mup M p (.lst ds)) | none => False) := w
    cases e : itemsD x M with
    | none => rw [e] at w; exact w.elim
    | some ds =>
      rw [e] at w
      obtain ⟨p, ws, rfl, q, r'⟩ := items_of d hr e
      exact call_list_of pins s σ H _ us Q I r ⟨_, _, rfl, q, fun l nl => k _ _ _ _ (w l (hr.free nl)) (.fresh nl) (.ref l) (hr.new nl r')⟩
theorem fd_sum (hc : X.calm = true) : CallR X (.builtin "sum") (upL X.K sumD) := by
  rintro pins s σ H vs us Q I r ⟨xs, M, P, dx, hr, w, k⟩
  match xs, dx with
  | [], _ => exact False.elim w
  | _ :: _ :: _, _ => exact False.elim w
  | [x], .cons d .nil =>
    simp only [sumD] at w
    cases e : litemsD x M with
    | none => simp only [e] at w
    | some ds =>
      simp only [e] at w
      cases f : intsOf ds with
      | none => simp only [f] at w
      | some ns =>
        simp only [f] at w
        obtain ⟨p, ws, rfl, q, r'⟩ := litems_of d hr e
        rw [intsOf_rel r' f] at q
        exact cr_sum hc pins s σ H _ us Q I r ⟨_, _, rfl, q, k _ _ _ _ w (.refl _ _) (.int _) hr⟩
theorem fd_max (hc : X.calm = true) : CallR X (.builtin "max") (upL X.K maxD) := by
  rintro pins s σ H vs us Q I r ⟨xs, M, P, dx, hr, w, k⟩
  match xs, dx with
  | [], _ => exact False.elim w
  | [x], .cons d .nil => cases d <;> exact False.elim w
  | _ :: _ :: _ :: _, .cons d (.cons e _) => cases d <;> cases e <;> exact False.elim w
  | [x, y], .cons d (.cons e .nil) =>
    cases d <;> cases e <;> first | exact False.elim w | skip
    exact call_max2 hc pins s σ H _ us Q I r ⟨_, _, rfl, k _ _ _ _ w (.refl _ _) (.int _) hr⟩
theorem fd_min (hc : X.calm = true) : CallR X (.builtin "min") (upL X.K minD) := by
  rintro pins s σ H vs us Q I r ⟨xs, M, P, dx, hr, w, k⟩
  match xs, dx with
  | [], _ => exact False.elim w
  | [x], .cons d .nil => cases d <;> exact False.elim w
  | _ :: _ :: _ :: _, .cons d (.cons e _) => cases d <;> cases e <;> exact False.elim w
  | [x, y], .cons d (.cons e .nil) =>
    cases d <;> cases e <;> first | exact False.elim w | skip
    exact call_min2 hc pins s σ H _ us Q I r ⟨_, _, rfl, k _ _ _ _ w (.refl _ _) (.int _) hr⟩
theorem tyx_of {K : PySem.W.Frag} {H : Hp} {x : D} {v : V} {M : Mh} {T : String} {P : PQ} (hT : T = "int" ∨ T = "str" ∨ T = "tuple" ∨ T = "list" ∨ T = "bool" ∨ T = "dict") (d : DR K H x v) (h : HR K H M) (w : isiD T x M P) :
    ∃ t b, TyX K H v t ∧ PySem.W.kitOne K t (.type T) = some b ∧ P (.bl b) M := by
  have fin : ∀ {n : String} {b : Bool}, TyX K H v (.type n) → P (.bl b) M → kitB n T = some b → ∃ t b, TyX K H v t ∧ PySem.W.kitOne K t (.type T) = some b ∧ P (.bl b) M :=
    fun {n b} ty w e => ⟨_, b, ty, kit_ty e, w⟩
  cases d with
  | non => exact fin (.base .non) w (by rcases hT with rfl | rfl | rfl | rfl | rfl | rfl <;> decide +kernel)
  | bl b => exact fin (.base (.bl b)) w (by rcases hT with rfl | rfl | rfl | rfl | rfl | rfl <;> decide +kernel)
  | int b => exact fin (.base (.int b)) w (by rcases hT with rfl | rfl | rfl | rfl | rfl | rfl <;> decide +kernel)
  | str b => exact fin (.base (.str b)) w (by rcases hT with rfl | rfl | rfl | rfl | rfl | rfl <;> decide +kernel)
  | tup s r =>
    refine fin (n := "tuple") ?_ w (by rcases hT with rfl | rfl | rfl | rfl | rfl | rfl <;> decide +kernel)
    rcases s with (s | ⟨o, s⟩) | ⟨o, its, n, s1, s2, _⟩
    · exact .base (.tup s)
    · exact .fTuple s
    · exact .kTuple s1 s2
  | rol s r =>
    refine fin (n := "list") ?_ w (by rcases hT with rfl | rfl | rfl | rfl | rfl | rfl <;> decide +kernel)
    rcases s with ⟨o, s⟩ | ⟨o, its, n, s1, s2, _⟩
    · exact .base (.frz s)
    · exact .kList s1 s2
  | ref a =>
    have w : (match M a with | some (.lst _) => P (.bl (T == "list")) M | none => False) := w
    cases e : M a with
    | none => rw [e] at w; exact w.elim
    | some o =>
      cases o with
      | lst ds =>
        rw [e] at w
        obtain ⟨vs, q, _⟩ := h a _ e
        exact fin (n := "list") (.base (.lst q)) w (by rcases hT with rfl | rfl | rfl | rfl | rfl | rfl <;> decide +kernel)
end
end DL
/-! DLd: subscripts, slices, methods, calls, statements, loops, comprehensions of the data layer. -/
namespace DL
open PySem PySem.Spec L2
open PyProof.Rows hiding St

/-! ### subscripts -/
def ixD : D → D → Mh → PQ → Prop := fun x y M P => match y with
  | .int i => match x with
    | .str z => z.length ≤ sizeLine ∧ match atI z.cps.toList i with
      | some c => P (.str ⟨#[c]⟩) M
      | none => False
    | x => match itemsD x M with
      | some ds => match atI ds i with
        | some d => P d M
        | none => False
      | none => False
  | _ => False
theorem DRs.at {K : PySem.W.Frag} {H : Hp} {ds : List D} {vs : List V} {i : Int} {d : D} (r : DRs K H ds vs) (e : atI ds i = some d) : ∃ v, atI vs i = some v ∧ DR K H d v := by
  unfold atI at e ⊢
  rw [r.length] at e
  cases q : ixN vs.length i with
  | none => rw [q] at e; cases e
  | some j =>
    rw [q] at e
    exact r.get e
def cutD (ds : List D) (lo hi : Option Int) : List D := (ds.drop (HT.sIx ds.length 0 lo)).take (HT.sIx ds.length ds.length hi - HT.sIx ds.length 0 lo)
theorem DRs.cut {K : PySem.W.Frag} {H : Hp} {ds : List D} {vs : List V} (r : DRs K H ds vs) (lo hi : Option Int) : DRs K H (cutD ds lo hi) (cutV vs lo hi) := by
  unfold cutD cutV
  rw [r.length]
  exact (r.drop _).take _
def slD : D → Option Int → Option Int → Mh → PQ → Prop := fun x lo hi M P => match x with
  | .str z => z.length ≤ sizeLine ∧ P (.str (cutS z lo hi)) M
  | .tup ds => P (.tup (cutD ds lo hi)) M
  | .rol ds => ∀ p, M p = none → P (.ref p) (mup M p (.lst (cutD ds lo hi)))
  | .ref a => match M a with
    | some (.lst ds) => ∀ p, M p = none → P (.ref p) (mup M p (.lst (cutD ds lo hi)))
    | _ => False
  | _ => False
def oPart : Option DT → Ev → Mh → (Option Int → Mh → Prop) → Prop
  | none, _, M, P => P none M
  | some w, ρ, M, P => w ρ M fun d M1 => match d with
    | .int i => P (some i) M1
    | _ => False
def eSl (a : DT) (lo hi : Option DT) : DT := fun ρ M P => a ρ M fun x M1 => oPart lo ρ M1 fun l M2 => oPart hi ρ M2 fun h M3 => slD x l h M3 P
def upO (K : PySem.W.Frag) (w : Ev → Mh → (Option Int → Mh → Prop) → Prop) : TO := fun σ H Q => ∃ ρ M P, ER K H ρ σ ∧ HR K H M ∧ w ρ M P ∧ ∀ o M' H', P o M' → Ext K H H' → HR K H' M' → Q o H'
def setD (o i v : D) (M : Mh) (Q : Mh → Prop) : Prop := match o, i with
  | .ref a, .int k => match M a with
    | some (.lst ds) => match ixN ds.length k with
      | some j => Q (mup M a (.lst (ds.set j v)))
      | none => False
    | none => False
  | _, _ => False

section
variable {X : Cx}
theorem xd_ix : IxR X (up2 X.K ixD) := by
  rintro value slice pins s σ H v u a b Q I ra rb ⟨x, y, M, P, dx, dy, hr, w, k⟩ hs
  cases dy <;> first | exact False.elim w | skip
  rename_i i
  have gen : ∀ ds d, itemsD x M = some ds → atI ds i = some d → P d M → wpAny (model X.prog X.w) X.A (subscriptTail value slice a b) (EP X pins σ Q) X.xe s := fun ds d e e2 w => by
    obtain ⟨p, ws, rfl, q, r⟩ := items_of dx hr e
    obtain ⟨v', h1, h2⟩ := r.at e2
    rcases q with q | q
    · exact ix_list value slice pins s σ H _ _ a b Q I ra rb ⟨_, _, _, _, rfl, rfl, q, h1, k _ _ _ _ w (.refl _ _) h2 hr⟩ hs
    · exact ix_tup value slice pins s σ H _ _ a b Q I ra rb ⟨_, _, _, _, rfl, rfl, q, h1, k _ _ _ _ w (.refl _ _) h2 hr⟩ hs
  have gen2 : (match itemsD x M with | some ds => (match atI ds i with | some d => P d M | none => False) | none => False) → wpAny (model X.prog X.w) X.A (subscriptTail value slice a b) (EP X pins σ Q) X.xe s := fun w => by
    cases e : itemsD x M with
    | none => simp only [e] at w
    | some ds =>
      simp only [e] at w
      cases e2 : atI ds i with
      | none => simp only [e2] at w
      | some d => simp only [e2] at w; exact gen ds d e e2 w
  cases dx with
  | str z =>
    obtain ⟨hz, w⟩ := w
    cases e2 : atI z.cps.toList i with
    | none => simp only [e2] at w
    | some c =>
      simp only [e2] at w
      exact ix_str value slice pins s σ H _ _ a b Q I ra rb ⟨_, _, _, rfl, rfl, hz, e2, k _ _ _ _ w (.refl _ _) (.str _) hr⟩ hs
  | _ => exact gen2 w
theorem dx_ix {a b : Expr} {wa wb : DT} {pos : Pos} (ha : Dx X a wa) (hb : Dx X b wb) (hs : PlainIx b) : Dx X (.Subscript a b pos) (eBin ixD wa wb) :=
  pe_wk (pe_ix xd_ix ha hb hs) fun σ H Q ⟨ρ, M, P, er, hr, w, k⟩ =>
    ⟨ρ, M, _, er, hr, w, fun x M1 v H1 p1 e1 d1 h1 => ⟨ρ, M1, _, er.mono e1, h1, p1, fun y M2 u H2 p2 e2 d2 h2 => ⟨x, y, M2, P, d1.mono e2, d2, h2, p2, fun d M3 v3 H3 p3 e3 => k d M3 v3 H3 p3 (e1.trans (e2.trans e3))⟩⟩⟩
theorem po_wk {e : Option Expr} {t t' : TO} (h : PO X e t) (k : ∀ σ H Q, t' σ H Q → t σ H Q) : PO X e t' := ⟨fun pins s σ H Q I q => h.run pins s σ H Q I (k σ H Q q)⟩
theorem do_none : PO X none (upO X.K (oPart none)) := po_wk po_none fun σ H Q ⟨ρ, M, P, er, hr, w, k⟩ => k none M H w (.refl _ _) hr
theorem do_some {e : Expr} {w : DT} (h : Dx X e w) : PO X (some e) (upO X.K (oPart (some w))) :=
  po_wk (po_some h) fun σ H Q ⟨ρ, M, P, er, hr, w, k⟩ => ⟨ρ, M, _, er, hr, w, fun d M1 v H1 p1 e1 d1 h1 => by
    cases d1 <;> first | exact False.elim p1 | skip
    exact ⟨_, rfl, k _ M1 H1 p1 e1 h1⟩⟩
theorem sd_sl : SlR X (fun v lo hi H Q => ∃ x M P, DR X.K H x v ∧ HR X.K H M ∧ slD x lo hi M P ∧ ∀ d M' v' H', P d M' → Ext X.K H H' → DR X.K H' d v' → HR X.K H' M' → Q v' H') := by
  rintro pins s σ H v a vl vu lo hi sl Q I ra hs pl pu ⟨x, M, P, dx, hr, w, k⟩
  cases dx with
  | str z => exact sl_str pins s σ H _ a vl vu lo hi sl Q I ra hs pl pu ⟨_, rfl, w.1, k _ _ _ _ w.2 (.refl _ _) (.str _) hr⟩
  | tup s1 r1 =>
    refine sl_tupA pins s σ H _ a vl vu lo hi sl Q I ra hs pl pu ⟨_, _, rfl, s1, fun hw => ?_, fun _ p np => ?_⟩
    · refine k _ _ _ _ w (.refl _ _) (.tup s1 ?_) hr
      have := r1.cut lo hi
      rw [show cutV _ lo hi = _ from by unfold cutV; rw [hw.1, hw.2, List.drop_zero, Nat.sub_zero, List.take_length]] at this
      exact this
    · exact k _ _ _ _ w (.fresh np) (.tup (SqT.of upd_same) ((r1.cut lo hi).mono (.fresh np))) (hr.fresh np)
  | rol s1 r1 => exact sl_list pins s σ H _ a vl vu lo hi sl Q I ra hs pl pu ⟨_, _, rfl, s1.seq, fun p np => k _ _ _ _ (w p (hr.free np)) (.fresh np) (.ref p) (hr.new np (r1.cut lo hi))⟩
  | ref l =>
    have w : (match M l with | some (.lst ds) => ∀ p, M p = none → P (.ref p) (mup M p (.lst (cutD ds lo hi))) | _ => False) := w
    cases e : M l with
    | none => rw [e] at w; exact w.elim
    | some o =>
      cases o with
      | lst ds =>
        rw [e] at w
        obtain ⟨vs, q, r⟩ := hr _ _ e
        exact sl_list pins s σ H _ a vl vu lo hi sl Q I ra hs pl pu ⟨_, _, rfl, SqL.of q, fun p np => k _ _ _ _ (w p (hr.free np)) (.fresh np) (.ref p) (hr.new np (r.cut lo hi))⟩
  | _ => exact False.elim w
theorem dx_sl {a : Expr} {lo hi : Option Expr} {wa : DT} {wl wh : Option DT} {p2 pos : Pos} (ha : Dx X a wa) (hl : PO X lo (upO X.K (oPart wl))) (hh : PO X hi (upO X.K (oPart wh))) : Dx X (.Subscript a (.Slice lo hi none p2) pos) (eSl wa wl wh) :=
  pe_wk (pe_slice sd_sl ha hl hh) fun σ H Q ⟨ρ, M, P, er, hr, w, k⟩ =>
    ⟨ρ, M, _, er, hr, w, fun x M1 v H1 p1 e1 d1 h1 => ⟨ρ, M1, _, er.mono e1, h1, p1, fun l M2 H2 p2 e2 h2 => ⟨ρ, M2, _, er.mono (e1.trans e2), h2, p2, fun h M3 H3 p3 e3 h3 =>
      ⟨x, M3, P, d1.mono (e2.trans e3), h3, p3, fun d M4 v4 H4 p4 e4 => k d M4 v4 H4 p4 (e1.trans (e2.trans (e3.trans e4)))⟩⟩⟩⟩

/-! ### isinstance, calls -/
def eIsi (T : String) (a : DT) : DT := fun ρ M P => a ρ M fun x M1 => isiD T x M1 P
theorem dx_isi {e : Expr} {T : String} {wa : DT} {x : Str} {p p2 pos : Pos} (hT : T = "int" ∨ T = "str" ∨ T = "tuple" ∨ T = "list" ∨ T = "bool" ∨ T = "dict") (ha : Dx X e wa) (hg : Gl X "isinstance") (hm : X.mg "isinstance" = none) (hg2 : Gl X x) (hm2 : X.mg x = none)
    (hb : bootBuiltins x = some (.type T)) (hn : x ≠ "__name__") (hdb : (x == ("__debug__" : Str)) = false)
    (he : starEach (e :: [.Name x p2]) X.env = (false, eval e X.env) :: starEach [.Name x p2] X.env) : Dx X (.Call (.Name "isinstance" p) [e, .Name x p2] [] pos) (eIsi T wa) :=
  pe_wk (pe_callB call_isi hg hm (by decide +kernel) (pa_cons ha (pa_cons (pe_bltn (v := .ty T) hg2 hm2 hb rfl hn hdb) pa_nil (by rfl)) he) (by decide) (by decide) he (by rfl)) fun σ H Q ⟨ρ, M, P, er, hr, w, k⟩ =>
    ⟨ρ, M, _, er, hr, w, fun x M1 v H1 p1 e1 d1 h1 => by
      obtain ⟨t, b, h2, h3, h4⟩ := tyx_of hT d1 h1 p1
      exact ⟨_, _, _, _, _, rfl, .ty T, h2, h3, k _ M1 _ H1 h4 e1 (.bl b) h1⟩⟩
theorem dx_fb {id : String} {x : Str} {r : List D → Mh → PQ → Prop} {e : Expr} {es : List Expr} {wa : DA} {p pos : Pos} (hc : CallR X (.builtin id) (upL X.K r)) (hg : Gl X x) (hm : X.mg x = none) (hv : bootBuiltins x = some (.builtin id)) (ha : Da X (e :: es) wa)
    (hn : x ≠ "__name__") (hdb : (x == ("__debug__" : Str)) = false) (he : starEach (e :: es) X.env = (false, eval e X.env) :: starEach es X.env) (hpl : (backTo pos (starEach es X.env)).any (·.1) = false) : Dx X (.Call (.Name x p) (e :: es) [] pos) (eCall r wa) :=
  pe_wk (pe_callB hc hg hm hv ha hn hdb he hpl) fun σ H Q ⟨ρ, M, P, er, hr, w, k⟩ =>
    ⟨ρ, M, _, er, hr, w, fun xs M1 vs H1 p1 e1 d1 h1 => ⟨xs, M1, P, d1, h1, p1, fun d M2 v2 H2 p2 e2 => k d M2 v2 H2 p2 (e1.trans e2)⟩⟩
theorem dx_ft {T : String} {x : Str} {r : List D → Mh → PQ → Prop} {e : Expr} {es : List Expr} {wa : DA} {p pos : Pos} (hc : CallR X (.type T) (upL X.K r)) (hg : Gl X x) (hm : X.mg x = none) (hv : bootBuiltins x = some (.type T)) (ha : Da X (e :: es) wa)
    (hn : x ≠ "__name__") (hdb : (x == ("__debug__" : Str)) = false) (he : starEach (e :: es) X.env = (false, eval e X.env) :: starEach es X.env) (hpl : (backTo pos (starEach es X.env)).any (·.1) = false) : Dx X (.Call (.Name x p) (e :: es) [] pos) (eCall r wa) :=
  pe_wk (pe_callTy hc hg hm hv ha hn hdb he hpl) fun σ H Q ⟨ρ, M, P, er, hr, w, k⟩ =>
    ⟨ρ, M, _, er, hr, w, fun xs M1 vs H1 p1 e1 d1 h1 => ⟨xs, M1, P, d1, h1, p1, fun d M2 v2 H2 p2 e2 => k d M2 v2 H2 p2 (e1.trans e2)⟩⟩
/-- what a def of n parameters promises -/
abbrev DSp := List D → Mh → PQ → Prop
def upF (K : PySem.W.Frag) (n : Nat) (sp : DSp) : Sp := fun vs H Q _ => vs.length = n ∧ upL K sp vs H Q
/-- a def that may be called -/
structure CallOk (X : Cx) (x : Str) (n : Nat) (sp : DSp) : Prop where
  dbg : (x == ("__debug__" : Str)) = false
  ok : ∃ f fd k ps, FnOk X.prog X.w X.K X.mg X.base CX0 k f fd ps (upF X.K n sp) ∧ Room k X.A ∧ X.mg x = some (.ref f) ∧ PySem.W.keepIn X.K (.ref f) = true ∧ Binds X.K fd ps [] ∧ ps.length = n
def eFn (n : Nat) (sp : DSp) (a : DA) : DT := fun ρ M P => a ρ M fun xs M1 => xs.length = n ∧ sp xs M1 P
theorem dx_fn {x : Str} {n : Nat} {sp : DSp} {e : Expr} {es : List Expr} {wa : DA} {p pos : Pos} (c : CallOk X x n sp) (hg : Gl X x) (ha : Da X (e :: es) wa) (he : starEach (e :: es) X.env = (false, eval e X.env) :: starEach es X.env)
    (hpl : (backTo pos (starEach es X.env)).any (·.1) = false) : Dx X (.Call (.Name x p) (e :: es) [] pos) (eFn n sp wa) := by
  obtain ⟨f, fd, k, ps, F, hr, hm, hk, hb, _⟩ := c.ok
  exact pe_wk (pe_call F hr hg hm hk hb .nil pass0 ha c.dbg he hpl) fun σ H Q ⟨ρ, M, P, er, hr, w, k⟩ =>
    ⟨ρ, M, _, er, hr, w, fun xs M1 vs H1 p1 e1 d1 h1 => by
      show upF X.K n sp (vs ++ []) H1 Q E0
      rw [List.append_nil]
      exact ⟨by rw [← d1.length]; exact p1.1, xs, M1, P, d1, h1, p1.2, fun d M2 v2 H2 p2 e2 => k d M2 v2 H2 p2 (e1.trans e2)⟩⟩
theorem dx_fn0 {x : Str} {n : Nat} {sp : DSp} {p pos : Pos} (c : CallOk X x n sp) (hg : Gl X x) : Dx X (.Call (.Name x p) [] [] pos) (eFn n sp aNil) := by
  obtain ⟨f, fd, k, ps, F, hr, hm, hk, hb, _⟩ := c.ok
  exact pe_wk (pe_call0 F hr hg hm hk hb .nil pass0 c.dbg) fun σ H Q ⟨ρ, M, P, er, hr, w, k⟩ =>
    ⟨w.1, [], M, P, .nil, hr, w.2, k⟩

/-! ### methods of lists and texts -/
def tyD (T : String) (x : D) (M : Mh) : Prop := match x with
  | .str _ => T = "str"
  | .rol _ => T = "list"
  | .ref a => match M a with
    | some (.lst _) => T = "list"
    | none => False
  | _ => False
theorem tyv_of {K : PySem.W.Frag} {H : Hp} {x : D} {v : V} {M : Mh} {T : String} (d : DR K H x v) (h : HR K H M) (t : tyD T x M) : tyV K T v H := by
  cases d <;> first | exact False.elim t | skip
  · exact t
  · rename_i s1 r1
    exact .inl ⟨t, _, s1.seq⟩
  · rename_i a
    have t : (match M a with | some (.lst _) => T = "list" | none => False) := t
    cases e : M a with
    | none => rw [e] at t; exact t.elim
    | some o =>
      cases o with
      | lst ds =>
        rw [e] at t
        obtain ⟨vs, q, _⟩ := h _ _ e
        exact .inl ⟨t, _, SqL.of q⟩
def eMt (T : String) (r : D → List D → Mh → PQ → Prop) (o : DT) (a : DA) : DT := fun ρ M P => o ρ M fun x M1 => tyD T x M1 ∧ a ρ M1 fun xs M2 => r x xs M2 P
theorem dx_mt {T id : String} {name : Str} {r : D → List D → Mh → PQ → Prop} {o e : Expr} {es : List Expr} {wo : DT} {wa : DA} {apos cpos : Pos} (pa : PlainAttrs T) (sl : Slot T name id) (hty : typeOf (.builtin id) = pure (.type "method_descriptor")) (hm : MtR X id (upM X.K r)) (ho : Dx X o wo) (ha : Da X (e :: es) wa)
    (hbase : attributeBase o name X.env (eval o X.env) = eval o X.env)
    (hfew : ((backTo cpos (starEach (e :: es) X.env)).all (fun x => !x.1) && (backToKw cpos (keywordEach [] X.env)).all (fun x => x.1.isSome)
      && decide ((e :: es).length + ([] : List Keyword).length + (if ([] : List Keyword).isEmpty then 0 else 1) < 30)) = true)
    (hline : (apos.endLine == cpos.line) = true) (hs : starEach (e :: es) X.env = (false, eval e X.env) :: starEach es X.env) (hplain : (backTo cpos (starEach es X.env)).any (·.1) = false) :
    Dx X (.Call (.Attribute o name apos) (e :: es) [] cpos) (eMt T r wo wa) :=
  pe_wk (pe_bm pa sl hty hm ho ha hbase hfew hline hs hplain) fun σ H Q ⟨ρ, M, P, er, hr, w, k⟩ =>
    ⟨ρ, M, _, er, hr, w, fun x M1 v H1 p1 e1 d1 h1 => ⟨tyv_of d1 h1 p1.1, ρ, M1, _, er.mono e1, h1, p1.2, fun xs M2 vs H2 p2 e2 d2 h2 => ⟨x, xs, M2, P, d1.mono e2, d2, h2, p2, fun d M3 v3 H3 p3 e3 => k d M3 v3 H3 p3 (e1.trans (e2.trans e3))⟩⟩⟩
theorem dx_mt0 {T id : String} {name : Str} {r : D → List D → Mh → PQ → Prop} {o : Expr} {wo : DT} {apos cpos : Pos} (pa : PlainAttrs T) (sl : Slot T name id) (hty : typeOf (.builtin id) = pure (.type "method_descriptor")) (hm : MtR X id (upM X.K r)) (ho : Dx X o wo)
    (hbase : attributeBase o name X.env (eval o X.env) = eval o X.env) (hline : (apos.endLine == cpos.line) = true) : Dx X (.Call (.Attribute o name apos) [] [] cpos) (eMt T r wo aNil) :=
  pe_wk (pe_bm0 pa sl hty hm ho hbase hline) fun σ H Q ⟨ρ, M, P, er, hr, w, k⟩ =>
    ⟨ρ, M, _, er, hr, w, fun x M1 v H1 p1 e1 d1 h1 => ⟨tyv_of d1 h1 p1.1, x, [], M1, P, d1, .nil, h1, p1.2, fun d M3 v3 H3 p3 e3 => k d M3 v3 H3 p3 (e1.trans e3)⟩⟩
def appendD : D → List D → Mh → PQ → Prop
  | .ref a, [y], M, P => match M a with
    | some (.lst ds) => ds.length < sizeLine ∧ P .non (mup M a (.lst (ds ++ [y])))
    | none => False
  | _, _, _, _ => False
def extendD : D → List D → Mh → PQ → Prop
  | .ref a, [.ref b], M, P => match M a, M b with
    | some (.lst ds), some (.lst es) => ds.length + es.length ≤ sizeLine ∧ P .non (mup M a (.lst (ds ++ es)))
    | _, _ => False
  | _, _, _, _ => False
def popD : D → List D → Mh → PQ → Prop
  | .ref a, [], M, P => match M a with
    | some (.lst ds) => match ds[ds.length - 1]? with
      | some d => P d (mup M a (.lst ds.dropLast))
      | none => False
    | none => False
  | .ref a, [.int i], M, P => match M a with
    | some (.lst ds) => (-(2 ^ 63) ≤ i ∧ i < 2 ^ 63) ∧ match seqIndex? i ds.length with
      | some j => match ds[j]? with
        | some d => P d (mup M a (.lst (ds.eraseIdx j)))
        | none => False
      | none => False
    | none => False
  | _, _, _, _ => False
def joinD : D → List D → Mh → PQ → Prop
  | .str z, [x], M, P => match itemsD x M with
    | some ds => match strsOf ds with
      | some ys => (ys.map (·.length)).sum + ys.length * z.length ≤ 16777216 ∧ P (.str (Txt.join z ys)) M
      | none => False
    | none => False
  | _, _, _, _ => False
theorem md_append : MtR X "list.append" (upM X.K appendD) := by
  rintro pins s σ H v vs a us Q I ra rs ⟨x, xs, M, P, dx, ds, hr, w, k⟩
  cases dx <;> first | exact False.elim w | skip
  rename_i l
  match xs, ds with
  | [], _ => exact False.elim w
  | _ :: _ :: _, _ => exact False.elim w
  | [y], .cons dy .nil =>
    have w : (match M l with | some (.lst ds) => ds.length < sizeLine ∧ P .non (mup M l (.lst (ds ++ [y]))) | none => False) := w
    cases e : M l with
    | none => rw [e] at w; exact w.elim
    | some o =>
      cases o with
      | lst es =>
        rw [e] at w
        obtain ⟨ws, q, r⟩ := hr _ _ e
        exact mt_append pins s σ H _ _ a us Q I ra rs ⟨_, _, _, rfl, rfl, q, by rw [← r.length]; exact w.1, k _ _ _ _ w.2 (.lst q) .non (hr.write q (r.append (.one dy)))⟩
theorem md_extend : MtR X "list.extend" (upM X.K extendD) := by
  rintro pins s σ H v vs a us Q I ra rs ⟨x, xs, M, P, dx, ds, hr, w, k⟩
  cases dx <;> first | exact False.elim w | skip
  rename_i l
  match xs, ds with
  | [], _ => exact False.elim w
  | _ :: _ :: _, .cons dy _ => cases dy <;> exact False.elim w
  | [y], .cons dy .nil =>
    cases dy <;> first | exact False.elim w | skip
    rename_i b
    have w : (match M l, M b with | some (.lst ds), some (.lst es) => ds.length + es.length ≤ sizeLine ∧ P .non (mup M l (.lst (ds ++ es))) | _, _ => False) := w
    cases e : M l with
    | none => rw [e] at w; exact w.elim
    | some o =>
      cases e2 : M b with
      | none => rw [e, e2] at w; cases o; exact w.elim
      | some o2 =>
        cases o with
        | lst es =>
          cases o2 with
          | lst fs =>
            rw [e, e2] at w
            obtain ⟨ws, q, r⟩ := hr _ _ e
            obtain ⟨zs, q2, r2⟩ := hr _ _ e2
            exact mt_extend pins s σ H _ _ a us Q I ra rs ⟨_, _, _, _, rfl, rfl, q, q2, by rw [← r.length, ← r2.length]; exact w.1, k _ _ _ _ w.2 (.lst q) .non (hr.write q (r.append r2))⟩
theorem md_pop : MtR X "list.pop" (upM X.K popD) := by
  rintro pins s σ H v vs a us Q I ra rs ⟨x, xs, M, P, dx, ds, hr, w, k⟩
  cases dx <;> first | exact False.elim w | skip
  rename_i l
  match xs, ds with
  | _ :: _ :: _, .cons dy _ => cases dy <;> exact False.elim w
  | [], .nil =>
    have w : (match M l with | some (.lst ds) => (match ds[ds.length - 1]? with | some d => P d (mup M l (.lst ds.dropLast)) | none => False) | none => False) := w
    cases e : M l with
    | none => rw [e] at w; exact w.elim
    | some o =>
      cases o with
      | lst es =>
        rw [e] at w
        obtain ⟨ws, q, r⟩ := hr _ _ e
        cases e2 : es[es.length - 1]? with
        | none => simp only [e2] at w
        | some d =>
          simp only [e2] at w
          obtain ⟨v', h1, h2⟩ := r.get e2
          rw [r.length] at h1
          exact mt_pop pins s σ H _ _ a us Q I ra rs ⟨_, _, _, rfl, rfl, q, h1, k _ _ _ _ w (.lst q) (h2.mono (.lst q)) (hr.write q r.dropLast)⟩
  | [y], .cons dy .nil =>
    cases dy <;> first | exact False.elim w | skip
    rename_i i
    have w : (match M l with | some (.lst ds) => (-(2 ^ 63) ≤ i ∧ i < 2 ^ 63) ∧ (match seqIndex? i ds.length with | some j => (match ds[j]? with | some d => P d (mup M l (.lst (ds.eraseIdx j))) | none => False) | none => False) | none => False) := w
    cases e : M l with
    | none => rw [e] at w; exact w.elim
    | some o =>
      cases o with
      | lst es =>
        rw [e] at w
        obtain ⟨ws, q, r⟩ := hr _ _ e
        obtain ⟨hb, w⟩ := w
        cases e2 : seqIndex? i es.length with
        | none => simp only [e2] at w
        | some j =>
          simp only [e2] at w
          cases e3 : es[j]? with
          | none => simp only [e3] at w
          | some d =>
            simp only [e3] at w
            obtain ⟨v', h1, h2⟩ := r.get e3
            exact mt_popAt pins s σ H _ _ a us Q I ra rs ⟨_, _, _, _, _, rfl, rfl, q, hb.1, hb.2, by rw [← r.length]; exact e2, h1, k _ _ _ _ w (.lst q) (h2.mono (.lst q)) (hr.write q (r.erase j))⟩
theorem md_join : MtR X "str.join" (upM X.K joinD) := by
  rintro pins s σ H v vs a us Q I ra rs ⟨x, xs, M, P, dx, ds, hr, w, k⟩
  cases dx <;> first | exact False.elim w | skip
  rename_i z
  match xs, ds with
  | [], _ => exact False.elim w
  | _ :: _ :: _, _ => exact False.elim w
  | [y], .cons dy .nil =>
    simp only [joinD] at w
    cases e : itemsD y M with
    | none => simp only [e] at w
    | some es =>
      simp only [e] at w
      cases e2 : strsOf es with
      | none => simp only [e2] at w
      | some ys =>
        simp only [e2] at w
        obtain ⟨p, ws, rfl, q, r⟩ := items_of dy hr e
        rw [strsOf_rel r e2] at q
        exact mt_join pins s σ H _ _ a us Q I ra rs ⟨_, _, _, rfl, rfl, q, w.1, k _ _ _ _ w.2 (.refl _ _) (.str _) hr⟩
end
end DL
/-! DLe: statements, loops, comprehensions of the data layer. -/
namespace DL
open PySem PySem.Spec L2
open PyProof.Rows hiding St

/-- the slots at a def's entry -/
def startD (n : Nat) (ds : List D) : Ev := ds.map some ++ List.replicate (n - ds.length) none
structure EndsOk (K : PySem.W.Frag) (H : Hp) (P : De) (D : Ends) : Prop where
  nx : ∀ ρ M σ H', P.nx ρ M → Ext K H H' → ER K H' ρ σ → HR K H' M → D.nx σ H'
  rt : ∀ d M v H', P.rt d M → Ext K H H' → DR K H' d v → HR K H' M → D.rt v H'
  bk : ∀ ρ M σ H', P.bk ρ M → Ext K H H' → ER K H' ρ σ → HR K H' M → D.bk σ H'
  ct : ∀ ρ M σ H', P.ct ρ M → Ext K H H' → ER K H' ρ σ → HR K H' M → D.ct σ H'
theorem EndsOk.mono {K : PySem.W.Frag} {H H1 : Hp} {P : De} {D : Ends} (o : EndsOk K H P D) (x : Ext K H H1) : EndsOk K H1 P D :=
  ⟨fun ρ M σ H' p e => o.nx ρ M σ H' p (x.trans e), fun d M v H' p e => o.rt d M v H' p (x.trans e), fun ρ M σ H' p e => o.bk ρ M σ H' p (x.trans e), fun ρ M σ H' p e => o.ct ρ M σ H' p (x.trans e)⟩
def upS (K : PySem.W.Frag) (w : DS) : TS := fun D σ H => ∃ ρ M P, ER K H ρ σ ∧ HR K H M ∧ w P ρ M ∧ EndsOk K H P D
abbrev Ds (X : Cx) (s : Stmt) (w : DS) : Prop := PS X s (upS X.K w)
abbrev Dss (X : Cx) (s : List Stmt) (w : DS) : Prop := PSs X s (upS X.K w)
theorem ps_wk {X : Cx} {e : Stmt} {t t' : TS} (h : PS X e t) (k : ∀ D σ H, t' D σ H → t D σ H) : PS X e t' := ⟨fun pins s σ H Q I q => h.run pins s σ H Q I (k Q σ H q)⟩
theorem pss_wk {X : Cx} {e : List Stmt} {t t' : TS} (h : PSs X e t) (k : ∀ D σ H, t' D σ H → t D σ H) : PSs X e t' := ⟨fun pins s σ H Q I q => h.run pins s σ H Q I (k Q σ H q)⟩

abbrev DG := D → Ev → Mh → (Ev → Mh → Prop) → Prop
abbrev DGs := List D → Ev → Mh → (Ev → Mh → Prop) → Prop
def upG (K : PySem.W.Frag) (g : DG) : TG := fun v σ H Q => ∃ d ρ M P, DR K H d v ∧ ER K H ρ σ ∧ HR K H M ∧ g d ρ M P ∧ ∀ ρ' M' σ' H', P ρ' M' → Ext K H H' → ER K H' ρ' σ' → HR K H' M' → Q σ' H'
def upGs (K : PySem.W.Frag) (g : DGs) : TGs := fun vs σ H Q => ∃ ds ρ M P, DRs K H ds vs ∧ ER K H ρ σ ∧ HR K H M ∧ g ds ρ M P ∧ ∀ ρ' M' σ' H', P ρ' M' → Ext K H H' → ER K H' ρ' σ' → HR K H' M' → Q σ' H'
abbrev Dg (X : Cx) (tg : Expr) (g : DG) : Prop := PG X tg (upG X.K g)
abbrev Dgs (X : Cx) (ts : List Expr) (g : DGs) : Prop := PGs X ts (upGs X.K g)
theorem pg_wk {X : Cx} {e : Expr} {t t' : TG} (h : PG X e t) (k : ∀ v σ H Q, t' v σ H Q → t v σ H Q) : PG X e t' := ⟨fun pins s σ H v u Q I r q => h.run pins s σ H v u Q I r (k v σ H Q q)⟩
theorem pgs_wk {X : Cx} {e : List Expr} {t t' : TGs} (h : PGs X e t) (k : ∀ v σ H Q, t' v σ H Q → t v σ H Q) : PGs X e t' := ⟨fun pins s σ H v u Q I r q => h.run pins s σ H v u Q I r (k v σ H Q q)⟩

def gN (i : Nat) : DG := fun d ρ M Q => Q (ρ.set i (some d)) M
def gsN : DGs := fun ds ρ M Q => match ds with
  | [] => Q ρ M
  | _ => False
def gsC (g : DG) (r : DGs) : DGs := fun ds ρ M Q => match ds with
  | d :: ds => g d ρ M fun ρ1 M1 => r ds ρ1 M1 Q
  | [] => False
def gT (n : Nat) (g : DGs) : DG := fun d ρ M Q => match d with
  | .tup ds => ds.length = n ∧ g ds ρ M Q
  | _ => False
def gS (o i : DT) : DG := fun v ρ M Q => o ρ M fun x M1 => i ρ M1 fun y M2 => setD x y v M2 fun M3 => Q ρ M3

/-! ### statements -/
def sNil : DS := fun P ρ M => P.nx ρ M
def sSeq (a b : DS) : DS := fun P ρ M => a { P with nx := fun ρ1 M1 => b P ρ1 M1 } ρ M
def sIf (c : DB) (a b : DS) : DS := fun P ρ M => c ρ M fun k M1 => if k = true then a P ρ M1 else b P ρ M1
def sAsg (e : DT) (g : DG) : DS := fun P ρ M => e ρ M fun d M1 => g d ρ M1 P.nx
def sExp (e : DT) : DS := fun P ρ M => e ρ M fun _ M1 => P.nx ρ M1
def sRet (e : DT) : DS := fun P ρ M => e ρ M P.rt
def sRetN : DS := fun P _ M => P.rt .non M
def sBrk : DS := fun P ρ M => P.bk ρ M
def sCnt : DS := fun P ρ M => P.ct ρ M
def sAug (i : Nat) (r : D → D → Mh → PQ → Prop) (e : DT) : DS := fun P ρ M => match slot ρ i with
  | some x => e ρ M fun y M1 => r x y M1 fun z M2 => P.nx (ρ.set i (some z)) M2
  | none => False
def whileD (c : DB) (b : DS) (P : De) : Nat → Ev → Mh → Prop
  | 0, _, _ => False
  | n + 1, ρ, M => c ρ M fun t M1 => if t = true then b { P with nx := whileD c b P n, ct := whileD c b P n, bk := P.nx } ρ M1 else P.nx ρ M1
def sWh (c : DB) (b : DS) : DS := fun P ρ M => ∃ n, whileD c b P n ρ M
/-- what a loop walks: items, and what must stay true of the heap meanwhile -/
abbrev DI := Ev → Mh → (List D → (Mh → Prop) → Mh → Prop) → Prop
def forD (g : DG) (b : DS) (chk : Mh → Prop) (P : De) : List D → Ev → Mh → Prop
  | [], ρ, M => chk M ∧ P.nx ρ M
  | d :: ds, ρ, M => chk M ∧ g d ρ M fun ρ1 M1 => b { P with nx := forD g b chk P ds, ct := forD g b chk P ds, bk := P.nx } ρ1 M1
def sFor (it : DI) (g : DG) (b : DS) : DS := fun P ρ M => it ρ M fun items chk M1 => forD g b chk P items ρ M1
def sParN (i j : Nat) (a b : DT) : DS := fun P ρ M => a ρ M fun x M1 => b ρ M1 fun y M2 => P.nx ((ρ.set i (some x)).set j (some y)) M2

structure WalkJ (K : PySem.W.Frag) (H0 : Hp) (items : List D) (chk : Mh → Prop) (J : It) : Prop where
  stop : ∀ i H M, Ext K H0 H → HR K H M → chk M → items.length ≤ i → J.stop i H
  go : ∀ i H M d, Ext K H0 H → HR K H M → chk M → items[i]? = some d → J.go i H
  yld : ∀ i H M d x H', Ext K H0 H → HR K H M → chk M → items[i]? = some d → J.yld i H x H' → Ext K H H' ∧ HR K H' M ∧ (∀ p vs, H p = some (.lst vs) → H' p = some (.lst vs)) ∧ DR K H' d x
def upI (K : PySem.W.Frag) (w : DI) : TI := fun σ H R => ∃ ρ M P, ER K H ρ σ ∧ HR K H M ∧ w ρ M P ∧ ∀ items chk M' H' J, P items chk M' → Ext K H H' → HR K H' M' → WalkJ K H' items chk J → R J H'
abbrev Di (X : Cx) (tg it : Expr) (w : DI) : Prop := PI X tg it (upI X.K w)
def seqP (x : D) (M : Mh) (P : List D → (Mh → Prop) → Mh → Prop) : Prop := match x with
  | .tup ds => P ds (fun _ => True) M
  | .rol ds => P ds (fun _ => True) M
  | .str z => P (z.cps.toList.map fun c => .str ⟨#[c]⟩) (fun _ => True) M
  | .ref a => match M a with
    | some (.lst ds) => P ds (fun M' => M' a = some (.lst ds)) M
    | none => False
  | _ => False
def iSeq (e : DT) : DI := fun ρ M P => e ρ M fun x M1 => seqP x M1 P
def rngI (lo : Int) (n : Nat) : List D := (List.range n).map fun (k : Nat) => .int (lo + (k : Int))
def iRg1 (a : DA) : DI := fun ρ M P => a ρ M fun xs M1 => match xs with
  | [.int j] => (-(2 ^ 62) ≤ j ∧ j < 2 ^ 62) ∧ P (rngI 0 j.toNat) (fun _ => True) M1
  | _ => False
def iRg2 (a : DA) : DI := fun ρ M P => a ρ M fun xs M1 => match xs with
  | [.int i, .int j] => (-(2 ^ 62) ≤ i ∧ i < 2 ^ 62 ∧ -(2 ^ 62) ≤ j ∧ j < 2 ^ 62) ∧ P (rngI i (j - i).toNat) (fun _ => True) M1
  | _ => False

section
variable {K : PySem.W.Frag} {H0 : Hp}
theorem wj_list {a : Addr} {ds : List D} : WalkJ K H0 ds (fun M => M a = some (.lst ds)) (Itl K a) where
  stop := fun i H M x h c hl => by
    obtain ⟨vs, q, r⟩ := h a _ c
    exact ⟨vs, SqL.of q, by rw [← r.length]; exact hl⟩
  go := fun i H M d x h c e => by
    obtain ⟨vs, q, r⟩ := h a _ c
    obtain ⟨v, h1, _⟩ := r.get e
    exact ⟨vs, v, SqL.of q, h1⟩
  yld := fun i H M d y H' x h c e w => by
    obtain ⟨rfl, w⟩ := w
    obtain ⟨vs, q, r⟩ := h a _ c
    obtain ⟨v, h1, h2⟩ := r.get e
    have := w _ (SqL.of q)
    rw [h1] at this; cases this
    exact ⟨.refl _ _, h, fun _ _ z => z, h2⟩
theorem wj_rol {a : Addr} {ds : List D} {vs : List V} (s : SqF K H0 a vs) (r : DRs K H0 ds vs) : WalkJ K H0 ds (fun _ => True) (Itl K a) where
  stop := fun i H M x h c hl => ⟨vs, (s.mono x).seq, by rw [← r.length]; exact hl⟩
  go := fun i H M d x h c e => by
    obtain ⟨v, h1, _⟩ := r.get e
    exact ⟨vs, v, (s.mono x).seq, h1⟩
  yld := fun i H M d y H' x h c e w => by
    obtain ⟨rfl, w⟩ := w
    obtain ⟨v, h1, h2⟩ := r.get e
    have := w _ (s.mono x).seq
    rw [h1] at this; cases this
    exact ⟨.refl _ _, h, fun _ _ z => z, h2.mono x⟩
theorem wj_tup {a : Addr} {ds : List D} {vs : List V} (s : SqT K H0 a vs) (r : DRs K H0 ds vs) : WalkJ K H0 ds (fun _ => True) (Itt K a) where
  stop := fun i H M x h c hl => ⟨vs, x.tup _ _ s, by rw [← r.length]; exact hl⟩
  go := fun i H M d x h c e => by
    obtain ⟨v, h1, _⟩ := r.get e
    exact ⟨vs, v, x.tup _ _ s, h1⟩
  yld := fun i H M d y H' x h c e w => by
    obtain ⟨rfl, w⟩ := w
    obtain ⟨v, h1, h2⟩ := r.get e
    have := w _ (x.tup _ _ s)
    rw [h1] at this; cases this
    exact ⟨.refl _ _, h, fun _ _ z => z, h2.mono x⟩
theorem wj_str {z : Str} : WalkJ K H0 (z.cps.toList.map fun c => .str ⟨#[c]⟩) (fun _ => True) (Its z) where
  stop := fun i H M x h c hl => by
    show z.cps.size ≤ i
    simpa using hl
  go := fun i H M d x h c e => by
    show i < z.cps.size
    have := (List.getElem?_eq_some_iff.mp e).1
    simpa using this
  yld := fun i H M d y H' x h c e w => by
    obtain ⟨rfl, k, e2, rfl⟩ := w
    refine ⟨.refl _ _, h, fun _ _ z => z, ?_⟩
    rw [List.getElem?_map, Array.getElem?_toList, e2] at e
    cases e
    exact .str _
theorem rng_get {lo : Int} {n i : Nat} {d : D} (e : (rngI lo n)[i]? = some d) : i < n ∧ d = .int (lo + i) := by
  unfold rngI at e
  rw [List.getElem?_map] at e
  by_cases h : i < n
  · rw [List.getElem?_range h] at e
    cases e
    exact ⟨h, rfl⟩
  · rw [List.getElem?_eq_none (by simpa using h)] at e
    cases e
theorem wj_rng {lo : Int} {n : Nat} : WalkJ K H0 (rngI lo n) (fun _ => True) (Itr lo n) where
  stop := fun i H M x h c hl => by
    show n ≤ i
    simpa [rngI] using hl
  go := fun i H M d x h c e => (rng_get e).1
  yld := fun i H M d y H' x h c e w => by
    obtain ⟨rfl, rfl⟩ := w
    rw [(rng_get e).2]
    exact ⟨.refl _ _, h, fun _ _ z => z, .int _⟩
end

section
variable {X : Cx}
theorem di_seq {tg l : Expr} {wl : DT} (hl : Dx X l wl) : Di X tg l (iSeq wl) := by
  refine ⟨fun pins s σ H R I h => ?_⟩
  obtain ⟨ρ, M, P, er, hr, w, k⟩ := h
  refine thn (hl.run pins s σ H (fun v H1 => ∃ d M1, seqP d M1 P ∧ Ext X.K H H1 ∧ DR X.K H1 d v ∧ HR X.K H1 M1) I ⟨ρ, M, _, er, hr, w, fun d M1 v H1 p e d1 h1 => ⟨d, M1, p, e, d1, h1⟩⟩) ?_
  rintro u s1 ⟨v, H1, I1, r1, d, M1, p, e, d1, h1⟩
  have lists : ∀ a vs J, u = .ref a → SqL X.K H1 a vs → J = Itl X.K a → R J H1 → wpAny (model X.prog X.w) X.A (pyIter u) (PIE X pins σ tg R) X.xe s1 := fun a vs J eu q ej qR => by
    subst eu ej
    obtain ⟨its, rv, pl, hz⟩ := I1.list q
    exact wpAny_pyIter_list pl.isList (pi_one (tk := s1.toks) I1 _ (turn_list a _) ⟨_, Heap.get?_push_size _ rfl, rfl, rfl⟩ qR)
  cases d1 with
  | tup s2 r2 =>
    obtain ⟨its, rv, pl, hz⟩ := I1.tuple s2
    cases r1
    exact wpAny_pyIter_tuple (show s1.heap.IsTuple _ its.toArray from pl) (pi_one (tk := s1.toks) I1 _ (turn_tuple _ _) ⟨_, Heap.get?_push_size _ rfl, rfl, rfl⟩ (k _ _ _ _ _ p e h1 (wj_tup s2 r2)))
  | rol s2 r2 => exact lists _ _ _ r1 s2.seq rfl (k _ _ _ _ _ p e h1 (wj_rol s2 r2))
  | str z =>
    obtain ⟨t, rfl⟩ := r1
    have q := k _ _ _ _ _ p e h1 wj_str
    cases ha : z.cps.all (· < 128)
    · exact wpAny_pyIter_wide ha (pi_one (tk := s1.toks) I1 _ (turn_str _ z t "str_iterator" (.inr rfl)) ⟨_, Heap.get?_push_size _ rfl, rfl, rfl⟩ q)
    · exact wpAny_pyIter_ascii ha (pi_one (tk := s1.toks) I1 _ (turn_str _ z t "str_ascii_iterator" (.inl rfl)) ⟨_, Heap.get?_push_size _ rfl, rfl, rfl⟩ q)
  | ref a =>
    have p : (match M1 a with | some (.lst ds) => P ds (fun M' => M' a = some (.lst ds)) M1 | none => False) := p
    cases e2 : M1 a with
    | none => rw [e2] at p; exact p.elim
    | some o =>
      cases o with
      | lst ds =>
        rw [e2] at p
        obtain ⟨vs, q, r⟩ := h1 _ _ e2
        exact lists _ _ _ r1 (SqL.of q) rfl (k _ _ _ _ _ p e h1 wj_list)
  | _ => exact False.elim p
theorem pi_wk {tg e : Expr} {t t' : TI} (h : PI X tg e t) (k : ∀ σ H Q, t' σ H Q → t σ H Q) : PI X tg e t' := ⟨fun pins s σ H R I q => h.run pins s σ H R I (k σ H R q)⟩
theorem di_rg1 {tg a : Expr} {wa : DA} {p pos : Pos} (hg : Gl X "range") (hm : X.mg "range" = none) (ha : Da X [a] wa) (hs : starEach [a] X.env = [(false, eval a X.env)]) : Di X tg (.Call (.Name "range" p) [a] [] pos) (iRg1 wa) :=
  pi_wk (pi_range1 hg hm ha hs) fun σ H R ⟨ρ, M, P, er, hr, w, k⟩ => ⟨ρ, M, _, er, hr, w, fun xs M1 vs H1 p1 e1 d1 h1 => by
    match xs, d1 with
    | [], _ => exact False.elim p1
    | [x], .cons d .nil =>
      cases d <;> first | exact False.elim p1 | skip
      exact ⟨_, rfl, p1.1.1, p1.1.2, k _ _ _ _ _ p1.2 e1 h1 wj_rng⟩
    | x :: _ :: _, .cons d _ => cases d <;> exact False.elim p1⟩
theorem di_rg2 {tg a b : Expr} {wa : DA} {p pos : Pos} (hg : Gl X "range") (hm : X.mg "range" = none) (ha : Da X [a, b] wa) (hs : starEach [a, b] X.env = [(false, eval a X.env), (false, eval b X.env)]) (hs2 : starEach [b] X.env = [(false, eval b X.env)]) :
    Di X tg (.Call (.Name "range" p) [a, b] [] pos) (iRg2 wa) :=
  pi_wk (pi_range2 hg hm ha hs hs2) fun σ H R ⟨ρ, M, P, er, hr, w, k⟩ => ⟨ρ, M, _, er, hr, w, fun xs M1 vs H1 p1 e1 d1 h1 => by
    match xs, d1 with
    | [], _ => exact False.elim p1
    | [x], .cons d .nil => cases d <;> exact False.elim p1
    | [x, y], .cons d (.cons d2 .nil) =>
      cases d <;> cases d2 <;> first | exact False.elim p1 | skip
      exact ⟨_, _, rfl, p1.1, k _ _ _ _ _ p1.2 e1 h1 wj_rng⟩
    | x :: y :: _ :: _, .cons d (.cons d2 _) => cases d <;> cases d2 <;> exact False.elim p1⟩

/-! ### targets -/
theorem dg_nm {i : Nat} {x : Str} {pos : Pos} (hN : X.N.Nodup) (hi : X.N[i]? = some x) (hx : Loc X.env.scope x) (hf : X.fn x = true ∨ X.env.scope.names.lookup x = some .local) : Dg X (.Name x pos) (gN i) :=
  pg_wk (pg_name hN hi hx hf) fun v σ H Q ⟨d, ρ, M, P, dv, er, hr, w, k⟩ => k _ M _ H w (.refl _ _) (er.set dv) hr
theorem dgs_nil : Dgs X [] gsN := pgs_wk pgs_nil fun vs σ H Q ⟨ds, ρ, M, P, dv, er, hr, w, k⟩ => by
  cases dv with
  | nil => exact ⟨rfl, k _ M _ H w (.refl _ _) er hr⟩
  | cons _ _ => exact False.elim w
theorem dgs_cons {e : Expr} {es : List Expr} {t : DG} {u : DGs} (h1 : Dg X e t) (h2 : Dgs X es u) (hs : (assignEach (e :: es) X.env).map (·.2) = assign e X.env :: (assignEach es X.env).map (·.2)) : Dgs X (e :: es) (gsC t u) :=
  pgs_wk (pgs_cons h1 h2 hs) fun vs σ H Q ⟨ds, ρ, M, P, dv, er, hr, w, k⟩ => by
    cases dv with
    | nil => exact False.elim w
    | cons d r => exact ⟨_, _, rfl, _, ρ, M, _, d, er, hr, w, fun ρ1 M1 σ1 H1 p1 e1 er1 hr1 => ⟨_, ρ1, M1, P, r.mono e1, er1, hr1, p1, fun ρ2 M2 σ2 H2 p2 e2 => k ρ2 M2 σ2 H2 p2 (e1.trans e2)⟩⟩
theorem dg_tup {es : List Expr} {n k : Nat} {g : DGs} {pos : Pos} (hc : X.calm = true) (h : Dgs X es g) (hn : (assignEach es X.env).length = n) (hst : (assignEach es X.env).findIdx? (·.1) = none) : Dg X (.Tuple es k pos) (gT n g) :=
  pg_wk (pg_tup hc h hn hst) fun v σ H Q ⟨d, ρ, M, P, dv, er, hr, w, k⟩ => by
    cases dv with
    | tup s r => exact ⟨_, _, rfl, s, by rw [← r.length]; exact w.1, _, ρ, M, P, r, er, hr, w.2, k⟩
    | _ => exact False.elim w
theorem dg_sub {o i : Expr} {wo wi : DT} {pos : Pos} (ho : Dx X o wo) (hi : Dx X i wi)
    (ha : ∀ v, assign (.Subscript o i pos) X.env v = (do
      let ov ← holding [v] (eval o X.env)
      let iv ← holding [v, ov] (eval i X.env)
      standAt pos
      holding [v, ov, iv] (setItem ov iv v)
      release [v, ov, iv] [])) : Dg X (.Subscript o i pos) (gS wo wi) :=
  pg_wk (pg_sub ho hi set_list ha) fun v σ H Q ⟨d, ρ, M, P, dv, er, hr, w, k⟩ =>
    ⟨ρ, M, _, er, hr, w, fun x M1 v1 H1 p1 e1 d1 h1 => ⟨ρ, M1, _, er.mono e1, h1, p1, fun y M2 v2 H2 p2 e2 d2 h2 => by
      have d1 := d1.mono e2
      cases d1 <;> cases d2 <;> first | exact False.elim p2 | skip
      rename_i a j
      have p2 : (match M2 a with | some (.lst ds) => (match ixN ds.length j with | some j => P ρ (mup M2 a (.lst (ds.set j d))) | none => False) | none => False) := p2
      cases e3 : M2 a with
      | none => rw [e3] at p2; exact p2.elim
      | some ob =>
        cases ob with
        | lst ds =>
          rw [e3] at p2
          obtain ⟨vs, q, r⟩ := h2 _ _ e3
          cases e4 : ixN ds.length j with
          | none => simp only [e4] at p2
          | some m =>
            simp only [e4] at p2
            have x12 := e1.trans e2
            refine ⟨_, _, _, m, rfl, rfl, q, by rw [← r.length]; exact e4, k _ _ _ _ p2 (x12.trans (.lst q)) (er.mono (x12.trans (.lst q))) (h2.write q (r.set m (dv.mono x12)))⟩⟩⟩

/-! ### statements -/
theorem dss_nil : Dss X [] sNil := pss_wk pss_nil fun D σ H ⟨ρ, M, P, er, hr, w, k⟩ => k.nx _ _ _ _ w (.refl _ _) er hr
theorem dss_cons {s : Stmt} {r : List Stmt} {a b : DS} (h1 : Ds X s a) (h2 : Dss X r b) : Dss X (s :: r) (sSeq a b) :=
  pss_wk (pss_cons h1 h2) fun D σ H ⟨ρ, M, P, er, hr, w, k⟩ => ⟨ρ, M, _, er, hr, w, ⟨fun ρ1 M1 σ1 H1 p1 e1 er1 hr1 => ⟨ρ1, M1, P, er1, hr1, p1, k.mono e1⟩, k.rt, k.bk, k.ct⟩⟩
theorem ds_if {c : Expr} {p q : List Stmt} {wc : DB} {a b : DS} {pos : Pos} (hc : Dt X c wc) (ha : Dss X p a) (hb : Dss X q b) : Ds X (.If c p q pos) (sIf wc a b) :=
  ps_wk (ps_if hc ha hb) fun D σ H ⟨ρ, M, P, er, hr, w, k⟩ => ⟨ρ, M, _, er, hr, w, fun b M1 H1 p1 e1 h1 => by
    cases b with
    | true => exact ⟨ρ, M1, P, er.mono e1, h1, p1, k.mono e1⟩
    | false => exact ⟨ρ, M1, P, er.mono e1, h1, p1, k.mono e1⟩⟩
theorem ds_asg {tg e : Expr} {we : DT} {g : DG} {pos : Pos} (he : Dx X e we) (hg : Dg X tg g) (hs : swapsWithSole [tg] e pos.line X.env = pure false) (hw : swappedStores [tg] e X.env = pure none)
    (h1 : (assignEach [tg] X.env).map (·.2) = [assign tg X.env]) : Ds X (.Assign [tg] e pos) (sAsg we g) :=
  ps_wk (ps_asg he hg hs hw h1) fun D σ H ⟨ρ, M, P, er, hr, w, k⟩ => ⟨ρ, M, _, er, hr, w, fun d M1 v H1 p1 e1 d1 h1 => ⟨d, ρ, M1, P.nx, d1, er.mono e1, h1, p1, fun ρ2 M2 σ2 H2 p2 e2 => k.nx ρ2 M2 σ2 H2 p2 (e1.trans e2)⟩⟩
theorem ds_set {i : Nat} {x : Str} {e : Expr} {we : DT} {pos pos' : Pos} (hN : X.N.Nodup) (hi : X.N[i]? = some x) (hx : Loc X.env.scope x) (he : Dx X e we) (hs : swapsWith e (some (.Name x pos')) pos.line X.env = pure false) (hf : X.fn x = true ∨ X.env.scope.names.lookup x = some .local) :
    Ds X (.Assign [.Name x pos'] e pos) (sAsg we (gN i)) :=
  ps_wk (ps_set hN hi hx he hs hf) fun D σ H ⟨ρ, M, P, er, hr, w, k⟩ => ⟨ρ, M, _, er, hr, w, fun d M1 v H1 p1 e1 d1 h1 => k.nx _ _ _ _ p1 e1 ((er.mono e1).set d1) h1⟩
theorem ds_exp {e : Expr} {we : DT} {pos : Pos} (he : Dx X e we) (hs : swapsWith e none pos.line X.env = pure false) : Ds X (.Expr e pos) (sExp we) :=
  ps_wk (ps_expr he hs) fun D σ H ⟨ρ, M, P, er, hr, w, k⟩ => ⟨ρ, M, _, er, hr, w, fun d M1 v H1 p1 e1 d1 h1 => k.nx _ _ _ _ p1 e1 (er.mono e1) h1⟩
theorem ds_ret {e : Expr} {we : DT} {pos : Pos} (he : Dx X e we) : Ds X (.Return (some e) pos) (sRet we) :=
  ps_wk (ps_ret he) fun D σ H ⟨ρ, M, P, er, hr, w, k⟩ => ⟨ρ, M, _, er, hr, w, fun d M1 v H1 p1 e1 d1 h1 => k.rt _ _ _ _ p1 e1 d1 h1⟩
theorem ds_retN {pos : Pos} : Ds X (.Return none pos) sRetN := ps_wk ps_retN fun D σ H ⟨ρ, M, P, er, hr, w, k⟩ => k.rt _ _ _ _ w (.refl _ _) .non hr
theorem ds_pass {pos : Pos} : Ds X (.Pass pos) sNil := ps_wk ps_pass fun D σ H ⟨ρ, M, P, er, hr, w, k⟩ => k.nx _ _ _ _ w (.refl _ _) er hr
theorem ds_brk {pos : Pos} : Ds X (.Break pos) sBrk := ps_wk ps_break fun D σ H ⟨ρ, M, P, er, hr, w, k⟩ => k.bk _ _ _ _ w (.refl _ _) er hr
theorem ds_cnt {pos : Pos} : Ds X (.Continue pos) sCnt := ps_wk ps_continue fun D σ H ⟨ρ, M, P, er, hr, w, k⟩ => k.ct _ _ _ _ w (.refl _ _) er hr
theorem ds_aug {i : Nat} {x : Str} {e : Expr} {we : DT} {op : Operator} {r : D → D → Mh → PQ → Prop} {pos pos' : Pos} (hN : X.N.Nodup) (hi : X.N[i]? = some x) (hx : Loc X.env.scope x) (he : Dx X e we) (ho : OpR X (inplaceOp op) (up2 X.K r)) (hf : X.fn x = true ∨ X.env.scope.names.lookup x = some .local) :
    Ds X (.AugAssign (.Name x pos') op e pos) (sAug i r we) :=
  ps_wk (ps_aug hN hi hx he ho hf) fun D σ H ⟨ρ, M, P, er, hr, w, k⟩ => by
    unfold sAug at w
    cases e0 : slot ρ i with
    | none => rw [e0] at w; exact w.elim
    | some d =>
      rw [e0] at w
      obtain ⟨v, h1, h2⟩ := er.2 i d (slot_get e0)
      exact ⟨v, h1, ρ, M, _, er, hr, w, fun y M1 u H1 p1 e1 d1 hr1 => ⟨_, y, M1, _, h2.mono e1, d1, hr1, p1, fun z M2 v2 H2 p2 e2 d2 hr2 => k.nx _ _ _ _ p2 (e1.trans e2) ((er.mono (e1.trans e2)).set d2) hr2⟩⟩
theorem ds_par {i j : Nat} {x y : Str} {a b : Expr} {wa wb : DT} {px py pt pos : Pos} {kt k2 pt2} (hc : X.calm = true) (hN : X.N.Nodup) (hi : X.N[i]? = some x) (hj : X.N[j]? = some y) (hij : i ≠ j)
    (hx : X.env.scope.names.lookup x = some .local) (hy : X.env.scope.names.lookup y = some .local) (ha : Dx X a wa) (hb : Dx X b wb) (hs1 : starEach (a :: [b]) X.env = (false, eval a X.env) :: starEach [b] X.env) (hs2 : starEach (b :: []) X.env = (false, eval b X.env) :: starEach [] X.env)
    (hw : swappedStores [.Tuple [.Name x px, .Name y py] kt pt] (.Tuple [a, b] k2 pt2) X.env = pure (some [x, y])) :
    Ds X (.Assign [.Tuple [.Name x px, .Name y py] kt pt] (.Tuple [a, b] k2 pt2) pos) (sParN i j wa wb) :=
  ps_wk (ps_par hc hN hi hj hij hx hy (pa_cons ha (pa_cons hb pa_nil hs2) hs1) hw) fun D σ H ⟨ρ, M, P, er, hr, w, k⟩ =>
    ⟨ρ, M, _, er, hr, w, fun x M1 v H1 p1 e1 d1 h1 => ⟨ρ, M1, _, er.mono e1, h1, p1, fun y M2 u H2 p2 e2 d2 h2 => ⟨v, u, rfl, k.nx _ _ _ _ p2 (e1.trans e2) (((er.mono (e1.trans e2)).set (d1.mono e2)).set d2) h2⟩⟩⟩
theorem ds_wh {c : Expr} {body : List Stmt} {wc : DB} {wb : DS} {pos : Pos} (hp : PassesOwn (model X.prog X.w) X.A X.env X.xe) (hc : Dt X c wc) (hb : Dss X body wb) : Ds X (.While c body [] pos) (sWh wc wb) :=
  ps_wk (ps_while hp hc hb) fun D σ H ⟨ρ, M, P, er, hr, ⟨n, w⟩, k⟩ => by
    refine ⟨fun n σ1 H1 => ∃ ρ1 M1, ER X.K H1 ρ1 σ1 ∧ HR X.K H1 M1 ∧ Ext X.K H H1 ∧ whileD wc wb P n ρ1 M1, ⟨n, ρ, M, er, hr, .refl _ _, w⟩, ?_⟩
    rintro n σ1 H1 ⟨ρ1, M1, er1, hr1, x1, w1⟩
    cases n with
    | zero => exact False.elim w1
    | succ n =>
      refine ⟨ρ1, M1, _, er1, hr1, w1, fun t M2 H2 p2 e2 h2 => ?_⟩
      cases t with
      | false => exact k.nx _ _ _ _ p2 (x1.trans e2) (er1.mono e2) h2
      | true =>
        refine ⟨fun σ3 H3 => ∃ ρ3 M3, ER X.K H3 ρ3 σ3 ∧ HR X.K H3 M3 ∧ Ext X.K H H3 ∧ whileD wc wb P n ρ3 M3, fun σ3 H3 h => ⟨n, Nat.lt_succ_self n, h⟩, ρ1, M2, _, er1.mono e2, h2, p2, ?_⟩
        have x2 := x1.trans e2
        exact ⟨fun ρ3 M3 σ3 H3 p3 e3 er3 h3 => ⟨ρ3, M3, er3, h3, x2.trans e3, p3⟩, (k.mono x2).rt, fun ρ3 M3 σ3 H3 p3 e3 er3 h3 => k.nx _ _ _ _ p3 (x2.trans e3) er3 h3, fun ρ3 M3 σ3 H3 p3 e3 er3 h3 => ⟨ρ3, M3, er3, h3, x2.trans e3, p3⟩⟩
theorem ds_for {tg it : Expr} {body : List Stmt} {wi : DI} {g : DG} {wb : DS} {pos : Pos} (hp : PassesOwn (model X.prog X.w) X.A X.env X.xe) (hc : X.calm = true) (hi : Di X tg it wi) (hg : Dg X tg g) (hb : Dss X body wb)
    (hs : ∀ x, foldedSetIterable it X.env x = pure x) : Ds X (.For tg it body [] pos) (sFor wi g wb) :=
  ps_wk (ps_for hp hc hi hg hb hs) fun D σ H ⟨ρ, M, P, er, hr, w, k⟩ => by
    refine ⟨ρ, M, _, er, hr, w, fun items chk M1 H1 J p1 e1 h1 wj => ?_⟩
    refine ⟨fun i m σ2 H2 => ∃ ρ2 M2, ER X.K H2 ρ2 σ2 ∧ HR X.K H2 M2 ∧ Ext X.K H1 H2 ∧ m = items.length - i ∧ i ≤ items.length ∧ forD g wb chk P (items.drop i) ρ2 M2,
      ⟨items.length, ρ, M1, er.mono e1, h1, .refl _ _, rfl, Nat.zero_le _, p1⟩, ?_⟩
    rintro i m σ2 H2 ⟨ρ2, M2, er2, h2, x2, rfl, hi, w2⟩
    by_cases hl : i < items.length
    · have ed : items.drop i = items[i] :: items.drop (i + 1) := List.drop_eq_getElem_cons hl
      have eg : items[i]? = some items[i] := List.getElem?_eq_getElem hl
      rw [ed] at w2
      obtain ⟨c2, w2⟩ := w2
      refine .inr ⟨wj.go i H2 M2 _ x2 h2 c2 eg, fun σ3 H3 => ∃ ρ3 M3, ER X.K H3 ρ3 σ3 ∧ HR X.K H3 M3 ∧ Ext X.K H1 H3 ∧ forD g wb chk P (items.drop (i + 1)) ρ3 M3, ?_, ?_⟩
      · rintro σ3 H3 ⟨ρ3, M3, a, b, c, d⟩
        exact ⟨items.length - (i + 1), by omega, ρ3, M3, a, b, c, rfl, hl, d⟩
      · intro x H3 hy
        obtain ⟨e3, h3, _, d3⟩ := wj.yld i H2 M2 _ x H3 x2 h2 c2 eg hy
        refine ⟨_, ρ2, M2, _, d3, er2.mono e3, h3, w2, fun ρ4 M4 σ4 H4 p4 e4 er4 h4 => ⟨ρ4, M4, _, er4, h4, p4, ?_⟩⟩
        have x4 : Ext X.K H1 H4 := x2.trans (e3.trans e4)
        exact ⟨fun ρ5 M5 σ5 H5 p5 e5 er5 h5 => ⟨ρ5, M5, er5, h5, x4.trans e5, p5⟩, (k.mono (e1.trans x4)).rt, fun ρ5 M5 σ5 H5 p5 e5 er5 h5 => k.nx _ _ _ _ p5 (e1.trans (x4.trans e5)) er5 h5, fun ρ5 M5 σ5 H5 p5 e5 er5 h5 => ⟨ρ5, M5, er5, h5, x4.trans e5, p5⟩⟩
    · have ei : i = items.length := by omega
      rw [ei, List.drop_length] at w2
      exact .inl ⟨wj.stop i H2 M2 x2 h2 w2.1 (by omega), k.nx _ _ _ _ w2.2 (e1.trans x2) er2 h2⟩

/-! ### comprehensions -/
end
inductive Tg where
  | nm (i : Nat)
  | tp (is : List Nat)
def Tg.slots : Tg → List Nat
  | .nm i => [i]
  | .tp is => is
def gNms : List Nat → TGs
  | [] => gNil
  | i :: r => gCons (gName i) (gNms r)
def tgV (K : PySem.W.Frag) : Tg → TG
  | .nm i => gName i
  | .tp is => gTup K is.length (gNms is)
def setsD : List Nat → List D → Ev → Option Ev
  | [], [], ρ => some ρ
  | i :: is, d :: ds, ρ => setsD is ds (ρ.set i (some d))
  | _, _, _ => none
def tgD : Tg → D → Ev → Option Ev
  | .nm i, d, ρ => some (ρ.set i (some d))
  | .tp is, .tup ds, ρ => setsD is ds ρ
  | _, _, _ => none
def wipeD (ρ : Ev) : List Nat → Ev
  | [] => ρ
  | v :: vs => (wipeD ρ vs).set v none
def bYes : DB := fun _ M P => P true M
def lcLoop (p : Addr) (chk : Mh → Prop) (t : Tg) (tt : DB) (te : DT) (ρ : Ev) (P : PQ) : List D → Mh → Prop
  | [], M => chk M ∧ P (.ref p) M
  | d :: ds, M => chk M ∧ match tgD t d ρ with
    | none => False
    | some ρ1 => tt ρ1 M fun k M1 => if k = true then te ρ1 M1 fun y M2 => (match M2 p with
        | some (.lst acc) => acc.length < sizeLine ∧ lcLoop p chk t tt te ρ P ds (mup M2 p (.lst (acc ++ [y])))
        | none => False) else lcLoop p chk t tt te ρ P ds M1
def eLC (it : DI) (t : Tg) (tt : DB) (te : DT) (vs : List Nat) : DT := fun ρ M P => it ρ M fun items chk M1 => ∀ p, M1 p = none → lcLoop p chk t tt te (wipeD ρ vs) P items (mup M1 p (.lst []))
section
variable {K : PySem.W.Frag} {H : Hp}
theorem ER.unset {ρ : Ev} {σ : St} (e : ER K H ρ σ) (i : Nat) : ER K H (ρ.set i none) (σ.set i none) := by
  refine ⟨by rw [List.length_set, List.length_set, e.1], fun j c q => ?_⟩
  by_cases hj : i = j
  · subst hj
    rw [List.getElem?_set, if_pos rfl] at q
    split at q <;> cases q
  · rw [List.getElem?_set_ne hj] at q
    obtain ⟨w, h1, h2⟩ := e.2 j c q
    exact ⟨w, by rw [List.getElem?_set_ne hj]; exact h1, h2⟩
theorem ER.wipe {ρ : Ev} {σ : St} (e : ER K H ρ σ) : ∀ vs, ER K H (wipeD ρ vs) (wipe σ vs)
  | [] => e
  | v :: vs => (ER.wipe e vs).unset v
theorem wipe_get {j : Nat} : ∀ (vs : List Nat) (σ : St), (wipe σ vs)[j]? = if j ∈ vs then (if j < σ.length then some none else none) else σ[j]?
  | [], σ => by simp [wipe]
  | v :: vs, σ => by
    show ((wipe σ vs).set v none)[j]? = _
    rw [List.getElem?_set, wipe_length, wipe_get vs σ]
    by_cases hv : v = j
    · subst hv
      simp
    · have hv' : ¬ j = v := fun e => hv e.symm
      simp [hv, hv']
theorem wipe_set {i : Nat} {vs : List Nat} {σ : St} {x : Option V} (h : i ∈ vs) : wipe (σ.set i x) vs = wipe σ vs := by
  apply List.ext_getElem?
  intro j
  rw [wipe_get, wipe_get, List.length_set]
  by_cases hj : j ∈ vs
  · rw [if_pos hj, if_pos hj]
  · rw [if_neg hj, if_neg hj, List.getElem?_set_ne]
    intro e
    exact hj (e ▸ h)
theorem wipe_wipe {vs : List Nat} {σ : St} : wipe (wipe σ vs) vs = wipe σ vs := by
  apply List.ext_getElem?
  intro j
  rw [wipe_get, wipe_length, wipe_get]
  by_cases hj : j ∈ vs
  · rw [if_pos hj, if_pos hj]
  · rw [if_neg hj, if_neg hj]
theorem sets_ok : ∀ {is : List Nat} {ds : List D} {vs : List V} {ρ ρ1 : Ev} {σ : St} {own : List Nat} {Q : St → Hp → Prop}, setsD is ds ρ = some ρ1 → DRs K H ds vs → ER K H ρ σ → (∀ i ∈ is, i ∈ own) →
    (∀ σ1, ER K H ρ1 σ1 → wipe σ1 own = wipe σ own → Q σ1 H) → is.length = vs.length ∧ gNms is vs σ H Q
  | [], [], _, ρ, ρ1, σ, own, Q, e, .nil, er, _, k => by
    cases e
    exact ⟨rfl, rfl, k σ er rfl⟩
  | i :: is, d :: ds, _, ρ, ρ1, σ, own, Q, e, .cons h r, er, ho, k => by
    obtain ⟨h1, h2⟩ := sets_ok (Q := Q) (show setsD is ds (ρ.set i (some d)) = some ρ1 from e) r (er.set h) (fun j hj => ho j (List.mem_cons_of_mem _ hj)) fun σ1 er1 hw => k σ1 er1 (hw.trans (wipe_set (ho i List.mem_cons_self)))
    exact ⟨by rw [List.length_cons, List.length_cons, h1], _, _, rfl, h2⟩
theorem tg_ok {t : Tg} {d : D} {v : V} {ρ ρ1 : Ev} {σ : St} {own : List Nat} {Q : St → Hp → Prop} (e : tgD t d ρ = some ρ1) (dv : DR K H d v) (er : ER K H ρ σ) (ho : ∀ i ∈ t.slots, i ∈ own)
    (k : ∀ σ1, ER K H ρ1 σ1 → wipe σ1 own = wipe σ own → Q σ1 H) : tgV K t v σ H Q := by
  cases t with
  | nm i =>
    cases e
    exact k _ (er.set dv) (wipe_set (ho i (List.mem_singleton.mpr rfl)))
  | tp is =>
    cases dv <;> first | (cases (show none = some ρ1 from e); done) | skip
    rename_i s r
    obtain ⟨h1, h2⟩ := sets_ok (Q := Q) (show setsD is _ ρ = some ρ1 from e) r er ho k
    exact ⟨_, _, rfl, s, h1.symm, h2⟩
/-- a comprehension's reading -/
theorem lc_ok {wi : DI} {t : Tg} {tt : DB} {te : DT} {own : List Nat} {σ : St} {Q : VK} (ho : ∀ i ∈ t.slots, i ∈ own) (h : up K (eLC wi t tt te own) σ H Q) : tLc (upI K wi) (tgV K t) (upB K tt) (up K te) own σ H Q := by
  obtain ⟨ρ, M, P, er, hr, w, k⟩ := h
  refine ⟨ρ, M, _, er, hr, w, fun items chk M1 H1 J p1 e1 h1 wj D nD => ?_⟩
  refine ⟨fun i m H2 => ∃ M2, HR K H2 M2 ∧ Ext K H1 H2 ∧ m = items.length - i ∧ i ≤ items.length ∧ lcLoop D chk t tt te (wipeD ρ own) P (items.drop i) M2,
    ⟨items.length, _, h1.new nD .nil, .fresh nD, rfl, Nat.zero_le _, p1 D (h1.free nD)⟩, ?_⟩
  rintro i m H2 ⟨M2, h2, x2, rfl, hi, w2⟩
  by_cases hl : i < items.length
  · have ed : items.drop i = items[i] :: items.drop (i + 1) := List.drop_eq_getElem_cons hl
    have eg : items[i]? = some items[i] := List.getElem?_eq_getElem hl
    rw [ed] at w2
    obtain ⟨c2, w2⟩ := w2
    refine .inr ⟨wj.go i H2 M2 _ x2 h2 c2 eg, fun H3 => ∃ M3, HR K H3 M3 ∧ Ext K H1 H3 ∧ lcLoop D chk t tt te (wipeD ρ own) P (items.drop (i + 1)) M3, ?_, ?_⟩
    · rintro H3 ⟨M3, a, b, c⟩
      exact ⟨items.length - (i + 1), by omega, M3, a, b, rfl, hl, c⟩
    · intro x H3 hy
      obtain ⟨e3, h3, _, d3⟩ := wj.yld i H2 M2 _ x H3 x2 h2 c2 eg hy
      cases et : tgD t items[i] (wipeD ρ own) with
      | none => simp only [et] at w2
      | some ρ1 =>
        simp only [et] at w2
        have er3 : ER K H3 (wipeD ρ own) (wipe σ own) := (er.mono (e1.trans (x2.trans e3))).wipe own
        refine tg_ok et d3 er3 ho fun σ4 er4 hw4 => ⟨hw4.trans wipe_wipe, ρ1, M2, _, er4, h3, w2, fun b M5 H5 p5 e5 h5 => ?_⟩
        cases b with
        | false => exact ⟨M5, h5, x2.trans (e3.trans e5), p5⟩
        | true =>
          refine ⟨ρ1, M5, _, er4.mono e5, h5, p5, fun y M6 u H6 p6 e6 d6 h6 => ?_⟩
          cases em : M6 D with
          | none => simp only [em] at p6
          | some o =>
            cases o with
            | lst acc =>
              simp only [em] at p6
              obtain ⟨vs, q, r⟩ := h6 _ _ em
              exact ⟨vs, q, by rw [← r.length]; exact p6.1, _, h6.write q (r.append (.one d6)), x2.trans (e3.trans (e5.trans (e6.trans (.lst q)))), p6.2⟩
  · have ei : i = items.length := by omega
    rw [ei, List.drop_length] at w2
    exact .inl ⟨wj.stop i H2 M2 x2 h2 w2.1 (by omega), k _ _ _ _ w2.2 (e1.trans x2) (.ref D) h2⟩
end
section
variable {X : Cx}
/-- the parts of a comprehension -/
structure LcOk (X : Cx) (elt tg : Expr) (ifs : List Expr) (scope : Scope) (t : Tg) (tt : DB) (te : DT) : Prop where
  tg : ∀ (s : Shared) (H : Hp) (C : Addr) (cl : List (Str × Addr)) (fp : List Addr), PG (X.blk s H scope (compEnvC scope cl C X.env) fp) tg (tgV X.K t)
  ts : ∀ (s : Shared) (H : Hp) (C : Addr) (cl : List (Str × Addr)) (fp : List Addr), PTs (X.blk s H scope (compEnvC scope cl C X.env) fp) ifs (upB X.K tt)
  el : ∀ (s : Shared) (H : Hp) (C : Addr) (cl : List (Str × Addr)) (fp : List Addr), PE (X.blk s H scope (compEnvC scope cl C X.env) fp) elt (up X.K te)
theorem dx_lc {elt tg iter : Expr} {ifs : List Expr} {scope : Scope} {own : List (Str × Nat)} {pos : Pos} {wi : DI} {t : Tg} {tt : DB} {te : DT} (hc : X.calm = true) (hN : X.N.Nodup) (hi : Di X tg iter wi) (ok : BlkOk X.N X.env.scope scope own)
    (L : LcOk X elt tg ifs scope t tt te) (ho : ∀ i ∈ t.slots, i ∈ own.map (·.2)) (hs : ∀ x, foldedSetIterable iter X.env x = pure x) : Dx X (.ListComp elt [⟨tg, iter, ifs, 0⟩] scope pos) (eLC wi t tt te (own.map (·.2))) :=
  pe_wk (pe_lc hc hN hi ok L.tg L.ts L.el hs) fun σ H Q h => lc_ok ho h
theorem ds_lc {i : Nat} {y : Str} {py : Pos} {elt tg iter : Expr} {ifs : List Expr} {scope : Scope} {own : List (Str × Nat)} {pos spos : Pos} {wi : DI} {t : Tg} {tt : DB} {te : DT} (hc : X.calm = true) (hN : X.N.Nodup) (hy : X.N[i]? = some y) (hyl : X.env.scope.names.lookup y = some .local)
    (hsw : swapsWith (.ListComp elt [⟨tg, iter, ifs, 0⟩] scope pos) (some (.Name y py)) spos.line X.env = pure true) (hi : Di X tg iter wi) (ok : BlkOk X.N X.env.scope scope own)
    (L : LcOk X elt tg ifs scope t tt te) (ho : ∀ i ∈ t.slots, i ∈ own.map (·.2)) (hs : ∀ x, foldedSetIterable iter X.env x = pure x) :
    Ds X (.Assign [.Name y py] (.ListComp elt [⟨tg, iter, ifs, 0⟩] scope pos) spos) (sAsg (eLC wi t tt te (own.map (·.2))) (gN i)) :=
  ps_wk (ps_setLc hc hN hy hyl hsw hi ok L.tg L.ts L.el hs) fun D σ H ⟨ρ, M, P, er, hr, w, k⟩ =>
    lc_ok ho ⟨ρ, M, _, er, hr, w, fun d M1 v H1 p1 e1 d1 h1 => k.nx _ _ _ _ p1 e1 ((er.mono e1).set d1) h1⟩
end
end DL
/-! DLf: from the syntax to its transformer, and that this is right. -/
namespace DL
open PySem PySem.Spec L2
open PyProof.Rows hiding St

/-- what is known where a piece of code runs -/
structure Gm where
  N : List Str
  sc : Scope
  st : Str → Bool
  fns : List (Str × Nat × DSp)
  glb : List (Str × D)

def bltNames : List Str := ["len", "int", "str", "tuple", "list", "sum", "abs", "max", "min", "range", "isinstance", "bool", "dict", "sorted", "zip", "enumerate", "reversed", "repr"]
structure XOk (X : Cx) (G : Gm) : Prop where
  nd : X.N.Nodup
  hN : X.N = G.N
  sc : X.env.scope = G.sc
  calm : X.calm = true
  hu : X.A.units + 65 < cLine
  pass : PassesOwn (model X.prog X.w) X.A X.env X.xe
  fns : ∀ x n sp, G.fns.lookup x = some (n, sp) → CallOk X x n sp
  glb : ∀ x d, G.glb.lookup x = some d → ∃ u v, X.mg x = some u ∧ RelV v u ∧ ∀ H, DR X.K H d v
  blt : ∀ x ∈ bltNames, X.mg x = none
  st : ∀ x, G.st x = true → Loc X.env.scope x ∧ (X.fn x = true ∨ X.env.scope.names.lookup x = some .local)

def ixOf : List Str → Str → Option Nat
  | [], _ => none
  | y :: r, x => if y == x then some 0 else (ixOf r x).map (· + 1)
theorem ixOf_get : ∀ {N : List Str} {x : Str} {i : Nat}, ixOf N x = some i → N[i]? = some x
  | [], _, _, h => by cases h
  | y :: r, x, i, h => by
    unfold ixOf at h
    split at h
    · cases h
      rename_i e
      rw [eq_of_beq e]; rfl
    · obtain ⟨j, e, rfl⟩ := Option.map_eq_some_iff.mp h
      simpa using ixOf_get e
def okName (x : Str) : Bool := !(x == ("__debug__" : Str)) && !(x == ("__classdict__" : Str))
def visB (sc : Scope) (x : Str) : Bool := match sc.names.lookup x with
  | some .local => true | some .cell => true | some .free => true
  | _ => false
theorem vis_of {sc : Scope} {x : Str} (h : visB sc x = true) : Vis sc x := by
  unfold visB at h
  split at h
  · exact .inl (by assumption)
  · exact .inr (.inl (by assumption))
  · exact .inr (.inr (by assumption))
  · cases h
def glB (sc : Scope) (x : Str) : Bool := match sc.names.lookup x with
  | some .globalImplicit => true
  | _ => false
theorem gl_of {X : Cx} {G : Gm} (O : XOk X G) {x : Str} (h : glB G.sc x = true) : Gl X x := by
  unfold glB at h
  split at h
  · show X.env.scope.names.lookup x = _
    rw [O.sc]; assumption
  · cases h
def starB : Expr → Bool
  | .Starred .. => true
  | _ => false
theorem star_of {e : Expr} {es : List Expr} {env : Env} (h : starB e = false) : starEach (e :: es) env = (false, eval e env) :: starEach es env := by
  cases e <;> first | rfl | cases h
theorem stars_of {pos : Pos} {env : Env} : ∀ {es : List Expr}, es.all (fun e => !starB e) = true → (backTo pos (starEach es env)).any (·.1) = false
  | [], _ => rfl
  | e :: es, h => by
    rw [List.all_cons, Bool.and_eq_true] at h
    rw [star_of (by simpa using h.1)]
    show (false || (backTo pos (starEach es env)).any (·.1)) = false
    rw [stars_of h.2]; rfl
theorem stars_all {pos : Pos} {env : Env} : ∀ {es : List Expr}, es.all (fun e => !starB e) = true → (backTo pos (starEach es env)).all (fun x => !x.1) = true
  | [], _ => rfl
  | e :: es, h => by
    rw [List.all_cons, Bool.and_eq_true] at h
    rw [star_of (by simpa using h.1)]
    show (true && (backTo pos (starEach es env)).all (fun x => !x.1)) = true
    rw [stars_all h.2]; rfl
def sliceB : Expr → Bool
  | .Slice .. => true
  | _ => false
theorem plain_of {b : Expr} (h : sliceB b = false) : PlainIx b := by
  intro o i
  cases b <;> first | rfl | cases h
def setB : Expr → Bool
  | .Set .. => true
  | _ => false
theorem folded_of {e : Expr} {env : Env} (h : setB e = false) : ∀ x, foldedSetIterable e env x = pure x := by
  intro x
  cases e <;> first | rfl | cases h
theorem marks_of {op : CmpOp} {e : Expr} (h : setB e = false) : behindInMarks op e = false := by
  cases e <;> first | rfl | cases h
def compB : Expr → Bool
  | .ListComp .. => true | .SetComp .. => true | .DictComp .. => true
  | _ => false
theorem swaps_of {e : Expr} {t : Option Expr} {l : Nat} {env : Env} (h : compB e = false) : swapsWith e t l env = pure false := by
  cases e <;> first | rfl | cases h
/-- a test that is its value's truth -/
def truB : Expr → Bool
  | .UnaryOp .. => false | .BoolOp .. => false | .IfExp .. => false | .Compare .. => false
  | _ => true
theorem tru_plain {e : Expr} {env : Env} (h : truB e = true) : ∀ whole, isTrue e env whole = (do let v ← whole; standAt e.pos; holding [v] (truthy v)) := by
  intro whole
  cases e <;> first | rfl | cases h
def superB : Expr → Bool
  | .Call .. => true
  | _ => false
theorem base_of {o : Expr} {m : Str} {env : Env} {t : Sem Value} (h : superB o = false) : attributeBase o m env t = t := by
  cases o <;> first | rfl | cases h

def binR : Operator → Option (D → D → Mh → PQ → Prop)
  | .Add => some addD | .Sub => some subD | .Mult => some mulD | .FloorDiv => some divD | .Mod => some modD | .Pow => some powD
  | _ => none
def augR : Operator → Option (D → D → Mh → PQ → Prop)
  | .Add => some iaddD | .Sub => some subD
  | _ => none
def cmpR : CmpOp → Option Cmp
  | .Eq => some eqD | .NotEq => some neD | .Lt => some ltD | .LtE => some leD | .Gt => some gtD | .GtE => some geD | .In => some inD | .NotIn => some ninD | .Is => some isD | .IsNot => some isnD
def fnR (x : Str) : Option (Bool × String × DSp) :=
  if x == "len" then some (true, "len", lenD) else if x == "int" then some (false, "int", intD) else if x == "str" then some (false, "str", strD)
  else if x == "tuple" then some (false, "tuple", tupleD) else if x == "list" then some (false, "list", listD) else if x == "sum" then some (true, "sum", sumD)
  else if x == "abs" then some (true, "abs", absD) else if x == "max" then some (true, "max", maxD) else if x == "min" then some (true, "min", minD) else none
def tyR (x : Str) : Option String :=
  if x == "int" then some "int" else if x == "str" then some "str" else if x == "tuple" then some "tuple" else if x == "list" then some "list" else if x == "bool" then some "bool" else if x == "dict" then some "dict" else none
def mtR (x : Str) : Option (String × (D → List D → Mh → PQ → Prop)) :=
  if x == "append" then some ("list", appendD) else if x == "extend" then some ("list", extendD) else if x == "pop" then some ("list", popD) else if x == "join" then some ("str", joinD) else none

def andE : BoolOp → DT → DT → DT
  | .And => eAnd
  | .Or => eOr
def andB : BoolOp → DB → DB → DB
  | .And => bAnd
  | .Or => bOr
/-- the recursion, given from outside -/
structure Rc where
  e : Gm → Expr → Option DT
  b : Gm → Expr → Option DB
section
variable (r : Rc)
def dAs (G : Gm) : List Expr → Option DA
  | [] => some aNil
  | e :: es => if starB e then none else match r.e G e, dAs G es with
    | some w, some u => some (aCons w u)
    | _, _ => none
def dOpt (G : Gm) : Option Expr → Option (Option DT)
  | none => some none
  | some e => (r.e G e).map some
def dIt (G : Gm) (it : Expr) : Option DI := match it with
  | .Call (.Name f _) [a] [] _ => if f == "range" then (if glB G.sc f && !starB a then (dAs r G [a]).map iRg1 else none) else (r.e G it).map iSeq
  | .Call (.Name f _) [a, b] [] _ => if f == "range" then (if glB G.sc f && !starB a && !starB b then (dAs r G [a, b]).map iRg2 else none) else (r.e G it).map iSeq
  | it => (r.e G it).map iSeq
def ownOf (N : List Str) (scope : Scope) : List (Str × Nat) := scope.names.filterMap fun (x, k) => if k == .local || k == .cell then (ixOf N x).map (x, ·) else none
def tgNms (N : List Str) (st : Str → Bool) : List Expr → Option (List Nat)
  | [] => some []
  | .Name x _ :: r => if st x then match ixOf N x, tgNms N st r with
    | some i, some is => some (i :: is)
    | _, _ => none else none
  | _ => none
def tgOf (N : List Str) (st : Str → Bool) : Expr → Option Tg
  | .Name x _ => if st x then (ixOf N x).map .nm else none
  | .Tuple es _ _ => (tgNms N st es).map .tp
  | _ => none
def Gm.blk (G : Gm) (scope : Scope) : Gm := { G with sc := relS scope G.sc, st := fun x => match scope.names.lookup x with | some .local => true | some .cell => true | _ => false }
def dTs (G : Gm) : List Expr → Option DB
  | [] => some bYes
  | [c] => r.b G c
  | _ => none
def dLc (G : Gm) (elt tg it : Expr) (ifs : List Expr) (scope : Scope) : Option DT :=
  match dIt r G it, tgOf G.N (G.blk scope).st tg, dTs r (G.blk scope) ifs, r.e (G.blk scope) elt with
  | some wi, some t, some tt, some te =>
    if blkC G.N G.sc scope (ownOf G.N scope) && t.slots.all (fun i => (ownOf G.N scope).map (·.2) |>.contains i) && !setB it then some (eLC wi t tt te ((ownOf G.N scope).map (·.2))) else none
  | _, _, _, _ => none
def dE1 (G : Gm) : Expr → Option DT
  | .Name x _ => if okName x then (if visB G.sc x then (ixOf G.N x).map eVar else if glB G.sc x then (G.glb.lookup x).map eC else none) else none
  | .Constant c _ _ => match c with
    | .int i => some (eC (.int i)) | .bool b => some (eC (.bl b)) | .none => some (eC .non) | .str x => some (eC (.str x))
    | _ => none
  | .BinOp a op b _ => match binR op, r.e G a, r.e G b with
    | some f, some x, some y => some (eBin f x y)
    | _, _, _ => none
  | .UnaryOp op a _ => match op with
    | .USub => (r.e G a).map (eUn negD)
    | .Not => (r.e G a).map eNot
    | _ => none
  | .Compare a [op] [b] _ => if setB b then none else match cmpR op, r.e G a, r.e G b with
    | some f, some x, some y => some (eCmp f x y)
    | _, _, _ => none
  | .BoolOp _ [a] _ => r.e G a
  | .BoolOp op (a :: b :: rest) pos => match r.e G a, r.e G (.BoolOp op (b :: rest) pos) with
    | some x, some y => some (andE op x y)
    | _, _ => none
  | .IfExp c a b _ => match r.b G c, r.e G a, r.e G b with
    | some z, some x, some y => some (eIf z x y)
    | _, _, _ => none
  | .Tuple es _ _ => (dAs r G es).map eTup
  | .List es _ => (dAs r G es).map eLst
  | .Subscript a (.Slice lo hi none _) _ => match r.e G a, dOpt r G lo, dOpt r G hi with
    | some x, some l, some h => some (eSl x l h)
    | _, _, _ => none
  | .Subscript a b _ => if sliceB b then none else match r.e G a, r.e G b with
    | some x, some y => some (eBin ixD x y)
    | _, _ => none
  | .Call (.Name f _) args [] _ => if glB G.sc f then (match G.fns.lookup f with
      | some (n, sp) => if args.all (fun e => !starB e) then (dAs r G args).map (eFn n sp) else none
      | none => if f == "isinstance" then (match args with
          | [e, .Name t _] => if starB e || !glB G.sc t then none else match tyR t, r.e G e with
            | some T, some w => some (eIsi T w)
            | _, _ => none
          | _ => none)
        else match fnR f, args with
          | some (_, _, sp), _ :: _ => if args.all (fun e => !starB e) then (dAs r G args).map (eCall sp) else none
          | _, _ => none) else none
  | .Call (.Attribute o m apos) args [] cpos => if (apos.endLine == cpos.line) && !superB o && args.all (fun e => !starB e) && decide (args.length < 30) then (match mtR m, r.e G o, dAs r G args with
      | some (T, f), some w, some a => some (eMt T f w a)
      | _, _, _ => none) else none
  | .ListComp elt [⟨tg, it, ifs, 0⟩] scope _ => dLc r G elt tg it ifs scope
  | _ => none
def dB1 (G : Gm) : Expr → Option DB
  | .UnaryOp .Not a _ => (r.b G a).map bNot
  | .Compare a [op] [b] _ => if setB b then none else match cmpR op, r.e G a, r.e G b with
    | some f, some x, some y => some (bCmp f x y)
    | _, _, _ => none
  | .BoolOp _ [a] _ => r.b G a
  | .BoolOp op (a :: b :: rest) pos => match r.b G a, r.b G (.BoolOp op (b :: rest) pos) with
    | some x, some y => some (andB op x y)
    | _, _ => none
  | e => if truB e then (r.e G e).map bTru else none
end
def dR : Nat → Rc
  | 0 => ⟨fun _ _ => none, fun _ _ => none⟩
  | n + 1 => ⟨dE1 (dR n), dB1 (dR n)⟩

/-! ### it is right -/
/-- tests: a row of and, or stands also where 'whole' is another -/
structure RcOk (r : Rc) : Prop where
  e : ∀ (X : Cx) (G : Gm) (e : Expr) (w : DT), XOk X G → r.e G e = some w → Dx X e w
  b : ∀ (X : Cx) (G : Gm) (e : Expr) (w : DB), XOk X G → r.b G e = some w → Dt X e w
  w : ∀ (X : Cx) (G : Gm) (op : BoolOp) (es : List Expr) (pos : Pos) (w : DB), XOk X G → r.b G (.BoolOp op es pos) = some w → Dw X (.BoolOp op es pos) w
section
variable {X : Cx} {G : Gm} {r : Rc}
theorem as_ok (R : RcOk r) (O : XOk X G) : ∀ {es : List Expr} {w : DA}, dAs r G es = some w → Da X es w
  | [], _, h => by cases h; exact da_nil
  | e :: es, w, h => by
    unfold dAs at h
    split at h
    · cases h
    · rename_i hs
      split at h
      · cases h
        rename_i h1 h2
        exact da_cons (R.e X G _ _ O h1) (as_ok R O h2) (star_of (by simpa using hs))
      · cases h
theorem opt_ok (R : RcOk r) (O : XOk X G) : ∀ {o : Option Expr} {w : Option DT}, dOpt r G o = some w → PO X o (upO X.K (oPart w))
  | none, _, h => by cases h; exact do_none
  | some e, w, h => by
    obtain ⟨u, h1, rfl⟩ := Option.map_eq_some_iff.mp h
    exact do_some (R.e X G _ _ O h1)
theorem seq_ok (R : RcOk r) (O : XOk X G) {tg it : Expr} {w : DI} (h : (r.e G it).map iSeq = some w) : Di X tg it w := by
  obtain ⟨u, h1, rfl⟩ := Option.map_eq_some_iff.mp h
  exact di_seq (R.e X G _ _ O h1)
theorem it_ok (R : RcOk r) (O : XOk X G) {tg it : Expr} {w : DI} (h : dIt r G it = some w) : Di X tg it w := by
  unfold dIt at h
  split at h
  · rename_i f p a pos
    by_cases hf : (f == "range") = true
    · rw [if_pos hf] at h
      have ef : f = "range" := eq_of_beq hf
      subst ef
      split at h
      · rename_i hc
        simp only [Bool.and_eq_true, Bool.not_eq_true'] at hc
        obtain ⟨u, h1, rfl⟩ := Option.map_eq_some_iff.mp h
        exact di_rg1 (gl_of O hc.1) (O.blt _ (by decide +kernel)) (as_ok R O h1) (by rw [star_of hc.2]; rfl)
      · cases h
    · rw [if_neg hf] at h
      exact seq_ok R O h
  · rename_i f p a b pos
    by_cases hf : (f == "range") = true
    · rw [if_pos hf] at h
      have ef : f = "range" := eq_of_beq hf
      subst ef
      split at h
      · rename_i hc
        simp only [Bool.and_eq_true, Bool.not_eq_true'] at hc
        obtain ⟨u, h1, rfl⟩ := Option.map_eq_some_iff.mp h
        exact di_rg2 (gl_of O hc.1.1) (O.blt _ (by decide +kernel)) (as_ok R O h1) (by rw [star_of hc.1.2, star_of hc.2]; rfl) (by rw [star_of hc.2]; rfl)
      · cases h
    · rw [if_neg hf] at h
      exact seq_ok R O h
  · exact seq_ok R O h
end

section
variable {X : Cx} {G : Gm} {r : Rc}
theorem blk_ok (O : XOk X G) {scope : Scope} {own : List (Str × Nat)} (ok : BlkOk X.N X.env.scope scope own) (s : Shared) (H : Hp) (C : Addr) (cl : List (Str × Addr)) (fp : List Addr) :
    XOk (X.blk s H scope (compEnvC scope cl C X.env) fp) (G.blk scope) where
  nd := O.nd
  hN := O.hN
  sc := by
    show relS scope X.env.scope = relS scope G.sc
    rw [O.sc]
  calm := O.calm
  hu := O.hu
  pass := PassesOwn.never
  fns := fun x n sp h => ⟨(O.fns x n sp h).dbg, (O.fns x n sp h).ok⟩
  glb := O.glb
  blt := O.blt
  st := fun x h => by
    have h : (match scope.names.lookup x with | some .local => true | some .cell => true | _ => false) = true := h
    split at h
    · rename_i e
      have e2 := lookup_relS_keep (sc := X.env.scope) (by decide) e
      exact ⟨.inl e2, .inr e2⟩
    · rename_i e
      have e2 := lookup_relS_keep (sc := X.env.scope) (by decide) e
      exact ⟨.inr e2, .inl (by show (scope.names.lookup x == some NameKind.cell) = true; rw [e]; rfl)⟩
    · cases h
theorem nms_ok (O : XOk X G) {st : Str → Bool} (hst : st = G.st) : ∀ {es : List Expr} {is : List Nat}, tgNms G.N st es = some is → PGs X es (gNms is) ∧ (assignEach es X.env).length = is.length ∧ (assignEach es X.env).findIdx? (·.1) = none
  | [], _, h => by cases h; exact ⟨pgs_nil, rfl, rfl⟩
  | e :: es, is, h => by
    cases e with
    | Name x p =>
      unfold tgNms at h
      split at h
      · rename_i hx
        split at h
        · cases h
          rename_i h1 h2
          obtain ⟨g1, g2, g3⟩ := nms_ok O hst h2
          rw [hst] at hx
          obtain ⟨hl, hf⟩ := O.st x hx
          refine ⟨pgs_cons (pg_name O.nd (by rw [O.hN]; exact ixOf_get h1) hl hf) g1 (by rfl), by show (assignEach es X.env).length + 1 = _; rw [g2]; rfl, ?_⟩
          show ((false, _) :: assignEach es X.env).findIdx? (·.1) = none
          rw [List.findIdx?_cons, g3]; rfl
        · cases h
      · cases h
    | _ => cases h
theorem tgv_ok (O : XOk X G) {tg : Expr} {t : Tg} (h : tgOf G.N G.st tg = some t) : PG X tg (tgV X.K t) := by
  cases tg with
  | Name x p =>
    have h : (if G.st x then (ixOf G.N x).map Tg.nm else none) = some t := h
    split at h
    · rename_i hx
      obtain ⟨i, h1, rfl⟩ := Option.map_eq_some_iff.mp h
      obtain ⟨hl, hf⟩ := O.st x hx
      exact pg_name O.nd (by rw [O.hN]; exact ixOf_get h1) hl hf
    · cases h
  | Tuple es k p =>
    have h : (tgNms G.N G.st es).map Tg.tp = some t := h
    obtain ⟨is, h1, rfl⟩ := Option.map_eq_some_iff.mp h
    obtain ⟨g1, g2, g3⟩ := nms_ok O rfl h1
    exact pg_tup O.calm g1 g2 g3
  | _ => cases h
theorem ts_ok (R : RcOk r) (O : XOk X G) {ifs : List Expr} {w : DB} (h : dTs r G ifs = some w) : PTs X ifs (upB X.K w) := by
  match ifs with
  | [] =>
    cases h
    exact ⟨fun pins s σ H Q I ⟨ρ, M, P, er, hr, w, k⟩ => pts_nil.run pins s σ H Q I (k _ M H w (.refl _ _) hr)⟩
  | [c] => exact pts_one (R.b X G _ _ O h)
  | _ :: _ :: _ => cases h
theorem lcp_ok (R : RcOk r) (O : XOk X G) {elt tg it : Expr} {ifs : List Expr} {scope : Scope} {w : DT} (h : dLc r G elt tg it ifs scope = some w) :
    ∃ wi t tt te, w = eLC wi t tt te ((ownOf G.N scope).map (·.2)) ∧ Di X tg it wi ∧ BlkOk X.N X.env.scope scope (ownOf G.N scope) ∧ LcOk X elt tg ifs scope t tt te ∧ (∀ i ∈ t.slots, i ∈ (ownOf G.N scope).map (·.2)) ∧ setB it = false := by
  unfold dLc at h
  split at h
  · rename_i wi t tt te h1 h2 h3 h4
    split at h
    · rename_i hc
      cases h
      simp only [Bool.and_eq_true, List.all_eq_true, Bool.not_eq_true'] at hc
      have ok : BlkOk X.N X.env.scope scope (ownOf G.N scope) := by
        rw [O.hN, O.sc]; exact blkOk_by hc.1.1
      have O' := fun s H C cl fp => blk_ok O ok s H C cl fp
      refine ⟨wi, t, tt, te, rfl, it_ok R O h1, ok, ⟨fun s H C cl fp => ?_, fun s H C cl fp => ts_ok R (O' s H C cl fp) h3, fun s H C cl fp => R.e _ _ _ _ (O' s H C cl fp) h4⟩, fun i hi => by simpa using hc.1.2 i hi, hc.2⟩
      exact tgv_ok (O' s H C cl fp) h2
    · cases h
  · cases h
theorem bin_ok (O : XOk X G) {op : Operator} {f : D → D → Mh → PQ → Prop} (h : binR op = some f) : OpR X (binaryOp op) (up2 X.K f) := by
  cases op <;> first | (cases h; done) | skip
  all_goals (cases h)
  all_goals first | exact od_add | exact od_sub | exact od_mul | exact od_mod | exact od_pow | exact od_div
theorem aug_ok {op : Operator} {f : D → D → Mh → PQ → Prop} (h : augR op = some f) : OpR X (inplaceOp op) (up2 X.K f) := by
  cases op <;> first | (cases h; done) | skip
  all_goals (cases h)
  all_goals first | exact iod_add | exact iod_sub
theorem cmp_ok (O : XOk X G) {op : CmpOp} {f : Cmp} (h : cmpR op = some f) : OpR X (compareOp op) (upC X.K f) := by
  have hu : X.A.units + 64 < cLine := Nat.lt_of_succ_lt O.hu
  cases op <;> cases h
  all_goals first | exact cd_eq hu | exact cd_ne hu | exact cd_lt | exact cd_le | exact cd_gt | exact cd_ge | exact cd_is | exact cd_isn | exact cd_in | exact cd_nin
theorem fnR_ok (O : XOk X G) {f : Str} {b : Bool} {id : String} {sp : DSp} {e : Expr} {es : List Expr} {wa : DA} {p pos : Pos} (h : fnR f = some (b, id, sp)) (hg : Gl X f) (ha : Da X (e :: es) wa)
    (he : starEach (e :: es) X.env = (false, eval e X.env) :: starEach es X.env) (hpl : (backTo pos (starEach es X.env)).any (·.1) = false) : Dx X (.Call (.Name f p) (e :: es) [] pos) (eCall sp wa) := by
  unfold fnR at h
  have eqf : ∀ {z : Str}, (f == z) = true → f = z := fun h => eq_of_beq h
  by_cases c1 : (f == "len") = true
  · rw [if_pos c1] at h; cases h; have := eqf c1; subst this
    exact dx_fb fd_len hg (O.blt _ (by decide +kernel)) (by decide +kernel) ha (by decide +kernel) (by decide +kernel) he hpl
  rw [if_neg c1] at h
  by_cases c2 : (f == "int") = true
  · rw [if_pos c2] at h; cases h; have := eqf c2; subst this
    exact dx_ft fd_int hg (O.blt _ (by decide +kernel)) (by decide +kernel) ha (by decide +kernel) (by decide +kernel) he hpl
  rw [if_neg c2] at h
  by_cases c3 : (f == "str") = true
  · rw [if_pos c3] at h; cases h; have := eqf c3; subst this
    exact dx_ft fd_str hg (O.blt _ (by decide +kernel)) (by decide +kernel) ha (by decide +kernel) (by decide +kernel) he hpl
  rw [if_neg c3] at h
  by_cases c4 : (f == "tuple") = true
  · rw [if_pos c4] at h; cases h; have := eqf c4; subst this
    exact dx_ft fd_tuple hg (O.blt _ (by decide +kernel)) (by decide +kernel) ha (by decide +kernel) (by decide +kernel) he hpl
  rw [if_neg c4] at h
  by_cases c5 : (f == "list") = true
  · rw [if_pos c5] at h; cases h; have := eqf c5; subst this
    exact dx_ft fd_list hg (O.blt _ (by decide +kernel)) (by decide +kernel) ha (by decide +kernel) (by decide +kernel) he hpl
  rw [if_neg c5] at h
  by_cases c6 : (f == "sum") = true
  · rw [if_pos c6] at h; cases h; have := eqf c6; subst this
    exact dx_fb (fd_sum O.calm) hg (O.blt _ (by decide +kernel)) (by decide +kernel) ha (by decide +kernel) (by decide +kernel) he hpl
  rw [if_neg c6] at h
  by_cases c7 : (f == "abs") = true
  · rw [if_pos c7] at h; cases h; have := eqf c7; subst this
    exact dx_fb fd_abs hg (O.blt _ (by decide +kernel)) (by decide +kernel) ha (by decide +kernel) (by decide +kernel) he hpl
  rw [if_neg c7] at h
  by_cases c8 : (f == "max") = true
  · rw [if_pos c8] at h; cases h; have := eqf c8; subst this
    exact dx_fb (fd_max O.calm) hg (O.blt _ (by decide +kernel)) (by decide +kernel) ha (by decide +kernel) (by decide +kernel) he hpl
  rw [if_neg c8] at h
  by_cases c9 : (f == "min") = true
  · rw [if_pos c9] at h; cases h; have := eqf c9; subst this
    exact dx_fb (fd_min O.calm) hg (O.blt _ (by decide +kernel)) (by decide +kernel) ha (by decide +kernel) (by decide +kernel) he hpl
  rw [if_neg c9] at h
  cases h
theorem tyR_ok (O : XOk X G) {e : Expr} {t : Str} {T : String} {w : DT} {p p2 pos : Pos} (h : tyR t = some T) (he : Dx X e w) (hg : Gl X "isinstance") (hg2 : Gl X t) (hs : starB e = false) : Dx X (.Call (.Name "isinstance" p) [e, .Name t p2] [] pos) (eIsi T w) := by
  unfold tyR at h
  have eqf : ∀ {z : Str}, (t == z) = true → t = z := fun h => eq_of_beq h
  by_cases c1 : (t == "int") = true
  · rw [if_pos c1] at h; cases h; have := eqf c1; subst this
    exact dx_isi (by simp) he hg (O.blt _ (by decide +kernel)) hg2 (O.blt _ (by decide +kernel)) (by decide +kernel) (by decide +kernel) (by decide +kernel) (star_of hs)
  rw [if_neg c1] at h
  by_cases c2 : (t == "str") = true
  · rw [if_pos c2] at h; cases h; have := eqf c2; subst this
    exact dx_isi (by simp) he hg (O.blt _ (by decide +kernel)) hg2 (O.blt _ (by decide +kernel)) (by decide +kernel) (by decide +kernel) (by decide +kernel) (star_of hs)
  rw [if_neg c2] at h
  by_cases c3 : (t == "tuple") = true
  · rw [if_pos c3] at h; cases h; have := eqf c3; subst this
    exact dx_isi (by simp) he hg (O.blt _ (by decide +kernel)) hg2 (O.blt _ (by decide +kernel)) (by decide +kernel) (by decide +kernel) (by decide +kernel) (star_of hs)
  rw [if_neg c3] at h
  by_cases c4 : (t == "list") = true
  · rw [if_pos c4] at h; cases h; have := eqf c4; subst this
    exact dx_isi (by simp) he hg (O.blt _ (by decide +kernel)) hg2 (O.blt _ (by decide +kernel)) (by decide +kernel) (by decide +kernel) (by decide +kernel) (star_of hs)
  rw [if_neg c4] at h
  by_cases c5 : (t == "bool") = true
  · rw [if_pos c5] at h; cases h; have := eqf c5; subst this
    exact dx_isi (by simp) he hg (O.blt _ (by decide +kernel)) hg2 (O.blt _ (by decide +kernel)) (by decide +kernel) (by decide +kernel) (by decide +kernel) (star_of hs)
  rw [if_neg c5] at h
  by_cases c6 : (t == "dict") = true
  · rw [if_pos c6] at h; cases h; have := eqf c6; subst this
    exact dx_isi (by simp) he hg (O.blt _ (by decide +kernel)) hg2 (O.blt _ (by decide +kernel)) (by decide +kernel) (by decide +kernel) (by decide +kernel) (star_of hs)
  rw [if_neg c6] at h
  cases h
theorem mtd_ok (R : RcOk r) (O : XOk X G) {T id : String} {name : Str} {f : D → List D → Mh → PQ → Prop} {o : Expr} {args : List Expr} {wo : DT} {wa : DA} {apos cpos : Pos} (pa : PlainAttrs T) (sl : Slot T name id) (hty : typeOf (.builtin id) = pure (.type "method_descriptor"))
    (hm : MtR X id (upM X.K f)) (ho : Dx X o wo) (ha : dAs r G args = some wa) (hline : (apos.endLine == cpos.line) = true) (hb : superB o = false) (hs : args.all (fun e => !starB e) = true) (hl : args.length < 30) : Dx X (.Call (.Attribute o name apos) args [] cpos) (eMt T f wo wa) := by
  cases args with
  | nil => cases ha; exact dx_mt0 pa sl hty hm ho (base_of hb) hline
  | cons e es =>
    have hs' := hs
    rw [List.all_cons, Bool.and_eq_true] at hs'
    refine dx_mt pa sl hty hm ho (as_ok R O ha) (base_of hb) ?_ hline (star_of (by simpa using hs'.1)) (stars_of hs'.2)
    rw [stars_all hs]
    show (true && true && decide ((e :: es).length + 0 + 0 < 30)) = true
    rw [decide_eq_true (by omega)]; rfl
theorem mtR_ok (R : RcOk r) (O : XOk X G) {T : String} {name : Str} {f : D → List D → Mh → PQ → Prop} {o : Expr} {args : List Expr} {wo : DT} {wa : DA} {apos cpos : Pos} (h : mtR name = some (T, f)) (ho : Dx X o wo) (ha : dAs r G args = some wa)
    (hline : (apos.endLine == cpos.line) = true) (hb : superB o = false) (hs : args.all (fun e => !starB e) = true) (hl : args.length < 30) : Dx X (.Call (.Attribute o name apos) args [] cpos) (eMt T f wo wa) := by
  unfold mtR at h
  have eqf : ∀ {z : Str}, (name == z) = true → name = z := fun h => eq_of_beq h
  by_cases c1 : (name == "append") = true
  · rw [if_pos c1] at h; cases h; have := eqf c1; subst this
    exact mtd_ok R O PySem.F.plainAttrs_list PySem.F.slot_list_append PySem.F.type_list_append md_append ho ha hline hb hs hl
  rw [if_neg c1] at h
  by_cases c2 : (name == "extend") = true
  · rw [if_pos c2] at h; cases h; have := eqf c2; subst this
    exact mtd_ok R O PySem.F.plainAttrs_list PySem.F.slot_list_extend PySem.F.type_list_extend md_extend ho ha hline hb hs hl
  rw [if_neg c2] at h
  by_cases c3 : (name == "pop") = true
  · rw [if_pos c3] at h; cases h; have := eqf c3; subst this
    exact mtd_ok R O PySem.F.plainAttrs_list PySem.F.slot_list_pop PySem.F.type_list_pop md_pop ho ha hline hb hs hl
  rw [if_neg c3] at h
  by_cases c4 : (name == "join") = true
  · rw [if_pos c4] at h; cases h; have := eqf c4; subst this
    exact mtd_ok R O PySem.F.plainAttrs_str PySem.F.slot_str_join PySem.F.type_str_join md_join ho ha hline hb hs hl
  rw [if_neg c4] at h
  cases h
theorem e1_ok (R : RcOk r) (O : XOk X G) {e : Expr} {w : DT} (h : dE1 r G e = some w) : Dx X e w := by
  unfold dE1 at h
  split at h
  · -- a name
    rename_i x p
    by_cases c : okName x = true
    · rw [if_pos c] at h
      unfold okName at c
      simp only [Bool.and_eq_true, Bool.not_eq_true'] at c
      by_cases v : visB G.sc x = true
      · rw [if_pos v] at h
        obtain ⟨i, h1, rfl⟩ := Option.map_eq_some_iff.mp h
        exact dx_var (by rw [O.hN]; exact ixOf_get h1) (by rw [O.sc]; exact vis_of v) c.1 c.2
      · rw [if_neg v] at h
        by_cases g : glB G.sc x = true
        · rw [if_pos g] at h
          obtain ⟨d, h1, rfl⟩ := Option.map_eq_some_iff.mp h
          obtain ⟨u, vv, h2, h3, h4⟩ := O.glb x d h1
          exact dx_c (pe_glob (gl_of O g) h2 h3 c.1) h4
        · rw [if_neg g] at h; cases h
    · rw [if_neg c] at h; cases h
  · split at h <;> cases h
    · exact dx_c pe_int fun H => .int _
    · exact dx_c pe_bl fun H => .bl _
    · exact dx_c pe_non fun H => .non
    · exact dx_c pe_str fun H => .str _
  · split at h
    · cases h
      rename_i h1 h2 h3
      exact dx_bin (bin_ok O h1) (R.e X G _ _ O h2) (R.e X G _ _ O h3)
    · cases h
  · split at h
    · obtain ⟨u, h1, rfl⟩ := Option.map_eq_some_iff.mp h
      exact dx_un ud_neg (R.e X G _ _ O h1)
    · obtain ⟨u, h1, rfl⟩ := Option.map_eq_some_iff.mp h
      exact dx_not (R.e X G _ _ O h1)
    · cases h
  · split at h
    · cases h
    · rename_i hs
      split at h
      · cases h
        rename_i h1 h2 h3
        exact dx_cmp (cmp_ok O h1) (R.e X G _ _ O h2) (R.e X G _ _ O h3) (marks_of (by simpa using hs))
      · cases h
  · exact pe_one (R.e X G _ _ O h)
  · rename_i op _ _ _ _
    split at h
    · cases h
      rename_i h1 h2
      cases op with
      | And => exact dx_and (R.e X G _ _ O h1) (R.e X G _ _ O h2)
      | Or => exact dx_or (R.e X G _ _ O h1) (R.e X G _ _ O h2)
    · cases h
  · split at h
    · cases h
      rename_i h1 h2 h3
      exact dx_if (R.b X G _ _ O h1) (R.e X G _ _ O h2) (R.e X G _ _ O h3)
    · cases h
  · obtain ⟨u, h1, rfl⟩ := Option.map_eq_some_iff.mp h
    exact dx_tup (as_ok R O h1)
  · obtain ⟨u, h1, rfl⟩ := Option.map_eq_some_iff.mp h
    exact dx_lst (as_ok R O h1)
  · split at h
    · cases h
      rename_i h1 h2 h3
      exact dx_sl (R.e X G _ _ O h1) (opt_ok R O h2) (opt_ok R O h3)
    · cases h
  · split at h
    · cases h
    · rename_i hs
      split at h
      · cases h
        rename_i h1 h2
        exact dx_ix (R.e X G _ _ O h1) (R.e X G _ _ O h2) (plain_of (by simpa using hs))
      · cases h
  · -- a call of a name
    rename_i f p args pos
    by_cases g : glB G.sc f = true
    · rw [if_pos g] at h
      have hg := gl_of O g
      split at h
      · rename_i n sp hf
        split at h
        · rename_i hs
          obtain ⟨u, h1, rfl⟩ := Option.map_eq_some_iff.mp h
          have c := O.fns _ _ _ hf
          cases args with
          | nil => cases h1; exact dx_fn0 c hg
          | cons e es =>
            rw [List.all_cons, Bool.and_eq_true] at hs
            exact dx_fn c hg (as_ok R O h1) (star_of (by simpa using hs.1)) (stars_of hs.2)
        · cases h
      · by_cases ci : (f == "isinstance") = true
        · rw [if_pos ci] at h
          have := eq_of_beq ci
          subst this
          split at h
          · split at h
            · cases h
            · rename_i hs
              simp only [Bool.or_eq_true, not_or, Bool.not_eq_true, Bool.not_eq_true', Bool.not_eq_false] at hs
              split at h
              · cases h
                rename_i h1 h2
                exact tyR_ok O h1 (R.e X G _ _ O h2) hg (gl_of O (by simpa using hs.2)) hs.1
              · cases h
          · cases h
        · rw [if_neg ci] at h
          split at h
          · rename_i h0
            split at h
            · rename_i hs
              obtain ⟨u, h1, rfl⟩ := Option.map_eq_some_iff.mp h
              rw [List.all_cons, Bool.and_eq_true] at hs
              exact fnR_ok O h0 hg (as_ok R O h1) (star_of (by simpa using hs.1)) (stars_of hs.2)
            · cases h
          · cases h
    · rw [if_neg g] at h; cases h
  · -- a method
    split at h
    · rename_i hc
      simp only [Bool.and_eq_true, Bool.not_eq_true', decide_eq_true_eq] at hc
      obtain ⟨⟨⟨c1, c2⟩, c3⟩, c4⟩ := hc
      split at h
      · cases h
        rename_i h1 h2 h3
        exact mtR_ok R O h1 (R.e X G _ _ O h2) h3 c1 c2 c3 c4
      · cases h
    · cases h
  · obtain ⟨wi, t, tt, te, rfl, h1, h2, h3, h4, h5⟩ := lcp_ok R O h
    exact dx_lc O.calm O.nd h1 h2 h3 h4 (folded_of h5)
  · cases h
theorem w1_ok (R : RcOk r) (O : XOk X G) {op : BoolOp} {es : List Expr} {pos : Pos} {w : DB} (h : dB1 r G (.BoolOp op es pos) = some w) : Dw X (.BoolOp op es pos) w := by
  match es with
  | [] => cases h
  | [a] =>
    have := R.b X G _ _ O h
    cases op with
    | And => exact pw_and1 this
    | Or => exact pw_or1 this
  | a :: b :: rest =>
    have h : (match r.b G a, r.b G (.BoolOp op (b :: rest) pos) with | some x, some y => some (andB op x y) | _, _ => none) = some w := h
    split at h
    · cases h
      rename_i h1 h2
      cases op with
      | And => exact dw_and (R.b X G _ _ O h1) (R.w X G _ _ _ _ O h2)
      | Or => exact dw_or (R.b X G _ _ O h1) (R.w X G _ _ _ _ O h2)
    · cases h
theorem b1_ok (R : RcOk r) (O : XOk X G) {e : Expr} {w : DB} (h : dB1 r G e = some w) : Dt X e w := by
  unfold dB1 at h
  split at h
  · obtain ⟨u, h1, rfl⟩ := Option.map_eq_some_iff.mp h
    exact dt_not (R.b X G _ _ O h1)
  · split at h
    · cases h
    · rename_i hs
      split at h
      · cases h
        rename_i h1 h2 h3
        exact dt_cmp (cmp_ok O h1) (R.e X G _ _ O h2) (R.e X G _ _ O h3) (marks_of (by simpa using hs))
      · cases h
  · exact (w1_ok (op := _) (es := [_]) R O h).pt
  · exact (w1_ok (es := _ :: _ :: _) R O h).pt
  · split at h
    · rename_i ht
      obtain ⟨u, h1, rfl⟩ := Option.map_eq_some_iff.mp h
      exact dt_tru (R.e X G _ _ O h1) (tru_plain ht)
    · cases h
theorem dR_ok : ∀ n, RcOk (dR n)
  | 0 => ⟨fun _ _ _ _ _ h => (nomatch h), fun _ _ _ _ _ h => (nomatch h), fun _ _ _ _ _ _ _ h => (nomatch h)⟩
  | n + 1 => ⟨fun _ _ _ _ O h => e1_ok (dR_ok n) O h, fun _ _ _ _ O h => b1_ok (dR_ok n) O h, fun _ _ _ _ _ _ O h => w1_ok (dR_ok n) O h⟩
end
end DL
/-! DLg: statements from the syntax; a def by its body. -/
namespace DL
open PySem PySem.Spec L2
open PyProof.Rows hiding St

def lcSw (sc : Scope) (x : Str) (l1 l2 : Nat) (scope : Scope) : Bool := (match sc.names.lookup x with | some .local => true | _ => false) && (match sc.kind with | .function => true | _ => false) && (l1 == l2) && !(scope.names.any fun (n, k) => n == x && (k == .local || k == .cell))
theorem swapsSole_of {t e : Expr} {l : Nat} {env : Env} (h : compB e = false) : swapsWithSole [t] e l env = pure false := swaps_of h
def isTupB : Expr → Bool
  | .Tuple .. => true
  | _ => false
section
variable (r : Rc)
def dGs (G : Gm) : List Expr → Option DGs
  | [] => some gsN
  | .Name x _ :: es => if G.st x then match ixOf G.N x, dGs G es with
    | some i, some g => some (gsC (gN i) g)
    | _, _ => none else none
  | _ => none
def dG (G : Gm) : Expr → Option DG
  | .Name x _ => if G.st x then (ixOf G.N x).map gN else none
  | .Tuple es _ _ => (dGs G es).map (gT es.length)
  | .Subscript o i _ => if sliceB i then none else match r.e G o, r.e G i with
    | some x, some y => some (gS x y)
    | _, _ => none
  | _ => none
/-- a statement, its blocks given from outside -/
def dS1 (bl : Gm → List Stmt → Option DS) (G : Gm) : Stmt → Option DS
  | .Assign [.Name x p'] e pos => if G.st x then (match e with
      | .ListComp elt [⟨tg, it, ifs, 0⟩] scope pos2 => if lcSw G.sc x p'.line pos2.line scope then
          (match ixOf G.N x, dLc r G elt tg it ifs scope with
          | some i, some w => some (sAsg w (gN i))
          | _, _ => none) else none
      | e => if compB e then none else match ixOf G.N x, r.e G e with
        | some i, some w => some (sAsg w (gN i))
        | _, _ => none) else none
  | .Assign [.Tuple ts kt pt] e pos => if isTupB e || compB e then none else match dG r G (.Tuple ts kt pt), r.e G e with
    | some g, some w => some (sAsg w g)
    | _, _ => none
  | .Assign [.Subscript o i p] e pos => if compB e then none else match dG r G (.Subscript o i p), r.e G e with
    | some g, some w => some (sAsg w g)
    | _, _ => none
  | .AugAssign (.Name x _) op e _ => if G.st x then (match ixOf G.N x, augR op, r.e G e with
    | some i, some f, some w => some (sAug i f w)
    | _, _, _ => none) else none
  | .Expr e _ => if compB e then none else (r.e G e).map sExp
  | .Return (some e) _ => (r.e G e).map sRet
  | .Return none _ => some sRetN
  | .If c p q _ => match r.b G c, bl G p, bl G q with
    | some w, some a, some b => some (sIf w a b)
    | _, _, _ => none
  | .While c p [] _ => match r.b G c, bl G p with
    | some w, some a => some (sWh w a)
    | _, _ => none
  | .For tg it p [] _ => if setB it then none else match dIt r G it, dG r G tg, bl G p with
    | some w, some g, some a => some (sFor w g a)
    | _, _, _ => none
  | .Pass _ => some sNil
  | .Break _ => some sBrk
  | .Continue _ => some sCnt
  | _ => none
def dSs1 (bl : Gm → List Stmt → Option DS) (G : Gm) : List Stmt → Option DS
  | [] => some sNil
  | s :: ss => match dS1 r bl G s, dSs1 bl G ss with
    | some a, some b => some (sSeq a b)
    | _, _ => none
def dB : Nat → Gm → List Stmt → Option DS
  | 0 => fun _ _ => none
  | n + 1 => dSs1 r (dB n)
end

section
variable {X : Cx} {G : Gm} {r : Rc}
theorem gs_ok (O : XOk X G) : ∀ {es : List Expr} {g : DGs}, dGs G es = some g → Dgs X es g ∧ (assignEach es X.env).length = es.length ∧ (assignEach es X.env).findIdx? (·.1) = none
  | [], _, h => by cases h; exact ⟨dgs_nil, rfl, rfl⟩
  | e :: es, g, h => by
    cases e with
    | Name x p =>
      unfold dGs at h
      split at h
      · rename_i hx
        split at h
        · cases h
          rename_i h1 h2
          obtain ⟨g1, g2, g3⟩ := gs_ok O h2
          obtain ⟨hl, hf⟩ := O.st x hx
          refine ⟨dgs_cons (dg_nm O.nd (by rw [O.hN]; exact ixOf_get h1) hl hf) g1 (by rfl), by show (assignEach es X.env).length + 1 = _; rw [g2]; rfl, ?_⟩
          show ((false, _) :: assignEach es X.env).findIdx? (·.1) = none
          rw [List.findIdx?_cons, g3]; rfl
        · cases h
      · cases h
    | _ => cases h
theorem g_ok (R : RcOk r) (O : XOk X G) {tg : Expr} {g : DG} (h : dG r G tg = some g) : Dg X tg g := by
  unfold dG at h
  split at h
  · split at h
    · rename_i hx
      obtain ⟨i, h1, rfl⟩ := Option.map_eq_some_iff.mp h
      obtain ⟨hl, hf⟩ := O.st _ hx
      exact dg_nm O.nd (by rw [O.hN]; exact ixOf_get h1) hl hf
    · cases h
  · obtain ⟨u, h1, rfl⟩ := Option.map_eq_some_iff.mp h
    obtain ⟨g1, g2, g3⟩ := gs_ok O h1
    exact dg_tup O.calm g1 g2 g3
  · rename_i o i p
    split at h
    · cases h
    · rename_i hs
      split at h
      · cases h
        rename_i h1 h2
        refine dg_sub (R.e X G _ _ O h1) (R.e X G _ _ O h2) fun v => ?_
        cases i <;> first | rfl | (exact (hs rfl).elim)
      · cases h
  · cases h
theorem swapS_of {t e : Expr} {env : Env} (h : isTupB t = false ∨ isTupB e = false) (hl : ∀ es p, t ≠ .List es p) : swappedStores [t] e env = pure none := by
  rcases h with h | h
  · cases t <;> first | rfl | (cases h; done) | (exact absurd rfl (hl _ _))
  · cases t <;> first | rfl | (exact absurd rfl (hl _ _)) | skip
    cases e <;> first | rfl | cases h
theorem s1_ok (R : RcOk r) {bl : Gm → List Stmt → Option DS} (B : ∀ (b : List Stmt) (w : DS), bl G b = some w → Dss X b w) (O : XOk X G) {s : Stmt} {w : DS} (h : dS1 r bl G s = some w) : Ds X s w := by
  unfold dS1 at h
  split at h
  · -- name = e
    rename_i x p' e pos
    by_cases hx : G.st x = true
    · rw [if_pos hx] at h
      obtain ⟨hl, hf⟩ := O.st _ hx
      split at h
      · rename_i elt tg it ifs scope pos2
        split at h
        · rename_i hc
          unfold lcSw at hc
          simp only [Bool.and_eq_true] at hc
          obtain ⟨⟨⟨c1, c0⟩, c2⟩, c3⟩ := hc
          split at h
          · cases h
            rename_i h1 h2
            obtain ⟨wi, t, tt, te, rfl, l1, l2, l3, l4, l5⟩ := lcp_ok R O h2
            have hloc : X.env.scope.names.lookup x = some .local := by
              rw [O.sc]
              split at c1
              · assumption
              · cases c1
            have hk : X.env.scope.kind = .function := by
              rw [O.sc]
              split at c0
              · assumption
              · cases c0
            exact ds_lc O.calm O.nd (by rw [O.hN]; exact ixOf_get h1) hloc (sw_true hk hloc c2 (by simpa using c3)) l1 l2 l3 l4 (folded_of l5)
          · cases h
        · cases h
      · split at h
        · cases h
        · rename_i hs
          split at h
          · cases h
            rename_i h1 h2
            exact ds_set O.nd (by rw [O.hN]; exact ixOf_get h1) hl (R.e X G _ _ O h2) (swaps_of (by simpa using hs)) hf
          · cases h
    · rw [if_neg hx] at h; cases h
  · split at h
    · cases h
    · rename_i hs
      simp only [Bool.or_eq_true, not_or, Bool.not_eq_true] at hs
      split at h
      · cases h
        rename_i h1 h2
        exact ds_asg (R.e X G _ _ O h2) (g_ok R O h1) (swapsSole_of hs.2) (swapS_of (.inr hs.1) fun _ _ z => nomatch z) (by rfl)
      · cases h
  · split at h
    · cases h
    · rename_i hs
      split at h
      · cases h
        rename_i h1 h2
        exact ds_asg (R.e X G _ _ O h2) (g_ok R O h1) (swapsSole_of (by simpa using hs)) (swapS_of (.inl rfl) fun _ _ z => nomatch z) (by rfl)
      · cases h
  · split at h
    · rename_i hx
      obtain ⟨hl, hf⟩ := O.st _ hx
      split at h
      · cases h
        rename_i h1 h2 h3
        exact ds_aug O.nd (by rw [O.hN]; exact ixOf_get h1) hl (R.e X G _ _ O h3) (aug_ok h2) hf
      · cases h
    · cases h
  · split at h
    · cases h
    · rename_i hs
      obtain ⟨u, h1, rfl⟩ := Option.map_eq_some_iff.mp h
      exact ds_exp (R.e X G _ _ O h1) (swaps_of (by simpa using hs))
  · obtain ⟨u, h1, rfl⟩ := Option.map_eq_some_iff.mp h
    exact ds_ret (R.e X G _ _ O h1)
  · cases h; exact ds_retN
  · split at h
    · cases h
      rename_i h1 h2 h3
      exact ds_if (R.b X G _ _ O h1) (B _ _ h2) (B _ _ h3)
    · cases h
  · split at h
    · cases h
      rename_i h1 h2
      exact ds_wh O.pass (R.b X G _ _ O h1) (B _ _ h2)
    · cases h
  · split at h
    · cases h
    · rename_i hs
      split at h
      · cases h
        rename_i h1 h2 h3
        exact ds_for O.pass O.calm (it_ok R O h1) (g_ok R O h2) (B _ _ h3) (folded_of (by simpa using hs))
      · cases h
  · cases h; exact ds_pass
  · cases h; exact ds_brk
  · cases h; exact ds_cnt
  · cases h
theorem ss1_ok (R : RcOk r) {bl : Gm → List Stmt → Option DS} (B : ∀ (b : List Stmt) (w : DS), bl G b = some w → Dss X b w) (O : XOk X G) : ∀ {ss : List Stmt} {w : DS}, dSs1 r bl G ss = some w → Dss X ss w
  | [], _, h => by cases h; exact dss_nil
  | s :: ss, w, h => by
    unfold dSs1 at h
    split at h
    · cases h
      rename_i h1 h2
      exact dss_cons (s1_ok R B O h1) (ss1_ok R B O h2)
    · cases h
theorem b_ok (R : RcOk r) (O : XOk X G) : ∀ (n : Nat) (b : List Stmt) (w : DS), dB r n G b = some w → Dss X b w
  | 0, _, _, h => by cases h
  | n + 1, b, w, h => ss1_ok R (b_ok R O n) O h
end

/-! ### a def -/
def stOf (sc : Scope) (x : Str) : Bool := match sc.names.lookup x with
  | some .local => true
  | some .cell => true
  | _ => false
/-- the context of a def's body -/
def gmOf (N : List Str) (sc : Scope) (fns : List (Str × Nat × DSp)) (glb : List (Str × D)) : Gm := ⟨N, sc, stOf sc, fns, glb⟩
section
variable {P : Program} {w : World} {K : PySem.W.Frag} {mg : Str → Option Value} {base : Heap}
/-- a def of the module, known by its promise -/
structure Dfn (P : Program) (w : World) (K : PySem.W.Frag) (mg : Str → Option Value) (base : Heap) (k : Nat) (x : Str) (n : Nat) (sp : DSp) : Prop where
  dbg : (x == ("__debug__" : Str)) = false
  ok : ∃ f fd ps, FnOk P w K mg base CX0 k f fd ps (upF K n sp) ∧ mg x = some (.ref f) ∧ PySem.W.keepIn K (.ref f) = true ∧ Binds K fd ps [] ∧ ps.length = n
theorem Dfn.mono {j k : Nat} {x : Str} {n : Nat} {sp : DSp} (d : Dfn P w K mg base j x n sp) (h : j ≤ k) : Dfn P w K mg base k x n sp :=
  ⟨d.dbg, let ⟨f, fd, ps, F, r⟩ := d.ok; ⟨f, fd, ps, F.mono h, r⟩⟩
/-- a weaker promise -/
theorem Dfn.imp {k : Nat} {x : Str} {n : Nat} {sp sp' : DSp} (d : Dfn P w K mg base k x n sp) (h : ∀ ds M P, sp' ds M P → sp ds M P) : Dfn P w K mg base k x n sp' :=
  ⟨d.dbg, let ⟨f, fd, ps, F, r⟩ := d.ok; ⟨f, fd, ps, F.imp fun vs H Q E ⟨q1, xs, M, P, q2, q3, q4, q5⟩ => ⟨q1, xs, M, P, q2, q3, h _ _ _ q4, q5⟩, r⟩⟩
def FnsOk (P : Program) (w : World) (K : PySem.W.Frag) (mg : Str → Option Value) (base : Heap) (k : Nat) (l : List (Str × Nat × DSp)) : Prop := ∀ x n sp, l.lookup x = some (n, sp) → Dfn P w K mg base k x n sp
theorem FnsOk.nil {k : Nat} : FnsOk P w K mg base k [] := fun _ _ _ h => nomatch h
theorem FnsOk.cons {k : Nat} {x : Str} {n : Nat} {sp : DSp} {l : List (Str × Nat × DSp)} (d : Dfn P w K mg base k x n sp) (h : FnsOk P w K mg base k l) : FnsOk P w K mg base k ((x, n, sp) :: l) := fun y m s e => by
  rw [List.lookup_cons] at e
  by_cases c : (y == x) = true
  · rw [c] at e
    cases e
    rw [eq_of_beq c]
    exact d
  · rw [Bool.eq_false_iff.mpr c] at e
    exact h y m s e
def GlbOk (K : PySem.W.Frag) (mg : Str → Option Value) (l : List (Str × D)) : Prop := ∀ x d, l.lookup x = some d → ∃ u v, mg x = some u ∧ RelV v u ∧ ∀ H, DR K H d v
theorem GlbOk.nil : GlbOk K mg [] := fun _ _ h => nomatch h
theorem GlbOk.cons {x : Str} {d : D} {l : List (Str × D)} (c : ∃ u v, mg x = some u ∧ RelV v u ∧ ∀ H, DR K H d v) (h : GlbOk K mg l) : GlbOk K mg ((x, d) :: l) := fun y e q => by
  rw [List.lookup_cons] at q
  by_cases b : (y == x) = true
  · rw [b] at q
    cases q
    rw [eq_of_beq b]
    exact c
  · rw [Bool.eq_false_iff.mpr b] at q
    exact h y e q
def BltOk (mg : Str → Option Value) : Prop := ∀ x ∈ bltNames, mg x = none

theorem start_er {K : PySem.W.Frag} {H : Hp} {N : List Str} {ds : List D} {vs : List V} (r : DRs K H ds vs) : ER K H (startD N.length ds) (L2.start N vs) := by
  unfold startD L2.start
  refine ⟨by simp [r.length], fun i d e => ?_⟩
  by_cases h : i < ds.length
  · rw [List.getElem?_append_left (by simpa using h), List.getElem?_map] at e
    cases q : ds[i]? with
    | none => rw [q] at e; cases e
    | some d' =>
      rw [q] at e
      cases e
      obtain ⟨v, h1, h2⟩ := r.get q
      refine ⟨v, ?_, h2⟩
      rw [List.getElem?_append_left (by rw [List.length_map, ← r.length]; exact h), List.getElem?_map, h1]; rfl
  · rw [List.getElem?_append_right (by simpa using h), List.getElem?_replicate] at e
    split at e <;> cases e
/-- THE RULE for a def: its body's transformer, and that its promise follows -/
theorem fnok_of {x qual : Str} {st : Stmt} {f : Addr} {fd : FuncData} {N ps : List Str} {k m : Nat} {b : DS} {sp : DSp} {fns : List (Str × Nat × DSp)} {glb : List (Str × D)} (F : Fun K x qual st f fd) (S : FnScope N ps (defScope st))
    (hfs : FnsOk P w K mg base k fns) (hgl : GlbOk K mg glb) (hbl : BltOk mg) (hden : dB (dR m) m (gmOf N (defScope st) fns glb) (defBody st) = some b)
    (hsp : ∀ ds M P, sp ds M P → b { nx := fun _ M' => P .non M', rt := P } (startD N.length ds) M) : FnOk P w K mg base CX0 (k + 1) f fd ps (upF K ps.length sp) := by
  refine F.ok S (fun vs H Q E h => h.1) (fun cdv A outer s H vs Q E hr h => ?_)
  obtain ⟨hl, ds, M, PP, dr, h1, w1, k1⟩ := h
  have O : XOk (cxOf CX0 P w K mg base N qual (defScope st) f cdv A outer s H E).nox (gmOf N (defScope st) fns glb) := {
    nd := S.nd
    hN := rfl
    sc := rfl
    calm := rfl
    hu := by
      have := hr.un
      show (A.deeper _).units + 65 < cLine
      omega
    pass := PassesOwn.never
    fns := fun y n sp' e => ⟨(hfs y n sp' e).dbg, let ⟨f', fd', ps', F', a, b, c, d⟩ := (hfs y n sp' e).ok; ⟨f', fd', k, ps', F', hr, a, b, c, d⟩⟩
    glb := hgl
    blt := hbl
    st := fun y e => by
      have e : stOf (defScope st) y = true := e
      unfold stOf at e
      split at e
      · exact ⟨.inl (by assumption), .inl rfl⟩
      · exact ⟨.inr (by assumption), .inl rfl⟩
      · cases e }
  refine ⟨_, b_ok (dR_ok m) O m _ _ hden, startD N.length ds, M, _, start_er dr, h1, hsp ds M PP w1, ⟨fun ρ M' σ' H' p e er hr' => k1 _ _ _ _ p e .non hr', fun d M' v H' p e dv hr' => k1 _ _ _ _ p e dv hr', fun _ _ _ _ p => p.elim, fun _ _ _ _ p => p.elim⟩⟩
theorem dfn_of {x qual : Str} {st : Stmt} {f : Addr} {fd : FuncData} {N ps : List Str} {k m : Nat} {b : DS} {sp : DSp} {fns : List (Str × Nat × DSp)} {glb : List (Str × D)} (F : Fun K x qual st f fd) (S : FnScope N ps (defScope st)) (hm : mg x = some (.ref f))
    (hd : (x == ("__debug__" : Str)) = false) (hb : Binds K fd ps []) (hfs : FnsOk P w K mg base k fns) (hgl : GlbOk K mg glb) (hbl : BltOk mg) (hden : dB (dR m) m (gmOf N (defScope st) fns glb) (defBody st) = some b)
    (hsp : ∀ ds M P, sp ds M P → b { nx := fun _ M' => P .non M', rt := P } (startD N.length ds) M) : Dfn P w K mg base (k + 1) x ps.length sp :=
  ⟨hd, f, fd, ps, fnok_of F S hfs hgl hbl hden hsp, hm, F.kp, hb, rfl⟩

/-! ### what the top has left -/
/-- a def of the module, as it stands behind the top -/
structure DefAt (K : PySem.W.Frag) (x : Str) (st : Stmt) : Prop where
  ex : ∃ (f : Addr) (oc : Value) (od : Option Addr) (osl : Array (Option Value)) (kV doc pm : Value) (an : Option Addr) (cdv ct : Value), PySem.W.nsIn K mainGlobals x = some (some (.ref f)) ∧
    K.lookup f = some ⟨oc, od, .func (PySem.W.fnOf x x (defArgs st) (defBody st) (defScope st) .none kV doc pm an cdv ct), osl⟩ ∧ PySem.W.codeIn K cdv x = true ∧ PySem.W.keepIn K (.ref f) = true
theorem defAt {x : Str} {st : Stmt} {f : Addr} {oc : Value} {od : Option Addr} {osl : Array (Option Value)} {kV doc pm : Value} {an : Option Addr} {cdv ct : Value} (a : PySem.W.nsIn K mainGlobals x = some (some (.ref f)))
    (l : K.lookup f = some ⟨oc, od, .func (PySem.W.fnOf x x (defArgs st) (defBody st) (defScope st) .none kV doc pm an cdv ct), osl⟩) (c : PySem.W.codeIn K cdv x = true) (k : PySem.W.keepIn K (.ref f) = true) : DefAt K x st :=
  ⟨⟨f, oc, od, osl, kV, doc, pm, an, cdv, ct, a, l, c, k⟩⟩
/-- how a def binds: by its own text -/
def BindsBy (x : Str) (st : Stmt) (ps : List Str) : Prop := ∀ (kV doc pm : Value) (an : Option Addr) (cdv ct : Value) (us : List Value), us.length = ps.length →
  bindArgs (PySem.W.fnOf x x (defArgs st) (defBody st) (defScope st) .none kV doc pm an cdv ct) ⟨us, []⟩ = pure (ps.zip us)
theorem DefAt.get {x : Str} {st : Stmt} {h : Heap} {ps : List Str} (D : DefAt K x st) (X : K.In h) (G : h.Ns mainGlobals mg) (B : BindsBy x st ps) : ∃ f fd, Fun K x x st f fd ∧ mg x = some (.ref f) ∧ Binds K fd ps [] ∧ ∀ (s : Shared) (us : List Value), us.length = ps.length → BindsTo s fd ⟨us, []⟩ (ps.zip us) := by
  obtain ⟨f, oc, od, osl, kV, doc, pm, an, cdv, ct, a, l, c, k⟩ := D.ex
  have F := fun_mk (st := st) l c k
  exact ⟨f, _, F, PySem.W.mg_of X G a, F.binds fun kV doc pm an cdv ct us hl => B kV doc pm an cdv ct us hl, fun s us hl => .of_eq (B _ _ _ _ _ _ us hl)⟩
theorem glb_str {x z : Str} {t : Tok} {h : Heap} (X : K.In h) (G : h.Ns mainGlobals mg) (a : PySem.W.nsIn K mainGlobals x = some (some (.str z t))) : ∃ u v, mg x = some u ∧ RelV v u ∧ ∀ H, DR K H (.str z) v :=
  ⟨_, .str z, PySem.W.mg_of X G a, ⟨t, rfl⟩, fun _ => .str z⟩
theorem glb_int {x : Str} {z : Int} {t : Tok} {h : Heap} (X : K.In h) (G : h.Ns mainGlobals mg) (a : PySem.W.nsIn K mainGlobals x = some (some (.int z t))) : ∃ u v, mg x = some u ∧ RelV v u ∧ ∀ H, DR K H (.int z) v :=
  ⟨_, .int z, PySem.W.mg_of X G a, ⟨t, rfl⟩, fun _ => .int z⟩
/-- a constant's data -/
inductive Lit : D → Value → Prop
  | non : Lit .non .none
  | bl (b : Bool) : Lit (.bl b) (.bool b)
  | int (i : Int) (t : Tok) : Lit (.int i) (.int i t)
  | str (z : Str) (t : Tok) : Lit (.str z) (.str z t)
theorem Lit.rel {d : D} {u : Value} (l : Lit d u) : ∃ v, RelV v u ∧ ∀ (K : PySem.W.Frag) H, DR K H d v := by
  cases l with
  | non => exact ⟨.non, rfl, fun _ _ => .non⟩
  | bl b => exact ⟨.bl b, rfl, fun _ _ => .bl b⟩
  | int i t => exact ⟨.int i, ⟨t, rfl⟩, fun _ _ => .int i⟩
  | str z t => exact ⟨.str z, ⟨t, rfl⟩, fun _ _ => .str z⟩
theorem lits_rel : ∀ {ds : List D} {us : List Value}, Paired Lit ds us → ∃ vs, Vals vs us ∧ ∀ (K : PySem.W.Frag) H, DRs K H ds vs
  | _, _, .nil => ⟨[], .nil, fun _ _ => .nil⟩
  | _, _, .cons l r => let ⟨v, h1, h2⟩ := l.rel; let ⟨vs, h3, h4⟩ := lits_rel r; ⟨v :: vs, .cons h1 h3, fun K H => .cons (h2 K H) (h4 K H)⟩
theorem glb_tup {x : Str} {ds : List D} {a : Addr} {od : Option Addr} {its : Array Value} {n : Nat} {sl : Array (Option Value)} {h : Heap} (X : K.In h) (G : h.Ns mainGlobals mg) (e : PySem.W.nsIn K mainGlobals x = some (some (.ref a)))
    (l : K.lookup a = some ⟨.type "tuple", od, .seq its n, sl⟩) (hz : its.size ≤ sizeLine) (p : Paired Lit ds its.toList) : ∃ u v, mg x = some u ∧ RelV v u ∧ ∀ H, DR K H (.tup ds) v := by
  obtain ⟨vs, h1, h2⟩ := lits_rel p
  exact ⟨_, .ref a, PySem.W.mg_of X G e, rfl, fun H => .tup (.inr ⟨_, its, n, l, rfl, rfl, hz, h1⟩) (h2 K H)⟩
/-- the built-in names are free -/
theorem blt_of {h : Heap} (X : K.In h) (G : h.Ns mainGlobals mg) (z : ∀ x ∈ bltNames, PySem.W.nsIn K mainGlobals x = some none) : BltOk mg := fun x hx => PySem.W.mg_none_of X G (z x hx)
end
theorem ints_dr {K : PySem.W.Frag} {H : Hp} : ∀ ns : List Int, DRs K H (ns.map D.int) (ns.map V.int)
  | [] => .nil
  | n :: r => .cons (.int n) (ints_dr r)
/-- the law's promise: it gives True for every list of ints -/
def lawSp : DSp := fun ds M P => ∃ ns : List Int, ds = [.rol (ns.map D.int)] ∧ ns.length ≤ 63 ∧ ∀ M', P (.bl true) M'
theorem law_entry {K : PySem.W.Frag} {H : Hp} {a : Addr} {ns : List Int} (hl : ns.length ≤ 63) (hO : Only H) (hS : SqL K H a (ns.map V.int)) (E : XK) : upF K 1 lawSp [.ref a] H (fun v _ => v = .bl true) E := by
  refine ⟨rfl, [.rol (ns.map D.int)], fun _ => none, fun d _ => d = .bl true, .cons (.rol ?_ (ints_dr ns)) .nil, (fun _ _ e => (nomatch e)), ⟨ns, rfl, hl, fun _ => rfl⟩, fun d M' v H' e _ dv _ => ?_⟩
  · rcases hS with (h | ⟨o, h⟩) | h
    · rcases hO a with z | ⟨o, xs, z⟩
      · rw [h] at z; cases z
      · rw [h] at z; cases z
    · exact .inl ⟨o, h⟩
    · exact .inr h
  · subst e
    cases dv
    rfl
end DL
/-! DLp: steps through the transformers of a body, one rule a construct. -/
namespace DL
open PySem L2

section
variable {P : De} {ρ : Ev} {M : Mh} {Q : PQ} {a b e : DT} {wc wd : DB} {p q : DS} {wa : DA}
theorem t_nil (h : P.nx ρ M) : sNil P ρ M := h
theorem t_seq (h : p { P with nx := fun ρ1 M1 => q P ρ1 M1 } ρ M) : sSeq p q P ρ M := h
/-- a block in two parts, with what holds between them -/
theorem t_cut (R : Ev → Mh → Prop) (h : ∀ N : Ev → Mh → Prop, (∀ ρ' M', R ρ' M' → N ρ' M') → p { P with nx := N } ρ M) (h2 : ∀ ρ' M', R ρ' M' → q P ρ' M') : sSeq p q P ρ M := h _ h2
theorem t_if (h : wc ρ M fun k M1 => if k = true then p P ρ M1 else q P ρ M1) : sIf wc p q P ρ M := h
theorem t_asg {g : DG} (h : e ρ M fun d M1 => g d ρ M1 P.nx) : sAsg e g P ρ M := h
theorem t_exp (h : e ρ M fun _ M1 => P.nx ρ M1) : sExp e P ρ M := h
theorem t_ret (h : e ρ M P.rt) : sRet e P ρ M := h
theorem t_retN (h : P.rt .non M) : sRetN P ρ M := h
theorem t_brk (h : P.bk ρ M) : sBrk P ρ M := h
theorem t_cnt (h : P.ct ρ M) : sCnt P ρ M := h
theorem t_aug {i : Nat} {r : D → D → Mh → PQ → Prop} {x : D} (s : slot ρ i = some x) (h : e ρ M fun y M1 => r x y M1 fun z M2 => P.nx (ρ.set i (some z)) M2) : sAug i r e P ρ M := by
  unfold sAug; rw [s]; exact h
theorem t_for {it : DI} {g : DG} (h : it ρ M fun items chk M1 => forD g p chk P items ρ M1) : sFor it g p P ρ M := h
theorem t_gN {i : Nat} {d : D} {R : Ev → Mh → Prop} (h : R (ρ.set i (some d)) M) : gN i d ρ M R := h
theorem t_gT {n : Nat} {g : DGs} {ds : List D} {R : Ev → Mh → Prop} (l : ds.length = n) (h : g ds ρ M R) : gT n g (.tup ds) ρ M R := ⟨l, h⟩
theorem t_gsC {g : DG} {r : DGs} {d : D} {ds : List D} {R : Ev → Mh → Prop} (h : g d ρ M fun ρ1 M1 => r ds ρ1 M1 R) : gsC g r (d :: ds) ρ M R := h
theorem t_gsN {R : Ev → Mh → Prop} (h : R ρ M) : gsN [] ρ M R := h
theorem t_gS {o i : DT} {d : D} {R : Ev → Mh → Prop} (h : o ρ M fun x M1 => i ρ M1 fun y M2 => setD x y d M2 fun M3 => R ρ M3) : gS o i d ρ M R := h
theorem t_var {i : Nat} {d : D} (s : slot ρ i = some d) (h : Q d M) : eVar i ρ M Q := by
  unfold eVar; rw [s]; exact h
theorem t_c {d : D} (h : Q d M) : eC d ρ M Q := h
theorem t_bin {r : D → D → Mh → PQ → Prop} (h : a ρ M fun x M1 => b ρ M1 fun y M2 => r x y M2 Q) : eBin r a b ρ M Q := h
theorem t_un {r : D → Mh → PQ → Prop} (h : a ρ M fun x M1 => r x M1 Q) : eUn r a ρ M Q := h
theorem t_cmp {r : Cmp} (h : a ρ M fun x M1 => b ρ M1 fun y M2 => r x y M2 fun k => Q (.bl k) M2) : eCmp r a b ρ M Q := h
theorem t_not (h : a ρ M fun x M1 => truD x M1 fun k => Q (.bl (!k)) M1) : eNot a ρ M Q := h
theorem t_and (h : a ρ M fun x M1 => truD x M1 fun k => if k = true then b ρ M1 Q else Q x M1) : eAnd a b ρ M Q := h
theorem t_or (h : a ρ M fun x M1 => truD x M1 fun k => if k = true then Q x M1 else b ρ M1 Q) : eOr a b ρ M Q := h
theorem t_ife (h : wc ρ M fun k M1 => if k = true then a ρ M1 Q else b ρ M1 Q) : eIf wc a b ρ M Q := h
theorem t_tup (h : wa ρ M fun xs M1 => xs.length ≤ sizeLine ∧ Q (.tup xs) M1) : eTup wa ρ M Q := h
theorem t_lst (h : wa ρ M fun xs M1 => xs.length ≤ sizeLine ∧ ∀ p, M1 p = none → Q (.ref p) (mup M1 p (.lst xs))) : eLst wa ρ M Q := h
theorem t_call {sp : List D → Mh → PQ → Prop} (h : wa ρ M fun xs M1 => sp xs M1 Q) : eCall sp wa ρ M Q := h
theorem t_fn {n : Nat} {sp : DSp} (h : wa ρ M fun xs M1 => xs.length = n ∧ sp xs M1 Q) : eFn n sp wa ρ M Q := h
theorem t_mt {T : String} {r : D → List D → Mh → PQ → Prop} (h : a ρ M fun x M1 => tyD T x M1 ∧ wa ρ M1 fun xs M2 => r x xs M2 Q) : eMt T r a wa ρ M Q := h
theorem t_isi {T : String} (h : a ρ M fun x M1 => isiD T x M1 Q) : eIsi T a ρ M Q := h
theorem t_sl {lo hi : Option DT} (h : a ρ M fun x M1 => oPart lo ρ M1 fun l M2 => oPart hi ρ M2 fun u M3 => slD x l u M3 Q) : eSl a lo hi ρ M Q := h
theorem t_o0 {R : Option Int → Mh → Prop} (h : R none M) : oPart none ρ M R := h
theorem t_o1 {R : Option Int → Mh → Prop} {w : DT} (h : w ρ M fun d M1 => match d with | .int i => R (some i) M1 | _ => False) : oPart (some w) ρ M R := h
theorem t_an {R : List D → Mh → Prop} (h : R [] M) : aNil ρ M R := h
theorem t_ac {R : List D → Mh → Prop} (h : a ρ M fun x M1 => wa ρ M1 fun xs M2 => R (x :: xs) M2) : aCons a wa ρ M R := h
theorem t_bcmp {r : Cmp} {R : Bool → Mh → Prop} (h : a ρ M fun x M1 => b ρ M1 fun y M2 => r x y M2 fun k => R k M2) : bCmp r a b ρ M R := h
theorem t_btru {R : Bool → Mh → Prop} (h : a ρ M fun x M1 => truD x M1 fun k => R k M1) : bTru a ρ M R := h
theorem t_bnot {R : Bool → Mh → Prop} (h : wc ρ M fun k M1 => R (!k) M1) : bNot wc ρ M R := h
theorem t_band {R : Bool → Mh → Prop} (h : wc ρ M fun k M1 => if k = true then wd ρ M1 R else R false M1) : bAnd wc wd ρ M R := h
theorem t_bor {R : Bool → Mh → Prop} (h : wc ρ M fun k M1 => if k = true then R true M1 else wd ρ M1 R) : bOr wc wd ρ M R := h
theorem t_byes {R : Bool → Mh → Prop} (h : R true M) : bYes ρ M R := h
theorem t_seqi {R : List D → (Mh → Prop) → Mh → Prop} (h : e ρ M fun x M1 => seqP x M1 R) : iSeq e ρ M R := h
theorem t_lc {it : DI} {t : Tg} {tt : DB} {te : DT} {vs : List Nat} (h : it ρ M fun items chk M1 => ∀ p, M1 p = none → lcLoop p chk t tt te (wipeD ρ vs) Q items (mup M1 p (.lst []))) : eLC it t tt te vs ρ M Q := h
theorem t_rg1 {R : List D → (Mh → Prop) → Mh → Prop} (h : wa ρ M fun xs M1 => match xs with
  | [.int j] => (-(2 ^ 62) ≤ j ∧ j < 2 ^ 62) ∧ R (rngI 0 j.toNat) (fun _ => True) M1
  | _ => False) : iRg1 wa ρ M R := h
theorem t_rg2 {R : List D → (Mh → Prop) → Mh → Prop} (h : wa ρ M fun xs M1 => match xs with
  | [.int i, .int j] => (-(2 ^ 62) ≤ i ∧ i < 2 ^ 62 ∧ -(2 ^ 62) ≤ j ∧ j < 2 ^ 62) ∧ R (rngI i (j - i).toNat) (fun _ => True) M1
  | _ => False) : iRg2 wa ρ M R := h
end

/-! ### values -/
section
variable {M : Mh} {Q : PQ} {R : Bool → Prop}
theorem v_tru_bl {b : Bool} (h : R b) : truD (.bl b) M R := h
theorem v_tru_int {i : Int} (h : R (i != 0)) : truD (.int i) M R := h
theorem v_tru_non (h : R false) : truD .non M R := h
theorem v_tru_ref {p : Addr} {ds : List D} (e : M p = some (.lst ds)) (h : R (!ds.isEmpty)) : truD (.ref p) M R := by
  show (match M p with | some (.lst ds) => R (!ds.isEmpty) | _ => False)
  rw [e]; exact h
theorem v_tru_tup {ds : List D} (h : R (!ds.isEmpty)) : truD (.tup ds) M R := h
theorem v_add_int {i j : Int} (h : Q (.int (i + j)) M) : addD (.int i) (.int j) M Q := h
theorem v_add_str {i j : Str} (l : i.length + j.length ≤ sizeLine) (h : Q (.str (i ++ j)) M) : addD (.str i) (.str j) M Q := ⟨l, h⟩
theorem v_add_tup {i j : List D} (l : i.length + j.length ≤ sizeLine) (h : Q (.tup (i ++ j)) M) : addD (.tup i) (.tup j) M Q := ⟨l, h⟩
theorem v_iadd_int {i j : Int} (h : Q (.int (i + j)) M) : iaddD (.int i) (.int j) M Q := h
theorem v_iadd_str {i j : Str} (l : i.length + j.length ≤ sizeLine) (h : Q (.str (i ++ j)) M) : iaddD (.str i) (.str j) M Q := ⟨l, h⟩
theorem v_sub {i j : Int} (h : Q (.int (i - j)) M) : subD (.int i) (.int j) M Q := h
theorem v_mul {i j : Int} (c : CMul i j) (h : Q (.int (i * j)) M) : mulD (.int i) (.int j) M Q := ⟨c, h⟩
theorem v_div {i j : Int} (c : 0 < j ∧ j < 1073741824) (h : Q (.int (i / j)) M) : divD (.int i) (.int j) M Q := ⟨c, h⟩
theorem v_mod {i j : Int} (c : 0 < j) (h : Q (.int (i % j)) M) : modD (.int i) (.int j) M Q := ⟨c, h⟩
theorem v_pow {i j : Int} (c : CPow i j) (h : Q (.int (i ^ j.toNat)) M) : powD (.int i) (.int j) M Q := ⟨c, h⟩
theorem v_neg {i : Int} (h : Q (.int (-i)) M) : negD (.int i) M Q := h
theorem deq_int {i j : Int} : deq (.int i) (.int j) = (i == j) := by simp [deq, pd, PyData.eqv]
theorem deq_str {i j : Str} : deq (.str i) (.str j) = (i == j) := by simp [deq, pd, PyData.eqv]
theorem deq_bl {i j : Bool} : deq (.bl i) (.bl j) = (i == j) := by simp [deq, pd, PyData.eqv]
theorem v_eq_int {i j : Int} (h : R (i == j)) : eqD (.int i) (.int j) M R := ⟨.inl rfl, by rw [deq_int]; exact h⟩
theorem v_eq_str {i j : Str} (h : R (i == j)) : eqD (.str i) (.str j) M R := ⟨.inl rfl, by rw [deq_str]; exact h⟩
theorem v_eq_bl {i j : Bool} (h : R (i == j)) : eqD (.bl i) (.bl j) M R := ⟨.inl rfl, by rw [deq_bl]; exact h⟩
theorem v_ne_int {i j : Int} (h : R (!(i == j))) : neD (.int i) (.int j) M R := ⟨.inl rfl, by rw [deq_int]; exact h⟩
theorem v_ne_str {i j : Str} (h : R (!(i == j))) : neD (.str i) (.str j) M R := ⟨.inl rfl, by rw [deq_str]; exact h⟩
theorem v_ne_bl {i j : Bool} (h : R (!(i == j))) : neD (.bl i) (.bl j) M R := ⟨.inl rfl, by rw [deq_bl]; exact h⟩
theorem v_lt {i j : Int} (h : R (decide (i < j))) : ltD (.int i) (.int j) M R := h
theorem v_le {i j : Int} (h : R (decide (i ≤ j))) : leD (.int i) (.int j) M R := h
theorem v_gt {i j : Int} (h : R (decide (j < i))) : gtD (.int i) (.int j) M R := h
theorem v_ge {i j : Int} (h : R (decide (j ≤ i))) : geD (.int i) (.int j) M R := h
theorem v_len_str {z : Str} (l : z.length ≤ sizeLine) (h : Q (.int z.length) M) : lenD [.str z] M Q := ⟨l, h⟩
theorem v_len_tup {ds : List D} (h : Q (.int ds.length) M) : lenD [.tup ds] M Q := h
theorem v_len_rol {ds : List D} (h : Q (.int ds.length) M) : lenD [.rol ds] M Q := h
theorem items_ref {p : Addr} {ds : List D} (e : M p = some (.lst ds)) : itemsD (.ref p) M = some ds := by
  show (match M p with | some (.lst ds) => some ds | _ => none) = _
  rw [e]
theorem v_len_ref {p : Addr} {ds : List D} (e : M p = some (.lst ds)) (h : Q (.int ds.length) M) : lenD [.ref p] M Q := by
  show (match itemsD (.ref p) M with | some ds => Q (.int ds.length) M | none => False)
  rw [items_ref e]; exact h
theorem v_int_int {i : Int} (h : Q (.int i) M) : intD [.int i] M Q := h
theorem v_tuple_ref {p : Addr} {ds : List D} (e : M p = some (.lst ds)) (h : Q (.tup ds) M) : tupleD [.ref p] M Q := by
  show (match itemsD (.ref p) M with | some ds => Q (.tup ds) M | none => False)
  rw [items_ref e]; exact h
theorem v_tuple_tup {ds : List D} (h : Q (.tup ds) M) : tupleD [.tup ds] M Q := h
theorem v_list_tup {ds : List D} (h : ∀ p, M p = none → Q (.ref p) (mup M p (.lst ds))) : listD [.tup ds] M Q := h
theorem v_list_ref {p : Addr} {ds : List D} (e : M p = some (.lst ds)) (h : ∀ l, M l = none → Q (.ref l) (mup M l (.lst ds))) : listD [.ref p] M Q := by
  show (match itemsD (.ref p) M with | some ds => ∀ l, M l = none → Q (.ref l) (mup M l (.lst ds)) | none => False)
  rw [items_ref e]; exact h
theorem v_max {i j : Int} (h : Q (.int (if j > i then j else i)) M) : maxD [.int i, .int j] M Q := h
theorem v_min {i j : Int} (h : Q (.int (if j < i then j else i)) M) : minD [.int i, .int j] M Q := h
theorem v_ix_tup {ds : List D} {i : Int} {d : D} (e : atI ds i = some d) (h : Q d M) : ixD (.tup ds) (.int i) M Q := by
  show (match atI ds i with | some d => Q d M | none => False)
  rw [e]; exact h
theorem v_ix_rol {ds : List D} {i : Int} {d : D} (e : atI ds i = some d) (h : Q d M) : ixD (.rol ds) (.int i) M Q := by
  show (match atI ds i with | some d => Q d M | none => False)
  rw [e]; exact h
theorem v_ix_ref {p : Addr} {ds : List D} {i : Int} {d : D} (e : M p = some (.lst ds)) (e2 : atI ds i = some d) (h : Q d M) : ixD (.ref p) (.int i) M Q := by
  show (match itemsD (.ref p) M with | some ds => (match atI ds i with | some d => Q d M | none => False) | none => False)
  rw [items_ref e]
  show (match atI ds i with | some d => Q d M | none => False)
  rw [e2]; exact h
theorem v_ix_str {z : Str} {i : Int} {c : Nat} (l : z.length ≤ sizeLine) (e : atI z.cps.toList i = some c) (h : Q (.str ⟨#[c]⟩) M) : ixD (.str z) (.int i) M Q := by
  refine ⟨l, ?_⟩
  rw [e]; exact h
theorem v_set {p : Addr} {ds : List D} {i : Int} {j : Nat} {d : D} {S : Mh → Prop} (e : M p = some (.lst ds)) (e2 : ixN ds.length i = some j) (h : S (mup M p (.lst (ds.set j d)))) : setD (.ref p) (.int i) d M S := by
  show (match M p with | some (.lst ds) => (match ixN ds.length i with | some j => S (mup M p (.lst (ds.set j d))) | none => False) | none => False)
  rw [e]
  show (match ixN ds.length i with | some j => S (mup M p (.lst (ds.set j d))) | none => False)
  rw [e2]; exact h
theorem v_ty_ref {p : Addr} {ds : List D} (e : M p = some (.lst ds)) : tyD "list" (.ref p) M := by
  show (match M p with | some (.lst _) => "list" = "list" | none => False)
  rw [e]
theorem v_append {p : Addr} {ds : List D} {y : D} (e : M p = some (.lst ds)) (l : ds.length < sizeLine) (h : Q .non (mup M p (.lst (ds ++ [y])))) : appendD (.ref p) [y] M Q := by
  show (match M p with | some (.lst ds) => ds.length < sizeLine ∧ Q .non (mup M p (.lst (ds ++ [y]))) | none => False)
  rw [e]; exact ⟨l, h⟩
theorem v_extend {p b : Addr} {ds es : List D} (e : M p = some (.lst ds)) (e2 : M b = some (.lst es)) (l : ds.length + es.length ≤ sizeLine) (h : Q .non (mup M p (.lst (ds ++ es)))) : extendD (.ref p) [.ref b] M Q := by
  show (match M p, M b with | some (.lst ds), some (.lst es) => ds.length + es.length ≤ sizeLine ∧ Q .non (mup M p (.lst (ds ++ es))) | _, _ => False)
  rw [e, e2]; exact ⟨l, h⟩
theorem v_join {z : Str} {x : D} {ds : List D} {ys : List Str} (e : itemsD x M = some ds) (e2 : strsOf ds = some ys) (l : (ys.map (·.length)).sum + ys.length * z.length ≤ 16777216) (h : Q (.str (Txt.join z ys)) M) : joinD (.str z) [x] M Q := by
  show (match itemsD x M with | some ds => (match strsOf ds with | some ys => (ys.map (·.length)).sum + ys.length * z.length ≤ 16777216 ∧ Q (.str (Txt.join z ys)) M | none => False) | none => False)
  rw [e]
  show (match strsOf ds with | some ys => (ys.map (·.length)).sum + ys.length * z.length ≤ 16777216 ∧ Q (.str (Txt.join z ys)) M | none => False)
  rw [e2]; exact ⟨l, h⟩
theorem v_sl_str {z : Str} {lo hi : Option Int} (l : z.length ≤ sizeLine) (h : Q (.str (cutS z lo hi)) M) : slD (.str z) lo hi M Q := ⟨l, h⟩
theorem v_sl_tup {ds : List D} {lo hi : Option Int} (h : Q (.tup (cutD ds lo hi)) M) : slD (.tup ds) lo hi M Q := h
theorem v_sl_rol {ds : List D} {lo hi : Option Int} (h : ∀ p, M p = none → Q (.ref p) (mup M p (.lst (cutD ds lo hi)))) : slD (.rol ds) lo hi M Q := h
theorem v_sl_ref {p : Addr} {ds : List D} {lo hi : Option Int} (e : M p = some (.lst ds)) (h : ∀ l, M l = none → Q (.ref l) (mup M l (.lst (cutD ds lo hi)))) : slD (.ref p) lo hi M Q := by
  show (match M p with | some (.lst ds) => ∀ l, M l = none → Q (.ref l) (mup M l (.lst (cutD ds lo hi))) | _ => False)
  rw [e]; exact h
theorem v_in_str {i j : Str} (h : R (strIn i j)) : inD (.str i) (.str j) M R := h
theorem v_nin_str {i j : Str} (h : R (!strIn i j)) : ninD (.str i) (.str j) M R := h
theorem strIn_one {c : Nat} {z : Str} : strIn ⟨#[c]⟩ z = decide (c ∈ z.cps.toList) := (PySem.StrLaws.found_one z c)
theorem v_seq_tup {ds : List D} {S : List D → (Mh → Prop) → Mh → Prop} (h : S ds (fun _ => True) M) : seqP (.tup ds) M S := h
theorem v_seq_rol {ds : List D} {S : List D → (Mh → Prop) → Mh → Prop} (h : S ds (fun _ => True) M) : seqP (.rol ds) M S := h
theorem v_seq_str {z : Str} {S : List D → (Mh → Prop) → Mh → Prop} (h : S (z.cps.toList.map fun c => .str ⟨#[c]⟩) (fun _ => True) M) : seqP (.str z) M S := h
theorem v_seq_ref {p : Addr} {ds : List D} {S : List D → (Mh → Prop) → Mh → Prop} (e : M p = some (.lst ds)) (h : S ds (fun M' => M' p = some (.lst ds)) M) : seqP (.ref p) M S := by
  show (match M p with | some (.lst ds) => S ds (fun M' => M' p = some (.lst ds)) M | none => False)
  rw [e]; exact h
theorem t_ite {c : Bool} {A B : Prop} (h1 : c = true → A) (h2 : c = false → B) : if c = true then A else B := by
  cases c
  · rw [if_neg Bool.false_ne_true]; exact h2 rfl
  · rw [if_pos rfl]; exact h1 rfl
theorem t_if0 {c : Bool} {A B : Prop} (e : c = false) (h : B) : if c = true then A else B := by rw [e, if_neg Bool.false_ne_true]; exact h
theorem t_if1 {c : Bool} {A B : Prop} (e : c = true) (h : A) : if c = true then A else B := by rw [e, if_pos rfl]; exact h
theorem v_isi_non {T : String} (h : Q (.bl false) M) : isiD T .non M Q := h
theorem v_isi_bl {T : String} {b : Bool} (h : Q (.bl (T == "bool" || T == "int")) M) : isiD T (.bl b) M Q := h
theorem v_isi_int {T : String} {b : Int} (h : Q (.bl (T == "int")) M) : isiD T (.int b) M Q := h
theorem v_isi_str {T : String} {b : Str} (h : Q (.bl (T == "str")) M) : isiD T (.str b) M Q := h
theorem v_isi_tup {T : String} {b : List D} (h : Q (.bl (T == "tuple")) M) : isiD T (.tup b) M Q := h
theorem v_in_tup {x : D} {ds : List D} (f : flatD x = true ∧ ds.all flatD = true) (h : R (memD x ds)) : inD x (.tup ds) M R := by
  cases x <;> exact ⟨f, h⟩
theorem v_nin_tup {x : D} {ds : List D} (f : flatD x = true ∧ ds.all flatD = true) (h : R (!memD x ds)) : ninD x (.tup ds) M R := by
  cases x <;> exact ⟨f, h⟩
theorem v_ty_str {z : Str} : tyD "str" (.str z) M := rfl
theorem v_eq_tup {xs ys : List D} (f : okD (.tup xs) = true ∧ okD (.tup ys) = true) (h : R (deq (.tup xs) (.tup ys))) : eqD (.tup xs) (.tup ys) M R := ⟨.inr f, h⟩
theorem CMul.r {i j : Int} (h : -(2 ^ 64) < j ∧ j < 2 ^ 64) : CMul i j := .inr h
theorem CMul.l {i j : Int} (h : -(2 ^ 64) < i ∧ i < 2 ^ 64) : CMul i j := .inl h
end

/-! ### heaps -/
theorem mup_mup {M : Mh} {a : Addr} {o o' : MO} : mup (mup M a o) a o' = mup M a o' := by
  funext b; unfold mup; split <;> rfl
theorem ne_free {M : Mh} {a p : Addr} {o : MO} (h : M a = some o) (n : M p = none) : a ≠ p := fun e => by rw [e, n] at h; cases h
/-- elsewhere as it was -/
def MKeep (S : Addr → Prop) (M M' : Mh) : Prop := ∀ a o, ¬ S a → M a = some o → M' a = some o
theorem MKeep.refl {S : Addr → Prop} {M : Mh} : MKeep S M M := fun _ _ _ h => h
theorem MKeep.trans {S : Addr → Prop} {M M1 M2 : Mh} (x : MKeep S M M1) (y : MKeep S M1 M2) : MKeep S M M2 := fun a o n h => y a o n (x a o n h)
theorem MKeep.fresh {S : Addr → Prop} {M : Mh} {p : Addr} {o : MO} (n : M p = none) : MKeep S M (mup M p o) := fun a o _ h => by rw [mup_ne (ne_free h n)]; exact h
theorem MKeep.put {S : Addr → Prop} {M : Mh} {p : Addr} {o : MO} (h : S p) : MKeep S M (mup M p o) := fun a o n q => by rw [mup_ne fun e => n (by rw [e]; exact h)]; exact q
theorem MKeep.mono {S S' : Addr → Prop} {M M1 : Mh} (x : MKeep S M M1) (h : ∀ a, S a → S' a) : MKeep S' M M1 := fun a o n q => x a o (fun z => n (h a z)) q
theorem MKeep.over {S : Addr → Prop} {M M' : Mh} {p : Addr} {o : MO} (x : MKeep S M M') (n : M p = none) : MKeep S M (mup M' p o) := fun a q h e => by rw [mup_ne (ne_free e n)]; exact x a q h e
abbrev MExt (M M' : Mh) : Prop := MKeep (fun _ => False) M M'

/-! ### loops by what holds of them -/
theorem for_each {g : DG} {b : DS} {chk : Mh → Prop} {P : De} {items : List D} {ρ : Ev} {M : Mh} (I : Nat → Ev → Mh → Prop) (h0 : I 0 ρ M)
    (step : ∀ (N : Ev → Mh → Prop) (i : Nat) (d : D) (ρ : Ev) (M : Mh), items[i]? = some d → I i ρ M → (∀ ρ' M', I (i + 1) ρ' M' → N ρ' M') → chk M ∧ g d ρ M fun ρ1 M1 => b { P with nx := N, ct := N, bk := P.nx } ρ1 M1)
    (fin : ∀ ρ M, I items.length ρ M → chk M ∧ P.nx ρ M) : forD g b chk P items ρ M := by
  have go : ∀ (l : List D) (i : Nat) (ρ : Ev) (M : Mh), items.drop i = l → i ≤ items.length → I i ρ M → forD g b chk P l ρ M := by
    intro l
    induction l with
    | nil =>
      intro i ρ M e hi h
      have : i = items.length := by
        have := congrArg List.length e
        simp at this
        omega
      subst this
      exact fin ρ M h
    | cons d l ih =>
      intro i ρ M e hi h
      have hl : i < items.length := by
        have := congrArg List.length e
        simp at this
        omega
      have e1 : items[i]? = some d := by
        have := congrArg (·[0]?) e
        simpa using this
      have e2 : items.drop (i + 1) = l := by
        rw [show i + 1 = i + 1 from rfl, ← List.drop_drop, e]; rfl
      exact step _ i d ρ M e1 h fun ρ' M' h' => ih (i + 1) ρ' M' e2 hl h'
  exact go items 0 ρ M rfl (Nat.zero_le _) h0
theorem while_each {c : DB} {b : DS} {P : De} {ρ : Ev} {M : Mh} (I : Nat → Ev → Mh → Prop) (m : Nat) (h0 : I m ρ M)
    (step : ∀ (N : Ev → Mh → Prop) (m : Nat) (ρ : Ev) (M : Mh), I m ρ M → (∀ m' ρ' M', m' < m → I m' ρ' M' → N ρ' M') → c ρ M fun t M1 => if t = true then b { P with nx := N, ct := N, bk := P.nx } ρ M1 else P.nx ρ M1) : sWh c b P ρ M := by
  have go : ∀ (n m : Nat) (ρ : Ev) (M : Mh), m < n → I m ρ M → whileD c b P n ρ M := by
    intro n
    induction n with
    | zero => intro m ρ M h; omega
    | succ n ih => intro m ρ M h hI; exact step _ m ρ M hI fun m' ρ' M' h' hI' => ih m' ρ' M' (by omega) hI'
  exact ⟨m + 1, go (m + 1) m ρ M (Nat.lt_succ_self m) h0⟩
/-- a comprehension without a test -/
theorem lc_each {t : Tg} {te : DT} {chk : Mh → Prop} {ρ : Ev} {Q : PQ} {items : List D} {M : Mh} {p : Addr} (I : Nat → List D → Mh → Prop) (hz : items.length < sizeLine) (hp : M p = some (.lst [])) (h0 : I 0 [] M)
    (step : ∀ (R : PQ) (i : Nat) (d : D) (acc : List D) (M : Mh), items[i]? = some d → acc.length = i → I i acc M → M p = some (.lst acc) → (∀ y M2, M2 p = some (.lst acc) → I (i + 1) (acc ++ [y]) (mup M2 p (.lst (acc ++ [y]))) → R y M2) →
      chk M ∧ ∃ ρ1, tgD t d ρ = some ρ1 ∧ te ρ1 M R)
    (fin : ∀ acc M, acc.length = items.length → I items.length acc M → M p = some (.lst acc) → chk M ∧ Q (.ref p) M) : lcLoop p chk t bYes te ρ Q items M := by
  have go : ∀ (l : List D) (i : Nat) (acc : List D) (M : Mh), items.drop i = l → i ≤ items.length → acc.length = i → I i acc M → M p = some (.lst acc) → lcLoop p chk t bYes te ρ Q l M := by
    intro l
    induction l with
    | nil =>
      intro i acc M e hi ha h hp
      have : i = items.length := by
        have := congrArg List.length e
        simp at this
        omega
      subst this
      exact fin acc M ha h hp
    | cons d l ih =>
      intro i acc M e hi ha h hp
      have hl : i < items.length := by
        have := congrArg List.length e
        simp at this
        omega
      have e1 : items[i]? = some d := by
        have := congrArg (·[0]?) e
        simpa using this
      have e2 : items.drop (i + 1) = l := by
        rw [show i + 1 = i + 1 from rfl, ← List.drop_drop, e]; rfl
      obtain ⟨hc, ρ1, ht, hw⟩ := step (fun y M2 => match M2 p with
        | some (.lst acc) => acc.length < sizeLine ∧ lcLoop p chk t bYes te ρ Q l (mup M2 p (.lst (acc ++ [y])))
        | none => False) i d acc M e1 ha h hp (fun y M2 hp2 h2 => by
          simp only [hp2]
          exact ⟨by omega, ih (i + 1) (acc ++ [y]) _ e2 hl (by simp [ha]) h2 mup_same⟩)
      refine ⟨hc, ?_⟩
      rw [ht]
      unfold bYes
      dsimp only
      rw [if_pos rfl]
      exact hw
  exact go items 0 [] M rfl (Nat.zero_le _) rfl h0 hp
/-- .. with a test -/
theorem lc_eachT {t : Tg} {tt : DB} {te : DT} {chk : Mh → Prop} {ρ : Ev} {Q : PQ} {items : List D} {M : Mh} {p : Addr} (I : Nat → List D → Mh → Prop) (hz : items.length < sizeLine) (hp : M p = some (.lst [])) (h0 : I 0 [] M)
    (step : ∀ (R : PQ) (S : Mh → Prop) (i : Nat) (d : D) (acc : List D) (M : Mh), items[i]? = some d → acc.length ≤ i → I i acc M → M p = some (.lst acc) → (∀ y M2, M2 p = some (.lst acc) → I (i + 1) (acc ++ [y]) (mup M2 p (.lst (acc ++ [y]))) → R y M2) →
      (∀ M2, M2 p = some (.lst acc) → I (i + 1) acc M2 → S M2) → chk M ∧ ∃ ρ1, tgD t d ρ = some ρ1 ∧ tt ρ1 M fun k M1 => if k = true then te ρ1 M1 R else S M1)
    (fin : ∀ acc M, acc.length ≤ items.length → I items.length acc M → M p = some (.lst acc) → chk M ∧ Q (.ref p) M) : lcLoop p chk t tt te ρ Q items M := by
  have go : ∀ (l : List D) (i : Nat) (acc : List D) (M : Mh), items.drop i = l → i ≤ items.length → acc.length ≤ i → I i acc M → M p = some (.lst acc) → lcLoop p chk t tt te ρ Q l M := by
    intro l
    induction l with
    | nil =>
      intro i acc M e hi ha h hp
      have : i = items.length := by
        have := congrArg List.length e
        simp at this
        omega
      subst this
      exact fin acc M ha h hp
    | cons d l ih =>
      intro i acc M e hi ha h hp
      have hl : i < items.length := by
        have := congrArg List.length e
        simp at this
        omega
      have e1 : items[i]? = some d := by
        have := congrArg (·[0]?) e
        simpa using this
      have e2 : items.drop (i + 1) = l := by
        rw [show i + 1 = i + 1 from rfl, ← List.drop_drop, e]; rfl
      obtain ⟨hc, ρ1, ht, hw⟩ := step (fun y M2 => match M2 p with
        | some (.lst acc) => acc.length < sizeLine ∧ lcLoop p chk t tt te ρ Q l (mup M2 p (.lst (acc ++ [y])))
        | none => False) (fun M2 => lcLoop p chk t tt te ρ Q l M2) i d acc M e1 ha h hp (fun y M2 hp2 h2 => by
          simp only [hp2]
          exact ⟨by omega, ih (i + 1) (acc ++ [y]) _ e2 hl (by simp; omega) h2 mup_same⟩) (fun M2 hp2 h2 => ih (i + 1) acc M2 e2 hl (by omega) h2 hp2)
      refine ⟨hc, ?_⟩
      rw [ht]
      exact hw
  exact go items 0 [] M rfl (Nat.zero_le _) (Nat.le_refl _) h0 hp

/-! ### items -/
theorem atI_mem {α : Type} {ds : List α} {k : Int} (h0 : 0 ≤ k) (h1 : k < ds.length) : ∃ d, atI ds k = some d ∧ d ∈ ds ∧ ds[k.toNat]? = some d := by
  have h2 : k.toNat < ds.length := by omega
  refine ⟨ds[k.toNat], ?_, List.getElem_mem h2, List.getElem?_eq_getElem h2⟩
  unfold atI ixN
  rw [if_pos h0, if_pos h1]
  exact List.getElem?_eq_getElem h2
theorem atI_get? {α : Type} {ds : List α} {k : Int} {d : α} (h0 : 0 ≤ k) (h : ds[k.toNat]? = some d) : atI ds k = some d := by
  have h2 := (List.getElem?_eq_some_iff.mp h).1
  unfold atI ixN
  rw [if_pos h0, if_pos (by omega)]
  exact h
theorem intsOf_map (ns : List Int) : intsOf (ns.map D.int) = some ns := by
  induction ns with
  | nil => rfl
  | cons n r ih => simp [intsOf, ih]
theorem strsOf_map (ns : List Str) : strsOf (ns.map D.str) = some ns := by
  induction ns with
  | nil => rfl
  | cons n r ih => simp [strsOf, ih]

/-! ### texts as lists of signs -/
def st (l : List Nat) : Str := ⟨l.toArray⟩
theorem st_cps (l : List Nat) : (st l).cps.toList = l := by simp [st]
theorem st_len (l : List Nat) : (st l).length = l.length := by simp [st, Str.length]
theorem st_of (z : Str) : z = st z.cps.toList := by cases z; simp [st]
theorem st_app (l r : List Nat) : st l ++ st r = st (l ++ r) := by
  show (⟨l.toArray ++ r.toArray⟩ : Str) = ⟨(l ++ r).toArray⟩
  simp
theorem st_inj {l r : List Nat} (h : st l = st r) : l = r := by
  have := congrArg (fun z : Str => z.cps.toList) h
  simpa [st] using this
theorem st_beq (l r : List Nat) : (st l == st r) = (l == r) := by
  by_cases h : l = r
  · subst h; simp
  · have : st l ≠ st r := fun e => h (st_inj e)
    rw [beq_eq_false_iff_ne.mpr this, beq_eq_false_iff_ne.mpr h]
theorem st_one (c : Nat) : (⟨#[c]⟩ : Str) = st [c] := rfl
theorem st_cut (l : List Nat) (lo hi : Option Int) : cutS (st l) lo hi = st ((l.drop (HT.sIx l.length 0 lo)).take (HT.sIx l.length l.length hi - HT.sIx l.length 0 lo)) := by
  unfold cutS
  rw [st_cps, st_len]; rfl
theorem st_cut_nat (l : List Nat) (i j : Nat) : cutS (st l) (some (i : Int)) (some (j : Int)) = st ((l.drop i).take (j - i)) := by
  rw [st_cut, HT.sIx_nat, HT.sIx_nat]
  congr 1
  by_cases h : i ≤ l.length
  · rw [Nat.min_eq_left h]
    by_cases h2 : j ≤ l.length
    · rw [Nat.min_eq_left h2]
    · rw [Nat.min_eq_right (show l.length ≤ j by omega), List.take_of_length_le (by simp), List.take_of_length_le (by simp; omega)]
  · rw [Nat.min_eq_right (show l.length ≤ i by omega), List.drop_of_length_le (Nat.le_refl _), List.drop_of_length_le (show l.length ≤ i by omega)]
    simp
theorem st_take (l : List Nat) (j : Nat) : cutS (st l) none (some (j : Int)) = st (l.take j) := by
  rw [st_cut, HT.sIx_none, HT.sIx_nat, List.drop_zero, Nat.sub_zero]
  congr 1
  by_cases h : j ≤ l.length
  · rw [Nat.min_eq_left h]
  · rw [Nat.min_eq_right (show l.length ≤ j by omega), List.take_length, List.take_of_length_le (show l.length ≤ j by omega)]
theorem st_drop (l : List Nat) (i : Nat) : cutS (st l) (some (i : Int)) none = st (l.drop i) := by
  rw [st_cut, HT.sIx_none, HT.sIx_nat]
  congr 1
  by_cases h : i ≤ l.length
  · rw [Nat.min_eq_left h, List.take_of_length_le (by simp)]
  · rw [Nat.min_eq_right (by omega), List.drop_of_length_le (Nat.le_refl _), List.drop_of_length_le (show l.length ≤ i by omega)]
    simp

/-! ### more of texts and items -/
theorem st_push (c : Nat) : (⟨#[c]⟩ : Str) = st [c] := rfl
def lit (z : Str) : List Nat := z.cps.toList
theorem lit_st (l : List Nat) : lit (st l) = l := st_cps l
theorem st_lit (z : Str) : st (lit z) = z := (st_of z).symm
theorem lit_len (z : Str) : (lit z).length = z.length := by simp [lit, Str.length]
theorem atI_map {α : Type} {zs : List α} {f : α → D} {k : Int} (h0 : 0 ≤ k) (h1 : k < zs.length) : ∃ z, z ∈ zs ∧ atI (zs.map f) k = some (f z) := by
  obtain ⟨d, h2, h3, h4⟩ := atI_mem (ds := zs) h0 h1
  refine ⟨d, h3, atI_get? h0 ?_⟩
  rw [List.getElem?_map, h4]; rfl
theorem atI_end {α : Type} (ds : List α) (d : α) : atI (ds ++ [d]) (((ds ++ [d]).length : Int) - 1) = some d := by
  have e : (((ds ++ [d]).length : Int) - 1) = ((ds.length : Nat) : Int) := by simp
  rw [e]
  exact atI_nat (by simp)
theorem ixN_end {α : Type} (ds : List α) (d : α) : ixN (ds ++ [d]).length (((ds ++ [d]).length : Int) - 1) = some ds.length := by
  have e : (((ds ++ [d]).length : Int) - 1) = ((ds.length : Nat) : Int) := by simp
  rw [e]
  unfold ixN
  rw [if_pos (Int.natCast_nonneg _), if_pos (by rw [List.length_append]; simp; omega)]
  simp
/-- texts of small signs: data that == takes -/
def small (l : List Nat) : Prop := ∀ c ∈ l, c < 128
theorem strOk_small {l : List Nat} (h : small l) : PyData.strOk (st l) = true := by
  unfold PyData.strOk st
  simp only [List.all_toArray, List.all_eq_true, decide_eq_true_eq]
  intro c hc
  have := h c hc
  omega
theorem okD_strs {ts : List (List Nat)} (h : ∀ t ∈ ts, small t) : okD (.tup (ts.map fun t => .str (st t))) = true := by
  have h1 : ∀ ts : List (List Nat), (∀ t ∈ ts, small t) → PyData.canLayAll0 (pds (ts.map fun t => .str (st t))) = true ∧ PyData.depthAll (pds (ts.map fun t => .str (st t))) ≤ 1 := by
    intro ts
    induction ts with
    | nil => intro _; simp [pds, PyData.canLayAll0, PyData.depthAll]
    | cons t r ih =>
      intro h
      obtain ⟨i1, i2⟩ := ih fun x hx => h x (List.mem_cons_of_mem _ hx)
      have := strOk_small (h t List.mem_cons_self)
      simp only [List.map_cons, pds, pd, PyData.canLayAll0, PyData.canLay0, PyData.depthAll, PyData.depth, this, i1, Bool.true_and, true_and]
      omega
  obtain ⟨i1, i2⟩ := h1 ts h
  unfold okD SeqAt.shaped
  simp only [pd, PyData.canLay0, PyData.depth, i1, Bool.true_and, decide_eq_true_eq]
  omega
theorem deq_refl (x : D) (h : okD x = true) : deq x x = true := SeqAt.eqv_refl _ (SeqAt.canLay_of_shaped h)

/-! ### texts joined -/
theorem glue_fold (g : Array Nat) : ∀ (ps : List Str) (a : Array Nat), (ps.foldl (fun acc p => acc ++ g ++ p.cps) a).toList = a.toList ++ ps.flatMap fun q => g.toList ++ lit q
  | [], a => by simp
  | p :: ps, a => by
    rw [List.foldl_cons, glue_fold g ps]
    simp [lit]
theorem join_lit (z p : Str) (ps : List Str) : lit (Txt.join z (p :: ps)) = lit p ++ ps.flatMap fun q => lit z ++ lit q := by
  show (((p :: ps).drop 1).foldl (fun acc p => acc ++ z.cps ++ p.cps) ((p :: ps).headD Str.empty).cps).toList = _
  rw [glue_fold]; rfl
theorem join_nil (z : Str) : Txt.join z [] = st [] := rfl
theorem join_empty (ys : List Str) : lit (Txt.join "" ys) = ys.flatMap lit := by
  cases ys with
  | nil => rfl
  | cons p ps =>
    rw [join_lit]
    have : lit (("" : String) : Str) = [] := by decide +kernel
    simp [this]
theorem str_ext {x y : Str} (h : lit x = lit y) : x = y := by
  rw [← st_lit x, ← st_lit y, h]
end DL
/-! DLq: the draws that every law has: a cell of the script, a jar, a pick. -/
namespace DL
open PySem L2
-- what the heap holds at a place
local macro_rules | `(tactic| walk_at "h") => `(tactic| first
  | assumption
  | exact mup_same
  | (refine (mup_ne ?_).trans ?_ <;> first | assumption | (apply Ne.symm; assumption) | walk_at "h"))
-- small facts of numbers
local macro_rules | `(tactic| walk_at "n") => `(tactic| first
  | assumption
  | omega
  | decide
  | (exact CMul.r (by decide))
  | (exact CMul.l (by decide))
  | (refine ⟨?_, ?_⟩ <;> first | assumption | omega | decide))
-- lengths
local macro_rules | `(tactic| walk_at "l") => `(tactic| first
  | assumption
  | (rw [sizeLine_eq]; first | omega | decide | (simp; done) | (simp; omega) | decide +kernel))
-- one step
local macro_rules | `(tactic| walk_at "e1") => `(tactic| first
  | with_reducible refine t_nil ?_
  | ((with_reducible refine' t_var ?s ?_); (case s => first | assumption | exact rfl))
  | with_reducible refine t_c ?_
  | with_reducible refine t_bin ?_
  | with_reducible refine t_if ?_
  | with_reducible refine t_asg ?_
  | with_reducible refine t_gN ?_
  | with_reducible refine t_ret ?_
  | with_reducible refine t_exp ?_
  | with_reducible refine t_bcmp ?_
  | with_reducible refine t_band ?_
  | with_reducible refine t_bor ?_
  | with_reducible refine t_bnot ?_
  | with_reducible refine t_btru ?_
  | with_reducible refine t_byes ?_
  | with_reducible refine t_an ?_
  | with_reducible refine t_ac ?_
  | with_reducible refine t_fn ?_
  | with_reducible refine t_call ?_
  | with_reducible refine t_cmp ?_
  | with_reducible refine t_and ?_
  | with_reducible refine t_or ?_
  | with_reducible refine t_not ?_
  | with_reducible refine t_ife ?_
  | with_reducible refine t_tup ?_
  | with_reducible refine t_lst ?_
  | with_reducible refine t_isi ?_
  | with_reducible refine t_sl ?_
  | with_reducible refine t_o0 ?_
  | with_reducible refine t_o1 ?_
  | with_reducible refine t_un ?_
  | with_reducible refine t_mt ?_
  | with_reducible refine t_gS ?_
  | with_reducible refine t_gsC ?_
  | with_reducible refine t_gsN ?_
  | ((with_reducible refine t_gT ?s ?_); (case s => first | assumption | exact rfl))
  | with_reducible refine t_retN ?_
  | with_reducible refine t_brk ?_
  | with_reducible refine t_cnt ?_
  | ((with_reducible refine' t_aug ?s ?_); (case s => first | assumption | exact rfl))
  | with_reducible refine t_for ?_
  | with_reducible refine t_seqi ?_
  | with_reducible refine t_rg1 ?_
  | with_reducible refine t_rg2 ?_
  | with_reducible refine t_lc ?_
  | with_reducible refine v_tru_bl ?_
  | with_reducible refine v_tru_int ?_
  | with_reducible refine v_tru_non ?_
  | with_reducible refine v_tru_tup ?_
  | with_reducible refine v_add_int ?_
  | ((with_reducible refine v_add_str ?l ?_); (case l => walk_at "l"))
  | ((with_reducible refine v_add_tup ?l ?_); (case l => walk_at "l"))
  | with_reducible refine v_iadd_int ?_
  | with_reducible refine v_sub ?_
  | ((with_reducible refine v_mul ?c ?_); (case c => walk_at "n"))
  | ((with_reducible refine v_div ?c ?_); (case c => walk_at "n"))
  | ((with_reducible refine v_mod ?c ?_); (case c => walk_at "n"))
  | ((with_reducible refine v_pow ?c ?_); (case c => exact ⟨by decide, by decide, by decide⟩))
  | with_reducible refine v_neg ?_
  | with_reducible exact trivial
  | with_reducible refine v_eq_int ?_
  | with_reducible refine v_eq_str ?_
  | with_reducible refine v_eq_bl ?_
  | with_reducible refine v_ne_int ?_
  | with_reducible refine v_ne_str ?_
  | with_reducible refine v_ne_bl ?_
  | with_reducible refine v_lt ?_
  | with_reducible refine v_le ?_
  | with_reducible refine v_gt ?_
  | with_reducible refine v_ge ?_
  | with_reducible refine v_isi_non ?_
  | with_reducible refine v_isi_bl ?_
  | with_reducible refine v_isi_int ?_
  | with_reducible refine v_isi_str ?_
  | with_reducible refine v_isi_tup ?_
  | with_reducible refine v_in_str ?_
  | with_reducible refine v_nin_str ?_
  | with_reducible refine v_len_tup ?_
  | with_reducible refine v_len_rol ?_
  | ((with_reducible refine v_len_str ?l ?_); (case l => walk_at "l"))
  | ((with_reducible refine' v_len_ref ?e ?_); (case e => walk_at "h"))
  | with_reducible refine v_int_int ?_
  | with_reducible refine v_max ?_
  | with_reducible refine v_min ?_
  | with_reducible refine v_tuple_tup ?_
  | ((with_reducible refine' v_tuple_ref ?e ?_); (case e => walk_at "h"))
  | ((with_reducible refine' v_ix_ref ?e ?f ?_); (case e => walk_at "h"); (case f => first | assumption | exact rfl))
  | ((with_reducible refine' v_ix_tup ?f ?_); (case f => first | assumption | exact rfl))
  | ((with_reducible refine' v_set ?e ?f ?_); (case e => walk_at "h"); (case f => first | assumption | exact rfl))
  | ((with_reducible refine v_sl_str ?l ?_); (case l => walk_at "l"))
  | with_reducible refine v_sl_tup ?_
  | with_reducible refine v_seq_tup ?_
  | with_reducible refine v_seq_str ?_
  | with_reducible refine v_seq_rol ?_
  | ((with_reducible refine' v_seq_ref ?e ?_); (case e => walk_at "h"))
  | ((with_reducible refine' ⟨v_ty_ref ?e, ?_⟩); (case e => walk_at "h"))
  | ((with_reducible refine' v_append ?e ?l ?_); (case e => walk_at "h"); (case l => walk_at "l")))
local macro_rules | `(tactic| walk_at "d1") => `(tactic| first | with_reducible refine t_seq ?_ | walk_at "e1")
local macro_rules | `(tactic| walk_at "d") => `(tactic| repeat walk_at "d1")
-- one statement
local macro_rules | `(tactic| walk_at "e") => `(tactic| ((repeat walk_at "e1"); try (with_reducible show sSeq _ _ _ _ _)))
local macro_rules | `(tactic| walk_at "s") => `(tactic| ((with_reducible refine t_seq ?_); walk_at "e"))
def b_cell : DS :=
  (sSeq (sIf (bCmp ltD (eVar 1) (eCall lenD (aCons (eVar 0) aNil)))
   (sSeq (sRet (eBin ixD (eVar 0) (eVar 1)))
   sNil)
   sNil)
  (sSeq (sRet (eBin addD (eBin addD (eBin mulD (eBin modD (eCall intD (aCons (eCall sumD (aCons (eSl (eVar 0) none (some (eC (.int 1)))) aNil)) aNil)) (eC (.int 1000003))) (eC (.int 7919))) (eBin mulD (eVar 1) (eC (.int 104729)))) (eC (.int 12345))))
  sNil))
def b_jar (c_cell : List D → Mh → PQ → Prop) : DS :=
  (sSeq (sAsg (eFn 2 c_cell (aCons (eVar 0) (aCons (eVar 1) aNil))) (gN 2))
  (sSeq (sAsg (eVar 2) (gN 3))
  (sSeq (sIf (bCmp ltD (eVar 2) (eC (.int 0)))
   (sSeq (sAsg (eBin subD (eC (.int 1)) (eBin mulD (eC (.int 3)) (eVar 2))) (gN 3))
   sNil)
   sNil)
  (sSeq (sIf (bCmp geD (eVar 3) (eBin powD (eC (.int 10)) (eC (.int 18))))
   (sSeq (sRet (eLst (aCons (eVar 3) (aCons (eC (.int 1)) (aCons (eVar 1) aNil)))))
   sNil)
   sNil)
  (sSeq (sRet (eLst (aCons (eBin addD (eBin modD (eCall intD (aCons (eVar 3) aNil)) (eC (.int 2147483646))) (eC (.int 1))) (aCons (eC (.int 0)) (aCons (eVar 1) aNil)))))
  sNil)))))
def b_pick : DS :=
  (sSeq (sIf (bAnd (bCmp eqD (eBin ixD (eVar 0) (eC (.int 1))) (eC (.int 1))) (bCmp gtD (eBin ixD (eVar 0) (eC (.int 0))) (eC (.int 0))))
   (sSeq (sAsg (eBin modD (eCall intD (aCons (eBin ixD (eVar 0) (eC (.int 0))) aNil)) (eVar 1)) (gN 2))
   (sSeq (sAsg (eBin divD (eBin ixD (eVar 0) (eC (.int 0))) (eVar 1)) (gS (eVar 0) (eC (.int 0))))
   (sSeq (sRet (eVar 2))
   sNil)))
   sNil)
  (sSeq (sIf (bCmp eqD (eBin ixD (eVar 0) (eC (.int 1))) (eC (.int 1)))
   (sSeq (sAsg (eC (.int 0)) (gS (eVar 0) (eC (.int 1))))
   (sSeq (sAsg (eBin addD (eC (.int 1234567)) (eBin mulD (eBin ixD (eVar 0) (eC (.int 2))) (eC (.int 7907)))) (gS (eVar 0) (eC (.int 0))))
   sNil))
   sNil)
  (sSeq (sAsg (eBin addD (eBin ixD (eVar 0) (eC (.int 2))) (eC (.int 1))) (gS (eVar 0) (eC (.int 2))))
  (sSeq (sAsg (eBin modD (eCall intD (aCons (eBin addD (eBin mulD (eBin ixD (eVar 0) (eC (.int 0))) (eC (.int 48271))) (eBin mulD (eBin ixD (eVar 0) (eC (.int 2))) (eC (.int 69621)))) aNil)) (eC (.int 2147483647))) (gS (eVar 0) (eC (.int 0))))
  (sSeq (sRet (eBin modD (eCall intD (aCons (eBin divD (eBin ixD (eVar 0) (eC (.int 0))) (eC (.int 977))) aNil)) (eVar 1)))
  sNil)))))

theorem cut_ints (ns : List Int) (lo hi : Option Int) : ∃ ms : List Int, cutD (ns.map D.int) lo hi = ms.map D.int := by
  unfold cutD
  exact ⟨(ns.drop (HT.sIx ns.length 0 lo)).take (HT.sIx ns.length ns.length hi - HT.sIx ns.length 0 lo), by simp⟩
theorem v_sum_ref {M : Mh} {Q : PQ} {p : Addr} {ds : List D} {ns : List Int} (e : M p = some (.lst ds)) (f : intsOf ds = some ns) (h : Q (.int ns.sum) M) : sumD [.ref p] M Q := by
  show (match litemsD (.ref p) M with | some ds => (match intsOf ds with | some ns => Q (.int ns.sum) M | none => False) | none => False)
  have : litemsD (.ref p) M = some ds := by
    show (match M p with | some (.lst ds) => some ds | _ => none) = _
    rw [e]
  rw [this]
  show (match intsOf ds with | some ns => Q (.int ns.sum) M | none => False)
  rw [f]; exact h
theorem MKeep.none {S : Addr → Prop} {M M1 : Mh} (x : MKeep S M M1) {p : Addr} (h : M1 p = none) (n : ¬ S p) : M p = none := by
  cases e : M p with
  | none => rfl
  | some o => rw [x p o n e] at h; cases h

/-- a cell: some int -/
def sp_cell : DSp := fun ds M P => ∃ (ns : List Int) (i : Int), ds = [.rol (ns.map D.int), .int i] ∧ 0 ≤ i ∧ ∀ (x : Int) M', MExt M M' → P (.int x) M'
theorem ok_cell (ds : List D) (M : Mh) (P : PQ) (h : sp_cell ds M P) : b_cell { nx := fun _ M' => P .non M', rt := P } (startD 2 ds) M := by
  obtain ⟨ns, i, rfl, hi, k⟩ := h
  unfold b_cell
  walk_at "d"
  refine t_ite (fun e => ?_) (fun e => ?_)
  · have e : i < (ns.map D.int).length := of_decide_eq_true e
    walk_at "d"
    obtain ⟨d, h1, h2, _⟩ := atI_mem hi e
    obtain ⟨x, _, rfl⟩ := List.mem_map.mp h2
    exact v_ix_rol h1 (k x M .refl)
  · walk_at "d"
    refine v_sl_rol fun p np => ?_
    walk_at "d"
    obtain ⟨ms, hm⟩ := cut_ints ns none (some 1)
    rw [hm]
    refine v_sum_ref mup_same (intsOf_map ms) ?_
    walk_at "d"
    exact k _ _ (.fresh np)

def JarOk (M : Mh) (j : Addr) : Prop := ∃ a b c : Int, M j = some (.lst [.int a, .int b, .int c]) ∧ 0 ≤ a ∧ (b = 0 ∨ b = 1) ∧ 0 ≤ c
/-- a jar: a new one -/
def sp_jar : DSp := fun ds M P => ∃ (ns : List Int) (i : Int), ds = [.rol (ns.map D.int), .int i] ∧ 0 ≤ i ∧ ∀ (p : Addr) M', MExt M M' → M p = none → JarOk M' p → P (.ref p) M'
theorem ok_jar (ds : List D) (M : Mh) (P : PQ) (h : sp_jar ds M P) : b_jar sp_cell { nx := fun _ M' => P .non M', rt := P } (startD 4 ds) M := by
  obtain ⟨ns, i, rfl, hi, k⟩ := h
  unfold b_jar
  walk_at "s"
  refine ⟨rfl, ns, i, rfl, hi, fun x M1 x1 => ?_⟩
  have fin : ∀ (a b c : Int) (p : Addr), 0 ≤ a → (b = 0 ∨ b = 1) → 0 ≤ c → M1 p = none → P (.ref p) (mup M1 p (.lst [.int a, .int b, .int c])) := fun a b c p ha hb hc np =>
    k p _ (x1.trans (.fresh np)) (x1.none np (fun z => z)) ⟨a, b, c, mup_same, ha, hb, hc⟩
  walk_at "e"
  walk_at "s"
  refine t_cut (fun ρ M' => M' = M1 ∧ slot ρ 0 = some (.rol (ns.map D.int)) ∧ slot ρ 1 = some (.int i) ∧ ∃ n : Int, 0 ≤ n ∧ slot ρ 3 = some (.int n)) (fun N hN => ?_) ?_
  · walk_at "d"
    refine t_ite (fun e => ?_) (fun e => ?_)
    · have e : x < 0 := of_decide_eq_true e
      walk_at "d"
      exact hN _ _ ⟨rfl, rfl, rfl, 1 - 3 * x, by omega, rfl⟩
    · have e : ¬ x < 0 := of_decide_eq_false e
      walk_at "d"
      exact hN _ _ ⟨rfl, rfl, rfl, x, by omega, rfl⟩
  · rintro ρ M' ⟨rfl, s0, s1, n, hn, s3⟩
    walk_at "d"
    refine t_ite (fun e => ?_) (fun e => ?_)
    · walk_at "d"
      refine ⟨by walk_at "l", fun p np => ?_⟩
      exact fin n 1 i p hn (.inr rfl) hi np
    · walk_at "d"
      refine ⟨by walk_at "l", fun p np => ?_⟩
      exact fin _ 0 i p (by have := Int.emod_nonneg n (show (2147483646 : Int) ≠ 0 by decide); omega) (.inl rfl) hi np

/-- a pick: some number below many; the jar alone changes -/
def sp_pick : DSp := fun ds M P => ∃ (j : Addr) (many : Int), ds = [.ref j, .int many] ∧ JarOk M j ∧ (0 < many ∧ many < 1073741824) ∧ ∀ (k : Int) o, 0 ≤ k → k < many → JarOk (mup M j o) j → P (.int k) (mup M j o)
theorem ok_pick (ds : List D) (M : Mh) (P : PQ) (h : sp_pick ds M P) : b_pick { nx := fun _ M' => P .non M', rt := P } (startD 3 ds) M := by
  obtain ⟨j, many, rfl, ⟨a, b, c, hM, ha, hb, hc⟩, ⟨h0, h1⟩, k⟩ := h
  have fin : ∀ (x y z r : Int), 0 ≤ x → (y = 0 ∨ y = 1) → 0 ≤ z → 0 ≤ r → r < many → P (.int r) (mup M j (.lst [.int x, .int y, .int z])) := fun x y z r hx hy hz h2 h3 =>
    k r _ h2 h3 ⟨x, y, z, mup_same, hx, hy, hz⟩
  have md : ∀ x : Int, 0 ≤ x % many ∧ x % many < many := fun x => ⟨Int.emod_nonneg _ (by omega), Int.emod_lt_of_pos _ h0⟩
  unfold b_pick
  walk_at "d"
  refine t_ite (fun e => ?_) (fun e => ?_)
  · walk_at "d"
    refine t_ite (fun e2 => ?_) (fun e2 => ?_)
    · walk_at "d"
      exact fin (a / many) b c _ (Int.ediv_nonneg ha (by omega)) hb hc (md _).1 (md _).2
    · walk_at "d"
      refine t_ite (fun e3 => ?_) (fun e3 => ?_)
      · walk_at "d"
        simp only [mup_mup]
        exact fin _ 0 (c + 1) _ (Int.emod_nonneg _ (by decide)) (.inl rfl) (by omega) (md _).1 (md _).2
      · walk_at "d"
        simp only [mup_mup]
        exact fin _ b (c + 1) _ (Int.emod_nonneg _ (by decide)) hb (by omega) (md _).1 (md _).2
  · refine t_ite (fun z => nomatch z) (fun _ => ?_)
    walk_at "d"
    refine t_ite (fun e3 => ?_) (fun e3 => ?_)
    · walk_at "d"
      simp only [mup_mup]
      exact fin _ 0 (c + 1) _ (Int.emod_nonneg _ (by decide)) (.inl rfl) (by omega) (md _).1 (md _).2
    · walk_at "d"
      simp only [mup_mup]
      exact fin _ b (c + 1) _ (Int.emod_nonneg _ (by decide)) hb (by omega) (md _).1 (md _).2
/-- the call of a pick -/
theorem c_pick {j : Addr} {many : Int} {M : Mh} {Q : PQ} (h : JarOk M j) (hm : 0 < many ∧ many < 1073741824) (k : ∀ (k : Int) o, 0 ≤ k → k < many → JarOk (mup M j o) j → Q (.int k) (mup M j o)) :
    [D.ref j, D.int many].length = 2 ∧ sp_pick [.ref j, .int many] M Q := ⟨rfl, j, many, rfl, h, hm, k⟩
theorem JarOk.keep {S : Addr → Prop} {M M' : Mh} {j : Addr} (h : JarOk M j) (x : MKeep S M M') (n : ¬ S j) : JarOk M' j := let ⟨a, b, c, e, r⟩ := h; ⟨a, b, c, x _ _ n e, r⟩
theorem JarOk.ne {M : Mh} {j p : Addr} (h : JarOk M j) (n : M p = none) : j ≠ p := let ⟨a, b, c, e, r⟩ := h; ne_free e n
end DL
/-! K04b: the bodies of the defs, printed by gen.py -/
namespace K04
open PySem DL

abbrev g_CAPITALS : D := (.str "ABCDEFGHIJKLMNOPQRSTUVWXYZ")
abbrev g_FIGURES : D := (.str "0123456789")
abbrev g_LETTERS : D := (.str "abcdefghijklmnopqrstuvwxyz")
abbrev g_PAIRS : D := (.tup [(.str ".."), (.str "->")])
/-- slots: 0 sign -/
def b_is_run_sign : DS :=
  (sSeq (sRet (eOr (eCmp inD (eVar 0) (eC g_LETTERS)) (eOr (eCmp inD (eVar 0) (eC g_CAPITALS)) (eCmp inD (eVar 0) (eC g_FIGURES)))))
  sNil)
/-- slots: 0 text 1 at 2 end -/
def b_end_of_token (c_is_run_sign : List D → Mh → PQ → Prop) : DS :=
  (sSeq (sIf (bTru (eFn 1 c_is_run_sign (aCons (eBin ixD (eVar 0) (eVar 1)) aNil)))
   (sSeq (sAsg (eBin addD (eVar 1) (eC (.int 1))) (gN 2))
   (sSeq (sWh (bAnd (bCmp ltD (eVar 2) (eCall lenD (aCons (eVar 0) aNil))) (bTru (eFn 1 c_is_run_sign (aCons (eBin ixD (eVar 0) (eVar 2)) aNil))))
    (sSeq (sAug 2 iaddD (eC (.int 1)))
    sNil))
   (sSeq (sRet (eVar 2))
   sNil)))
   sNil)
  (sSeq (sIf (bCmp inD (eSl (eVar 0) (some (eVar 1)) (some (eBin addD (eVar 1) (eC (.int 2))))) (eC g_PAIRS))
   (sSeq (sRet (eBin addD (eVar 1) (eC (.int 2))))
   sNil)
   sNil)
  (sSeq (sRet (eBin addD (eVar 1) (eC (.int 1))))
  sNil)))
/-- slots: 0 text 1 found 2 at 3 end -/
def b_tokens_of (c_end_of_token : List D → Mh → PQ → Prop) : DS :=
  (sSeq (sAsg (eLst aNil) (gN 1))
  (sSeq (sAsg (eC (.int 0)) (gN 2))
  (sSeq (sWh (bCmp ltD (eVar 2) (eCall lenD (aCons (eVar 0) aNil)))
   (sSeq (sIf (bOr (bCmp eqD (eBin ixD (eVar 0) (eVar 2)) (eC (.str " "))) (bCmp eqD (eBin ixD (eVar 0) (eVar 2)) (eC (.str "\n"))))
    (sSeq (sAug 2 iaddD (eC (.int 1)))
    (sSeq sCnt
    sNil))
    sNil)
   (sSeq (sAsg (eFn 2 c_end_of_token (aCons (eVar 0) (aCons (eVar 2) aNil))) (gN 3))
   (sSeq (sExp (eMt "list" appendD (eVar 1) (aCons (eSl (eVar 0) (some (eVar 2)) (some (eVar 3))) aNil)))
   (sSeq (sAsg (eVar 3) (gN 2))
   sNil)))))
  (sSeq (sRet (eCall tupleD (aCons (eVar 1) aNil)))
  sNil))))
/-- slots: 0 script 1 place -/
def b__law_cell : DS :=
  (sSeq (sIf (bCmp ltD (eVar 1) (eCall lenD (aCons (eVar 0) aNil)))
   (sSeq (sRet (eBin ixD (eVar 0) (eVar 1)))
   sNil)
   sNil)
  (sSeq (sRet (eBin addD (eBin addD (eBin mulD (eBin modD (eCall intD (aCons (eCall sumD (aCons (eSl (eVar 0) none (some (eC (.int 1)))) aNil)) aNil)) (eC (.int 1000003))) (eC (.int 7919))) (eBin mulD (eVar 1) (eC (.int 104729)))) (eC (.int 12345))))
  sNil))
/-- slots: 0 script 1 place 2 cell 3 number -/
def b__law_jar (c__law_cell : List D → Mh → PQ → Prop) : DS :=
  (sSeq (sAsg (eFn 2 c__law_cell (aCons (eVar 0) (aCons (eVar 1) aNil))) (gN 2))
  (sSeq (sAsg (eVar 2) (gN 3))
  (sSeq (sIf (bCmp ltD (eVar 2) (eC (.int 0)))
   (sSeq (sAsg (eBin subD (eC (.int 1)) (eBin mulD (eC (.int 3)) (eVar 2))) (gN 3))
   sNil)
   sNil)
  (sSeq (sIf (bCmp geD (eVar 3) (eBin powD (eC (.int 10)) (eC (.int 18))))
   (sSeq (sRet (eLst (aCons (eVar 3) (aCons (eC (.int 1)) (aCons (eVar 1) aNil)))))
   sNil)
   sNil)
  (sSeq (sRet (eLst (aCons (eBin addD (eBin modD (eCall intD (aCons (eVar 3) aNil)) (eC (.int 2147483646))) (eC (.int 1))) (aCons (eC (.int 0)) (aCons (eVar 1) aNil)))))
  sNil)))))
/-- slots: 0 jar 1 many 2 found -/
def b__law_pick : DS :=
  (sSeq (sIf (bAnd (bCmp eqD (eBin ixD (eVar 0) (eC (.int 1))) (eC (.int 1))) (bCmp gtD (eBin ixD (eVar 0) (eC (.int 0))) (eC (.int 0))))
   (sSeq (sAsg (eBin modD (eCall intD (aCons (eBin ixD (eVar 0) (eC (.int 0))) aNil)) (eVar 1)) (gN 2))
   (sSeq (sAsg (eBin divD (eBin ixD (eVar 0) (eC (.int 0))) (eVar 1)) (gS (eVar 0) (eC (.int 0))))
   (sSeq (sRet (eVar 2))
   sNil)))
   sNil)
  (sSeq (sIf (bCmp eqD (eBin ixD (eVar 0) (eC (.int 1))) (eC (.int 1)))
   (sSeq (sAsg (eC (.int 0)) (gS (eVar 0) (eC (.int 1))))
   (sSeq (sAsg (eBin addD (eC (.int 1234567)) (eBin mulD (eBin ixD (eVar 0) (eC (.int 2))) (eC (.int 7907)))) (gS (eVar 0) (eC (.int 0))))
   sNil))
   sNil)
  (sSeq (sAsg (eBin addD (eBin ixD (eVar 0) (eC (.int 2))) (eC (.int 1))) (gS (eVar 0) (eC (.int 2))))
  (sSeq (sAsg (eBin modD (eCall intD (aCons (eBin addD (eBin mulD (eBin ixD (eVar 0) (eC (.int 0))) (eC (.int 48271))) (eBin mulD (eBin ixD (eVar 0) (eC (.int 2))) (eC (.int 69621)))) aNil)) (eC (.int 2147483647))) (gS (eVar 0) (eC (.int 0))))
  (sSeq (sRet (eBin modD (eCall intD (aCons (eBin divD (eBin ixD (eVar 0) (eC (.int 0))) (eC (.int 977))) aNil)) (eVar 1)))
  sNil)))))
/-- slots: 0 first -/
def b__law_signs : DS :=
  (sSeq (sAsg (eC (.str " !\"#$&'()*+,-./0123456789:;<=>?@ABCDEFGHIJKLMNOPQRSTUVWXYZ[\\]^_`")) (gN 0))
  (sSeq (sRet (eBin addD (eVar 0) (eC (.str "abcdefghijklmnopqrstuvwxyz{|}~\n"))))
  sNil))
/-- slots:  -/
def b__law_run_signs : DS :=
  (sSeq (sRet (eC (.str "abcdefghijklmnopqrstuvwxyzABCDEFGHIJKLMNOPQRSTUVWXYZ0123456789")))
  sNil)
/-- slots: 0 jar 1 way 2 signs 3 run 4 size 5 turn -/
def b__law_piece (c__law_pick : List D → Mh → PQ → Prop) (c__law_run_signs : List D → Mh → PQ → Prop) (c__law_signs : List D → Mh → PQ → Prop) : DS :=
  (sSeq (sAsg (eFn 2 c__law_pick (aCons (eVar 0) (aCons (eC (.int 9)) aNil))) (gN 1))
  (sSeq (sAsg (eFn 0 c__law_signs aNil) (gN 2))
  (sSeq (sIf (bCmp ltD (eVar 1) (eC (.int 2)))
   (sSeq (sRet (eBin ixD (eVar 2) (eFn 2 c__law_pick (aCons (eVar 0) (aCons (eCall lenD (aCons (eVar 2) aNil)) aNil)))))
   sNil)
   sNil)
  (sSeq (sIf (bCmp eqD (eVar 1) (eC (.int 2)))
   (sSeq (sRet (eSl (eC (.str ".....")) none (some (eBin addD (eC (.int 1)) (eFn 2 c__law_pick (aCons (eVar 0) (aCons (eC (.int 5)) aNil)))))))
   sNil)
   sNil)
  (sSeq (sIf (bCmp eqD (eVar 1) (eC (.int 3)))
   (sSeq (sRet (eBin ixD (eLst (aCons (eC (.str "->")) (aCons (eC (.str "-")) (aCons (eC (.str ">")) (aCons (eC (.str "-->")) (aCons (eC (.str "->>")) (aCons (eC (.str ">-")) (aCons (eC (.str "-.>")) (aCons (eC (.str "->->")) (aCons (eC (.str ".->..")) (aCons (eC (.str "> ")) (aCons (eC (.str "- >")) (aCons (eC (.str "-\n>")) aNil))))))))))))) (eFn 2 c__law_pick (aCons (eVar 0) (aCons (eC (.int 12)) aNil)))))
   sNil)
   sNil)
  (sSeq (sIf (bCmp eqD (eVar 1) (eC (.int 4)))
   (sSeq (sRet (eBin ixD (eLst (aCons (eC (.str " ")) (aCons (eC (.str "\n")) (aCons (eC (.str "  ")) (aCons (eC (.str " \n")) (aCons (eC (.str "\n\n")) (aCons (eC (.str ". .")) (aCons (eC (.str ".\n.")) aNil)))))))) (eFn 2 c__law_pick (aCons (eVar 0) (aCons (eC (.int 7)) aNil)))))
   sNil)
   sNil)
  (sSeq (sIf (bCmp eqD (eVar 1) (eC (.int 5)))
   (sSeq (sRet (eBin ixD (eLst (aCons (eC (.str "{")) (aCons (eC (.str "}")) (aCons (eC (.str ":")) (aCons (eC (.str ";")) (aCons (eC (.str "{}")) (aCons (eC (.str "};")) (aCons (eC (.str ":;")) (aCons (eC (.str "}}")) aNil))))))))) (eFn 2 c__law_pick (aCons (eVar 0) (aCons (eC (.int 8)) aNil)))))
   sNil)
   sNil)
  (sSeq (sIf (bCmp eqD (eVar 1) (eC (.int 6)))
   (sSeq (sRet (eBin ixD (eLst (aCons (eC (.str "0")) (aCons (eC (.str "7")) (aCons (eC (.str "42")) (aCons (eC (.str "007")) (aCons (eC (.str "999999")) (aCons (eC (.str "1234567")) (aCons (eC (.str "3..5")) (aCons (eC (.str "3...5")) (aCons (eC (.str "0..")) aNil)))))))))) (eFn 2 c__law_pick (aCons (eVar 0) (aCons (eC (.int 9)) aNil)))))
   sNil)
   sNil)
  (sSeq (sAsg (eFn 0 c__law_run_signs aNil) (gN 3))
  (sSeq (sAsg (eBin addD (eC (.int 1)) (eFn 2 c__law_pick (aCons (eVar 0) (aCons (eBin ixD (eLst (aCons (eC (.int 1)) (aCons (eC (.int 2)) (aCons (eC (.int 4)) (aCons (eC (.int 8)) (aCons (eC (.int 40)) aNil)))))) (eFn 2 c__law_pick (aCons (eVar 0) (aCons (eC (.int 5)) aNil)))) aNil)))) (gN 4))
  (sSeq (sRet (eMt "str" joinD (eC (.str "")) (aCons (eLC (iRg1 (aCons (eVar 4) aNil)) (.nm 5) bYes (eBin ixD (eVar 3) (eFn 2 c__law_pick (aCons (eVar 0) (aCons (eC (.int 62)) aNil)))) [5]) aNil)))
  sNil)))))))))))
/-- slots: 0 before 1 sign 2 points 3 run -/
def b__law_joined (c__law_run_signs : List D → Mh → PQ → Prop) : DS :=
  (sSeq (sAsg (eFn 0 c__law_run_signs aNil) (gN 3))
  (sSeq (sIf (bCmp inD (eVar 1) (eVar 3))
   (sSeq (sRet (eCmp inD (eVar 0) (eVar 3)))
   sNil)
   sNil)
  (sSeq (sIf (bCmp eqD (eVar 1) (eC (.str ">")))
   (sSeq (sRet (eCmp eqD (eVar 0) (eC (.str "-"))))
   sNil)
   sNil)
  (sSeq (sIf (bCmp eqD (eVar 1) (eC (.str ".")))
   (sSeq (sRet (eCmp eqD (eBin modD (eCall intD (aCons (eVar 2) aNil)) (eC (.int 2))) (eC (.int 1))))
   sNil)
   sNil)
  (sSeq (sRet (eC (.bl false)))
  sNil)))))
/-- slots: 0 text 1 found 2 points 3 before 4 sign -/
def b__law_cut_up (c__law_joined : List D → Mh → PQ → Prop) : DS :=
  (sSeq (sAsg (eLst aNil) (gN 1))
  (sSeq (sAsg (eC (.int 0)) (gN 2))
  (sSeq (sAsg (eC (.str " ")) (gN 3))
  (sSeq (sFor (iSeq (eVar 0)) (gN 4)
   (sSeq (sIf (bTru (eFn 3 c__law_joined (aCons (eVar 3) (aCons (eVar 4) (aCons (eVar 2) aNil)))))
    (sSeq (sAsg (eBin addD (eBin ixD (eVar 1) (eBin subD (eCall lenD (aCons (eVar 1) aNil)) (eC (.int 1)))) (eVar 4)) (gS (eVar 1) (eBin subD (eCall lenD (aCons (eVar 1) aNil)) (eC (.int 1)))))
    sNil)
    (sSeq (sIf (bCmp ninD (eVar 4) (eC (.str " \n")))
     (sSeq (sExp (eMt "list" appendD (eVar 1) (aCons (eVar 4) aNil)))
     sNil)
     sNil)
    sNil))
   (sSeq (sAsg (eIf (bCmp eqD (eVar 4) (eC (.str "."))) (eBin addD (eVar 2) (eC (.int 1))) (eC (.int 0))) (gN 2))
   (sSeq (sAsg (eVar 4) (gN 3))
   sNil))))
  (sSeq (sRet (eCall tupleD (aCons (eVar 1) aNil)))
  sNil)))))
/-- slots: 0 text 1 wanted 2 answer 3 token -/
def b__law_cut_right (c_tokens_of : List D → Mh → PQ → Prop) : DS :=
  (sSeq (sAsg (eFn 1 c_tokens_of (aCons (eVar 0) aNil)) (gN 2))
  (sSeq (sIf (bNot (bTru (eIsi "tuple" (eVar 2))))
   (sSeq (sRet (eC (.bl false)))
   sNil)
   sNil)
  (sSeq (sFor (iSeq (eVar 2)) (gN 3)
   (sSeq (sIf (bNot (bTru (eIsi "str" (eVar 3))))
    (sSeq (sRet (eC (.bl false)))
    sNil)
    sNil)
   sNil))
  (sSeq (sRet (eCmp eqD (eVar 2) (eVar 1)))
  sNil))))
/-- slots: 0 script 1 jar 2 many 3 text 4 turn 5 at 6 wide 7 wanted -/
def b_law (c__law_cut_right : List D → Mh → PQ → Prop) (c__law_cut_up : List D → Mh → PQ → Prop) (c__law_signs : List D → Mh → PQ → Prop) (c__law_pick : List D → Mh → PQ → Prop) (c__law_jar : List D → Mh → PQ → Prop) (c__law_piece : List D → Mh → PQ → Prop) : DS :=
  (sSeq (sAsg (eFn 2 c__law_jar (aCons (eVar 0) (aCons (eC (.int 0)) aNil))) (gN 1))
  (sSeq (sAsg (eBin ixD (eLst (aCons (eC (.int 0)) (aCons (eC (.int 1)) (aCons (eC (.int 2)) (aCons (eC (.int 3)) (aCons (eC (.int 5)) (aCons (eC (.int 8)) (aCons (eC (.int 13)) (aCons (eC (.int 30)) (aCons (eFn 2 c__law_pick (aCons (eVar 1) (aCons (eC (.int 61)) aNil))) aNil)))))))))) (eFn 2 c__law_pick (aCons (eVar 1) (aCons (eC (.int 9)) aNil)))) (gN 2))
  (sSeq (sAsg (eMt "str" joinD (eC (.str "")) (aCons (eLC (iRg1 (aCons (eVar 2) aNil)) (.nm 4) bYes (eFn 1 c__law_piece (aCons (eVar 1) aNil)) [4]) aNil)) (gN 3))
  (sSeq (sAsg (eFn 2 c__law_pick (aCons (eFn 2 c__law_jar (aCons (eVar 0) (aCons (eC (.int 1)) aNil))) (aCons (eBin addD (eCall lenD (aCons (eVar 3) aNil)) (eC (.int 1))) aNil))) (gN 5))
  (sSeq (sAsg (eBin addD (eBin addD (eBin addD (eSl (eVar 3) none (some (eVar 5))) (eFn 0 c__law_signs aNil)) (eC (.str "..->...-->aB1->>....."))) (eSl (eVar 3) (some (eVar 5)) none)) (gN 6))
  (sSeq (sAsg (eFn 1 c__law_cut_up (aCons (eVar 3) aNil)) (gN 7))
  (sSeq (sIf (bOr (bNot (bTru (eFn 2 c__law_cut_right (aCons (eVar 3) (aCons (eVar 7) aNil))))) (bNot (bTru (eFn 2 c__law_cut_right (aCons (eVar 6) (aCons (eFn 1 c__law_cut_up (aCons (eVar 6) aNil)) aNil))))))
   (sSeq (sRet (eC (.bl false)))
   sNil)
   sNil)
  (sSeq (sIf (bOr (bNot (bTru (eFn 2 c__law_cut_right (aCons (eMt "str" joinD (eC (.str " ")) (aCons (eCall listD (aCons (eVar 7) aNil)) aNil)) (aCons (eVar 7) aNil))))) (bNot (bTru (eFn 2 c__law_cut_right (aCons (eMt "str" joinD (eC (.str "\n")) (aCons (eCall listD (aCons (eVar 7) aNil)) aNil)) (aCons (eVar 7) aNil))))))
   (sSeq (sRet (eC (.bl false)))
   sNil)
   sNil)
  (sSeq (sRet (eAnd (eFn 2 c__law_cut_right (aCons (eBin addD (eBin addD (eC (.str "\n ")) (eVar 6)) (eC (.str " \n"))) (aCons (eFn 1 c__law_cut_up (aCons (eVar 6) aNil)) aNil))) (eFn 2 c__law_cut_right (aCons (eVar 3) (aCons (eVar 7) aNil)))))
  sNil)))))))))
end K04
/-! K04d: that these bodies are those of the text, printed by gen.py -/
namespace K04
open PySem DL L2

def topS (i : Nat) : Stmt := PySem.Challenge.pw_swapwarrant_k04_tokens.main.body.getD i (.Pass ⟨0, 0, 0, 0⟩)
abbrev s_is_run_sign : Stmt := topS 5
theorem sc_is_run_sign : FnScope ["sign"] ["sign"] (defScope s_is_run_sign) := ⟨rfl, rfl, rfl, by decide +kernel, rfl, by decide +kernel, by decide +kernel⟩
theorem den_is_run_sign : dB (dR 24) 24 (gmOf ["sign"] (defScope s_is_run_sign) [] [("CAPITALS", g_CAPITALS), ("FIGURES", g_FIGURES), ("LETTERS", g_LETTERS)]) (defBody s_is_run_sign) = some (b_is_run_sign) := by kernel_rfl
abbrev s_end_of_token : Stmt := topS 6
theorem sc_end_of_token : FnScope ["text", "at", "end"] ["text", "at"] (defScope s_end_of_token) := ⟨rfl, rfl, rfl, by decide +kernel, rfl, by decide +kernel, by decide +kernel⟩
theorem den_end_of_token (c_is_run_sign : DSp) : dB (dR 24) 24 (gmOf ["text", "at", "end"] (defScope s_end_of_token) [("is_run_sign", 1, c_is_run_sign)] [("PAIRS", g_PAIRS)]) (defBody s_end_of_token) = some (b_end_of_token c_is_run_sign) := by kernel_rfl
abbrev s_tokens_of : Stmt := topS 7
theorem sc_tokens_of : FnScope ["text", "found", "at", "end"] ["text"] (defScope s_tokens_of) := ⟨rfl, rfl, rfl, by decide +kernel, rfl, by decide +kernel, by decide +kernel⟩
theorem den_tokens_of (c_end_of_token : DSp) : dB (dR 24) 24 (gmOf ["text", "found", "at", "end"] (defScope s_tokens_of) [("end_of_token", 2, c_end_of_token)] []) (defBody s_tokens_of) = some (b_tokens_of c_end_of_token) := by kernel_rfl
abbrev s__law_cell : Stmt := topS 9
theorem sc__law_cell : FnScope ["script", "place"] ["script", "place"] (defScope s__law_cell) := ⟨rfl, rfl, rfl, by decide +kernel, rfl, by decide +kernel, by decide +kernel⟩
theorem den__law_cell : dB (dR 24) 24 (gmOf ["script", "place"] (defScope s__law_cell) [] []) (defBody s__law_cell) = some (b__law_cell) := by kernel_rfl
abbrev s__law_jar : Stmt := topS 10
theorem sc__law_jar : FnScope ["script", "place", "cell", "number"] ["script", "place"] (defScope s__law_jar) := ⟨rfl, rfl, rfl, by decide +kernel, rfl, by decide +kernel, by decide +kernel⟩
theorem den__law_jar (c__law_cell : DSp) : dB (dR 24) 24 (gmOf ["script", "place", "cell", "number"] (defScope s__law_jar) [("_law_cell", 2, c__law_cell)] []) (defBody s__law_jar) = some (b__law_jar c__law_cell) := by kernel_rfl
abbrev s__law_pick : Stmt := topS 11
theorem sc__law_pick : FnScope ["jar", "many", "found"] ["jar", "many"] (defScope s__law_pick) := ⟨rfl, rfl, rfl, by decide +kernel, rfl, by decide +kernel, by decide +kernel⟩
theorem den__law_pick : dB (dR 24) 24 (gmOf ["jar", "many", "found"] (defScope s__law_pick) [] []) (defBody s__law_pick) = some (b__law_pick) := by kernel_rfl
abbrev s__law_signs : Stmt := topS 12
theorem sc__law_signs : FnScope ["first"] [] (defScope s__law_signs) := ⟨rfl, rfl, rfl, by decide +kernel, rfl, by decide +kernel, by decide +kernel⟩
theorem den__law_signs : dB (dR 24) 24 (gmOf ["first"] (defScope s__law_signs) [] []) (defBody s__law_signs) = some (b__law_signs) := by kernel_rfl
abbrev s__law_run_signs : Stmt := topS 13
theorem sc__law_run_signs : FnScope [] [] (defScope s__law_run_signs) := ⟨rfl, rfl, rfl, by decide +kernel, rfl, by decide +kernel, by decide +kernel⟩
theorem den__law_run_signs : dB (dR 24) 24 (gmOf [] (defScope s__law_run_signs) [] []) (defBody s__law_run_signs) = some (b__law_run_signs) := by kernel_rfl
abbrev s__law_piece : Stmt := topS 14
theorem sc__law_piece : FnScope ["jar", "way", "signs", "run", "size", "turn"] ["jar"] (defScope s__law_piece) := ⟨rfl, rfl, rfl, by decide +kernel, rfl, by decide +kernel, by decide +kernel⟩
theorem den__law_piece (c__law_pick : DSp) (c__law_run_signs : DSp) (c__law_signs : DSp) : dB (dR 24) 24 (gmOf ["jar", "way", "signs", "run", "size", "turn"] (defScope s__law_piece) [("_law_pick", 2, c__law_pick), ("_law_run_signs", 0, c__law_run_signs), ("_law_signs", 0, c__law_signs)] []) (defBody s__law_piece) = some (b__law_piece c__law_pick c__law_run_signs c__law_signs) := by kernel_rfl
abbrev s__law_joined : Stmt := topS 15
theorem sc__law_joined : FnScope ["before", "sign", "points", "run"] ["before", "sign", "points"] (defScope s__law_joined) := ⟨rfl, rfl, rfl, by decide +kernel, rfl, by decide +kernel, by decide +kernel⟩
theorem den__law_joined (c__law_run_signs : DSp) : dB (dR 24) 24 (gmOf ["before", "sign", "points", "run"] (defScope s__law_joined) [("_law_run_signs", 0, c__law_run_signs)] []) (defBody s__law_joined) = some (b__law_joined c__law_run_signs) := by kernel_rfl
abbrev s__law_cut_up : Stmt := topS 16
theorem sc__law_cut_up : FnScope ["text", "found", "points", "before", "sign"] ["text"] (defScope s__law_cut_up) := ⟨rfl, rfl, rfl, by decide +kernel, rfl, by decide +kernel, by decide +kernel⟩
theorem den__law_cut_up (c__law_joined : DSp) : dB (dR 24) 24 (gmOf ["text", "found", "points", "before", "sign"] (defScope s__law_cut_up) [("_law_joined", 3, c__law_joined)] []) (defBody s__law_cut_up) = some (b__law_cut_up c__law_joined) := by kernel_rfl
abbrev s__law_cut_right : Stmt := topS 17
theorem sc__law_cut_right : FnScope ["text", "wanted", "answer", "token"] ["text", "wanted"] (defScope s__law_cut_right) := ⟨rfl, rfl, rfl, by decide +kernel, rfl, by decide +kernel, by decide +kernel⟩
theorem den__law_cut_right (c_tokens_of : DSp) : dB (dR 24) 24 (gmOf ["text", "wanted", "answer", "token"] (defScope s__law_cut_right) [("tokens_of", 1, c_tokens_of)] []) (defBody s__law_cut_right) = some (b__law_cut_right c_tokens_of) := by kernel_rfl
abbrev s_law : Stmt := topS 18
theorem sc_law : FnScope ["script", "jar", "many", "text", "turn", "at", "wide", "wanted"] ["script"] (defScope s_law) := ⟨rfl, rfl, rfl, by decide +kernel, rfl, by decide +kernel, by decide +kernel⟩
theorem den_law (c__law_cut_right : DSp) (c__law_cut_up : DSp) (c__law_signs : DSp) (c__law_pick : DSp) (c__law_jar : DSp) (c__law_piece : DSp) : dB (dR 24) 24 (gmOf ["script", "jar", "many", "text", "turn", "at", "wide", "wanted"] (defScope s_law) [("_law_cut_right", 2, c__law_cut_right), ("_law_cut_up", 1, c__law_cut_up), ("_law_signs", 0, c__law_signs), ("_law_pick", 2, c__law_pick), ("_law_jar", 2, c__law_jar), ("_law_piece", 1, c__law_piece)] []) (defBody s_law) = some (b_law c__law_cut_right c__law_cut_up c__law_signs c__law_pick c__law_jar c__law_piece) := by kernel_rfl
end K04
/-! K04m: tokens, in plain lists of signs. -/
namespace K04
open PySem DL

def runL : List Nat := (List.range 26).map (· + 97) ++ ((List.range 26).map (· + 65) ++ (List.range 10).map (· + 48))
def isRun (c : Nat) : Bool := decide (c ∈ runL)
def blank (c : Nat) : Bool := c == 32 || c == 10
def pairB (c : Nat) : List Nat → Bool
  | d :: _ => (c == 46 && d == 46) || (c == 45 && d == 62)
  | [] => false
def tokLen : List Nat → Nat
  | [] => 0
  | c :: r => if isRun c then 1 + (r.takeWhile isRun).length else if pairB c r then 2 else 1
theorem tokLen_cons {c : Nat} {r : List Nat} : tokLen (c :: r) = if isRun c = true then 1 + (r.takeWhile isRun).length else if pairB c r = true then 2 else 1 := rfl
theorem dw_le (r : List Nat) : (r.dropWhile isRun).length ≤ r.length := by
  have := congrArg List.length (List.takeWhile_append_dropWhile (p := isRun) (l := r))
  rw [List.length_append] at this
  omega
theorem tokLen_pos {c : Nat} {r : List Nat} : 1 ≤ tokLen (c :: r) := by
  rw [tokLen_cons]
  split
  · omega
  · split <;> omega
def tk : List Nat → List (List Nat)
  | [] => []
  | c :: r => if blank c then tk r else (c :: r).take (tokLen (c :: r)) :: tk ((c :: r).drop (tokLen (c :: r)))
termination_by l => l.length
decreasing_by
  · simp
  · have := @tokLen_pos c r
    simp only [List.length_drop, List.length_cons]
    omega
def joined (b c p : Nat) : Bool := if isRun c then isRun b else if c == 62 then b == 45 else if c == 46 then p % 2 == 1 else false
/-- the last one goes on -/
def onLast (f : List (List Nat)) (c : Nat) : List (List Nat) := f.set (f.length - 1) (f.getD (f.length - 1) [] ++ [c])
def cu : List Nat → List (List Nat) → Nat → Nat → List (List Nat)
  | [], f, _, _ => f
  | c :: r, f, p, b => cu r (if joined b c p then onLast f c else if blank c then f else f ++ [[c]]) (if c == 46 then p + 1 else 0) c
theorem onLast_app (f : List (List Nat)) (t : List Nat) (c : Nat) : onLast (f ++ [t]) c = f ++ [t ++ [c]] := by
  unfold onLast
  simp
theorem run_not {c : Nat} (h : isRun c = true) : blank c = false ∧ (c == 62) = false ∧ (c == 46) = false ∧ (c == 45) = false := by
  have : ∀ c ∈ runL, blank c = false ∧ (c == 62) = false ∧ (c == 46) = false ∧ (c == 45) = false := by decide +kernel
  exact this c (by simpa [isRun] using h)
theorem blank_not {c : Nat} (h : blank c = true) : isRun c = false ∧ (c == 62) = false ∧ (c == 46) = false ∧ (c == 45) = false := by
  have : c = 32 ∨ c = 10 := by simpa [blank] using h
  rcases this with rfl | rfl <;> decide +kernel
/-- nothing goes on here -/
def NB (l : List Nat) (p b : Nat) : Prop := ∀ c r, l = c :: r → joined b c p = false
theorem cu_run : ∀ (w r : List Nat) (f : List (List Nat)) (t : List Nat) (b : Nat), (∀ c ∈ w, isRun c = true) → isRun b = true → ∃ b', isRun b' = true ∧ cu (w ++ r) (f ++ [t]) 0 b = cu r (f ++ [t ++ w]) 0 b'
  | [], r, f, t, b, _, hb => ⟨b, hb, by simp⟩
  | c :: w, r, f, t, b, hw, hb => by
    have hc := hw c List.mem_cons_self
    obtain ⟨n1, n2, n3, n4⟩ := run_not hc
    obtain ⟨b', h1, h2⟩ := cu_run w r f (t ++ [c]) c (fun d hd => hw d (List.mem_cons_of_mem _ hd)) hc
    refine ⟨b', h1, ?_⟩
    show cu (w ++ r) _ _ _ = _
    rw [show joined b c 0 = true by unfold joined; rw [if_pos hc]; exact hb, if_pos rfl, onLast_app, n3]
    simp only [Bool.false_eq_true, if_false]
    rw [h2]; simp
theorem nb_blank {l : List Nat} {b : Nat} (h : blank b = true) : NB l 0 b := by
  obtain ⟨n1, n2, n3, n4⟩ := blank_not h
  intro c r e
  unfold joined
  rw [n1, n4]
  split
  · rfl
  · split
    · rfl
    · split <;> rfl
theorem take_run (c : Nat) (r : List Nat) : (c :: r).take (1 + (r.takeWhile isRun).length) = c :: r.takeWhile isRun ∧ (c :: r).drop (1 + (r.takeWhile isRun).length) = r.dropWhile isRun := by
  have h := List.takeWhile_append_dropWhile (p := isRun) (l := r)
  rw [Nat.add_comm]
  refine ⟨?_, ?_⟩
  · rw [List.take_succ_cons]
    have := List.take_left' (l₁ := r.takeWhile isRun) (l₂ := r.dropWhile isRun) rfl
    rw [h] at this
    rw [this]
  · rw [List.drop_succ_cons]
    have := List.drop_left' (l₁ := r.takeWhile isRun) (l₂ := r.dropWhile isRun) rfl
    rw [h] at this
    exact this
theorem cu_tk : ∀ (n : Nat) (l : List Nat) (f : List (List Nat)) (p b : Nat), l.length ≤ n → NB l p b → cu l f p b = f ++ tk l
  | n, [], f, p, b, _, _ => by simp [cu, tk]
  | 0, c :: r, f, p, b, h, _ => by simp at h
  | n + 1, c :: r, f, p, b, h, nb => by
    have hn : r.length ≤ n := by simpa using h
    show cu r _ _ _ = _
    rw [nb c r rfl]
    rw [tk]
    simp only [Bool.false_eq_true, if_false]
    by_cases hb : blank c = true
    · obtain ⟨n1, n2, n3, n4⟩ := blank_not hb
      rw [if_pos hb, if_pos hb, n3]
      simp only [Bool.false_eq_true, if_false]
      exact cu_tk n r f 0 c hn (nb_blank hb)
    · rw [if_neg hb, if_neg hb]
      by_cases hr : isRun c = true
      · -- a run
        obtain ⟨n1, n2, n3, n4⟩ := run_not hr
        have el : tokLen (c :: r) = 1 + (r.takeWhile isRun).length := by rw [tokLen_cons]; rw [if_pos hr]
        rw [el, (take_run c r).1, (take_run c r).2, n3]
        simp only [Bool.false_eq_true, if_false]
        have hw : ∀ d ∈ r.takeWhile isRun, isRun d = true := fun d hd => by
          have := List.all_takeWhile (p := isRun) (l := r)
          exact List.all_eq_true.mp this d hd
        obtain ⟨b', h1, h2⟩ := cu_run (r.takeWhile isRun) (r.dropWhile isRun) f [c] c hw hr
        rw [List.takeWhile_append_dropWhile] at h2
        rw [h2]
        have hd : (r.dropWhile isRun).length ≤ n := Nat.le_trans (dw_le r) hn
        rw [cu_tk n (r.dropWhile isRun) _ 0 b' hd ?_]
        · simp
        · intro d s e
          have nd : isRun d = false := by
            have := List.head?_dropWhile_not isRun r
            rw [e] at this
            simpa using this
          obtain ⟨m1, m2, m3, m4⟩ := run_not h1
          unfold joined
          rw [nd, m4]
          simp only [Bool.false_eq_true, if_false]
          split
          · rfl
          · split <;> rfl
      · have hr' : isRun c = false := by simpa using hr
        have hb' : blank c = false := by simpa using hb
        by_cases hp : pairB c r = true
        · -- a pair
          have el : tokLen (c :: r) = 2 := by rw [tokLen_cons]; rw [if_neg hr, if_pos hp]
          rw [el]
          cases r with
          | nil => simp [pairB] at hp
          | cons d s =>
            have hs : s.length ≤ n := by simp at hn; omega
            have hcd : (c = 46 ∧ d = 46) ∨ (c = 45 ∧ d = 62) := by simpa [pairB] using hp
            rcases hcd with ⟨rfl, rfl⟩ | ⟨rfl, rfl⟩
            · show cu (46 :: s) (f ++ [[46]]) (p + 1) 46 = _
              have np : p % 2 ≠ 1 := by
                have := nb 46 (46 :: s) rfl
                unfold joined at this
                rw [hr'] at this
                simpa using this
              show cu s _ _ _ = _
              rw [show joined 46 46 (p + 1) = true by unfold joined; rw [hr']; simp; omega, if_pos rfl, onLast_app]
              rw [cu_tk n s _ _ _ hs]
              · simp
              · intro x y e
                unfold joined
                rw [hr']
                split
                · rfl
                · split
                  · rfl
                  · split
                    · simp; omega
                    · rfl
            · show cu (62 :: s) (f ++ [[45]]) 0 45 = _
              show cu s _ _ _ = _
              have j1 : joined 45 62 0 = true := by decide +kernel
              rw [j1, if_pos rfl, onLast_app]
              show cu s (f ++ [[45] ++ [62]]) 0 62 = _
              rw [cu_tk n s _ _ _ hs]
              · simp
              · intro x y e
                have r62 : isRun 62 = false := by decide +kernel
                unfold joined
                rw [r62]
                split
                · rfl
                · split
                  · rfl
                  · split <;> rfl
        · -- a sign alone
          have el : tokLen (c :: r) = 1 := by rw [tokLen_cons]; rw [if_neg hr, if_neg hp]
          rw [el]
          rw [cu_tk n r _ _ _ hn]
          · simp
          · intro d s e
            subst e
            have hcd : ¬ ((c = 46 ∧ d = 46) ∨ (c = 45 ∧ d = 62)) := by simpa [pairB] using hp
            unfold joined
            rw [hr']
            split
            · rfl
            · split
              · rename_i h2
                have : d = 62 := by simpa using h2
                subst this
                simp only [not_or, not_and] at hcd
                simp only [beq_eq_false_iff_ne, ne_eq]
                intro e
                exact hcd.2 e trivial
              · split
                · rename_i h3
                  have : d = 46 := by simpa using h3
                  subst this
                  have nc : c ≠ 46 := fun e => hcd (.inl ⟨e, rfl⟩)
                  have : (c == 46) = false := by simpa using nc
                  rw [this]; rfl
                · rfl
theorem cu_all (l : List Nat) : cu l [] 0 32 = tk l := by
  rw [cu_tk l.length l [] 0 32 (Nat.le_refl _) (nb_blank (by decide))]; simp

/-! ### tokens joined -/
/-- a token -/
def Tok (t : List Nat) : Prop := t ≠ [] ∧ (∀ c ∈ t, blank c = false) ∧ ∀ r s, blank s = true → tokLen (t ++ s :: r) = t.length ∧ tokLen t = t.length
theorem tok_run {c : Nat} {w : List Nat} (hc : isRun c = true) (hw : ∀ d ∈ w, isRun d = true) : Tok (c :: w) := by
  refine ⟨by simp, fun d hd => ?_, fun r s hs => ?_⟩
  · rcases List.mem_cons.mp hd with rfl | hd
    · exact (run_not hc).1
    · exact (run_not (hw d hd)).1
  · have t1 : w.takeWhile isRun = w := by
      have := List.takeWhile_append_of_pos (l₂ := []) hw
      simpa using this
    have t2 : (w ++ s :: r).takeWhile isRun = w := by
      rw [List.takeWhile_append_of_pos hw, List.takeWhile_cons_of_neg (by rw [(blank_not hs).1]; simp)]
      simp
    constructor
    · show tokLen (c :: (w ++ s :: r)) = _
      rw [tokLen_cons]
      rw [if_pos hc, t2, List.length_cons]; omega
    · rw [tokLen_cons]
      rw [if_pos hc, t1, List.length_cons]; omega
theorem tk_toks : ∀ (n : Nat) (l : List Nat), l.length ≤ n → ∀ t ∈ tk l, Tok t
  | n, [], _ => by simp [tk]
  | 0, c :: r, h => by simp at h
  | n + 1, c :: r, h => by
    have hn : r.length ≤ n := by simpa using h
    rw [tk]
    by_cases hb : blank c = true
    · rw [if_pos hb]; exact tk_toks n r hn
    · rw [if_neg hb]
      have hb' : blank c = false := by simpa using hb
      intro t ht
      rcases List.mem_cons.mp ht with rfl | ht
      · by_cases hr : isRun c = true
        · have el : tokLen (c :: r) = 1 + (r.takeWhile isRun).length := by rw [tokLen_cons]; rw [if_pos hr]
          rw [el, (take_run c r).1]
          exact tok_run hr fun d hd => by
            have := List.all_takeWhile (p := isRun) (l := r)
            exact List.all_eq_true.mp this d hd
        · by_cases hp : pairB c r = true
          · have el : tokLen (c :: r) = 2 := by rw [tokLen_cons]; rw [if_neg hr, if_pos hp]
            rw [el]
            cases r with
            | nil => simp [pairB] at hp
            | cons d s =>
              have hcd : (c = 46 ∧ d = 46) ∨ (c = 45 ∧ d = 62) := by simpa [pairB] using hp
              rcases hcd with ⟨rfl, rfl⟩ | ⟨rfl, rfl⟩
              · show Tok [46, 46]
                refine ⟨by simp, by decide, fun r s hs => ⟨?_, by decide +kernel⟩⟩
                show tokLen (46 :: 46 :: s :: r) = 2
                rw [tokLen_cons]
                rw [if_neg (by decide +kernel), if_pos (by simp [pairB])]
              · show Tok [45, 62]
                refine ⟨by simp, by decide, fun r s hs => ⟨?_, by decide +kernel⟩⟩
                show tokLen (45 :: 62 :: s :: r) = 2
                rw [tokLen_cons]
                rw [if_neg (by decide +kernel), if_pos (by simp [pairB])]
          · have el : tokLen (c :: r) = 1 := by rw [tokLen_cons]; rw [if_neg hr, if_neg hp]
            rw [el]
            refine ⟨by simp, by simpa using hb', fun r s hs => ⟨?_, ?_⟩⟩
            · show tokLen (c :: s :: r) = 1
              rw [tokLen_cons]
              rw [if_neg hr, if_neg]
              obtain ⟨m1, m2, m3, m4⟩ := blank_not hs
              simp only [pairB, m2, m3, Bool.and_false, Bool.or_false, Bool.false_eq_true, not_false_eq_true]
            · show tokLen [c] = 1
              rw [tokLen_cons]
              rw [if_neg hr]; rfl
      · have hl : ((c :: r).drop (tokLen (c :: r))).length ≤ n := by
          have := @tokLen_pos c r
          simp only [List.length_drop, List.length_cons]
          omega
        exact tk_toks n _ hl t ht
theorem tk_one {t : List Nat} (h : Tok t) : tk t = [t] := by
  obtain ⟨h1, h2, h3⟩ := h
  cases t with
  | nil => exact absurd rfl h1
  | cons c w =>
    have h4 := (h3 [] 32 (by decide)).2
    rw [tk, if_neg (by rw [h2 c List.mem_cons_self]; simp), h4]
    simp [tk]
theorem tk_cons {t r : List Nat} {s : Nat} (h : Tok t) (hs : blank s = true) : tk (t ++ s :: r) = t :: tk r := by
  obtain ⟨h1, h2, h3⟩ := h
  cases t with
  | nil => exact absurd rfl h1
  | cons c w =>
    have h4 := (h3 r s hs).1
    have e : (c :: w) ++ s :: r = c :: (w ++ s :: r) := rfl
    rw [e] at h4 ⊢
    rw [tk, if_neg (by rw [h2 c List.mem_cons_self]; simp), h4, ← e, List.take_left' rfl, List.drop_left' rfl, tk, if_pos hs]
def joinS (s : Nat) : List (List Nat) → List Nat
  | [] => []
  | [t] => t
  | t :: u :: r => t ++ s :: joinS s (u :: r)
theorem tk_join {s : Nat} (hs : blank s = true) : ∀ ts : List (List Nat), (∀ t ∈ ts, Tok t) → tk (joinS s ts) = ts
  | [], _ => by simp [joinS, tk]
  | [t], h => tk_one (h t (by simp))
  | t :: u :: r, h => by
    rw [joinS, tk_cons (h t (by simp)) hs, tk_join hs (u :: r) fun x hx => h x (List.mem_cons_of_mem _ hx)]
theorem tk_join_tk {s : Nat} (hs : blank s = true) (l : List Nat) : tk (joinS s (tk l)) = tk l := tk_join hs _ (tk_toks _ l (Nat.le_refl _))
theorem tk_len : ∀ (n : Nat) (l : List Nat), l.length ≤ n → ((tk l).map (·.length)).sum ≤ l.length ∧ (tk l).length ≤ l.length
  | n, [], _ => by simp [tk]
  | 0, c :: r, h => by simp at h
  | n + 1, c :: r, h => by
    have hn : r.length ≤ n := by simpa using h
    rw [tk]
    by_cases hb : blank c = true
    · rw [if_pos hb]
      have := tk_len n r hn
      simp only [List.length_cons]; omega
    · rw [if_neg hb]
      have hp := @tokLen_pos c r
      have hl : ((c :: r).drop (tokLen (c :: r))).length ≤ n := by
        simp only [List.length_drop, List.length_cons]
        omega
      have := tk_len n _ hl
      simp only [List.length_drop, List.length_cons, List.map_cons, List.sum_cons, List.length_take] at this ⊢
      omega
theorem tk_mem : ∀ (n : Nat) (l : List Nat), l.length ≤ n → ∀ t ∈ tk l, ∀ c ∈ t, c ∈ l
  | n, [], _ => by simp [tk]
  | 0, c :: r, h => by simp at h
  | n + 1, c :: r, h => by
    have hn : r.length ≤ n := by simpa using h
    rw [tk]
    by_cases hb : blank c = true
    · rw [if_pos hb]
      exact fun t ht d hd => List.mem_cons_of_mem _ (tk_mem n r hn t ht d hd)
    · rw [if_neg hb]
      have hp := @tokLen_pos c r
      have hl : ((c :: r).drop (tokLen (c :: r))).length ≤ n := by
        simp only [List.length_drop, List.length_cons]
        omega
      intro t ht d hd
      rcases List.mem_cons.mp ht with rfl | ht
      · exact List.mem_of_mem_take hd
      · exact List.mem_of_mem_drop (tk_mem n _ hl t ht d hd)
theorem join_len {s : Nat} : ∀ ts : List (List Nat), (joinS s ts).length ≤ (ts.map (·.length)).sum + ts.length
  | [] => by simp [joinS]
  | [t] => by simp [joinS]
  | t :: u :: r => by
    have := join_len (s := s) (u :: r)
    simp only [joinS, List.length_append, List.length_cons, List.map_cons, List.sum_cons] at this ⊢
    omega
theorem join_mem {s : Nat} : ∀ (ts : List (List Nat)) (c : Nat), c ∈ joinS s ts → c = s ∨ ∃ t ∈ ts, c ∈ t
  | [], c, h => by simp [joinS] at h
  | [t], c, h => .inr ⟨t, by simp, h⟩
  | t :: u :: r, c, h => by
    rw [joinS] at h
    rcases List.mem_append.mp h with h | h
    · exact .inr ⟨t, by simp, h⟩
    · rcases List.mem_cons.mp h with h | h
      · exact .inl h
      · rcases join_mem (u :: r) c h with h | ⟨x, hx, hc⟩
        · exact .inl h
        · exact .inr ⟨x, List.mem_cons_of_mem _ hx, hc⟩

theorem joined_blank {b c p : Nat} (h : blank c = true) : joined b c p = false := by
  obtain ⟨n1, n2, n3, n4⟩ := blank_not h
  unfold joined
  rw [n1, n2, n3]; rfl
theorem cu_tail : ∀ (x : List Nat) (y f p b), (∀ c ∈ y, blank c = true) → cu (x ++ y) f p b = cu x f p b
  | [], [], f, p, b, _ => rfl
  | [], c :: y, f, p, b, h => by
    have hc := h c List.mem_cons_self
    show cu y _ _ _ = f
    rw [joined_blank hc, hc]
    simp only [Bool.false_eq_true, if_false, if_true]
    exact cu_tail [] y f _ c fun d hd => h d (List.mem_cons_of_mem _ hd)
  | a :: x, y, f, p, b, h => by
    show cu (x ++ y) _ _ _ = cu x _ _ _
    exact cu_tail x y _ _ _ h
theorem tk_around (x : List Nat) : tk ([10, 32] ++ x ++ [32, 10]) = tk x := by
  rw [← cu_all, List.append_assoc]
  show cu (x ++ [32, 10]) [] 0 32 = _
  rw [cu_tail x [32, 10] _ _ _ (by decide), cu_all]
end K04
/-! K04p: what each def of k04 does. -/
namespace K04
open PySem DL L2
-- what the heap holds at a place
local macro_rules | `(tactic| walk_at "h") => `(tactic| first
  | assumption
  | exact mup_same
  | (refine (mup_ne ?_).trans ?_ <;> first | assumption | (apply Ne.symm; assumption) | walk_at "h"))
-- small facts of numbers
local macro_rules | `(tactic| walk_at "n") => `(tactic| first
  | assumption
  | omega
  | decide
  | (exact CMul.r (by decide))
  | (exact CMul.l (by decide))
  | (refine ⟨?_, ?_⟩ <;> first | assumption | omega | decide))
-- lengths
local macro_rules | `(tactic| walk_at "l") => `(tactic| first
  | assumption
  | (rw [sizeLine_eq]; first | omega | decide | (simp; done) | (simp; omega) | decide +kernel))
-- one step
local macro_rules | `(tactic| walk_at "e1") => `(tactic| first
  | with_reducible refine t_nil ?_
  | ((with_reducible refine' t_var ?s ?_); (case s => first | assumption | exact rfl))
  | with_reducible refine t_c ?_
  | with_reducible refine t_bin ?_
  | with_reducible refine t_if ?_
  | with_reducible refine t_asg ?_
  | with_reducible refine t_gN ?_
  | with_reducible refine t_ret ?_
  | with_reducible refine t_exp ?_
  | with_reducible refine t_bcmp ?_
  | with_reducible refine t_band ?_
  | with_reducible refine t_bor ?_
  | with_reducible refine t_bnot ?_
  | with_reducible refine t_btru ?_
  | with_reducible refine t_byes ?_
  | with_reducible refine t_an ?_
  | with_reducible refine t_ac ?_
  | with_reducible refine t_fn ?_
  | with_reducible refine t_call ?_
  | with_reducible refine t_cmp ?_
  | with_reducible refine t_and ?_
  | with_reducible refine t_or ?_
  | with_reducible refine t_not ?_
  | with_reducible refine t_ife ?_
  | with_reducible refine t_tup ?_
  | with_reducible refine t_lst ?_
  | with_reducible refine t_isi ?_
  | with_reducible refine t_sl ?_
  | with_reducible refine t_o0 ?_
  | with_reducible refine t_o1 ?_
  | with_reducible refine t_un ?_
  | with_reducible refine t_mt ?_
  | with_reducible refine t_gS ?_
  | with_reducible refine t_gsC ?_
  | with_reducible refine t_gsN ?_
  | ((with_reducible refine t_gT ?s ?_); (case s => first | assumption | exact rfl))
  | with_reducible refine t_retN ?_
  | with_reducible refine t_brk ?_
  | with_reducible refine t_cnt ?_
  | ((with_reducible refine' t_aug ?s ?_); (case s => first | assumption | exact rfl))
  | with_reducible refine t_for ?_
  | with_reducible refine t_seqi ?_
  | with_reducible refine t_rg1 ?_
  | with_reducible refine t_rg2 ?_
  | with_reducible refine t_lc ?_
  | with_reducible refine v_tru_bl ?_
  | with_reducible refine v_tru_int ?_
  | with_reducible refine v_tru_non ?_
  | with_reducible refine v_tru_tup ?_
  | with_reducible refine v_add_int ?_
  | ((with_reducible refine v_add_str ?l ?_); (case l => walk_at "l"))
  | ((with_reducible refine v_add_tup ?l ?_); (case l => walk_at "l"))
  | with_reducible refine v_iadd_int ?_
  | with_reducible refine v_sub ?_
  | ((with_reducible refine v_mul ?c ?_); (case c => walk_at "n"))
  | ((with_reducible refine v_div ?c ?_); (case c => walk_at "n"))
  | ((with_reducible refine v_mod ?c ?_); (case c => walk_at "n"))
  | ((with_reducible refine v_pow ?c ?_); (case c => exact ⟨by decide, by decide, by decide⟩))
  | with_reducible refine v_neg ?_
  | with_reducible exact trivial
  | with_reducible refine v_eq_int ?_
  | with_reducible refine v_eq_str ?_
  | with_reducible refine v_eq_bl ?_
  | with_reducible refine v_ne_int ?_
  | with_reducible refine v_ne_str ?_
  | with_reducible refine v_ne_bl ?_
  | with_reducible refine v_lt ?_
  | with_reducible refine v_le ?_
  | with_reducible refine v_gt ?_
  | with_reducible refine v_ge ?_
  | with_reducible refine v_isi_non ?_
  | with_reducible refine v_isi_bl ?_
  | with_reducible refine v_isi_int ?_
  | with_reducible refine v_isi_str ?_
  | with_reducible refine v_isi_tup ?_
  | with_reducible refine v_in_str ?_
  | with_reducible refine v_nin_str ?_
  | with_reducible refine v_len_tup ?_
  | with_reducible refine v_len_rol ?_
  | ((with_reducible refine v_len_str ?l ?_); (case l => walk_at "l"))
  | ((with_reducible refine' v_len_ref ?e ?_); (case e => walk_at "h"))
  | with_reducible refine v_int_int ?_
  | with_reducible refine v_max ?_
  | with_reducible refine v_min ?_
  | with_reducible refine v_tuple_tup ?_
  | ((with_reducible refine' v_tuple_ref ?e ?_); (case e => walk_at "h"))
  | ((with_reducible refine' v_ix_ref ?e ?f ?_); (case e => walk_at "h"); (case f => first | assumption | exact rfl))
  | ((with_reducible refine' v_ix_tup ?f ?_); (case f => first | assumption | exact rfl))
  | ((with_reducible refine' v_set ?e ?f ?_); (case e => walk_at "h"); (case f => first | assumption | exact rfl))
  | ((with_reducible refine v_sl_str ?l ?_); (case l => walk_at "l"))
  | with_reducible refine v_sl_tup ?_
  | with_reducible refine v_seq_tup ?_
  | with_reducible refine v_seq_str ?_
  | with_reducible refine v_seq_rol ?_
  | ((with_reducible refine' v_seq_ref ?e ?_); (case e => walk_at "h"))
  | ((with_reducible refine' ⟨v_ty_ref ?e, ?_⟩); (case e => walk_at "h"))
  | ((with_reducible refine' v_append ?e ?l ?_); (case e => walk_at "h"); (case l => walk_at "l")))
local macro_rules | `(tactic| walk_at "d1") => `(tactic| first | with_reducible refine t_seq ?_ | walk_at "e1")
local macro_rules | `(tactic| walk_at "d") => `(tactic| repeat walk_at "d1")
-- one statement
local macro_rules | `(tactic| walk_at "e") => `(tactic| ((repeat walk_at "e1"); try (with_reducible show sSeq _ _ _ _ _)))
local macro_rules | `(tactic| walk_at "s") => `(tactic| ((with_reducible refine t_seq ?_); walk_at "e"))
abbrev tokD (t : List Nat) : D := .str (st t)
theorem run_eq (c : Nat) : isRun c = (strIn (st [c]) "abcdefghijklmnopqrstuvwxyz" || (strIn (st [c]) "ABCDEFGHIJKLMNOPQRSTUVWXYZ" || strIn (st [c]) "0123456789")) := by
  have e : runL = (("abcdefghijklmnopqrstuvwxyz" : String) : Str).cps.toList ++ ((("ABCDEFGHIJKLMNOPQRSTUVWXYZ" : String) : Str).cps.toList ++ (("0123456789" : String) : Str).cps.toList) := by decide +kernel
  unfold isRun
  rw [← st_push, strIn_one, strIn_one, strIn_one, e]
  simp only [List.mem_append, Bool.decide_or]
theorem run_eq2 (c : Nat) : isRun c = strIn (st [c]) "abcdefghijklmnopqrstuvwxyzABCDEFGHIJKLMNOPQRSTUVWXYZ0123456789" := by
  have e : runL = (("abcdefghijklmnopqrstuvwxyzABCDEFGHIJKLMNOPQRSTUVWXYZ0123456789" : String) : Str).cps.toList := by decide +kernel
  unfold isRun
  rw [← st_push, strIn_one, e]
def sp_is_run_sign : DSp := fun ds M P => ∃ c, ds = [.str (st [c])] ∧ P (.bl (isRun c)) M
theorem ok_is_run_sign (ds : List D) (M : Mh) (P : PQ) (h : sp_is_run_sign ds M P) : b_is_run_sign { nx := fun _ M' => P .non M', rt := P } (startD 1 ds) M := by
  obtain ⟨c, rfl, k⟩ := h
  rw [run_eq] at k
  unfold b_is_run_sign
  walk_at "d"
  refine t_ite (fun e => ?_) (fun e => ?_)
  · rw [e] at k ⊢; exact k
  · walk_at "d"
    rw [e] at k
    refine t_ite (fun e2 => ?_) (fun e2 => ?_)
    · rw [e2] at k ⊢; exact k
    · walk_at "d"
      rw [e2] at k; exact k
theorem pair_eq (c : Nat) (r : List Nat) : memD (.str (st ((c :: r).take 2))) [.str "..", .str "->"] = pairB c r := by
  have e1 : (("..": String) : Str) = st [46, 46] := by decide +kernel
  have e2 : (("->": String) : Str) = st [45, 62] := by decide +kernel
  unfold memD
  simp only [List.any_cons, List.any_nil, deq_str, Bool.or_false, e1, e2, st_beq]
  cases r with
  | nil => simp [pairB]
  | cons d s =>
    simp only [pairB, List.take_succ_cons, List.take_zero]
    rw [Bool.eq_iff_iff]
    simp
    omega
theorem tw_next {p : Nat → Bool} : ∀ (r : List Nat) (k : Nat), k ≤ (r.takeWhile p).length → (∀ c, r[k]? = some c → p c = true → k + 1 ≤ (r.takeWhile p).length) ∧ (∀ c, r[k]? = some c → p c = false → (r.takeWhile p).length = k) ∧ (r.length ≤ k → (r.takeWhile p).length = k)
  | [], k, h => by simp at h; subst h; simp
  | d :: r, 0, h => by
    refine ⟨fun c e hc => ?_, fun c e hc => ?_, fun e => by simp at e⟩
    · simp at e; subst e
      rw [List.takeWhile_cons_of_pos hc]; simp
    · simp at e; subst e
      rw [List.takeWhile_cons_of_neg (by rw [hc]; simp)]; rfl
  | d :: r, k + 1, h => by
    by_cases hd : p d = true
    · rw [List.takeWhile_cons_of_pos hd] at h ⊢
      simp only [List.length_cons, Nat.add_le_add_iff_right, List.getElem?_cons_succ] at h ⊢
      obtain ⟨h1, h2, h3⟩ := tw_next (p := p) r k h
      exact ⟨h1, fun c e hc => by rw [h2 c e hc], fun e => by rw [h3 (by omega)]⟩
    · rw [List.takeWhile_cons_of_neg hd] at h
      simp at h
def sp_end_of_token : DSp := fun ds M P => ∃ (l : List Nat) (a c : Nat) (r : List Nat), ds = [.str (st l), .int a] ∧ l.length ≤ 100000 ∧ l.drop a = c :: r ∧ P (.int ((a + tokLen (c :: r) : Nat) : Int)) M
theorem ok_end_of_token (ds : List D) (M : Mh) (P : PQ) (h : sp_end_of_token ds M P) : b_end_of_token sp_is_run_sign { nx := fun _ M' => P .non M', rt := P } (startD 3 ds) M := by
  obtain ⟨l, a, c, r, rfl, hl, hd, k⟩ := h
  have hal : a < l.length := by
    have := congrArg List.length hd
    simp at this
    omega
  have hlen : (st l).length ≤ sizeLine := by rw [st_len, sizeLine_eq]; omega
  have hr : l.drop (a + 1) = r := by rw [← List.drop_drop, hd]; rfl
  have hsz : l.length = a + 1 + r.length := by
    have := congrArg List.length hd
    simp at this
    omega
  have at_ : ∀ (i : Nat) (x : Nat), l[i]? = some x → atI (st l).cps.toList (i : Int) = some x := fun i x e => by rw [st_cps]; exact atI_nat e
  have hc : l[a]? = some c := by
    have := congrArg (·[0]?) hd
    simpa using this
  have hlr : ∀ j, l[a + 1 + j]? = r[j]? := fun j => by rw [← hr, List.getElem?_drop]
  unfold b_end_of_token
  walk_at "s"
  refine v_ix_str hlen (at_ a c hc) ?_
  walk_at "e"
  refine ⟨rfl, c, rfl, ?_⟩
  walk_at "e"
  refine t_ite (fun e => ?_) (fun e => ?_)
  · -- a run
    rw [tokLen_cons, e, if_pos rfl] at k
    walk_at "s"
    refine t_cut (fun ρ M' => ρ = [some (.str (st l)), some (.int a), some (.int ((a + (1 + (r.takeWhile isRun).length) : Nat) : Int))] ∧ M' = M) (fun N hN => ?_) ?_
    · refine while_each (fun m ρ M' => M' = M ∧ ∃ j : Nat, ρ = [some (.str (st l)), some (.int a), some (.int ((a + 1 + j : Nat) : Int))] ∧ j ≤ (r.takeWhile isRun).length ∧ m = r.length - j) r.length ⟨rfl, 0, rfl, Nat.zero_le _, rfl⟩ ?_
      rintro N2 m ρ M' ⟨rfl, j, rfl, hj, rfl⟩ hN2
      obtain ⟨f1, f2, f3⟩ := tw_next r j hj
      walk_at "e"
      refine t_ite (fun e2 => ?_) (fun e2 => ?_)
      · have e2 : ((a + 1 + j : Nat) : Int) < ((st l).length : Int) := of_decide_eq_true e2
        rw [st_len] at e2
        have hjr : j < r.length := by omega
        have hx : l[a + 1 + j]? = some r[j] := by rw [hlr]; exact List.getElem?_eq_getElem hjr
        walk_at "e"
        refine v_ix_str hlen (at_ _ _ hx) ?_
        walk_at "e"
        refine ⟨rfl, _, rfl, ?_⟩
        walk_at "e"
        refine t_ite (fun e3 => ?_) (fun e3 => ?_)
        · walk_at "d"
          have := f1 _ (List.getElem?_eq_getElem hjr) e3
          exact hN2 (r.length - (j + 1)) _ _ (by omega) ⟨rfl, j + 1, rfl, this, rfl⟩
        · have := f2 _ (List.getElem?_eq_getElem hjr) e3
          refine hN _ _ ⟨?_, rfl⟩
          rw [this, show a + (1 + j) = a + 1 + j by omega]
      · have e2 : ¬ ((a + 1 + j : Nat) : Int) < ((st l).length : Int) := of_decide_eq_false e2
        rw [st_len] at e2
        refine t_if0 rfl ?_
        refine hN _ _ ⟨?_, rfl⟩
        rw [f3 (by omega), show a + (1 + j) = a + 1 + j by omega]
    · rintro ρ M' ⟨rfl, rfl⟩
      walk_at "d"
      exact k
  · rw [tokLen_cons, e, if_neg Bool.false_ne_true] at k
    walk_at "e"
    walk_at "s"
    have ec : cutS (st l) (some (a : Int)) (some ((a : Int) + 2)) = st ((c :: r).take 2) := by
      rw [show (a : Int) + 2 = ((a + 2 : Nat) : Int) by simp, st_cut_nat, hd]
      simp
    rw [ec]
    refine v_in_tup ⟨rfl, rfl⟩ ?_
    walk_at "e"
    rw [pair_eq]
    refine t_ite (fun e2 => ?_) (fun e2 => ?_)
    · rw [e2, if_pos rfl] at k
      walk_at "d"
      exact k
    · rw [e2, if_neg Bool.false_ne_true] at k
      walk_at "d"
      exact k

def sp_tokens_of : DSp := fun ds M P => ∃ l : List Nat, ds = [.str (st l)] ∧ l.length ≤ 100000 ∧ ∀ M', MExt M M' → P (.tup ((tk l).map tokD)) M'
theorem tk_step {l : List Nat} {a c : Nat} {r : List Nat} (h : l.drop a = c :: r) : tk (l.drop a) = if blank c then tk (l.drop (a + 1)) else (l.drop a).take (tokLen (l.drop a)) :: tk (l.drop (a + tokLen (l.drop a))) := by
  rw [← List.drop_drop, ← List.drop_drop, h]
  rw [tk]; rfl
theorem ok_tokens_of (ds : List D) (M : Mh) (P : PQ) (h : sp_tokens_of ds M P) : b_tokens_of sp_end_of_token { nx := fun _ M' => P .non M', rt := P } (startD 4 ds) M := by
  obtain ⟨l, rfl, hl, k⟩ := h
  have hlen : (st l).length ≤ sizeLine := by rw [st_len, sizeLine_eq]; omega
  have at_ : ∀ (i : Nat) (x : Nat), l[i]? = some x → atI (st l).cps.toList (i : Int) = some x := fun i x e => by rw [st_cps]; exact atI_nat e
  unfold b_tokens_of
  walk_at "s"
  refine ⟨by walk_at "l", fun p np => ?_⟩
  walk_at "e"
  walk_at "s"
  refine t_cut (fun ρ M' => ∃ x2 x3, ρ = [some (.str (st l)), some (.ref p), x2, x3] ∧ M' p = some (.lst ((tk l).map tokD)) ∧ MExt M M') (fun N hN => ?_) ?_
  · refine while_each (fun m ρ M' => ∃ (a : Nat) (acc : List (List Nat)) (x3 : Option D), ρ = [some (.str (st l)), some (.ref p), some (.int (a : Int)), x3] ∧ M' p = some (.lst (acc.map tokD)) ∧ MExt M M' ∧ acc ++ tk (l.drop a) = tk l ∧ a ≤ l.length ∧ acc.length ≤ a ∧ m = l.length - a) l.length
      ⟨0, [], none, rfl, mup_same, .fresh np, rfl, Nat.zero_le _, Nat.le_refl _, rfl⟩ ?_
    rintro N2 m ρ M' ⟨a, acc, x3, rfl, hp, hM, hacc, ha, hz, rfl⟩ hN2
    walk_at "e"
    refine t_ite (fun e => ?_) (fun e => ?_)
    · have e : (a : Int) < ((st l).length : Int) := of_decide_eq_true e
      rw [st_len] at e
      have hal : a < l.length := by omega
      obtain ⟨c, hc⟩ : ∃ c, l[a]? = some c := ⟨_, List.getElem?_eq_getElem hal⟩
      have hd : l.drop a = c :: l.drop (a + 1) := by
        rw [List.drop_eq_getElem_cons hal]
        rw [List.getElem?_eq_getElem hal] at hc
        cases hc; rfl
      have hstep := tk_step hd
      walk_at "s"
      refine v_ix_str hlen (at_ a c hc) ?_
      walk_at "e"
      have b1 : ((⟨#[c]⟩ : Str) == ((" " : String) : Str)) = (c == 32) := by
        rw [show ((" " : String) : Str) = st [32] by decide +kernel, st_push, st_beq]
        simp
      have b2 : ((⟨#[c]⟩ : Str) == (("\n" : String) : Str)) = (c == 10) := by
        rw [show (("\n" : String) : Str) = st [10] by decide +kernel, st_push, st_beq]
        simp
      rw [b1]
      have skip : blank c = true → ∃ acc', M' p = some (.lst (acc'.map tokD)) ∧ acc' ++ tk (l.drop (a + 1)) = tk l ∧ acc'.length ≤ a + 1 := fun hb => ⟨acc, hp, by rw [hstep, if_pos hb] at hacc; exact hacc, by omega⟩
      refine t_ite (fun e1 => ?_) (fun e1 => ?_)
      · walk_at "d"
        obtain ⟨acc', h1, h2, h3⟩ := skip (by unfold blank; rw [e1]; rfl)
        exact hN2 (l.length - (a + 1)) _ _ (by omega) ⟨a + 1, acc', x3, rfl, h1, hM, h2, hal, h3, rfl⟩
      · walk_at "e"
        refine v_ix_str hlen (at_ a c hc) ?_
        walk_at "e"
        rw [b2]
        refine t_ite (fun e2 => ?_) (fun e2 => ?_)
        · walk_at "d"
          obtain ⟨acc', h1, h2, h3⟩ := skip (by unfold blank; rw [e2, Bool.or_true])
          exact hN2 (l.length - (a + 1)) _ _ (by omega) ⟨a + 1, acc', x3, rfl, h1, hM, h2, hal, h3, rfl⟩
        · have hb : blank c = false := by unfold blank; rw [e1, e2]; rfl
          rw [hb] at hstep
          walk_at "d"
          refine ⟨rfl, l, a, c, l.drop (a + 1), rfl, hl, hd, ?_⟩
          walk_at "d"
          have ec : cutS (st l) (some (a : Int)) (some ((a + tokLen (c :: l.drop (a + 1)) : Nat) : Int)) = st ((l.drop a).take (tokLen (l.drop a))) := by
            rw [st_cut_nat, hd]
            congr 2
            omega
          rw [ec]
          have tp := @tokLen_pos c (l.drop (a + 1))
          have tl : tokLen (c :: l.drop (a + 1)) ≤ l.length - a := by
            rw [tokLen_cons]
            have h1 : ((l.drop (a + 1)).takeWhile isRun).length ≤ (l.drop (a + 1)).length := by
              have := congrArg List.length (List.takeWhile_append_dropWhile (p := isRun) (l := l.drop (a + 1)))
              rw [List.length_append] at this
              omega
            rw [List.length_drop] at h1
            split
            · omega
            · split
              · rename_i hpb
                cases hr : l.drop (a + 1) with
                | nil => rw [hr] at hpb; simp [pairB] at hpb
                | cons d s =>
                  have := congrArg List.length hr
                  simp at this
                  omega
              · omega
          refine hN2 (l.length - (a + tokLen (c :: l.drop (a + 1)))) _ _ (by omega) ⟨a + tokLen (c :: l.drop (a + 1)), acc ++ [(l.drop a).take (tokLen (l.drop a))], _, rfl, ?_, ?_, ?_, by omega, ?_, rfl⟩
          · rw [List.map_append]; exact mup_same
          · exact hM.over np
          · rw [List.append_assoc, ← hacc, hstep, hd]
            simp
          · rw [List.length_append]
            simp
            omega
    · have e : ¬ (a : Int) < ((st l).length : Int) := of_decide_eq_false e
      rw [st_len] at e
      have ea : a = l.length := by omega
      subst ea
      rw [List.drop_length] at hacc
      simp only [tk, List.append_nil] at hacc
      subst hacc
      exact hN _ _ ⟨_, _, rfl, hp, hM⟩
  · rintro ρ M' ⟨x2, x3, rfl, hp, hM⟩
    walk_at "d"
    exact k _ hM

def SG : Str := ((" !\"#$&'()*+,-./0123456789:;<=>?@ABCDEFGHIJKLMNOPQRSTUVWXYZ[\\]^_`" : String) : Str) ++ (("abcdefghijklmnopqrstuvwxyz{|}~\n" : String) : Str)
def sp_signs : DSp := fun ds M P => ds = [] ∧ P (.str SG) M
theorem ok_signs (ds : List D) (M : Mh) (P : PQ) (h : sp_signs ds M P) : b__law_signs { nx := fun _ M' => P .non M', rt := P } (startD 1 ds) M := by
  obtain ⟨rfl, k⟩ := h
  unfold b__law_signs
  walk_at "d"
  exact k
abbrev RS : Str := (("abcdefghijklmnopqrstuvwxyzABCDEFGHIJKLMNOPQRSTUVWXYZ0123456789" : String) : Str)
def sp_run_signs : DSp := fun ds M P => ds = [] ∧ P (.str RS) M
theorem ok_run_signs (ds : List D) (M : Mh) (P : PQ) (h : sp_run_signs ds M P) : b__law_run_signs { nx := fun _ M' => P .non M', rt := P } (startD 0 ds) M := by
  obtain ⟨rfl, k⟩ := h
  unfold b__law_run_signs
  walk_at "d"
  exact k
/-- a text of few, small signs -/
def Okz (n : Nat) (z : Str) : Prop := z.length ≤ n ∧ z.cps.toList.all (fun c => decide (c < 128)) = true
instance (n : Nat) (z : Str) : Decidable (Okz n z) := inferInstanceAs (Decidable (_ ∧ _))
theorem Okz.mono {n m : Nat} {z : Str} (h : Okz n z) (l : n ≤ m) : Okz m z := ⟨Nat.le_trans h.1 l, h.2⟩
theorem okz_sign {z : Str} {n : Nat} (h : Okz n z) {c : Nat} (hc : c ∈ z.cps.toList) : Okz 40 ⟨#[c]⟩ := by
  have := List.all_eq_true.mp h.2 c hc
  exact ⟨by show 1 ≤ 40; decide, by simpa using this⟩
theorem okz_cat {n : Nat} : ∀ (ys : List Str), (∀ y ∈ ys, Okz n y) → (ys.flatMap lit).length ≤ n * ys.length ∧ ∀ c ∈ ys.flatMap lit, c < 128
  | [], _ => by simp
  | y :: ys, h => by
    obtain ⟨h1, h2⟩ := okz_cat ys fun x hx => h x (List.mem_cons_of_mem _ hx)
    obtain ⟨h3, h4⟩ := h y List.mem_cons_self
    refine ⟨?_, fun c hc => ?_⟩
    · rw [List.flatMap_cons, List.length_append, lit_len, List.length_cons, Nat.mul_add]
      omega
    · rw [List.flatMap_cons] at hc
      rcases List.mem_append.mp hc with hc | hc
      · simpa using List.all_eq_true.mp h4 c hc
      · exact h2 c hc
theorem okz_join {n : Nat} (ys : List Str) (h : ∀ y ∈ ys, Okz n y) : Okz (n * ys.length) (Txt.join "" ys) := by
  obtain ⟨h1, h2⟩ := okz_cat ys h
  rw [← join_empty] at h1 h2
  exact ⟨by rw [← lit_len]; exact h1, List.all_eq_true.mpr fun c hc => decide_eq_true (h2 c hc)⟩
theorem okz_sum {n : Nat} : ∀ (ys : List Str), (∀ y ∈ ys, Okz n y) → (ys.map (·.length)).sum ≤ n * ys.length
  | [], _ => by simp
  | y :: ys, h => by
    have h1 := okz_sum ys fun x hx => h x (List.mem_cons_of_mem _ hx)
    have h3 := (h y List.mem_cons_self).1
    rw [List.map_cons, List.sum_cons, List.length_cons, Nat.mul_add]
    omega
def sp_piece : DSp := fun ds M P => ∃ j, ds = [.ref j] ∧ JarOk M j ∧ ∀ z M', Okz 40 z → MKeep (· = j) M M' → JarOk M' j → P (.str z) M'
theorem ok_piece (ds : List D) (M : Mh) (P : PQ) (h : sp_piece ds M P) : b__law_piece sp_pick sp_run_signs sp_signs { nx := fun _ M' => P .non M', rt := P } (startD 6 ds) M := by
  obtain ⟨j, rfl, hj, k⟩ := h
  have put : ∀ {M : Mh} {o : MO}, MKeep (· = j) M (mup M j o) := MKeep.put rfl
  have sg : SG.length = 95 ∧ Okz 95 SG := by decide +kernel
  have rs : RS.length = 62 ∧ Okz 62 RS := by decide +kernel
  -- a menu of texts
  have menu : ∀ (zs : List Str) (ρ : Ev) (M0 : Mh) (a : DT), (∀ z ∈ zs, Okz 40 z) → 0 < zs.length → zs.length ≤ 1000 → slot ρ 0 = some (.ref j) → JarOk M0 j → MKeep (· = j) M M0 → ∀ p, M0 p = none →
      eFn 2 sp_pick (aCons (eVar 0) (aCons (eC (.int zs.length)) aNil)) ρ (mup M0 p (.lst (zs.map D.str))) (fun y M2 => ixD (.ref p) y M2 P) := by
    intro zs ρ M0 a hz h0 h1 s0 j0 m0 p np
    walk_at "d"
    have jp : j ≠ p := j0.ne np
    have j0' : JarOk (mup M0 p (.lst (zs.map D.str))) j := j0.keep (.fresh (S := fun _ => False) np) (fun z => z)
    refine c_pick j0' (by omega) fun i o2 i0 i1 j2 => ?_
    obtain ⟨z, h2, h3⟩ := atI_map (f := D.str) (zs := zs) i0 i1
    refine v_ix_ref (ds := zs.map D.str) (by rw [mup_ne jp.symm]; exact mup_same) h3 ?_
    exact k z _ (hz z h2) ((m0.trans (.fresh np)).trans put) j2
  unfold b__law_piece
  walk_at "s"
  refine c_pick hj (by decide) fun way o1 w0 w1 j1 => ?_
  walk_at "d"
  refine ⟨rfl, rfl, ?_⟩
  walk_at "d"
  refine t_ite (fun e => ?_) (fun e => ?_)
  · walk_at "d"
    refine c_pick j1 (by rw [sg.1]; decide) fun i o2 i0 i1 j2 => ?_
    rw [mup_mup] at j2 ⊢
    obtain ⟨c, h1, h2, _⟩ := atI_mem (ds := SG.cps.toList) i0 (by
      have : SG.cps.toList.length = SG.length := by simp [Str.length]
      rw [this]; exact i1)
    refine v_ix_str (by rw [sg.1]; walk_at "l") h1 ?_
    exact k _ _ (okz_sign sg.2 h2) put j2
  walk_at "d"
  refine t_ite (fun e => ?_) (fun e => ?_)
  · walk_at "d"
    refine c_pick j1 (by decide) fun i o2 i0 i1 j2 => ?_
    rw [mup_mup] at j2 ⊢
    walk_at "d"
    refine k _ _ ?_ put j2
    have : (i = 0 ∨ i = 1) ∨ (i = 2 ∨ i = 3) ∨ i = 4 := by omega
    rcases this with (rfl | rfl) | (rfl | rfl) | rfl <;> decide +kernel
  walk_at "d"
  refine t_ite (fun e => ?_) (fun e => ?_)
  · walk_at "d"
    refine ⟨by walk_at "l", fun p np => ?_⟩
    exact menu ["->", "-", ">", "-->", "->>", ">-", "-.>", "->->", ".->..", "> ", "- >", "-\n>"] _ _ (eVar 0) (by decide +kernel) (by decide) (by decide) rfl j1 put p np
  walk_at "d"
  refine t_ite (fun e => ?_) (fun e => ?_)
  · walk_at "d"
    refine ⟨by walk_at "l", fun p np => ?_⟩
    exact menu [" ", "\n", "  ", " \n", "\n\n", ". .", ".\n."] _ _ (eVar 0) (by decide +kernel) (by decide) (by decide) rfl j1 put p np
  walk_at "d"
  refine t_ite (fun e => ?_) (fun e => ?_)
  · walk_at "d"
    refine ⟨by walk_at "l", fun p np => ?_⟩
    exact menu ["{", "}", ":", ";", "{}", "};", ":;", "}}"] _ _ (eVar 0) (by decide +kernel) (by decide) (by decide) rfl j1 put p np
  walk_at "d"
  refine t_ite (fun e => ?_) (fun e => ?_)
  · walk_at "d"
    refine ⟨by walk_at "l", fun p np => ?_⟩
    exact menu ["0", "7", "42", "007", "999999", "1234567", "3..5", "3...5", "0.."] _ _ (eVar 0) (by decide +kernel) (by decide) (by decide) rfl j1 put p np
  -- a run
  walk_at "e"
  walk_at "s"
  refine ⟨rfl, rfl, ?_⟩
  walk_at "e"
  walk_at "s"
  refine ⟨by walk_at "l", fun p np => ?_⟩
  walk_at "e"
  have j1' : JarOk (mup (mup M j o1) p (.lst [.int 1, .int 2, .int 4, .int 8, .int 40])) j := j1.keep (.fresh (S := fun _ => False) np) (fun z => z)
  have jp : j ≠ p := j1.ne np
  refine c_pick j1' (by decide) fun i o2 i0 i1 j2 => ?_
  obtain ⟨m, h2, h3⟩ := atI_map (f := D.int) (zs := [1, 2, 4, 8, 40]) i0 i1
  have hm : 1 ≤ m ∧ m ≤ 40 := by
    simp only [List.mem_cons, List.not_mem_nil, or_false] at h2
    omega
  refine v_ix_ref (ds := [1, 2, 4, 8, 40].map D.int) (by rw [mup_ne jp.symm]; exact mup_same) h3 ?_
  walk_at "e"
  refine c_pick j2 (by omega) fun n o3 n0 n1 j3 => ?_
  rw [mup_mup] at j3 ⊢
  walk_at "e"
  walk_at "s"
  refine ⟨v_ty_str, ?_⟩
  walk_at "e"
  have hk : (1 + n).toNat ≤ 40 := by omega
  refine ⟨by omega, fun q nq => ?_⟩
  have hjq : j ≠ q := j3.ne nq
  have m3 : MKeep (· = j) M (mup (mup (mup M j o1) p (.lst [.int 1, .int 2, .int 4, .int 8, .int 40])) j o3) := (put.trans (.fresh np)).trans put
  refine lc_each (fun i acc M' => ∃ ys : List Str, acc = ys.map D.str ∧ (∀ y ∈ ys, Okz 1 y) ∧ JarOk M' j ∧ MKeep (· = j) M M') ?_ mup_same ⟨[], rfl, by simp, j3.keep (.fresh (S := fun _ => False) nq) (fun z => z), m3.trans (.fresh nq)⟩ ?_ ?_
  · simp only [rngI, List.length_map, List.length_range]
    rw [sizeLine_eq]; omega
  · rintro R i d acc M' hi ha ⟨ys, rfl, hy, j4, m4⟩ hp hR
    refine ⟨trivial, _, rfl, ?_⟩
    walk_at "e"
    refine c_pick j4 (by decide) fun c o4 c0 c1 j5 => ?_
    obtain ⟨x, h4, h5, _⟩ := atI_mem (ds := RS.cps.toList) c0 (by
      have : RS.cps.toList.length = RS.length := by simp [Str.length]
      rw [this, rs.1]; exact c1)
    refine v_ix_str (by rw [rs.1]; walk_at "l") h4 ?_
    refine hR _ _ (by rw [mup_ne hjq.symm]; exact hp) ⟨ys ++ [⟨#[x]⟩], by simp, ?_, ?_, ?_⟩
    · intro y hy'
      rcases List.mem_append.mp hy' with h | h
      · exact hy y h
      · rw [List.mem_singleton.mp h]
        exact ⟨Nat.le_refl 1, (okz_sign rs.2 h5).2⟩
    · obtain ⟨a, b, c, e, r⟩ := j5
      exact ⟨a, b, c, by rw [mup_ne hjq]; exact e, r⟩
    · exact (m4.trans put).over (by
        cases e : M q with
        | none => rfl
        | some o => rw [m3 q o (fun z => hjq z.symm) e] at nq; cases nq)
  · rintro acc M' ha ⟨ys, rfl, hy, j4, m4⟩ hp
    refine ⟨trivial, ?_⟩
    walk_at "e"
    have hl : ys.length ≤ 40 := by
      rw [List.length_map] at ha
      simp only [rngI, List.length_map, List.length_range] at ha
      omega
    refine v_join (items_ref hp) (strsOf_map ys) ?_ ?_
    · have h1 := okz_sum ys hy
      have : (("" : String) : Str).length = 0 := by decide +kernel
      rw [this]
      omega
    · refine k _ _ ((okz_join ys hy).mono (by omega)) m4 j4

theorem sign_beq (c d : Nat) (z : Str) (h : z = st [d]) : ((st [c] : Str) == z) = (c == d) := by
  rw [h, st_beq]; simp
def sp_joined : DSp := fun ds M P => ∃ b c p : Nat, ds = [.str (st [b]), .str (st [c]), .int (p : Int)] ∧ P (.bl (joined b c p)) M
theorem ok_joined (ds : List D) (M : Mh) (P : PQ) (h : sp_joined ds M P) : b__law_joined sp_run_signs { nx := fun _ M' => P .non M', rt := P } (startD 4 ds) M := by
  obtain ⟨b, c, p, rfl, k⟩ := h
  unfold joined at k
  unfold b__law_joined
  walk_at "s"
  refine ⟨rfl, rfl, ?_⟩
  walk_at "d"
  rw [← run_eq2]
  refine t_ite (fun e => ?_) (fun e => ?_)
  · rw [e, if_pos rfl] at k
    walk_at "d"
    rw [← run_eq2]
    exact k
  rw [e, if_neg Bool.false_ne_true] at k
  walk_at "d"
  rw [sign_beq c 62 _ (by decide +kernel)]
  refine t_ite (fun e => ?_) (fun e => ?_)
  · rw [e, if_pos rfl] at k
    walk_at "d"
    rw [sign_beq b 45 _ (by decide +kernel)]
    exact k
  rw [e, if_neg Bool.false_ne_true] at k
  walk_at "d"
  rw [sign_beq c 46 _ (by decide +kernel)]
  refine t_ite (fun e => ?_) (fun e => ?_)
  · rw [e, if_pos rfl] at k
    walk_at "d"
    rw [show (((p : Int) % 2 == 1) : Bool) = (p % 2 == 1) by rw [Bool.eq_iff_iff]; simp; omega]
    exact k
  rw [e, if_neg Bool.false_ne_true] at k
  walk_at "d"
  exact k
def sp_cut_up : DSp := fun ds M P => ∃ l : List Nat, ds = [.str (st l)] ∧ l.length ≤ 100000 ∧ ∀ M', MExt M M' → P (.tup ((tk l).map tokD)) M'
theorem ok_cut_up (ds : List D) (M : Mh) (P : PQ) (h : sp_cut_up ds M P) : b__law_cut_up sp_joined { nx := fun _ M' => P .non M', rt := P } (startD 5 ds) M := by
  obtain ⟨l, rfl, hl, k⟩ := h
  unfold b__law_cut_up
  walk_at "s"
  refine ⟨by walk_at "l", fun p np => ?_⟩
  walk_at "e"
  walk_at "s"
  walk_at "s"
  walk_at "s"
  rw [st_cps]
  refine for_each (fun i ρ M' => ∃ (f : List (List Nat)) (q b : Nat) (x4 : Option D), ρ = [some (.str (st l)), some (.ref p), some (.int (q : Int)), some (.str (st [b])), x4] ∧ M' p = some (.lst (f.map tokD)) ∧ MExt M M' ∧
      cu (l.drop i) f q b = tk l ∧ f.length ≤ i ∧ (∀ t ∈ f, t.length ≤ i) ∧ (blank b = false → f ≠ []) ∧ (0 < q → b = 46))
    ⟨[], 0, 32, none, rfl, mup_same, .fresh np, cu_all l, Nat.le_refl _, by simp, by decide, by decide⟩ ?_ ?_
  · rintro N i d ρ M' hi ⟨f, q, b, x4, rfl, hp, hM, hcu, hf, ht, hb, hq⟩ hN
    refine ⟨trivial, ?_⟩
    rw [List.getElem?_map] at hi
    cases hc : l[i]? with
    | none => rw [hc] at hi; cases hi
    | some c =>
      rw [hc] at hi
      cases hi
      have hil : i < l.length := (List.getElem?_eq_some_iff.mp hc).1
      have hd : l.drop i = c :: l.drop (i + 1) := by
        rw [List.drop_eq_getElem_cons hil]
        rw [List.getElem?_eq_getElem hil] at hc
        cases hc; rfl
      rw [hd] at hcu
      have hcu : cu (l.drop (i + 1)) (if joined b c q then onLast f c else if blank c then f else f ++ [[c]]) (if c == 46 then q + 1 else 0) c = tk l := hcu
      walk_at "e"
      refine t_cut (fun ρ M' => ∃ f' : List (List Nat), ρ = [some (.str (st l)), some (.ref p), some (.int (q : Int)), some (.str (st [b])), some (.str (st [c]))] ∧ M' p = some (.lst (f'.map tokD)) ∧ MExt M M' ∧
        cu (l.drop (i + 1)) f' (if c == 46 then q + 1 else 0) c = tk l ∧ f'.length ≤ i + 1 ∧ (∀ t ∈ f', t.length ≤ i + 1) ∧ (blank c = false → f' ≠ [])) (fun N2 hN2 => ?_) ?_
      · walk_at "e"
        refine ⟨rfl, b, c, q, rfl, ?_⟩
        walk_at "e"
        refine t_ite (fun e => ?_) (fun e => ?_)
        · rw [e, if_pos rfl] at hcu
          have hne : f ≠ [] := by
            apply hb
            unfold joined at e
            split at e
            · exact (run_not e).1
            · split at e
              · have : b = 45 := by simpa using e
                subst this; decide
              · split at e
                · have h1 : q % 2 = 1 := by simpa using e
                  have : b = 46 := hq (by omega)
                  subst this; decide
                · cases e
          obtain ⟨f0, t, rfl⟩ : ∃ f0 t, f = f0 ++ [t] := ⟨f.dropLast, f.getLast hne, (List.dropLast_concat_getLast hne).symm⟩
          rw [onLast_app] at hcu
          have ht1 := ht t (by simp)
          walk_at "s"
          refine v_ix_ref (d := tokD t) hp (by rw [List.map_append]; exact atI_end _ _) ?_
          walk_at "e"
          refine v_add_str ?_ ?_
          · rw [st_push, st_len, st_len, sizeLine_eq]; simp; omega
          walk_at "e"
          refine v_set hp (by rw [List.map_append]; exact ixN_end _ _) ?_
          walk_at "e"
          refine hN2 _ _ ⟨f0 ++ [t ++ [c]], rfl, ?_, hM.over np, hcu, by simpa using Nat.le_succ_of_le hf, ?_, by simp⟩
          · rw [mup_same, st_push, st_app]
            simp
          · intro u hu
            rcases List.mem_append.mp hu with h | h
            · exact Nat.le_succ_of_le (ht u (List.mem_append_left _ h))
            · rw [List.mem_singleton.mp h]; simp; omega
        · rw [e, if_neg Bool.false_ne_true] at hcu
          walk_at "d"
          have b1 : (!strIn (st [c]) ((" \n" : String) : Str)) = !blank c := by
            rw [← st_push, strIn_one, show (((" \n" : String) : Str)).cps.toList = [32, 10] by decide +kernel]
            congr 1
            unfold blank
            rw [Bool.eq_iff_iff]; simp
          rw [st_push, b1]
          refine t_ite (fun e2 => ?_) (fun e2 => ?_)
          · have e2 : blank c = false := by simpa using e2
            rw [e2, if_neg Bool.false_ne_true] at hcu
            walk_at "d"
            refine hN2 _ _ ⟨f ++ [[c]], rfl, ?_, hM.over np, hcu, by simpa using hf, ?_, by simp⟩
            · rw [mup_same, List.map_append]; rfl
            · intro u hu
              rcases List.mem_append.mp hu with h | h
              · exact Nat.le_succ_of_le (ht u h)
              · rw [List.mem_singleton.mp h]; simp
          · have e2 : blank c = true := by simpa using e2
            rw [e2, if_pos rfl] at hcu
            walk_at "d"
            exact hN2 _ _ ⟨f, rfl, hp, hM, hcu, Nat.le_succ_of_le hf, fun t h => Nat.le_succ_of_le (ht t h), fun z => by rw [e2] at z; cases z⟩
      · rintro ρ M' ⟨f', rfl, hp, hM, hcu, hf, ht, hb⟩
        refine t_cut (fun ρ M2 => M2 = M' ∧ ρ = [some (.str (st l)), some (.ref p), some (.int ((if c == 46 then q + 1 else 0 : Nat) : Int)), some (.str (st [b])), some (.str (st [c]))]) (fun N2 hN2 => ?_) ?_
        · walk_at "d"
          rw [sign_beq c 46 _ (by decide +kernel)]
          refine t_ite (fun e => ?_) (fun e => ?_)
          · walk_at "d"
            exact hN2 _ _ ⟨rfl, by rw [e]; rfl⟩
          · walk_at "d"
            exact hN2 _ _ ⟨rfl, by rw [e]; rfl⟩
        · rintro ρ M2 ⟨rfl, rfl⟩
          walk_at "d"
          refine hN _ _ ⟨f', _, c, _, rfl, hp, hM, hcu, hf, ht, hb, fun h => ?_⟩
          by_cases hc46 : (c == 46) = true
          · simpa using hc46
          · rw [if_neg hc46] at h; omega
  · rintro ρ M' ⟨f, q, b, x4, rfl, hp, hM, hcu, _⟩
    refine ⟨trivial, ?_⟩
    rw [List.drop_of_length_le (by simp)] at hcu
    have : f = tk l := hcu
    subst this
    walk_at "d"
    exact k _ hM
def sp_cut_right : DSp := fun ds M P => ∃ l : List Nat, ds = [.str (st l), .tup ((tk l).map tokD)] ∧ l.length ≤ 100000 ∧ small l ∧ ∀ M', MExt M M' → P (.bl true) M'
theorem ok_cut_right (ds : List D) (M : Mh) (P : PQ) (h : sp_cut_right ds M P) : b__law_cut_right sp_tokens_of { nx := fun _ M' => P .non M', rt := P } (startD 4 ds) M := by
  obtain ⟨l, rfl, hl, hs, k⟩ := h
  have ok : okD (.tup ((tk l).map tokD)) = true := okD_strs fun t ht c hc => hs c (tk_mem _ l (Nat.le_refl _) t ht c hc)
  unfold b__law_cut_right
  walk_at "s"
  refine ⟨rfl, l, rfl, hl, fun M1 x1 => ?_⟩
  walk_at "d"
  refine t_if0 rfl ?_
  walk_at "d"
  refine for_each (fun i ρ M' => M' = M1 ∧ ∃ x3, ρ = [some (.str (st l)), some (.tup ((tk l).map tokD)), some (.tup ((tk l).map tokD)), x3]) ⟨rfl, none, rfl⟩ ?_ ?_
  · rintro N i d ρ M' hi ⟨rfl, x3, rfl⟩ hN
    refine ⟨trivial, ?_⟩
    rw [List.getElem?_map] at hi
    obtain ⟨t, _, rfl⟩ := Option.map_eq_some_iff.mp hi
    walk_at "d"
    refine t_if0 rfl ?_
    walk_at "d"
    exact hN _ _ ⟨rfl, _, rfl⟩
  · rintro ρ M' ⟨rfl, x3, rfl⟩
    refine ⟨trivial, ?_⟩
    walk_at "d"
    refine v_eq_tup ⟨ok, ok⟩ ?_
    rw [deq_refl _ ok]
    exact k _ x1

theorem cut_st_at (l : List Nat) (a : Int) (h : 0 ≤ a) : cutS (st l) none (some a) = st (l.take a.toNat) ∧ cutS (st l) (some a) none = st (l.drop a.toNat) := by
  obtain ⟨n, rfl⟩ := Int.eq_ofNat_of_zero_le h
  exact ⟨st_take l n, st_drop l n⟩
theorem joinS_eq (s : Nat) : ∀ (t : List Nat) (ts : List (List Nat)), joinS s (t :: ts) = t ++ ts.flatMap fun u => s :: u
  | t, [] => by simp [joinS]
  | t, u :: r => by rw [joinS, joinS_eq s u r]; simp
theorem join_st (s : Nat) (ts : List (List Nat)) : Txt.join (st [s]) (ts.map st) = st (joinS s ts) := by
  apply str_ext
  cases ts with
  | nil => rfl
  | cons t r =>
    rw [List.map_cons, join_lit, lit_st, lit_st, lit_st, joinS_eq]
    simp [List.flatMap_map, lit_st]
theorem okz_small {n : Nat} {z : Str} (h : Okz n z) : small (lit z) := fun c hc => by simpa using List.all_eq_true.mp h.2 c hc
theorem small_app {a b : List Nat} (h : small a) (g : small b) : small (a ++ b) := fun c hc => (List.mem_append.mp hc).elim (h c) (g c)
set_option maxHeartbeats 16000000 in
theorem ok_law (ds : List D) (M : Mh) (P : PQ) (h : lawSp ds M P) : b_law sp_cut_right sp_cut_up sp_signs sp_pick sp_jar sp_piece { nx := fun _ M' => P .non M', rt := P } (startD 8 ds) M := by
  obtain ⟨ns, rfl, _, k⟩ := h
  have sg : SG.length = 95 ∧ Okz 95 SG := by decide +kernel
  unfold b_law
  walk_at "s"
  refine ⟨rfl, ns, 0, rfl, by decide, fun j M1 x1 nj j1 => ?_⟩
  walk_at "e"
  walk_at "s"
  refine c_pick j1 (by decide) fun m8 o1 m0 m1 j2 => ?_
  walk_at "e"
  refine ⟨by walk_at "l", fun p np => ?_⟩
  walk_at "e"
  have j3 : JarOk (mup (mup M1 j o1) p (.lst [.int 0, .int 1, .int 2, .int 3, .int 5, .int 8, .int 13, .int 30, .int m8])) j := j2.keep (.fresh (S := fun _ => False) np) (fun z => z)
  have jp : j ≠ p := j2.ne np
  refine c_pick j3 (by decide) fun i o2 i0 i1 j4 => ?_
  obtain ⟨m, h2, h3⟩ := atI_map (f := D.int) (zs := [0, 1, 2, 3, 5, 8, 13, 30, m8]) i0 i1
  have hm : 0 ≤ m ∧ m ≤ 60 := by
    simp only [List.mem_cons, List.not_mem_nil, or_false] at h2
    omega
  refine v_ix_ref (ds := [0, 1, 2, 3, 5, 8, 13, 30, m8].map D.int) (by rw [mup_ne jp.symm]; exact mup_same) h3 ?_
  walk_at "e"
  -- the text
  generalize mup (mup (mup M1 j o1) p (.lst [.int 0, .int 1, .int 2, .int 3, .int 5, .int 8, .int 13, .int 30, .int m8])) j o2 = M2 at j4 ⊢
  walk_at "s"
  refine ⟨v_ty_str, ?_⟩
  walk_at "e"
  refine ⟨by omega, fun q nq => ?_⟩
  have hjq : j ≠ q := j4.ne nq
  refine lc_each (fun i acc M' => ∃ ys : List Str, acc = ys.map D.str ∧ (∀ y ∈ ys, Okz 40 y) ∧ JarOk M' j) ?_ mup_same ⟨[], rfl, by simp, j4.keep (.fresh (S := fun _ => False) nq) (fun z => z)⟩ ?_ ?_
  · simp only [rngI, List.length_map, List.length_range]
    rw [sizeLine_eq]; omega
  · rintro R i d acc M' hi ha ⟨ys, rfl, hy, j5⟩ hp hR
    refine ⟨trivial, _, rfl, ?_⟩
    walk_at "e"
    refine ⟨rfl, j, rfl, j5, fun z M3 hz m3 j6 => ?_⟩
    refine hR _ _ (m3 q _ (fun z => hjq z.symm) hp) ⟨ys ++ [z], by simp, ?_, ?_⟩
    · intro y hy'
      rcases List.mem_append.mp hy' with h | h
      · exact hy y h
      · rw [List.mem_singleton.mp h]; exact hz
    · obtain ⟨a, b, c, e, r⟩ := j6
      exact ⟨a, b, c, by rw [mup_ne hjq]; exact e, r⟩
  rintro acc M' ha ⟨ys, rfl, hy, j5⟩ hp
  refine ⟨trivial, ?_⟩
  walk_at "e"
  have hl : ys.length ≤ 60 := by
    rw [List.length_map] at ha
    simp only [rngI, List.length_map, List.length_range] at ha
    omega
  refine v_join (items_ref hp) (strsOf_map ys) ?_ ?_
  · have h1 := okz_sum ys hy
    have : (("" : String) : Str).length = 0 := by decide +kernel
    rw [this]
    omega
  have hz := (okz_join ys hy).mono (show 40 * ys.length ≤ 2400 by omega)
  generalize Txt.join "" ys = z at hz
  have ez : z = st (lit z) := (st_lit z).symm
  have hzl : (lit z).length ≤ 2400 := by rw [lit_len]; exact hz.1
  have hzs := okz_small hz
  generalize lit z = l at ez hzl hzs
  subst ez
  have hst : (st l).length = l.length := st_len l
  walk_at "e"
  walk_at "s"
  refine ⟨rfl, ns, 1, rfl, by decide, fun j' M3 x3 nj' j6 => ?_⟩
  walk_at "e"
  refine c_pick j6 (by rw [hst]; omega) fun a o3 a0 a1 j7 => ?_
  rw [hst] at a1
  walk_at "e"
  walk_at "s"
  refine ⟨rfl, rfl, ?_⟩
  rw [(cut_st_at l a a0).1, ← st_lit SG]
  have sgl : (lit SG).length = 95 := by rw [lit_len]; exact sg.1
  have sgs : small (lit SG) := okz_small sg.2
  have mid : (lit (("..->...-->aB1->>....." : String) : Str)).length = 21 ∧ small (lit (("..->...-->aB1->>....." : String) : Str)) := by
    have h : Okz 21 (("..->...-->aB1->>....." : String) : Str) := by decide +kernel
    exact ⟨by decide +kernel, okz_small h⟩
  have tk1 : (l.take a.toNat).length ≤ 2400 := by rw [List.length_take]; omega
  have tk2 : (l.drop a.toNat).length ≤ 2400 := by rw [List.length_drop]; omega
  walk_at "e"
  refine v_add_str (by rw [st_len, st_len, sizeLine_eq]; omega) ?_
  rw [st_app]
  walk_at "e"
  rw [← st_lit (("..->...-->aB1->>....." : String) : Str)]
  generalize lit (("..->...-->aB1->>....." : String) : Str) = u at mid
  refine v_add_str (by rw [st_len, st_len, List.length_append, sizeLine_eq]; omega) ?_
  rw [st_app]
  walk_at "e"
  rw [(cut_st_at l a a0).2]
  refine v_add_str (by rw [st_len, st_len, List.length_append, List.length_append, sizeLine_eq]; omega) ?_
  rw [st_app]
  have wl : (l.take a.toNat ++ lit SG ++ u ++ l.drop a.toNat).length ≤ 5000 := by
    simp only [List.length_append]
    omega
  have ws : small (l.take a.toNat ++ lit SG ++ u ++ l.drop a.toNat) :=
    small_app (small_app (small_app (fun c hc => hzs c (List.mem_of_mem_take hc)) sgs) mid.2) fun c hc => hzs c (List.mem_of_mem_drop hc)
  generalize l.take a.toNat ++ lit SG ++ u ++ l.drop a.toNat = wd at wl ws ⊢
  walk_at "e"
  -- wanted
  walk_at "s"
  refine ⟨rfl, l, rfl, by omega, fun M4 x4 => ?_⟩
  walk_at "e"
  walk_at "s"
  refine ⟨rfl, l, rfl, by omega, hzs, fun M5 x5 => ?_⟩
  walk_at "e"
  refine t_if0 rfl ?_
  walk_at "e"
  refine ⟨rfl, wd, rfl, by omega, fun M6 x6 => ?_⟩
  walk_at "e"
  refine ⟨rfl, wd, rfl, by omega, ws, fun M7 x7 => ?_⟩
  walk_at "e"
  refine t_if0 rfl ?_
  walk_at "e"
  -- joined
  have jn : ∀ s : Nat, blank s = true → s < 128 → (joinS s (tk l)).length ≤ 5000 ∧ small (joinS s (tk l)) ∧ tk (joinS s (tk l)) = tk l ∧ ((tk l).map fun t => (st t).length).sum + ((tk l).map st).length * 1 ≤ 16777216 := by
    intro s hs h128
    obtain ⟨h1, h2⟩ := tk_len l.length l (Nat.le_refl _)
    refine ⟨Nat.le_trans (join_len _) (by omega), fun c hc => ?_, tk_join_tk hs l, ?_⟩
    · rcases join_mem _ c hc with h | ⟨t, ht, hc⟩
      · rw [h]; exact h128
      · exact hzs c (tk_mem _ l (Nat.le_refl _) t ht c hc)
    · have : ((tk l).map fun t => (st t).length) = (tk l).map (·.length) := List.map_congr_left fun t _ => st_len t
      rw [this, List.length_map]
      omega
  have e32 : (((" " : String) : Str)) = st [32] := by decide +kernel
  have e10 : ((("\n" : String) : Str)) = st [10] := by decide +kernel
  have mp : (tk l).map tokD = ((tk l).map st).map D.str := by rw [List.map_map]; rfl
  obtain ⟨a1, a2, a3, a4⟩ := jn 32 (by decide) (by decide)
  obtain ⟨b1, b2, b3, b4⟩ := jn 10 (by decide) (by decide)
  walk_at "s"
  refine ⟨v_ty_str, ?_⟩
  walk_at "e"
  refine v_list_tup fun p1 np1 => ?_
  walk_at "e"
  refine v_join (ys := (tk l).map st) (items_ref mup_same) (by rw [mp]; exact strsOf_map _) ?_ ?_
  · rw [e32, st_len, List.map_map]
    exact a4
  rw [e32, join_st]
  walk_at "e"
  refine ⟨rfl, joinS 32 (tk l), by rw [a3], by omega, a2, fun M8 x8 => ?_⟩
  walk_at "e"
  refine t_if0 rfl ?_
  walk_at "e"
  refine ⟨v_ty_str, ?_⟩
  walk_at "e"
  refine v_list_tup fun p2 np2 => ?_
  walk_at "e"
  refine v_join (ys := (tk l).map st) (items_ref mup_same) (by rw [mp]; exact strsOf_map _) ?_ ?_
  · rw [e10, st_len, List.map_map]
    exact b4
  rw [e10, join_st]
  walk_at "e"
  refine ⟨rfl, joinS 10 (tk l), by rw [b3], by omega, b2, fun M9 x9 => ?_⟩
  walk_at "e"
  refine t_if0 rfl ?_
  walk_at "e"
  -- the last
  walk_at "s"
  have f1 : ((("\n " : String) : Str)) = st [10, 32] := by decide +kernel
  have f2 : (((" \n" : String) : Str)) = st [32, 10] := by decide +kernel
  have al : ([10, 32] ++ wd ++ [32, 10]).length ≤ 6000 := by simp only [List.length_append, List.length_cons, List.length_nil]; omega
  have as : small ([10, 32] ++ wd ++ [32, 10]) := small_app (small_app (by unfold small; decide) ws) (by unfold small; decide)
  rw [f1]
  refine v_add_str (by rw [st_len, st_len, sizeLine_eq]; simp only [List.length_cons, List.length_nil]; omega) ?_
  rw [st_app]
  walk_at "e"
  rw [f2]
  refine v_add_str (by rw [st_len, st_len, sizeLine_eq]; simp only [List.length_append, List.length_cons, List.length_nil]; omega) ?_
  rw [st_app]
  walk_at "e"
  refine ⟨rfl, wd, rfl, by omega, fun M10 x10 => ?_⟩
  walk_at "e"
  refine ⟨rfl, _, by rw [tk_around], by omega, as, fun M11 x11 => ?_⟩
  walk_at "e"
  refine t_if1 rfl ?_
  walk_at "e"
  refine ⟨rfl, l, rfl, by omega, hzs, fun M12 x12 => ?_⟩
  exact k _
end K04
/-! K04z: the defs joined, and the law; printed by gen.py -/
namespace K04
open PySem PySem.Spec DL L2
open PyProof.Rows hiding St
theorem all_mk {l : PySem.W.OpenLaw} {w : World} {K : PySem.W.Frag} {h : Heap} {mg : Str → Option Value} {fa : Addr} (X : K.In h) (G : h.Ns mainGlobals mg) (hfa : mg "law" = some (.ref fa))
    (e0 : DefAt K "is_run_sign" s_is_run_sign)
    (e1 : DefAt K "end_of_token" s_end_of_token)
    (e2 : DefAt K "tokens_of" s_tokens_of)
    (e3 : DefAt K "_law_cut_right" s__law_cut_right)
    (e4 : DefAt K "_law_run_signs" s__law_run_signs)
    (e5 : DefAt K "_law_joined" s__law_joined)
    (e6 : DefAt K "_law_cut_up" s__law_cut_up)
    (e7 : DefAt K "_law_signs" s__law_signs)
    (e8 : DefAt K "_law_pick" s__law_pick)
    (e9 : DefAt K "_law_cell" s__law_cell)
    (e10 : DefAt K "_law_jar" s__law_jar)
    (e11 : DefAt K "_law_piece" s__law_piece)
    (e12 : DefAt K "law" s_law)
    {t_CAPITALS : PySem.Tok} (q_CAPITALS : PySem.W.nsIn K mainGlobals "CAPITALS" = some (some (.str "ABCDEFGHIJKLMNOPQRSTUVWXYZ" t_CAPITALS)))
    {t_FIGURES : PySem.Tok} (q_FIGURES : PySem.W.nsIn K mainGlobals "FIGURES" = some (some (.str "0123456789" t_FIGURES)))
    {t_LETTERS : PySem.Tok} (q_LETTERS : PySem.W.nsIn K mainGlobals "LETTERS" = some (some (.str "abcdefghijklmnopqrstuvwxyz" t_LETTERS)))
    {a_PAIRS : Addr} {o_PAIRS : Option Addr} {i_PAIRS : Array Value} {n_PAIRS : Nat} {l_PAIRS : Array (Option Value)} (q_PAIRS : PySem.W.nsIn K mainGlobals "PAIRS" = some (some (.ref a_PAIRS))) (r_PAIRS : K.lookup a_PAIRS = some ⟨.type "tuple", o_PAIRS, .seq i_PAIRS n_PAIRS, l_PAIRS⟩) (z_PAIRS : i_PAIRS.size ≤ sizeLine) (p_PAIRS : Paired Lit [(.str ".."), (.str "->")] i_PAIRS.toList)
    (n_len : PySem.W.nsIn K mainGlobals "len" = some none) (n_int : PySem.W.nsIn K mainGlobals "int" = some none) (n_str : PySem.W.nsIn K mainGlobals "str" = some none) (n_tuple : PySem.W.nsIn K mainGlobals "tuple" = some none) (n_list : PySem.W.nsIn K mainGlobals "list" = some none) (n_sum : PySem.W.nsIn K mainGlobals "sum" = some none) (n_abs : PySem.W.nsIn K mainGlobals "abs" = some none) (n_max : PySem.W.nsIn K mainGlobals "max" = some none) (n_min : PySem.W.nsIn K mainGlobals "min" = some none) (n_range : PySem.W.nsIn K mainGlobals "range" = some none) (n_isinstance : PySem.W.nsIn K mainGlobals "isinstance" = some none) (n_bool : PySem.W.nsIn K mainGlobals "bool" = some none) (n_dict : PySem.W.nsIn K mainGlobals "dict" = some none) (n_sorted : PySem.W.nsIn K mainGlobals "sorted" = some none) (n_zip : PySem.W.nsIn K mainGlobals "zip" = some none) (n_enumerate : PySem.W.nsIn K mainGlobals "enumerate" = some none) (n_reversed : PySem.W.nsIn K mainGlobals "reversed" = some none) (n_repr : PySem.W.nsIn K mainGlobals "repr" = some none) :
    ∃ fd : FuncData, (∀ (s : Shared) (v : Value), BindsTo s fd ⟨[v], []⟩ [("script", v)]) ∧ ∀ base : Heap, K.In base → base.Ns mainGlobals mg → FnOk l.prog w K mg base CX0 5 fa fd ["script"] (upF K 1 lawSp) := by
  have bl : BltOk mg := blt_of X G (by
    intro x hx
    simp only [bltNames, List.mem_cons, List.not_mem_nil, or_false] at hx
    rcases hx with rfl | rfl | rfl | rfl | rfl | rfl | rfl | rfl | rfl | rfl | rfl | rfl | rfl | rfl | rfl | rfl | rfl | rfl
    · exact n_len
    · exact n_int
    · exact n_str
    · exact n_tuple
    · exact n_list
    · exact n_sum
    · exact n_abs
    · exact n_max
    · exact n_min
    · exact n_range
    · exact n_isinstance
    · exact n_bool
    · exact n_dict
    · exact n_sorted
    · exact n_zip
    · exact n_enumerate
    · exact n_reversed
    · exact n_repr
    )
  obtain ⟨f0, fd0, F0, m0, B0, T0⟩ := e0.get (ps := ["sign"]) X G fun _ _ _ _ _ _ us hl => match us, hl with | [_], _ => rfl
  obtain ⟨f1, fd1, F1, m1, B1, T1⟩ := e1.get (ps := ["text", "at"]) X G fun _ _ _ _ _ _ us hl => match us, hl with | [_, _], _ => rfl
  obtain ⟨f2, fd2, F2, m2, B2, T2⟩ := e2.get (ps := ["text"]) X G fun _ _ _ _ _ _ us hl => match us, hl with | [_], _ => rfl
  obtain ⟨f3, fd3, F3, m3, B3, T3⟩ := e3.get (ps := ["text", "wanted"]) X G fun _ _ _ _ _ _ us hl => match us, hl with | [_, _], _ => rfl
  obtain ⟨f4, fd4, F4, m4, B4, T4⟩ := e4.get (ps := []) X G fun _ _ _ _ _ _ us hl => match us, hl with | [], _ => rfl
  obtain ⟨f5, fd5, F5, m5, B5, T5⟩ := e5.get (ps := ["before", "sign", "points"]) X G fun _ _ _ _ _ _ us hl => match us, hl with | [_, _, _], _ => rfl
  obtain ⟨f6, fd6, F6, m6, B6, T6⟩ := e6.get (ps := ["text"]) X G fun _ _ _ _ _ _ us hl => match us, hl with | [_], _ => rfl
  obtain ⟨f7, fd7, F7, m7, B7, T7⟩ := e7.get (ps := []) X G fun _ _ _ _ _ _ us hl => match us, hl with | [], _ => rfl
  obtain ⟨f8, fd8, F8, m8, B8, T8⟩ := e8.get (ps := ["jar", "many"]) X G fun _ _ _ _ _ _ us hl => match us, hl with | [_, _], _ => rfl
  obtain ⟨f9, fd9, F9, m9, B9, T9⟩ := e9.get (ps := ["script", "place"]) X G fun _ _ _ _ _ _ us hl => match us, hl with | [_, _], _ => rfl
  obtain ⟨f10, fd10, F10, m10, B10, T10⟩ := e10.get (ps := ["script", "place"]) X G fun _ _ _ _ _ _ us hl => match us, hl with | [_, _], _ => rfl
  obtain ⟨f11, fd11, F11, m11, B11, T11⟩ := e11.get (ps := ["jar"]) X G fun _ _ _ _ _ _ us hl => match us, hl with | [_], _ => rfl
  obtain ⟨f12, fd12, F12, m12, B12, T12⟩ := e12.get (ps := ["script"]) X G fun _ _ _ _ _ _ us hl => match us, hl with | [_], _ => rfl
  have ef := hfa.symm.trans m12
  cases ef
  refine ⟨fd12, fun s v => T12 s [v] rfl, fun base XB GB => ?_⟩
  have g0 : Dfn l.prog w K mg base 1 "is_run_sign" 1 sp_is_run_sign := dfn_of F0 sc_is_run_sign m0 (by rfl) B0 (k := 0) .nil (.cons (glb_str X G q_CAPITALS) (.cons (glb_str X G q_FIGURES) (.cons (glb_str X G q_LETTERS) .nil))) bl (den_is_run_sign ) ok_is_run_sign
  have g1 : Dfn l.prog w K mg base 2 "end_of_token" 2 sp_end_of_token := dfn_of F1 sc_end_of_token m1 (by rfl) B1 (k := 1) (.cons (g0.mono (by decide)) .nil) (.cons (glb_tup X G q_PAIRS r_PAIRS z_PAIRS p_PAIRS) .nil) bl (den_end_of_token sp_is_run_sign) ok_end_of_token
  have g2 : Dfn l.prog w K mg base 3 "tokens_of" 1 sp_tokens_of := dfn_of F2 sc_tokens_of m2 (by rfl) B2 (k := 2) (.cons (g1.mono (by decide)) .nil) .nil bl (den_tokens_of sp_end_of_token) ok_tokens_of
  have g3 : Dfn l.prog w K mg base 4 "_law_cut_right" 2 sp_cut_right := dfn_of F3 sc__law_cut_right m3 (by rfl) B3 (k := 3) (.cons (g2.mono (by decide)) .nil) .nil bl (den__law_cut_right sp_tokens_of) ok_cut_right
  have g4 : Dfn l.prog w K mg base 1 "_law_run_signs" 0 sp_run_signs := dfn_of F4 sc__law_run_signs m4 (by rfl) B4 (k := 0) .nil .nil bl (den__law_run_signs ) ok_run_signs
  have g5 : Dfn l.prog w K mg base 2 "_law_joined" 3 sp_joined := dfn_of F5 sc__law_joined m5 (by rfl) B5 (k := 1) (.cons (g4.mono (by decide)) .nil) .nil bl (den__law_joined sp_run_signs) ok_joined
  have g6 : Dfn l.prog w K mg base 3 "_law_cut_up" 1 sp_cut_up := dfn_of F6 sc__law_cut_up m6 (by rfl) B6 (k := 2) (.cons (g5.mono (by decide)) .nil) .nil bl (den__law_cut_up sp_joined) ok_cut_up
  have g7 : Dfn l.prog w K mg base 1 "_law_signs" 0 sp_signs := dfn_of F7 sc__law_signs m7 (by rfl) B7 (k := 0) .nil .nil bl (den__law_signs ) ok_signs
  have g8 : Dfn l.prog w K mg base 1 "_law_pick" 2 sp_pick := dfn_of F8 sc__law_pick m8 (by rfl) B8 (k := 0) .nil .nil bl (den__law_pick ) ok_pick
  have g9 : Dfn l.prog w K mg base 1 "_law_cell" 2 sp_cell := dfn_of F9 sc__law_cell m9 (by rfl) B9 (k := 0) .nil .nil bl (den__law_cell ) ok_cell
  have g10 : Dfn l.prog w K mg base 2 "_law_jar" 2 sp_jar := dfn_of F10 sc__law_jar m10 (by rfl) B10 (k := 1) (.cons (g9.mono (by decide)) .nil) .nil bl (den__law_jar sp_cell) ok_jar
  have g11 : Dfn l.prog w K mg base 2 "_law_piece" 1 sp_piece := dfn_of F11 sc__law_piece m11 (by rfl) B11 (k := 1) (.cons (g8.mono (by decide)) (.cons (g4.mono (by decide)) (.cons (g7.mono (by decide)) .nil))) .nil bl (den__law_piece sp_pick sp_run_signs sp_signs) ok_piece
  exact fnok_of F12 sc_law (k := 4) (.cons (g3.mono (by decide)) (.cons (g6.mono (by decide)) (.cons (g7.mono (by decide)) (.cons (g8.mono (by decide)) (.cons (g10.mono (by decide)) (.cons (g11.mono (by decide)) .nil)))))) .nil bl (den_law sp_cut_right sp_cut_up sp_signs sp_pick sp_jar sp_piece) ok_law
end K04
open PySem PySem.W PyProof.Rows
set_option maxHeartbeats 0 in
theorem PySem.Challenge.cw_swapwarrant_k04_tokens_holds : PySem.Challenge.rw_swapwarrant_k04_tokens.Holds := by
  w_on; o_law; k_head; (case hw => w_witness2)
  k_fill
  refine L2.walk_of (l := PySem.Challenge.rw_swapwarrant_k04_tokens) (n := 63) (k := 5) (x := "script") (CX := fun _ => L2.CX0) (sp := fun w => DL.upF _ 1 DL.lawSp) rfl (by decide) rfl ⟨rfl, by decide, by decide⟩ (fun w h Y => PySem.W.kIn_of Y) ?F (fun _ _ a ns hl hO hS => DL.law_entry hl hO hS _) (fun _ _ _ _ _ h => h)
  case F =>
    intro w mg fa h KX G hmg
    refine' K04.all_mk KX G hmg (DL.defAt ?a0 ?l0 ?c0 ?k0) (DL.defAt ?a1 ?l1 ?c1 ?k1) (DL.defAt ?a2 ?l2 ?c2 ?k2) (DL.defAt ?a3 ?l3 ?c3 ?k3) (DL.defAt ?a4 ?l4 ?c4 ?k4) (DL.defAt ?a5 ?l5 ?c5 ?k5) (DL.defAt ?a6 ?l6 ?c6 ?k6) (DL.defAt ?a7 ?l7 ?c7 ?k7) (DL.defAt ?a8 ?l8 ?c8 ?k8) (DL.defAt ?a9 ?l9 ?c9 ?k9) (DL.defAt ?a10 ?l10 ?c10 ?k10) (DL.defAt ?a11 ?l11 ?c11 ?k11) (DL.defAt ?a12 ?l12 ?c12 ?k12) ?q_CAPITALS ?q_FIGURES ?q_LETTERS ?q_PAIRS ?r_PAIRS ?z_PAIRS ?p_PAIRS ?n_len ?n_int ?n_str ?n_tuple ?n_list ?n_sum ?n_abs ?n_max ?n_min ?n_range ?n_isinstance ?n_bool ?n_dict ?n_sorted ?n_zip ?n_enumerate ?n_reversed ?n_repr
    (case a0 => k_is); (case l0 => k_is); (case c0 => k_is); (case k0 => k_is); (case a1 => k_is); (case l1 => k_is); (case c1 => k_is); (case k1 => k_is); (case a2 => k_is); (case l2 => k_is); (case c2 => k_is); (case k2 => k_is); (case a3 => k_is); (case l3 => k_is); (case c3 => k_is); (case k3 => k_is); (case a4 => k_is); (case l4 => k_is); (case c4 => k_is); (case k4 => k_is); (case a5 => k_is); (case l5 => k_is); (case c5 => k_is); (case k5 => k_is); (case a6 => k_is); (case l6 => k_is); (case c6 => k_is); (case k6 => k_is); (case a7 => k_is); (case l7 => k_is); (case c7 => k_is); (case k7 => k_is); (case a8 => k_is); (case l8 => k_is); (case c8 => k_is); (case k8 => k_is); (case a9 => k_is); (case l9 => k_is); (case c9 => k_is); (case k9 => k_is); (case a10 => k_is); (case l10 => k_is); (case c10 => k_is); (case k10 => k_is); (case a11 => k_is); (case l11 => k_is); (case c11 => k_is); (case k11 => k_is); (case a12 => k_is); (case l12 => k_is); (case c12 => k_is); (case k12 => k_is)
    (case q_CAPITALS => k_is); (case q_FIGURES => k_is); (case q_LETTERS => k_is); (case q_PAIRS => k_is); (case r_PAIRS => k_is); (case z_PAIRS => decide +kernel); (case p_PAIRS => exact (.cons (.str _ _) (.cons (.str _ _) .nil)))
    (case n_len => k_is); (case n_int => k_is); (case n_str => k_is); (case n_tuple => k_is); (case n_list => k_is); (case n_sum => k_is); (case n_abs => k_is); (case n_max => k_is); (case n_min => k_is); (case n_range => k_is); (case n_isinstance => k_is); (case n_bool => k_is); (case n_dict => k_is); (case n_sorted => k_is); (case n_zip => k_is); (case n_enumerate => k_is); (case n_reversed => k_is); (case n_repr => k_is)
