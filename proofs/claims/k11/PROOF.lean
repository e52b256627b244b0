import PyProof.Rows.All
import Wide.All
import OpenK.AllK
import Wide.FinOn
import HandS.ForMost
import HandS.Flow
import HandS.TupAny
import HandS.Deep
import HandS.Small
import HandS.TupLen
import HandS.WordsDict
import HandS.IsInst
import HandS.Conv
import HandS.ListItems
import HandS.SortInts
import HandS.Rev
import HandS.TryOnly
import HandS.Defaults
import PySem.Challenge.RW_swapwarrant_k11_webs_judged
set_option Elab.async false
set_option linter.all false
set_option maxRecDepth 100000
set_option maxHeartbeats 8000000
/-! DLa: a data layer over the hand layer: deep data D, a heap Mh of what may change, and the relation to V and Hp. -/
namespace DL
open PySem PySem.Spec L2
open PyProof.Rows hiding St

/-- data: tuples by value (ktp: one that the module's top made), what may change by its address -/
inductive D where
  | non
  | bl (b : Bool)
  | int (i : Int)
  | str (x : Str)
  | tup (ds : List D)
  | ktp (ds : List D)
  | rol (ds : List D)
  | ref (a : Addr)

/-- what may change -/
inductive MO where
  | lst (ds : List D)
  | dk (kvs : List (Key × D))
  | dt (kvs : List (List Key × D))

abbrev Mh := Addr → Option MO
def mup (M : Mh) (a : Addr) (o : MO) : Mh := fun b => if b = a then some o else M b
@[simp] theorem mup_same {M : Mh} {a : Addr} {o : MO} : mup M a o a = some o := if_pos rfl
theorem mup_ne {M : Mh} {a b : Addr} {o : MO} (h : b ≠ a) : mup M a o b = M b := if_neg h

abbrev Ev := List (Option D)
abbrev PQ := D → Mh → Prop
abbrev DT := Ev → Mh → PQ → Prop
abbrev DB := Ev → Mh → (Bool → Mh → Prop) → Prop
abbrev DA := Ev → Mh → (List D → Mh → Prop) → Prop
structure De where
  nx : Ev → Mh → Prop
  rt : PQ
  bk : Ev → Mh → Prop := fun _ _ => False
  ct : Ev → Mh → Prop := fun _ _ => False
abbrev DS := De → Ev → Mh → Prop

section
variable (K : PySem.W.Frag) (H : Hp)
/-- a list that is never written -/
def SqF (a : Addr) (xs : List V) : Prop :=
  (∃ o, H a = some (.frz o (.lst xs))) ∨
    ∃ (o : Obj) (its : Array Value) (n : Nat), K.lookup a = some o ∧ o.cls = .type "list" ∧ o.dict = none ∧ o.data = .seq its n ∧ its.size ≤ sizeLine ∧ Vals xs its.toList
mutual
inductive DR : D → V → Prop
  | non : DR .non .non
  | bl (b : Bool) : DR (.bl b) (.bl b)
  | int (i : Int) : DR (.int i) (.int i)
  | str (x : Str) : DR (.str x) (.str x)
  | tup {a : Addr} {vs : List V} {ds : List D} : H a = some (.tup vs) → DRs ds vs → DR (.tup ds) (.ref a)
  | ktp {a : Addr} {vs : List V} {ds : List D} : SqT K H a vs → DRs ds vs → DR (.ktp ds) (.ref a)
  | rol {a : Addr} {vs : List V} {ds : List D} : SqF K H a vs → DRs ds vs → DR (.rol ds) (.ref a)
  | ref (a : Addr) : DR (.ref a) (.ref a)
inductive DRs : List D → List V → Prop
  | nil : DRs [] []
  | cons {d : D} {v : V} {ds : List D} {vs : List V} : DR d v → DRs ds vs → DRs (d :: ds) (v :: vs)
end
/-- a table of values -/
abbrev DKs {κ : Type} : List (κ × D) → List (κ × V) → Prop := Paired fun p q => p.1 = q.1 ∧ DR K H p.2 q.2
def MR (a : Addr) : MO → Prop
  | .lst ds => ∃ vs, H a = some (.lst vs) ∧ DRs K H ds vs
  | .dk kvs => ∃ ws, H a = some (.dK ws) ∧ DKs K H kvs ws
  | .dt kvs => ∃ ws, H a = some (.dT ws) ∧ DKs K H kvs ws
/-- what stands for a changing thing -/
def IsM : HO → Prop
  | .lst _ => True
  | .dK _ => True
  | .dT _ => True
  | _ => False
def HR (M : Mh) : Prop := ∀ a o, M a = some o → MR K H a o
/-- slots -/
def ER (ρ : Ev) (σ : St) : Prop := ρ.length = σ.length ∧ ∀ (i : Nat) (d : D), ρ[i]? = some (some d) → ∃ v, σ[i]? = some (some v) ∧ DR K H d v
end
/-- the tuples and what is frozen stand -/
structure Ext (K : PySem.W.Frag) (H H' : Hp) : Prop where
  tup : ∀ a vs, H a = some (.tup vs) → H' a = some (.tup vs)
  frz : ∀ a o u, H a = some (.frz o u) → H' a = some (.frz o u)

section
variable {K : PySem.W.Frag} {H H1 H2 : Hp}
theorem Ext.refl (K : PySem.W.Frag) (H : Hp) : Ext K H H := ⟨fun _ _ h => h, fun _ _ _ h => h⟩
theorem Ext.trans (x : Ext K H H1) (y : Ext K H1 H2) : Ext K H H2 := ⟨fun a vs h => y.tup a vs (x.tup a vs h), fun a o u h => y.frz a o u (x.frz a o u h)⟩
theorem Ext.of_ne {p : Addr} {o : HO} (ht : ∀ xs, H p ≠ some (.tup xs)) (hf : ∀ ob u, H p ≠ some (.frz ob u)) : Ext K H (upd H p o) := by
  have nt : ∀ a xs, H a = some (.tup xs) → a ≠ p := fun a xs e z => ht xs (z ▸ e)
  have nf : ∀ a ob u, H a = some (.frz ob u) → a ≠ p := fun a ob u e z => hf ob u (z ▸ e)
  exact ⟨fun a vs q => by rw [upd_ne (nt a _ q)]; exact q, fun a ob u q => by rw [upd_ne (nf a ob u q)]; exact q⟩
theorem Ext.sqT (x : Ext K H H1) {a : Addr} {vs : List V} (q : SqT K H a vs) : SqT K H1 a vs := by
  rcases q with (q | ⟨ob, q⟩) | q
  · exact .inl (.inl (x.tup _ _ q))
  · exact .inl (.inr ⟨ob, x.frz _ _ _ q⟩)
  · exact .inr q
theorem Ext.fresh {p : Addr} {o : HO} (h : H p = none) : Ext K H (upd H p o) := .of_ne (fun xs z => by rw [h] at z; cases z) fun ob u z => by rw [h] at z; cases z
theorem Ext.lst {p : Addr} {xs : List V} {o : HO} (h : H p = some (.lst xs)) : Ext K H (upd H p o) := .of_ne (fun xs z => by rw [h] at z; cases z) fun ob u z => by rw [h] at z; cases z
theorem Ext.isM {p : Addr} {u o : HO} (h : H p = some u) (m : IsM u) : Ext K H (upd H p o) := .of_ne (fun xs z => by rw [h] at z; cases z; exact m) fun ob u z => by rw [h] at z; cases z; exact m
theorem SqF.mono {a : Addr} {xs : List V} (x : Ext K H H1) (h : SqF K H a xs) : SqF K H1 a xs := by
  rcases h with ⟨o, h⟩ | h
  · exact .inl ⟨o, x.frz _ _ _ h⟩
  · exact .inr h
theorem SqF.seq {a : Addr} {xs : List V} (h : SqF K H a xs) : SqL K H a xs := by
  rcases h with ⟨o, h⟩ | h
  · exact .inl (.inr ⟨o, h⟩)
  · exact .inr h
mutual
theorem DR.mono (x : Ext K H H1) : ∀ {d : D} {v : V}, DR K H d v → DR K H1 d v
  | _, _, .non => .non
  | _, _, .bl b => .bl b
  | _, _, .int i => .int i
  | _, _, .str z => .str z
  | _, _, .tup h r => .tup (x.tup _ _ h) (DRs.mono x r)
  | _, _, .ktp h r => .ktp (x.sqT h) (DRs.mono x r)
  | _, _, .rol h r => .rol (h.mono x) (DRs.mono x r)
  | _, _, .ref a => .ref a
theorem DRs.mono (x : Ext K H H1) : ∀ {ds : List D} {vs : List V}, DRs K H ds vs → DRs K H1 ds vs
  | _, _, .nil => .nil
  | _, _, .cons h r => .cons (DR.mono x h) (DRs.mono x r)
end
theorem DRs.length : ∀ {ds : List D} {vs : List V}, DRs K H ds vs → ds.length = vs.length
  | _, _, .nil => rfl
  | _, _, .cons _ r => by rw [List.length_cons, List.length_cons, r.length]
theorem DRs.get : ∀ {ds : List D} {vs : List V} {i : Nat} {d : D}, DRs K H ds vs → ds[i]? = some d → ∃ v, vs[i]? = some v ∧ DR K H d v
  | _, _, _, _, .nil, e => by simp at e
  | _, _, 0, _, .cons h _, e => by
    simp only [List.getElem?_cons_zero, Option.some.injEq] at e
    exact ⟨_, rfl, e ▸ h⟩
  | _, _, i + 1, _, .cons _ r, e => by
    simp only [List.getElem?_cons_succ] at e
    obtain ⟨v, h1, h2⟩ := DRs.get r e
    exact ⟨v, by simpa using h1, h2⟩
theorem DRs.get' : ∀ {ds : List D} {vs : List V} {i : Nat} {v : V}, DRs K H ds vs → vs[i]? = some v → ∃ d, ds[i]? = some d ∧ DR K H d v
  | _, _, _, _, .nil, e => by simp at e
  | _, _, 0, _, .cons h _, e => by
    simp only [List.getElem?_cons_zero, Option.some.injEq] at e
    exact ⟨_, rfl, e ▸ h⟩
  | _, _, i + 1, _, .cons _ r, e => by
    simp only [List.getElem?_cons_succ] at e
    obtain ⟨v, h1, h2⟩ := DRs.get' r e
    exact ⟨v, by simpa using h1, h2⟩
theorem DRs.append : ∀ {ds es : List D} {vs ws : List V}, DRs K H ds vs → DRs K H es ws → DRs K H (ds ++ es) (vs ++ ws)
  | _, _, _, _, .nil, s => s
  | _, _, _, _, .cons h r, s => .cons h (DRs.append r s)
theorem DRs.drop : ∀ {ds : List D} {vs : List V} (n : Nat), DRs K H ds vs → DRs K H (ds.drop n) (vs.drop n)
  | _, _, 0, r => r
  | _, _, _ + 1, .nil => .nil
  | _, _, n + 1, .cons _ r => DRs.drop n r
theorem DRs.take : ∀ {ds : List D} {vs : List V} (n : Nat), DRs K H ds vs → DRs K H (ds.take n) (vs.take n)
  | _, _, 0, _ => .nil
  | _, _, _ + 1, .nil => .nil
  | _, _, n + 1, .cons h r => .cons h (DRs.take n r)
theorem DRs.set : ∀ {ds : List D} {vs : List V} (i : Nat) {d : D} {v : V}, DRs K H ds vs → DR K H d v → DRs K H (ds.set i d) (vs.set i v)
  | _, _, _, _, _, .nil, _ => .nil
  | _, _, 0, _, _, .cons _ r, q => .cons q r
  | _, _, i + 1, _, _, .cons h r, q => .cons h (DRs.set i r q)
theorem DRs.erase : ∀ {ds : List D} {vs : List V} (i : Nat), DRs K H ds vs → DRs K H (ds.eraseIdx i) (vs.eraseIdx i)
  | _, _, _, .nil => .nil
  | _, _, 0, .cons _ r => r
  | _, _, i + 1, .cons h r => .cons h (DRs.erase i r)
theorem DRs.dropLast {ds : List D} {vs : List V} (r : DRs K H ds vs) : DRs K H ds.dropLast vs.dropLast := by
  rw [List.dropLast_eq_take, List.dropLast_eq_take, r.length]; exact r.take _
theorem DRs.one {d : D} {v : V} (h : DR K H d v) : DRs K H [d] [v] := .cons h .nil
theorem DRs.two {d e : D} {v w : V} (h : DR K H d v) (g : DR K H e w) : DRs K H [d, e] [v, w] := .cons h (.cons g .nil)

theorem ER.mono {ρ : Ev} {σ : St} (x : Ext K H H1) (e : ER K H ρ σ) : ER K H1 ρ σ := ⟨e.1, fun i d h => let ⟨v, h1, h2⟩ := e.2 i d h; ⟨v, h1, h2.mono x⟩⟩
theorem ER.set {ρ : Ev} {σ : St} {i : Nat} {d : D} {v : V} (e : ER K H ρ σ) (h : DR K H d v) : ER K H (ρ.set i (some d)) (σ.set i (some v)) := by
  refine ⟨by rw [List.length_set, List.length_set, e.1], fun j c q => ?_⟩
  by_cases hj : i = j
  · subst hj
    rw [List.getElem?_set] at q
    by_cases hl : i < ρ.length
    · rw [if_pos rfl, if_pos hl] at q
      cases q
      exact ⟨v, by rw [List.getElem?_set, if_pos rfl, if_pos (by rw [← e.1]; exact hl)], h⟩
    · rw [if_pos rfl, if_neg hl] at q
      cases q
  · rw [List.getElem?_set_ne hj] at q
    obtain ⟨w, h1, h2⟩ := e.2 j c q
    exact ⟨w, by rw [List.getElem?_set_ne hj]; exact h1, h2⟩

theorem DKs.mono {κ : Type} {kvs : List (κ × D)} {ws : List (κ × V)} (x : Ext K H H1) (h : DKs K H kvs ws) : DKs K H1 kvs ws := Paired.mapP h fun _ _ z => ⟨z.1, z.2.mono x⟩
/-- what M speaks of is there -/
theorem MR.there {a : Addr} {o : MO} (h : MR K H a o) : ∃ u, H a = some u ∧ IsM u := by
  cases o with
  | lst ds => obtain ⟨vs, q, _⟩ := h; exact ⟨_, q, trivial⟩
  | dk ds => obtain ⟨vs, q, _⟩ := h; exact ⟨_, q, trivial⟩
  | dt ds => obtain ⟨vs, q, _⟩ := h; exact ⟨_, q, trivial⟩
theorem HR.free {M : Mh} {p : Addr} (r : HR K H M) (h : H p = none) : M p = none := by
  cases e : M p with
  | none => rfl
  | some o =>
    obtain ⟨u, q, _⟩ := (r p _ e).there
    rw [h] at q; cases q
theorem MR.keep {a : Addr} {o : MO} (h : MR K H a o) (x : Ext K H H1) (k : ∀ u, IsM u → H a = some u → H1 a = some u) : MR K H1 a o := by
  cases o with
  | lst ds => obtain ⟨vs, q, d⟩ := h; exact ⟨vs, k _ trivial q, d.mono x⟩
  | dk ds => obtain ⟨vs, q, d⟩ := h; exact ⟨vs, k _ trivial q, d.mono x⟩
  | dt ds => obtain ⟨vs, q, d⟩ := h; exact ⟨vs, k _ trivial q, d.mono x⟩
/-- the objects of M elsewhere stand -/
theorem HR.keep {M : Mh} (r : HR K H M) (x : Ext K H H1) (k : ∀ a u, (M a).isSome = true → IsM u → H a = some u → H1 a = some u) : HR K H1 M := fun a o e =>
  (r a o e).keep x fun u m q => k a u (by rw [e]; rfl) m q
/-- something new that M does not speak of -/
theorem HR.fresh {M : Mh} {p : Addr} {o : HO} (r : HR K H M) (h : H p = none) : HR K (upd H p o) M :=
  r.keep (.fresh h) fun a vs _ _ e => by rw [upd_ne (ne_of_none e h)]; exact e
/-- a place is written -/
theorem HR.put {M : Mh} {p : Addr} {mo : MO} {o : HO} (r : HR K H M) (x : Ext K H (upd H p o)) (d : MR K (upd H p o) p mo) : HR K (upd H p o) (mup M p mo) := fun a o e => by
  by_cases z : a = p
  · subst z
    rw [mup_same] at e; cases e
    exact d
  · rw [mup_ne z] at e
    exact (r a o e).keep x fun u _ q => by rw [upd_ne z]; exact q
/-- a new list -/
theorem HR.new {M : Mh} {p : Addr} {ds : List D} {vs : List V} (r : HR K H M) (h : H p = none) (d : DRs K H ds vs) : HR K (upd H p (.lst vs)) (mup M p (.lst ds)) :=
  r.put (.fresh h) ⟨vs, upd_same, d.mono (.fresh h)⟩
/-- a list is written -/
theorem HR.write {M : Mh} {p : Addr} {ds : List D} {vs xs : List V} (r : HR K H M) (h : H p = some (.lst xs)) (d : DRs K H ds vs) : HR K (upd H p (.lst vs)) (mup M p (.lst ds)) :=
  r.put (.lst h) ⟨vs, upd_same, d.mono (.lst h)⟩
end
end DL
/-! DLb: rules of the data layer for expressions and tests. -/
namespace DL
open PySem PySem.Spec L2
open PyProof.Rows hiding St

/-! ### transformers over data, seen as the hand layer's readings -/
def up (K : PySem.W.Frag) (w : DT) : TE := fun σ H Q => ∃ ρ M P, ER K H ρ σ ∧ HR K H M ∧ w ρ M P ∧ ∀ d M' v H', P d M' → Ext K H H' → DR K H' d v → HR K H' M' → Q v H'
def upB (K : PySem.W.Frag) (w : DB) : TT := fun σ H Q => ∃ ρ M P, ER K H ρ σ ∧ HR K H M ∧ w ρ M P ∧ ∀ b M' H', P b M' → Ext K H H' → HR K H' M' → Q b H'
def upA (K : PySem.W.Frag) (w : DA) : TA := fun σ H Q => ∃ ρ M P, ER K H ρ σ ∧ HR K H M ∧ w ρ M P ∧ ∀ ds M' vs H', P ds M' → Ext K H H' → DRs K H' ds vs → HR K H' M' → Q vs H'
/-- operations on values -/
def up1 (K : PySem.W.Frag) (r : D → Mh → PQ → Prop) : V → Hp → VK → Prop := fun v H Q => ∃ x M P, DR K H x v ∧ HR K H M ∧ r x M P ∧ ∀ d M' v' H', P d M' → Ext K H H' → DR K H' d v' → HR K H' M' → Q v' H'
def up2 (K : PySem.W.Frag) (r : D → D → Mh → PQ → Prop) : R2 := fun v u H Q => ∃ x y M P, DR K H x v ∧ DR K H y u ∧ HR K H M ∧ r x y M P ∧ ∀ d M' v' H', P d M' → Ext K H H' → DR K H' d v' → HR K H' M' → Q v' H'
def upL (K : PySem.W.Frag) (r : List D → Mh → PQ → Prop) : List V → Hp → VK → Prop := fun vs H Q => ∃ xs M P, DRs K H xs vs ∧ HR K H M ∧ r xs M P ∧ ∀ d M' v' H', P d M' → Ext K H H' → DR K H' d v' → HR K H' M' → Q v' H'
def upM (K : PySem.W.Frag) (r : D → List D → Mh → PQ → Prop) : V → List V → Hp → VK → Prop := fun v vs H Q => ∃ x xs M P, DR K H x v ∧ DRs K H xs vs ∧ HR K H M ∧ r x xs M P ∧ ∀ d M' v' H', P d M' → Ext K H H' → DR K H' d v' → HR K H' M' → Q v' H'
abbrev Dx (X : Cx) (e : Expr) (w : DT) : Prop := PE X e (up X.K w)
abbrev Dt (X : Cx) (e : Expr) (w : DB) : Prop := PT X e (upB X.K w)
abbrev Da (X : Cx) (es : List Expr) (w : DA) : Prop := PA X es (upA X.K w)
theorem pe_wk {X : Cx} {e : Expr} {t t' : TE} (h : PE X e t) (k : ∀ σ H Q, t' σ H Q → t σ H Q) : PE X e t' := ⟨fun pins s σ H Q I q => h.run pins s σ H Q I (k σ H Q q)⟩
theorem pt_wk {X : Cx} {e : Expr} {t t' : TT} (h : PT X e t) (k : ∀ σ H Q, t' σ H Q → t σ H Q) : PT X e t' := ⟨fun pins s σ H Q I q => h.run pins s σ H Q I (k σ H Q q)⟩
theorem pa_wk {X : Cx} {es : List Expr} {t t' : TA} (h : PA X es t) (k : ∀ σ H Q, t' σ H Q → t σ H Q) : PA X es t' := ⟨fun pos pins s σ H Q I q => h.run pos pins s σ H Q I (k σ H Q q)⟩

/-! ### the combinators -/
def slot : Ev → Nat → Option D
  | [], _ => none
  | x :: _, 0 => x
  | _ :: r, n + 1 => slot r n
theorem slot_get : ∀ {ρ : Ev} {i : Nat} {d : D}, slot ρ i = some d → ρ[i]? = some (some d)
  | x :: _, 0, d, h => by simpa [slot] using h
  | _ :: r, n + 1, d, h => by
    have := slot_get (ρ := r) (i := n) (d := d) h
    simpa using this
def eVar (i : Nat) : DT := fun ρ M P => match slot ρ i with
  | some d => P d M
  | none => False
def eC (d : D) : DT := fun _ M P => P d M
def eBin (r : D → D → Mh → PQ → Prop) (a b : DT) : DT := fun ρ M P => a ρ M fun x M1 => b ρ M1 fun y M2 => r x y M2 P
def eUn (r : D → Mh → PQ → Prop) (a : DT) : DT := fun ρ M P => a ρ M fun x M1 => r x M1 P
/-- a comparison's answer -/
abbrev Cmp := D → D → Mh → (Bool → Prop) → Prop
def eCmp (r : Cmp) (a b : DT) : DT := fun ρ M P => a ρ M fun x M1 => b ρ M1 fun y M2 => r x y M2 fun k => P (.bl k) M2
def bCmp (r : Cmp) (a b : DT) : DB := fun ρ M P => a ρ M fun x M1 => b ρ M1 fun y M2 => r x y M2 fun k => P k M2
/-- truth -/
def truD (x : D) (M : Mh) (P : Bool → Prop) : Prop := match x with
  | .non => P false
  | .bl b => P b
  | .int i => P (i != 0)
  | .str z => z.length ≤ sizeLine ∧ P ((z.length : Int) != 0)
  | .tup ds => P (!ds.isEmpty)
  | .ktp ds => P (!ds.isEmpty)
  | .rol ds => P (!ds.isEmpty)
  | .ref a => match M a with
    | some (.lst ds) => P (!ds.isEmpty)
    | _ => False
def bTru (a : DT) : DB := fun ρ M P => a ρ M fun x M1 => truD x M1 fun k => P k M1
def bNot (a : DB) : DB := fun ρ M P => a ρ M fun k M1 => P (!k) M1
def bAnd (a b : DB) : DB := fun ρ M P => a ρ M fun k M1 => if k = true then b ρ M1 P else P false M1
def bOr (a b : DB) : DB := fun ρ M P => a ρ M fun k M1 => if k = true then P true M1 else b ρ M1 P
def eNot (a : DT) : DT := fun ρ M P => a ρ M fun x M1 => truD x M1 fun k => P (.bl (!k)) M1
def eAnd (a b : DT) : DT := fun ρ M P => a ρ M fun x M1 => truD x M1 fun k => if k = true then b ρ M1 P else P x M1
def eOr (a b : DT) : DT := fun ρ M P => a ρ M fun x M1 => truD x M1 fun k => if k = true then P x M1 else b ρ M1 P
def eIf (c : DB) (a b : DT) : DT := fun ρ M P => c ρ M fun k M1 => if k = true then a ρ M1 P else b ρ M1 P
def aNil : DA := fun _ M P => P [] M
def aCons (a : DT) (r : DA) : DA := fun ρ M P => a ρ M fun x M1 => r ρ M1 fun xs M2 => P (x :: xs) M2
def eTup (a : DA) : DT := fun ρ M P => a ρ M fun xs M1 => xs.length ≤ sizeLine ∧ P (.tup xs) M1
def eLst (a : DA) : DT := fun ρ M P => a ρ M fun xs M1 => xs.length ≤ sizeLine ∧ ∀ p, M1 p = none → P (.ref p) (mup M1 p (.lst xs))
/-- f(..) by what f promises -/
def eCall (sp : List D → Mh → PQ → Prop) (a : DA) : DT := fun ρ M P => a ρ M fun xs M1 => sp xs M1 P
/-- o.m(..) -/
def eMet (r : D → List D → Mh → PQ → Prop) (o : DT) (a : DA) : DT := fun ρ M P => o ρ M fun x M1 => a ρ M1 fun xs M2 => r x xs M2 P

section
variable {X : Cx}
theorem dx_var {i : Nat} {x : Str} {pos : Pos} (hN : X.N[i]? = some x) (hv : Vis X.env.scope x) (hd : (x == ("__debug__" : Str)) = false) (hcd : (x == ("__classdict__" : Str)) = false) : Dx X (.Name x pos) (eVar i) :=
  pe_wk (pe_var hN hv hd hcd) fun σ H Q ⟨ρ, M, P, er, hr, w, k⟩ => by
    unfold eVar at w
    cases e : slot ρ i with
    | none => rw [e] at w; exact w.elim
    | some d =>
      rw [e] at w
      obtain ⟨v, h1, h2⟩ := er.2 i d (slot_get e)
      exact ⟨v, h1, k d M v H w (.refl _ _) h2 hr⟩
theorem dx_c {e : Expr} {v : V} {d : D} (h : PE X e (tC v)) (r : ∀ H, DR X.K H d v) : Dx X e (eC d) :=
  pe_wk h fun σ H Q ⟨ρ, M, P, er, hr, w, k⟩ => k d M v H w (.refl _ _) (r H) hr
theorem dx_bin {op : Operator} {r : D → D → Mh → PQ → Prop} {a b : Expr} {wa wb : DT} {pos : Pos} (ho : OpR X (binaryOp op) (up2 X.K r)) (ha : Dx X a wa) (hb : Dx X b wb) : Dx X (.BinOp a op b pos) (eBin r wa wb) :=
  pe_wk (pe_op ho ha hb) fun σ H Q ⟨ρ, M, P, er, hr, w, k⟩ =>
    ⟨ρ, M, _, er, hr, w, fun x M1 v H1 p1 e1 d1 h1 => ⟨ρ, M1, _, er.mono e1, h1, p1, fun y M2 u H2 p2 e2 d2 h2 => ⟨x, y, M2, P, d1.mono e2, d2, h2, p2, fun d M3 v3 H3 p3 e3 => k d M3 v3 H3 p3 (e1.trans (e2.trans e3))⟩⟩⟩
theorem dx_un {op : UnaryOp} {r : D → Mh → PQ → Prop} {a : Expr} {wa : DT} {pos : Pos} (ho : UnR X (unaryOp op) (up1 X.K r)) (ha : Dx X a wa) : Dx X (.UnaryOp op a pos) (eUn r wa) :=
  pe_wk (pe_un ho ha) fun σ H Q ⟨ρ, M, P, er, hr, w, k⟩ =>
    ⟨ρ, M, _, er, hr, w, fun x M1 v H1 p1 e1 d1 h1 => ⟨x, M1, P, d1, h1, p1, fun d M3 v3 H3 p3 e3 => k d M3 v3 H3 p3 (e1.trans e3)⟩⟩
/-- a comparison by values -/
def upC (K : PySem.W.Frag) (r : Cmp) : R2 := fun v u H Q => ∃ x y M P, DR K H x v ∧ DR K H y u ∧ HR K H M ∧ r x y M P ∧ ∀ k, P k → Q (.bl k) H
theorem dx_cmp {op : CmpOp} {r : Cmp} {a b : Expr} {wa wb : DT} {pos : Pos} (ho : OpR X (compareOp op) (upC X.K r)) (ha : Dx X a wa) (hb : Dx X b wb) (hm : behindInMarks op b = false) : Dx X (.Compare a [op] [b] pos) (eCmp r wa wb) :=
  pe_wk (pe_cmpR ho ha hb hm) fun σ H Q ⟨ρ, M, P, er, hr, w, k⟩ =>
    ⟨ρ, M, _, er, hr, w, fun x M1 v H1 p1 e1 d1 h1 => ⟨ρ, M1, _, er.mono e1, h1, p1, fun y M2 u H2 p2 e2 d2 h2 => ⟨x, y, M2, _, d1.mono e2, d2, h2, p2, fun c p3 => k _ M2 _ H2 p3 (e1.trans e2) (.bl c) h2⟩⟩⟩
theorem dt_cmp {op : CmpOp} {r : Cmp} {a b : Expr} {wa wb : DT} {pos : Pos} (ho : OpR X (compareOp op) (upC X.K r)) (ha : Dx X a wa) (hb : Dx X b wb) (hm : behindInMarks op b = false) : Dt X (.Compare a [op] [b] pos) (bCmp r wa wb) :=
  pt_wk (pt_cmpR ho ha hb hm) fun σ H Q ⟨ρ, M, P, er, hr, w, k⟩ =>
    ⟨ρ, M, _, er, hr, w, fun x M1 v H1 p1 e1 d1 h1 => ⟨ρ, M1, _, er.mono e1, h1, p1, fun y M2 u H2 p2 e2 d2 h2 => ⟨x, y, M2, _, d1.mono e2, d2, h2, p2, fun c p3 => ⟨c, rfl, k _ M2 H2 p3 (e1.trans e2) h2⟩⟩⟩⟩
theorem DRs.isEmpty {K : PySem.W.Frag} {H : Hp} : ∀ {ds : List D} {vs : List V}, DRs K H ds vs → ds.isEmpty = vs.isEmpty
  | _, _, .nil => rfl
  | _, _, .cons _ _ => rfl
/-- truth by values -/
theorem tru_of {K : PySem.W.Frag} {H : Hp} {x : D} {v : V} {M : Mh} {P : Bool → Prop} (d : DR K H x v) (h : HR K H M) (t : truD x M P) : ∃ k, TruV K v H k ∧ P k := by
  cases d with
  | non => exact ⟨false, rfl, t⟩
  | bl b => exact ⟨b, rfl, t⟩
  | int i => exact ⟨_, rfl, t⟩
  | str z => exact ⟨_, ⟨t.1, rfl⟩, t.2⟩
  | tup s r => exact ⟨_, .inr (.inl ⟨_, SqT.of s, rfl⟩), by rw [← r.isEmpty]; exact t⟩
  | ktp s r => exact ⟨_, .inr (.inl ⟨_, s, rfl⟩), by rw [← r.isEmpty]; exact t⟩
  | rol s r => exact ⟨_, .inl ⟨_, s.seq, rfl⟩, by rw [← r.isEmpty]; exact t⟩
  | ref a =>
    have t : (match M a with | some (.lst ds) => P (!ds.isEmpty) | _ => False) := t
    cases e : M a with
    | none => rw [e] at t; exact False.elim t
    | some o =>
      rw [e] at t
      cases o with
      | lst ds =>
        obtain ⟨vs, q, r⟩ := h a _ e
        exact ⟨_, .inl ⟨_, SqL.of q, rfl⟩, by rw [← r.isEmpty]; exact t⟩
      | _ => exact False.elim t
theorem dt_tru {a : Expr} {wa : DT} (ha : Dx X a wa) (he : ∀ whole, isTrue a X.env whole = (do let v ← whole; standAt a.pos; holding [v] (truthy v))) : Dt X a (bTru wa) :=
  pt_wk (pt_truth ha he) fun σ H Q ⟨ρ, M, P, er, hr, w, k⟩ =>
    ⟨ρ, M, _, er, hr, w, fun x M1 v H1 p1 e1 d1 h1 => let ⟨c, t, p⟩ := tru_of d1 h1 p1; ⟨c, t, k c M1 H1 p e1 h1⟩⟩
theorem dt_not {a : Expr} {wa : DB} {pos : Pos} (ha : Dt X a wa) : Dt X (.UnaryOp .Not a pos) (bNot wa) :=
  pt_wk (pt_not ha) fun σ H Q ⟨ρ, M, P, er, hr, w, k⟩ => ⟨ρ, M, _, er, hr, w, fun b M1 H1 p1 e1 h1 => k _ M1 H1 p1 e1 h1⟩
/-- a row of tests -/
abbrev Dw (X : Cx) (e : Expr) (w : DB) : Prop := PW X e (upB X.K w)
theorem pw_wk {e : Expr} {t t' : TT} (h : PW X e t) (k : ∀ σ H Q, t' σ H Q → t σ H Q) : PW X e t' := ⟨fun whole pins s σ H Q I q => h.run whole pins s σ H Q I (k σ H Q q)⟩
theorem dw_and {a b : Expr} {rest : List Expr} {wa wb : DB} {pos : Pos} (ha : Dt X a wa) (hb : Dw X (.BoolOp .And (b :: rest) pos) wb) : Dw X (.BoolOp .And (a :: b :: rest) pos) (bAnd wa wb) :=
  pw_wk (pw_and ha hb) fun σ H Q ⟨ρ, M, P, er, hr, w, k⟩ => ⟨ρ, M, _, er, hr, w, fun b M1 H1 p1 e1 h1 => by
    cases b with
    | true => exact ⟨ρ, M1, P, er.mono e1, h1, p1, fun c M2 H2 p2 e2 h2 => k c M2 H2 p2 (e1.trans e2) h2⟩
    | false => exact k _ M1 H1 p1 e1 h1⟩
theorem dw_or {a b : Expr} {rest : List Expr} {wa wb : DB} {pos : Pos} (ha : Dt X a wa) (hb : Dw X (.BoolOp .Or (b :: rest) pos) wb) : Dw X (.BoolOp .Or (a :: b :: rest) pos) (bOr wa wb) :=
  pw_wk (pw_or ha hb) fun σ H Q ⟨ρ, M, P, er, hr, w, k⟩ => ⟨ρ, M, _, er, hr, w, fun b M1 H1 p1 e1 h1 => by
    cases b with
    | false => exact ⟨ρ, M1, P, er.mono e1, h1, p1, fun c M2 H2 p2 e2 h2 => k c M2 H2 p2 (e1.trans e2) h2⟩
    | true => exact k _ M1 H1 p1 e1 h1⟩
theorem dx_not {a : Expr} {wa : DT} {pos : Pos} (ha : Dx X a wa) : Dx X (.UnaryOp .Not a pos) (eNot wa) :=
  pe_wk (pe_notT ha) fun σ H Q ⟨ρ, M, P, er, hr, w, k⟩ => ⟨ρ, M, _, er, hr, w, fun x M1 v H1 p1 e1 d1 h1 => let ⟨c, t, p⟩ := tru_of d1 h1 p1; ⟨c, t, k _ M1 _ H1 p e1 (.bl _) h1⟩⟩
theorem dx_and {a b : Expr} {rest : List Expr} {wa wb : DT} {pos : Pos} (ha : Dx X a wa) (hb : Dx X (.BoolOp .And (b :: rest) pos) wb) : Dx X (.BoolOp .And (a :: b :: rest) pos) (eAnd wa wb) :=
  pe_wk (pe_andT ha hb) fun σ H Q ⟨ρ, M, P, er, hr, w, k⟩ => ⟨ρ, M, _, er, hr, w, fun x M1 v H1 p1 e1 d1 h1 => by
    obtain ⟨c, t, p⟩ := tru_of d1 h1 p1
    refine ⟨c, t, ?_⟩
    cases c with
    | true => exact ⟨ρ, M1, P, er.mono e1, h1, p, fun d M2 v2 H2 p2 e2 => k d M2 v2 H2 p2 (e1.trans e2)⟩
    | false => exact k _ M1 _ H1 p e1 d1 h1⟩
theorem dx_or {a b : Expr} {rest : List Expr} {wa wb : DT} {pos : Pos} (ha : Dx X a wa) (hb : Dx X (.BoolOp .Or (b :: rest) pos) wb) : Dx X (.BoolOp .Or (a :: b :: rest) pos) (eOr wa wb) :=
  pe_wk (pe_orT ha hb) fun σ H Q ⟨ρ, M, P, er, hr, w, k⟩ => ⟨ρ, M, _, er, hr, w, fun x M1 v H1 p1 e1 d1 h1 => by
    obtain ⟨c, t, p⟩ := tru_of d1 h1 p1
    refine ⟨c, t, ?_⟩
    cases c with
    | false => exact ⟨ρ, M1, P, er.mono e1, h1, p, fun d M2 v2 H2 p2 e2 => k d M2 v2 H2 p2 (e1.trans e2)⟩
    | true => exact k _ M1 _ H1 p e1 d1 h1⟩
theorem dx_if {c a b : Expr} {wc : DB} {wa wb : DT} {pos : Pos} (hc : Dt X c wc) (ha : Dx X a wa) (hb : Dx X b wb) : Dx X (.IfExp c a b pos) (eIf wc wa wb) :=
  pe_wk (pe_ifExp hc ha hb) fun σ H Q ⟨ρ, M, P, er, hr, w, k⟩ => ⟨ρ, M, _, er, hr, w, fun c M1 H1 p1 e1 h1 => by
    cases c with
    | true => exact ⟨ρ, M1, P, er.mono e1, h1, p1, fun d M2 v2 H2 p2 e2 => k d M2 v2 H2 p2 (e1.trans e2)⟩
    | false => exact ⟨ρ, M1, P, er.mono e1, h1, p1, fun d M2 v2 H2 p2 e2 => k d M2 v2 H2 p2 (e1.trans e2)⟩⟩
theorem da_nil : Da X [] aNil := pa_wk pa_nil fun σ H Q ⟨ρ, M, P, er, hr, w, k⟩ => k [] M [] H w (.refl _ _) .nil hr
theorem da_cons {e : Expr} {es : List Expr} {wa : DT} {wr : DA} (ha : Dx X e wa) (hr : Da X es wr) (hs : starEach (e :: es) X.env = (false, eval e X.env) :: starEach es X.env) : Da X (e :: es) (aCons wa wr) :=
  pa_wk (pa_cons ha hr hs) fun σ H Q ⟨ρ, M, P, er, hr, w, k⟩ => ⟨ρ, M, _, er, hr, w, fun x M1 v H1 p1 e1 d1 h1 => ⟨ρ, M1, _, er.mono e1, h1, p1, fun xs M2 vs H2 p2 e2 d2 h2 => k _ M2 _ H2 p2 (e1.trans e2) (.cons (d1.mono e2) d2) h2⟩⟩
theorem dx_tup {es : List Expr} {wa : DA} {n : Nat} {pos : Pos} (ha : Da X es wa) : Dx X (.Tuple es n pos) (eTup wa) :=
  pe_wk (pe_tup ha) fun σ H Q ⟨ρ, M, P, er, hr, w, k⟩ => ⟨ρ, M, _, er, hr, w, fun xs M1 vs H1 p1 e1 d1 h1 => ⟨by rw [← d1.length]; exact p1.1, fun p np =>
    k _ M1 _ _ p1.2 (e1.trans (.fresh np)) (.tup upd_same (d1.mono (.fresh np))) (h1.fresh np)⟩⟩
theorem dx_lst {es : List Expr} {wa : DA} {pos : Pos} (ha : Da X es wa) : Dx X (.List es pos) (eLst wa) :=
  pe_wk (pe_lst ha) fun σ H Q ⟨ρ, M, P, er, hr, w, k⟩ => ⟨ρ, M, _, er, hr, w, fun xs M1 vs H1 p1 e1 d1 h1 => ⟨by rw [← d1.length]; exact p1.1, fun p np =>
    k _ _ _ _ (p1.2 p (h1.free np)) (e1.trans (.fresh np)) (.ref p) (h1.new np d1)⟩⟩
end
end DL
/-! DLk: dicts of the data layer. -/
namespace DL
open PySem PySem.Spec L2
open PyProof.Rows hiding St

section
variable {κ : Type} [DecidableEq κ]
def valD (kvs : List (κ × D)) (k : κ) : Option D := (kvs.find? fun kv => decide (kv.1 = k)).map (·.2)
def putD (kvs : List (κ × D)) (k : κ) (d : D) : List (κ × D) :=
  if (kvs.any fun kv => decide (kv.1 = k)) = true then kvs.map (fun kv => if kv.1 = k then (kv.1, d) else kv) else kvs ++ [(k, d)]
theorem valD_nil {k : κ} : valD ([] : List (κ × D)) k = none := rfl
theorem valD_pos {p : κ × D} {r : List (κ × D)} {k : κ} (e : p.1 = k) : valD (p :: r) k = some p.2 := by simp [valD, List.find?_cons, e]
theorem valD_neg {p : κ × D} {r : List (κ × D)} {k : κ} (e : ¬ p.1 = k) : valD (p :: r) k = valD r k := by simp [valD, List.find?_cons, e]
theorem valD_any (k : κ) : ∀ kvs : List (κ × D), (kvs.any fun kv => decide (kv.1 = k)) = (valD kvs k).isSome
  | [] => rfl
  | p :: r => by
    rw [List.any_cons]
    by_cases e : p.1 = k
    · simp only [valD_pos e, decide_eq_true e, Bool.true_or, Option.isSome_some]
    · rw [valD_neg e, decide_eq_false e, Bool.false_or]; exact valD_any k r
theorem putD_new {kvs : List (κ × D)} {k : κ} (d : D) (h : valD kvs k = none) : putD kvs k d = kvs ++ [(k, d)] := by
  unfold putD
  rw [valD_any, h]
  exact if_neg (by decide)
theorem putD_len (kvs : List (κ × D)) (k : κ) (d : D) : (putD kvs k d).length ≤ kvs.length + 1 := by
  unfold putD
  split
  · rw [List.length_map]; omega
  · rw [List.length_append, List.length_cons, List.length_nil]; omega
/-- the keys behind a put -/
theorem putD_keys (kvs : List (κ × D)) (k : κ) (d : D) : (putD kvs k d).map (·.1) = if k ∈ kvs.map (·.1) then kvs.map (·.1) else kvs.map (·.1) ++ [k] := by
  unfold putD
  have e : (kvs.any fun kv => decide (kv.1 = k)) = true ↔ k ∈ kvs.map (·.1) := by
    simp only [List.any_eq_true, decide_eq_true_eq, List.mem_map]
  by_cases h : k ∈ kvs.map (·.1)
  · rw [if_pos (e.mpr h), if_pos h, List.map_map]
    apply List.map_congr_left
    intro kv _
    show (if kv.1 = k then (kv.1, d) else kv).1 = kv.1
    split <;> rfl
  · rw [if_neg (fun z => h (e.mp z)), if_neg h, List.map_append]; rfl
theorem valD_mem {kvs : List (κ × D)} {k : κ} : (valD kvs k).isSome = decide (k ∈ kvs.map (·.1)) := by
  rw [← valD_any, Bool.eq_iff_iff]
  simp only [List.any_eq_true, decide_eq_true_eq, List.mem_map]
variable {K : PySem.W.Frag} {H : Hp}
theorem DKs.val {kvs : List (κ × D)} {ws : List (κ × V)} (h : DKs K H kvs ws) (k : κ) : (∀ d, valD kvs k = some d → ∃ v, valV ws k = some v ∧ DR K H d v) ∧ (valD kvs k).isSome = (valV ws k).isSome := by
  induction h with
  | nil => exact ⟨fun d e => (nomatch e), rfl⟩
  | @cons p q ps qs h _ ih =>
    by_cases e : p.1 = k
    · have e' : q.1 = k := h.1.symm.trans e
      rw [valD_pos e, valV_pos e']
      refine ⟨fun d z => ?_, rfl⟩
      cases z
      exact ⟨_, rfl, h.2⟩
    · have e' : ¬ q.1 = k := fun z => e (h.1.trans z)
      rw [valD_neg e, valV_neg e']
      exact ih
theorem DKs.any {kvs : List (κ × D)} {ws : List (κ × V)} (h : DKs K H kvs ws) (k : κ) : (kvs.any fun kv => decide (kv.1 = k)) = ws.any fun kv => decide (kv.1 = k) := by
  induction h with
  | nil => rfl
  | cons h _ ih => rw [List.any_cons, List.any_cons, ih, h.1]
theorem DKs.repl {kvs : List (κ × D)} {ws : List (κ × V)} (h : DKs K H kvs ws) (k : κ) {d : D} {v : V} (r : DR K H d v) : DKs K H (kvs.map fun kv => if kv.1 = k then (kv.1, d) else kv) (ws.map fun kv => if kv.1 = k then (kv.1, v) else kv) := by
  induction h with
  | nil => exact .nil
  | @cons p q ps qs h _ ih =>
    rw [List.map_cons, List.map_cons]
    refine .cons ?_ ih
    by_cases e : p.1 = k
    · rw [if_pos e, if_pos (h.1.symm.trans e)]; exact ⟨h.1, r⟩
    · rw [if_neg e, if_neg (fun z => e (h.1.trans z))]; exact h
theorem DKs.put {kvs : List (κ × D)} {ws : List (κ × V)} (h : DKs K H kvs ws) (k : κ) {d : D} {v : V} (r : DR K H d v) : DKs K H (putD kvs k d) (putK ws k v) := by
  unfold putD putK
  rw [h.any k]
  split
  · exact h.repl k r
  · exact Paired.snoc h ⟨rfl, r⟩
theorem DKs.length {kvs : List (κ × D)} {ws : List (κ × V)} (h : DKs K H kvs ws) : kvs.length = ws.length := Paired.length h
theorem DKs.keys {kvs : List (κ × D)} {ws : List (κ × V)} (h : DKs K H kvs ws) : kvs.map (·.1) = ws.map (·.1) := by
  induction h with
  | nil => rfl
  | cons h _ ih => rw [List.map_cons, List.map_cons, ih, h.1]
end

/-! ### keys -/
def keyD : D → Option Key
  | .int i => some (.inl i)
  | .str s => some (.inr s)
  | _ => none
def keysL : List D → Option (List Key)
  | [] => some []
  | d :: r => match keyD d, keysL r with
    | some k, some ks => some (k :: ks)
    | _, _ => none
def keysD : D → Option (List Key)
  | .tup ds => keysL ds
  | _ => none
def kD : Key → D
  | .inl i => .int i
  | .inr s => .str s
section
variable {K : PySem.W.Frag} {H : Hp}
theorem key_rel {d : D} {v : V} {k : Key} (r : DR K H d v) (e : keyD d = some k) : v = kV k := by
  cases r <;> cases e <;> rfl
theorem keys_rel : ∀ {ds : List D} {vs : List V} {ks : List Key}, DRs K H ds vs → keysL ds = some ks → vs = ks.map kV
  | _, _, _, .nil, e => by cases e; rfl
  | _, _, _, .cons (d := d) (ds := ds) h r, e => by
    have e : (match keyD d, keysL ds with | some k, some ks => some (k :: ks) | _, _ => none) = some _ := e
    cases e1 : keyD d with
    | none => rw [e1] at e; cases e
    | some k =>
      cases e2 : keysL ds with
      | none => rw [e1, e2] at e; cases e
      | some ks =>
        rw [e1, e2] at e
        cases e
        rw [key_rel h e1, keys_rel r e2]; rfl
theorem keyT_rel {d : D} {v : V} {ks : List Key} (r : DR K H d v) (e : keysD d = some ks) : ∃ b, v = .ref b ∧ H b = some (.tup (ks.map kV)) := by
  cases r with
  | tup s q => exact ⟨_, rfl, by rw [s, keys_rel q e]⟩
  | _ => cases e
end
def dGet (o : MO) (y : D) : Option (Option D) := match o with
  | .dk kvs => (keyD y).map (valD kvs)
  | .dt kvs => (keysD y).map (valD kvs)
  | _ => none
def dSize : MO → Nat
  | .lst ds => ds.length
  | .dk kvs => kvs.length
  | .dt kvs => kvs.length
def dPut (o : MO) (y d : D) : Option MO := match o with
  | .dk kvs => (keyD y).map fun k => .dk (putD kvs k d)
  | .dt kvs => (keysD y).map fun k => .dt (putD kvs k d)
  | _ => none
/-- the dict that x is -/
def dictD (x : D) (M : Mh) : Option MO := match x with
  | .ref a => match M a with
    | some (.dk kvs) => some (.dk kvs)
    | some (.dt kvs) => some (.dt kvs)
    | _ => none
  | _ => none
/-- its keys in order -/
def dKeys : MO → List D
  | .dk kvs => kvs.map fun kv => kD kv.1
  | .dt kvs => kvs.map fun kv => .tup (kv.1.map kD)
  | _ => []
section
variable {K : PySem.W.Frag} {H : Hp} {M : Mh}
theorem dict_of {x : D} {o : MO} (e : dictD x M = some o) : ∃ a, x = .ref a ∧ M a = some o ∧ ((∃ kvs, o = .dk kvs) ∨ ∃ kvs, o = .dt kvs) := by
  cases x with
  | ref a =>
    have e : (match M a with | some (.dk kvs) => some (MO.dk kvs) | some (.dt kvs) => some (.dt kvs) | _ => none) = some o := e
    refine ⟨a, rfl, ?_⟩
    cases q : M a with
    | none => rw [q] at e; cases e
    | some u =>
      rw [q] at e
      cases u with
      | lst _ => cases e
      | dk kvs => cases e; exact ⟨rfl, .inl ⟨_, rfl⟩⟩
      | dt kvs => cases e; exact ⟨rfl, .inr ⟨_, rfl⟩⟩
  | _ => cases e
theorem dget_of {x y : D} {o : MO} {r : Option D} {v u : V} (hr : HR K H M) (dx : DR K H x v) (dy : DR K H y u) (e : dictD x M = some o) (g : dGet o y = some r) :
    ∃ a r', v = .ref a ∧ DGet H a u r' ∧ r.isSome = r'.isSome ∧ ∀ d, r = some d → ∃ w, r' = some w ∧ DR K H d w := by
  obtain ⟨a, rfl, e1, ⟨kvs, rfl⟩ | ⟨kvs, rfl⟩⟩ := dict_of e
  · obtain ⟨ws, q, p⟩ := hr _ _ e1
    obtain ⟨k, e2, rfl⟩ := Option.map_eq_some_iff.mp g
    cases dx
    obtain rfl := key_rel dy e2
    exact ⟨a, _, rfl, DGet.k q, (p.val k).2, (p.val k).1⟩
  · obtain ⟨ws, q, p⟩ := hr _ _ e1
    obtain ⟨k, e2, rfl⟩ := Option.map_eq_some_iff.mp g
    cases dx
    obtain ⟨b, rfl, hb⟩ := keyT_rel dy e2
    exact ⟨a, _, rfl, DGet.t q hb, (p.val k).2, (p.val k).1⟩
theorem dput_of {x y d : D} {o o' : MO} {v u z : V} (hr : HR K H M) (dx : DR K H x v) (dy : DR K H y u) (dz : DR K H d z) (e : dictD x M = some o) (g : dPut o y d = some o') (l : dSize o < sizeLine) :
    ∃ a H', x = .ref a ∧ v = .ref a ∧ DPut H a u z H' ∧ Ext K H H' ∧ HR K H' (mup M a o') := by
  obtain ⟨a, rfl, e1, ⟨kvs, rfl⟩ | ⟨kvs, rfl⟩⟩ := dict_of e
  · obtain ⟨ws, q, p⟩ := hr _ _ e1
    obtain ⟨k, e2, rfl⟩ := Option.map_eq_some_iff.mp g
    cases dx
    obtain rfl := key_rel dy e2
    have x1 : Ext K H (upd H a (.dK (putK ws k z))) := .isM q trivial
    exact ⟨a, _, rfl, rfl, DPut.k q (by rw [← p.length]; exact l), x1, hr.put x1 ⟨_, upd_same, (p.put k dz).mono x1⟩⟩
  · obtain ⟨ws, q, p⟩ := hr _ _ e1
    obtain ⟨k, e2, rfl⟩ := Option.map_eq_some_iff.mp g
    cases dx
    obtain ⟨b, rfl, hb⟩ := keyT_rel dy e2
    have x1 : Ext K H (upd H a (.dT (putK ws k z))) := .isM q trivial
    exact ⟨a, _, rfl, rfl, DPut.t q hb (by rw [← p.length]; exact l), x1, hr.put x1 ⟨_, upd_same, (p.put k dz).mono x1⟩⟩
end

/-! ### {} -/
/-- a new dict: the proof says which keys it is for -/
def eDct : DT := fun _ M P => (∀ p, M p = none → P (.ref p) (mup M p (.dk []))) ∨ ∀ p, M p = none → P (.ref p) (mup M p (.dt []))
theorem dx_dct {X : Cx} {pos : Pos} : Dx X (.Dict [] [] pos) eDct :=
  ⟨fun pins s σ H Q I ⟨ρ, M, P, er, hr, w, k⟩ => by
    rcases w with w | w
    · exact pe_dnewK.run pins s σ H Q I fun p np => k _ _ _ _ (w p (hr.free np)) (.fresh np) (.ref p) (hr.put (.fresh np) ⟨[], upd_same, .nil⟩)
    · exact pe_dnewT.run pins s σ H Q I fun p np => k _ _ _ _ (w p (hr.free np)) (.fresh np) (.ref p) (hr.put (.fresh np) ⟨[], upd_same, .nil⟩)⟩
/-- {k: v} -/
def eD1 (a b : DT) : DT := fun ρ M P => ∀ p, M p = none → a ρ (mup M p (.dk [])) fun x M1 => b ρ M1 fun y M2 => M2 p = some (.dk []) ∧ match keyD x with
  | some k => P (.ref p) (mup M2 p (.dk [(k, y)]))
  | none => False
theorem dx_d1 {X : Cx} {e f : Expr} {wa wb : DT} {pos : Pos} (he : Dx X e wa) (hf : Dx X f wb) : Dx X (.Dict [some e] [f] pos) (eD1 wa wb) :=
  pe_wk (pe_disp (pps_cons he hf pps_nil) rfl rfl (by simp) (Nat.le_of_ble_eq_true rfl)) fun σ H Q ⟨ρ, M, P, er, hr, w, k⟩ => fun p np =>
    ⟨ρ, mup M p (.dk []), _, er.mono (.fresh np), hr.put (.fresh np) ⟨[], upd_same, .nil⟩, w p (hr.free np), fun x M1 v H1 p1 e1 d1 h1 =>
      ⟨ρ, M1, _, er.mono ((Ext.fresh np).trans e1), h1, p1, fun y M2 u H2 p2 e2 d2 h2 => by
        obtain ⟨q1, q2⟩ := p2
        obtain ⟨ws, hp, q⟩ := h2 _ _ q1
        cases q
        refine ⟨hp, ?_⟩
        split at q2
        · rename_i kk ek
          have hv := key_rel (d1.mono e2) ek
          have x1 : Ext X.K H2 (upd H2 p (.dK [(kk, u)])) := .isM hp trivial
          refine ⟨[(kk, u)], by rw [hv]; rfl, Nat.le_of_ble_eq_true rfl, ?_⟩
          exact k _ _ _ _ q2 (((Ext.fresh np).trans e1).trans (e2.trans x1)) (.ref p) (h2.put x1 ⟨_, upd_same, .cons ⟨rfl, d2.mono x1⟩ .nil⟩)
        · exact q2.elim⟩⟩
end DL
/-! DLc: operations of the data layer by values. -/
namespace DL
open PySem PySem.Spec L2
open PyProof.Rows hiding St

/-- the items of a list or tuple -/
def itemsD (x : D) (M : Mh) : Option (List D) := match x with
  | .tup ds => some ds
  | .ktp ds => some ds
  | .rol ds => some ds
  | .ref a => match M a with
    | some (.lst ds) => some ds
    | _ => none
  | _ => none
theorem items_of {K : PySem.W.Frag} {H : Hp} {x : D} {v : V} {M : Mh} {ds : List D} (d : DR K H x v) (h : HR K H M) (e : itemsD x M = some ds) : ∃ p vs, v = .ref p ∧ (SqL K H p vs ∨ SqT K H p vs) ∧ DRs K H ds vs := by
  cases d with
  | tup s r => cases e; exact ⟨_, _, rfl, .inr (SqT.of s), r⟩
  | ktp s r => cases e; exact ⟨_, _, rfl, .inr s, r⟩
  | rol s r => cases e; exact ⟨_, _, rfl, .inl s.seq, r⟩
  | ref a =>
    have e : (match M a with | some (.lst ds) => some ds | _ => none) = some ds := e
    cases q : M a with
    | none => rw [q] at e; cases e
    | some o =>
      rw [q] at e
      cases o with
      | lst es =>
        cases e
        obtain ⟨vs, q, r⟩ := h a _ q
        exact ⟨_, _, rfl, .inl (SqL.of q), r⟩
      | _ => cases e
  | _ => cases e

/-- the items of a list -/
def litemsD (x : D) (M : Mh) : Option (List D) := match x with
  | .rol ds => some ds
  | .ref a => match M a with
    | some (.lst ds) => some ds
    | _ => none
  | _ => none
theorem litems_of {K : PySem.W.Frag} {H : Hp} {x : D} {v : V} {M : Mh} {ds : List D} (d : DR K H x v) (h : HR K H M) (e : litemsD x M = some ds) : ∃ p vs, v = .ref p ∧ SqL K H p vs ∧ DRs K H ds vs := by
  cases d with
  | rol s r => cases e; exact ⟨_, _, rfl, s.seq, r⟩
  | ref a =>
    have e : (match M a with | some (.lst ds) => some ds | _ => none) = some ds := e
    cases q : M a with
    | none => rw [q] at e; cases e
    | some o =>
      rw [q] at e
      cases o with
      | lst es =>
        cases e
        obtain ⟨vs, q, r⟩ := h a _ q
        exact ⟨_, _, rfl, SqL.of q, r⟩
      | _ => cases e
  | _ => cases e
/-! ### arithmetic -/
def addD : D → D → Mh → PQ → Prop
  | .int i, .int j, M, P => P (.int (i + j)) M
  | .str a, .str b, M, P => a.length + b.length ≤ sizeLine ∧ P (.str (a ++ b)) M
  | .tup xs, .tup ys, M, P => xs.length + ys.length ≤ sizeLine ∧ P (.tup (xs ++ ys)) M
  | .ref a, .ref b, M, P => ∃ xs ys, M a = some (.lst xs) ∧ M b = some (.lst ys) ∧ xs.length + ys.length ≤ sizeLine ∧ ∀ p, M p = none → P (.ref p) (mup M p (.lst (xs ++ ys)))
  | _, _, _, _ => False
def subD : D → D → Mh → PQ → Prop
  | .int i, .int j, M, P => P (.int (i - j)) M
  | _, _, _, _ => False
def mulD : D → D → Mh → PQ → Prop
  | .int i, .int j, M, P => CMul i j ∧ P (.int (i * j)) M
  | .str a, .int j, M, P => (0 ≤ j ∧ j ≤ 1) ∧ P (.str (if j = 1 then a else Str.empty)) M
  | _, _, _, _ => False
def divD : D → D → Mh → PQ → Prop
  | .int i, .int j, M, P => (0 < j ∧ j < 1073741824) ∧ P (.int (i / j)) M
  | _, _, _, _ => False
def modD : D → D → Mh → PQ → Prop
  | .int i, .int j, M, P => 0 < j ∧ P (.int (i % j)) M
  | _, _, _, _ => False
def powD : D → D → Mh → PQ → Prop
  | .int i, .int j, M, P => CPow i j ∧ P (.int (i ^ j.toNat)) M
  | _, _, _, _ => False
def negD : D → Mh → PQ → Prop
  | .int i, M, P => P (.int (-i)) M
  | _, _, _ => False

section
variable {X : Cx}
theorem od_sub : OpR X (binaryOp .Sub) (up2 X.K subD) := by
  rintro pins s σ H v u a b Q I ra rb ⟨x, y, M, P, dx, dy, hr, w, k⟩
  cases dx <;> cases dy <;> first | exact False.elim w | skip
  exact op_sub pins s σ H _ _ a b Q I ra rb ⟨_, _, rfl, rfl, k _ _ _ _ w (.refl _ _) (.int _) hr⟩
theorem iod_sub : OpR X (inplaceOp .Sub) (up2 X.K subD) := by
  rintro pins s σ H v u a b Q I ra rb ⟨x, y, M, P, dx, dy, hr, w, k⟩
  cases dx <;> cases dy <;> first | exact False.elim w | skip
  exact iop_sub pins s σ H _ _ a b Q I ra rb ⟨_, _, rfl, rfl, k _ _ _ _ w (.refl _ _) (.int _) hr⟩
theorem od_div : OpR X (binaryOp .FloorDiv) (up2 X.K divD) := by
  rintro pins s σ H v u a b Q I ra rb ⟨x, y, M, P, dx, dy, hr, w, k⟩
  cases dx <;> cases dy <;> first | exact False.elim w | skip
  exact op_fdiv pins s σ H _ _ a b Q I ra rb ⟨_, _, rfl, rfl, w.1, k _ _ _ _ w.2 (.refl _ _) (.int _) hr⟩
theorem od_mod : OpR X (binaryOp .Mod) (up2 X.K modD) := by
  rintro pins s σ H v u a b Q I ra rb ⟨x, y, M, P, dx, dy, hr, w, k⟩
  cases dx <;> cases dy <;> first | exact False.elim w | skip
  exact op_mod pins s σ H _ _ a b Q I ra rb ⟨_, _, rfl, rfl, w.1, k _ _ _ _ w.2 (.refl _ _) (.int _) hr⟩
theorem od_pow : OpR X (binaryOp .Pow) (up2 X.K powD) := by
  rintro pins s σ H v u a b Q I ra rb ⟨x, y, M, P, dx, dy, hr, w, k⟩
  cases dx <;> cases dy <;> first | exact False.elim w | skip
  exact op_pow pins s σ H _ _ a b Q I ra rb ⟨_, _, rfl, rfl, w.1, k _ _ _ _ w.2 (.refl _ _) (.int _) hr⟩
theorem ud_neg : UnR X (unaryOp .USub) (up1 X.K negD) := by
  rintro pins s σ H v a Q I ra ⟨x, M, P, dx, hr, w, k⟩
  cases dx <;> first | exact False.elim w | skip
  exact un_neg pins s σ H _ a Q I ra ⟨_, rfl, k _ _ _ _ w (.refl _ _) (.int _) hr⟩
theorem od_mul : OpR X (binaryOp .Mult) (up2 X.K mulD) := by
  rintro pins s σ H v u a b Q I ra rb ⟨x, y, M, P, dx, dy, hr, w, k⟩
  cases dx <;> cases dy <;> first | exact False.elim w | skip
  · exact op_mul pins s σ H _ _ a b Q I ra rb ⟨_, _, rfl, rfl, w.1, k _ _ _ _ w.2 (.refl _ _) (.int _) hr⟩
  · rename_i z j
    obtain ⟨⟨h0, h1⟩, w⟩ := w
    obtain ⟨t, rfl⟩ := ra
    obtain ⟨t', rfl⟩ := rb
    have hj : j = 0 ∨ j = 1 := by omega
    rcases hj with rfl | rfl
    · exact PySem.P.mul_str_none (by decide) (by decide) ⟨.str _, H, I.tok _, ⟨_, rfl⟩, k _ _ _ _ w (.refl _ _) (.str _) hr⟩
    · refine PySem.P.mul_str (by decide) (fun _ h => ?_) (fun _ h => ?_) ?_
      · simp at h
      · simp at h
      · rw [if_neg (by decide), if_pos (by simp)]
        exact ⟨.str _, H, I, ⟨_, rfl⟩, k _ _ _ _ w (.refl _ _) (.str _) hr⟩
theorem od_add : OpR X (binaryOp .Add) (up2 X.K addD) := by
  rintro pins s σ H v u a b Q I ra rb ⟨x, y, M, P, dx, dy, hr, w, k⟩
  cases dx <;> cases dy <;> first | exact False.elim w | skip
  · exact op_add pins s σ H _ _ a b Q I ra rb ⟨_, _, rfl, rfl, k _ _ _ _ w (.refl _ _) (.int _) hr⟩
  · exact op_add_str pins s σ H _ _ a b Q I ra rb ⟨_, _, rfl, rfl, w.1, k _ _ _ _ w.2 (.refl _ _) (.str _) hr⟩
  · rename_i s1 r1 _ _ _ s2 r2
    obtain ⟨hz, w⟩ := w
    refine op_catA pins s σ H _ _ a b Q I ra rb ⟨_, _, _, _, rfl, rfl, SqT.of s1, SqT.of s2, by rw [← r1.length, ← r2.length]; exact hz, fun e => ?_, fun e1 e2 => ?_, fun e1 e2 p np => ?_⟩
    · subst e
      cases r1
      exact k _ _ _ _ w (.refl _ _) (.tup s2 r2) hr
    · subst e2
      cases r2
      rw [List.append_nil] at w
      exact k _ _ _ _ w (.refl _ _) (.tup s1 r1) hr
    · exact k _ _ _ _ w (.fresh np) (.tup upd_same ((r1.append r2).mono (.fresh np))) (hr.fresh np)
  · obtain ⟨xs, ys, e1, e2, hz, w⟩ := w
    obtain ⟨vs, q1, r1⟩ := hr _ _ e1
    obtain ⟨ws, q2, r2⟩ := hr _ _ e2
    exact op_cat pins s σ H _ _ a b Q I ra rb ⟨_, _, _, _, rfl, rfl, q1, q2, by rw [← r1.length, ← r2.length]; exact hz, fun p np => k _ _ _ _ (w p (hr.free np)) (.fresh np) (.ref p) (hr.new np (r1.append r2))⟩
/-- += : ints and texts -/
def iaddD : D → D → Mh → PQ → Prop
  | .int i, .int j, M, P => P (.int (i + j)) M
  | .str a, .str b, M, P => a.length + b.length ≤ sizeLine ∧ P (.str (a ++ b)) M
  | _, _, _, _ => False
theorem iod_add : OpR X (inplaceOp .Add) (up2 X.K iaddD) := by
  rintro pins s σ H v u a b Q I ra rb ⟨x, y, M, P, dx, dy, hr, w, k⟩
  cases dx <;> cases dy <;> first | exact False.elim w | skip
  · exact iop_add pins s σ H _ _ a b Q I ra rb ⟨_, _, rfl, rfl, k _ _ _ _ w (.refl _ _) (.int _) hr⟩
  · exact iop_add_str pins s σ H _ _ a b Q I ra rb ⟨_, _, rfl, rfl, w.1, k _ _ _ _ w.2 (.refl _ _) (.str _) hr⟩
end

/-! ### equality, membership, order -/
mutual
def pd : D → PyData
  | .non => .none
  | .bl b => .bool b
  | .int i => .int i
  | .str x => .str x
  | .tup ds => .tuple (pds ds)
  | .ktp ds => .tuple (pds ds)
  | .rol ds => .list (pds ds)
  | .ref _ => .dict []
def pds : List D → List PyData
  | [] => []
  | d :: ds => pd d :: pds ds
end
def deq (x y : D) : Bool := PyData.eqv (pd x) (pd y)
def okD (x : D) : Bool := SeqAt.shaped (pd x)
/-- what == of two scalars asks nothing for -/
def scalD : D → D → Bool
  | .non, .non => true | .non, .int _ => true | .int _, .non => true | .non, .bl _ => true | .bl _, .non => true | .non, .str _ => true | .str _, .non => true
  | .int _, .int _ => true | .bl _, .bl _ => true | .str _, .str _ => true
  | .int _, .str _ => true | .str _, .int _ => true | .bl _, .str _ => true | .str _, .bl _ => true
  | _, _ => false
def eqD : Cmp := fun x y M P => ((scalD x y = true ∨ (okD x = true ∧ okD y = true)) ∧ P (deq x y)) ∨
  ∃ xs ys, litemsD x M = some xs ∧ litemsD y M = some ys ∧ (okD (.rol xs) = true ∧ okD (.rol ys) = true) ∧ P (deq (.rol xs) (.rol ys))
def neD : Cmp := fun x y M P => ((scalD x y = true ∨ (okD x = true ∧ okD y = true)) ∧ P (!deq x y)) ∨
  ∃ xs ys, litemsD x M = some xs ∧ litemsD y M = some ys ∧ (okD (.rol xs) = true ∧ okD (.rol ys) = true) ∧ P (!deq (.rol xs) (.rol ys))
def flatD : D → Bool
  | .non => true | .bl _ => true | .int _ => true | .str _ => true
  | _ => false
def memD (x : D) (ys : List D) : Bool := ys.any fun y => deq y x
def strIn (i j : Str) : Bool := !(Builtin.Str.occurrences j i 0 j.length 1).isEmpty
/-- what x in y asks of the items -/
def inOk (x : D) (ys : List D) : Prop := (flatD x = true ∧ ys.all flatD = true) ∨ (okD x = true ∧ okD (.tup ys) = true)
def inD : Cmp := fun x y M P => match dictD y M with
  | some o => match dGet o x with
    | some r => P r.isSome
    | none => False
  | none => match x, y with
    | .str i, .str j => P (strIn i j)
    | x, y => match itemsD y M with
      | some ys => inOk x ys ∧ P (memD x ys)
      | none => False
def ninD : Cmp := fun x y M P => inD x y M fun k => P (!k)
def ltD : Cmp := fun x y _ P => match x, y with
  | .int i, .int j => P (decide (i < j))
  | .str i, .str j => P (decide (i.cps.toList < j.cps.toList))
  | _, _ => False
def leD : Cmp := fun x y _ P => match x, y with
  | .int i, .int j => P (decide (i ≤ j))
  | .str i, .str j => P (!decide (j.cps.toList < i.cps.toList))
  | _, _ => False
def gtD : Cmp := fun x y _ P => match x, y with
  | .int i, .int j => P (decide (j < i))
  | .str i, .str j => P (decide (j.cps.toList < i.cps.toList))
  | _, _ => False
def geD : Cmp := fun x y _ P => match x, y with
  | .int i, .int j => P (decide (j ≤ i))
  | .str i, .str j => P (!decide (i.cps.toList < j.cps.toList))
  | _, _ => False
def isNon : D → Bool
  | .non => true
  | _ => false
def isD : Cmp := fun x y _ P => match y with
  | .non => P (isNon x)
  | _ => False
def isnD : Cmp := fun x y _ P => match y with
  | .non => P (!isNon x)
  | _ => False

section
variable {K : PySem.W.Frag} {H : Hp}
mutual
theorem dp_of : ∀ {x : D} {v : V}, DR K H x v → (pd x).canLay0 = true → Dp K H v (pd x)
  | _, _, .non, _ => .non
  | _, _, .bl b, _ => .bl b
  | _, _, .int i, _ => .int i
  | _, _, .str z, _ => .str z
  | _, _, .tup s r, h => by
    rw [pd] at h ⊢
    exact .tup (SqT.of s) (dps_of r (by simpa [PyData.canLay0] using h))
  | _, _, .ktp s r, h => by
    rw [pd] at h ⊢
    exact .tup s (dps_of r (by simpa [PyData.canLay0] using h))
  | _, _, .rol s r, h => by
    rw [pd] at h ⊢
    exact .lst s.seq (dps_of r (by simpa [PyData.canLay0] using h))
  | _, _, .ref a, h => by
    rw [pd] at h
    simp [PyData.canLay0] at h
theorem dps_of : ∀ {xs : List D} {vs : List V}, DRs K H xs vs → PyData.canLayAll0 (pds xs) = true → DpAll K H vs (pds xs)
  | _, _, .nil, _ => .nil
  | _, _, .cons d r, h => by
    rw [pds] at h ⊢
    simp only [PyData.canLayAll0, Bool.and_eq_true] at h
    exact .cons (dp_of d h.1) (dps_of r h.2)
end
theorem flat_eq {x y : D} {v u : V} (dx : DR K H x v) (dy : DR K H y u) (fx : flatD x = true) (fy : flatD y = true) : flatV v = true ∧ flatV u = true ∧ eqV v u = deq x y := by
  cases dx <;> cases dy <;> first | (exact absurd (show false = true from fx) Bool.false_ne_true) | (exact absurd (show false = true from fy) Bool.false_ne_true) | skip
  all_goals (refine ⟨rfl, rfl, ?_⟩; simp [eqV, deq, pd, PyData.eqv])
theorem flats : ∀ {ys : List D} {us : List V} {x : D} {v : V}, DRs K H ys us → DR K H x v → flatD x = true → ys.all flatD = true → us.all flatV = true ∧ inV v us = memD x ys
  | _, _, _, _, .nil, _, _, _ => ⟨rfl, rfl⟩
  | _, _, _, _, .cons d r, dx, fx, fy => by
    rw [List.all_cons, Bool.and_eq_true] at fy
    obtain ⟨h1, h2⟩ := flats r dx fx fy.2
    obtain ⟨h3, _, h4⟩ := flat_eq d dx fy.1 fx
    refine ⟨by rw [List.all_cons, h3, h1]; rfl, ?_⟩
    unfold inV memD at h2 ⊢
    rw [List.any_cons, List.any_cons, h4, h2]
theorem scal_eq {x y : D} {v u : V} (dx : DR K H x v) (dy : DR K H y u) (h : scalD x y = true) : scal v u = true ∧ decide (v = u) = deq x y := by
  cases dx <;> cases dy <;> first | (exact absurd (show false = true from h) Bool.false_ne_true) | skip
  all_goals (refine ⟨rfl, ?_⟩; simp [deq, pd, PyData.eqv] <;> rfl)
end

section
variable {X : Cx}
theorem cd_eq (hu : X.A.units + 64 < cLine) : OpR X (compareOp .Eq) (upC X.K eqD) := by
  rintro pins s σ H v u a b Q I ra rb ⟨x, y, M, P, dx, dy, hr, w, k⟩
  rcases w with ⟨o, w⟩ | ⟨xs, ys, e1, e2, ⟨o1, o2⟩, w⟩
  · rcases o with o | ⟨o1, o2⟩
    · obtain ⟨h1, h2⟩ := scal_eq dx dy o
      exact op_eq pins s σ H _ _ a b Q I ra rb ⟨h1, by rw [h2]; exact k _ w⟩
    · exact op_eqD hu pins s σ H _ _ a b Q I ra rb ⟨_, _, dp_of dx (SeqAt.canLay_of_shaped o1), dp_of dy (SeqAt.canLay_of_shaped o2), o1, o2, k _ w⟩
  · obtain ⟨p, us, rfl, q, r⟩ := litems_of dx hr e1
    obtain ⟨p2, us2, rfl, q2, r2⟩ := litems_of dy hr e2
    exact op_eqD hu pins s σ H _ _ a b Q I ra rb ⟨_, _, .lst q (dps_of r (SeqAt.canLay_of_shaped (d := .list (pds xs)) o1)), .lst q2 (dps_of r2 (SeqAt.canLay_of_shaped (d := .list (pds ys)) o2)), o1, o2, k _ w⟩
theorem cd_ne (hu : X.A.units + 64 < cLine) : OpR X (compareOp .NotEq) (upC X.K neD) := by
  rintro pins s σ H v u a b Q I ra rb ⟨x, y, M, P, dx, dy, hr, w, k⟩
  rcases w with ⟨o, w⟩ | ⟨xs, ys, e1, e2, ⟨o1, o2⟩, w⟩
  · rcases o with o | ⟨o1, o2⟩
    · obtain ⟨h1, h2⟩ := scal_eq dx dy o
      exact op_ne pins s σ H _ _ a b Q I ra rb ⟨h1, by rw [h2]; exact k _ w⟩
    · exact op_neD hu pins s σ H _ _ a b Q I ra rb ⟨_, _, dp_of dx (SeqAt.canLay_of_shaped o1), dp_of dy (SeqAt.canLay_of_shaped o2), o1, o2, k _ w⟩
  · obtain ⟨p, us, rfl, q, r⟩ := litems_of dx hr e1
    obtain ⟨p2, us2, rfl, q2, r2⟩ := litems_of dy hr e2
    exact op_neD hu pins s σ H _ _ a b Q I ra rb ⟨_, _, .lst q (dps_of r (SeqAt.canLay_of_shaped (d := .list (pds xs)) o1)), .lst q2 (dps_of r2 (SeqAt.canLay_of_shaped (d := .list (pds ys)) o2)), o1, o2, k _ w⟩
theorem in_cases {x y : D} {M : Mh} {P : Bool → Prop} (w : inD x y M P) : (∃ o r, dictD y M = some o ∧ dGet o x = some r ∧ P r.isSome) ∨ (∃ i j, x = .str i ∧ y = .str j ∧ P (strIn i j)) ∨ ∃ ys, itemsD y M = some ys ∧ inOk x ys ∧ P (memD x ys) := by
  unfold inD at w
  split at w
  · split at w
    · exact .inl ⟨_, _, by assumption, by assumption, w⟩
    · exact w.elim
  · split at w
    · exact .inr (.inl ⟨_, _, rfl, rfl, w⟩)
    · split at w
      · exact .inr (.inr ⟨_, by assumption, w⟩)
      · exact w.elim
theorem pds_any (x : D) : ∀ ys : List D, ((pds ys).any fun z => PyData.eqv z (pd x)) = memD x ys
  | [] => rfl
  | y :: r => by
    have := pds_any x r
    unfold memD at this ⊢
    rw [pds, List.any_cons, List.any_cons, this]; rfl
/-- in, of deep data -/
theorem op_in_deep (hu : X.A.units + 65 < cLine) {pins : List (Addr × Obj)} {s : Shared} {σ : St} {H : Hp} {x : D} {ys : List D} {v : V} {p : Addr} {us : List V} {a b : Value} {Q : VK} (I : Inv X pins σ H s) (ra : RelV v a) (rb : RelV (.ref p) b)
    (dx : DR X.K H x v) (q : SqL X.K H p us ∨ SqT X.K H p us) (r : DRs X.K H ys us) (o1 : okD x = true) (o2 : okD (.tup ys) = true) :
    (Q (.bl (memD x ys)) H → wpAny (model X.prog X.w) X.A (compareOp .In a b) (EP X pins σ Q) X.xe s) ∧ (Q (.bl (!memD x ys)) H → wpAny (model X.prog X.w) X.A (compareOp .NotIn a b) (EP X pins σ Q) X.xe s) := by
  have hl : PyData.canLayAll0 (pds ys) = true := SeqAt.canLay_of_shaped (d := .tuple (pds ys)) o2
  have hd := dps_of r hl
  have hx := dp_of dx (SeqAt.canLay_of_shaped o1)
  obtain ⟨as, r1⟩ := Dp.reads I (pd x) v a hx ra
  rw [← pds_any x ys]
  rcases q with q | q
  · obtain ⟨bs, r2⟩ := Dp.reads I (.list (pds ys)) (.ref p) b (.lst q hd) rb
    exact ⟨fun h => SeqAt.in_list_reads r2 r1 hl (SeqAt.canLay_of_shaped o1) (room_in_shaped o1 hu) ⟨.bl _, H, I, rfl, h⟩,
      fun h => SeqAt.notIn_list_reads r2 r1 hl (SeqAt.canLay_of_shaped o1) (room_in_shaped o1 hu) ⟨.bl _, H, I, rfl, h⟩⟩
  · obtain ⟨bs, r2⟩ := Dp.reads I (.tuple (pds ys)) (.ref p) b (.tup q hd) rb
    exact ⟨fun h => SeqAt.in_tuple_reads r2 r1 hl (SeqAt.canLay_of_shaped o1) (room_in_shaped o1 hu) ⟨.bl _, H, I, rfl, h⟩,
      fun h => SeqAt.notIn_tuple_reads r2 r1 hl (SeqAt.canLay_of_shaped o1) (room_in_shaped o1 hu) ⟨.bl _, H, I, rfl, h⟩⟩
theorem cd_in (hu : X.A.units + 65 < cLine) : OpR X (compareOp .In) (upC X.K inD) := by
  rintro pins s σ H v u a b Q I ra rb ⟨x, y, M, P, dx, dy, hr, w, k⟩
  rcases in_cases w with ⟨o, r, e1, e2, w⟩ | ⟨i, j, rfl, rfl, w⟩ | ⟨ys, e, f, w⟩
  · obtain ⟨d, r', rfl, g, e3, _⟩ := dget_of hr dy dx e1 e2
    obtain rfl : b = Value.ref d := rb
    exact d_in (by omega) I g ra fun s' I' => ⟨.bl _, H, I', rfl, by rw [← e3]; exact k _ w⟩
  · cases dx
    cases dy
    exact op_in_str pins s σ H _ _ a b Q I ra rb ⟨_, _, rfl, rfl, k _ w⟩
  · obtain ⟨p, us, rfl, q, r⟩ := items_of dy hr e
    rcases f with f | f
    · obtain ⟨h1, h2⟩ := flats r dx f.1 f.2
      have fx : flatV v = true := (flat_eq dx dx f.1 f.1).1
      exact op_in_seq pins s σ H _ _ a b Q I ra rb ⟨_, _, rfl, q, fx, h1, by rw [if_neg Bool.false_ne_true, h2]; exact k _ w⟩
    · exact (op_in_deep hu I ra rb dx q r f.1 f.2).1 (k _ w)
theorem cd_nin (hu : X.A.units + 65 < cLine) : OpR X (compareOp .NotIn) (upC X.K ninD) := by
  rintro pins s σ H v u a b Q I ra rb ⟨x, y, M, P, dx, dy, hr, w, k⟩
  rcases in_cases w with ⟨o, r, e1, e2, w⟩ | ⟨i, j, rfl, rfl, w⟩ | ⟨ys, e, f, w⟩
  · obtain ⟨d, r', rfl, g, e3, _⟩ := dget_of hr dy dx e1 e2
    obtain rfl : b = Value.ref d := rb
    exact d_notIn (by omega) I g ra fun s' I' => ⟨.bl _, H, I', rfl, by rw [← e3]; exact k _ w⟩
  · cases dx
    cases dy
    exact op_notin_str pins s σ H _ _ a b Q I ra rb ⟨_, _, rfl, rfl, k _ w⟩
  · obtain ⟨p, us, rfl, q, r⟩ := items_of dy hr e
    rcases f with f | f
    · obtain ⟨h1, h2⟩ := flats r dx f.1 f.2
      have fx : flatV v = true := (flat_eq dx dx f.1 f.1).1
      exact op_notIn_seq pins s σ H _ _ a b Q I ra rb ⟨_, _, rfl, q, fx, h1, by rw [if_pos rfl, h2]; exact k _ w⟩
    · exact (op_in_deep hu I ra rb dx q r f.1 f.2).2 (k _ w)
theorem cd_lt : OpR X (compareOp .Lt) (upC X.K ltD) := by
  rintro pins s σ H v u a b Q I ra rb ⟨x, y, M, P, dx, dy, hr, w, k⟩
  cases dx <;> cases dy <;> first | exact False.elim w | skip
  · exact op_lt pins s σ H _ _ a b Q I ra rb ⟨_, _, rfl, rfl, k _ w⟩
  · exact op_lt_str pins s σ H _ _ a b Q I ra rb ⟨_, _, rfl, rfl, k _ w⟩
theorem cd_le : OpR X (compareOp .LtE) (upC X.K leD) := by
  rintro pins s σ H v u a b Q I ra rb ⟨x, y, M, P, dx, dy, hr, w, k⟩
  cases dx <;> cases dy <;> first | exact False.elim w | skip
  · exact op_le pins s σ H _ _ a b Q I ra rb ⟨_, _, rfl, rfl, k _ w⟩
  · exact op_le_str pins s σ H _ _ a b Q I ra rb ⟨_, _, rfl, rfl, k _ w⟩
theorem cd_gt : OpR X (compareOp .Gt) (upC X.K gtD) := by
  rintro pins s σ H v u a b Q I ra rb ⟨x, y, M, P, dx, dy, hr, w, k⟩
  cases dx <;> cases dy <;> first | exact False.elim w | skip
  · exact op_gt pins s σ H _ _ a b Q I ra rb ⟨_, _, rfl, rfl, k _ w⟩
  · exact op_gt_str pins s σ H _ _ a b Q I ra rb ⟨_, _, rfl, rfl, k _ w⟩
theorem cd_ge : OpR X (compareOp .GtE) (upC X.K geD) := by
  rintro pins s σ H v u a b Q I ra rb ⟨x, y, M, P, dx, dy, hr, w, k⟩
  cases dx <;> cases dy <;> first | exact False.elim w | skip
  · exact op_ge pins s σ H _ _ a b Q I ra rb ⟨_, _, rfl, rfl, k _ w⟩
  · exact op_ge_str pins s σ H _ _ a b Q I ra rb ⟨_, _, rfl, rfl, k _ w⟩
theorem non_eq {K : PySem.W.Frag} {H : Hp} {x : D} {v : V} (d : DR K H x v) : decide (v = .non) = isNon x := by
  cases d <;> simp [isNon]
theorem cd_is : OpR X (compareOp .Is) (upC X.K isD) := by
  rintro pins s σ H v u a b Q I ra rb ⟨x, y, M, P, dx, dy, hr, w, k⟩
  cases dy <;> first | exact False.elim w | skip
  exact op_isN pins s σ H _ _ a b Q I ra rb ⟨rfl, by rw [non_eq dx]; exact k _ w⟩
theorem cd_isn : OpR X (compareOp .IsNot) (upC X.K isnD) := by
  rintro pins s σ H v u a b Q I ra rb ⟨x, y, M, P, dx, dy, hr, w, k⟩
  cases dy <;> first | exact False.elim w | skip
  exact op_notN pins s σ H _ _ a b Q I ra rb ⟨rfl, by rw [non_eq dx]; exact k _ w⟩
end

/-! ### built-in functions -/
def lenD : List D → Mh → PQ → Prop
  | [.str z], M, P => z.length ≤ sizeLine ∧ P (.int z.length) M
  | [x], M, P => match dictD x M with
    | some o => P (.int (dSize o)) M
    | none => match itemsD x M with
      | some ds => P (.int ds.length) M
      | none => False
  | _, _, _ => False
def intD : List D → Mh → PQ → Prop
  | [.int i], M, P => P (.int i) M
  | [.bl b], M, P => P (.int (if b then 1 else 0)) M
  | _, _, _ => False
def strD : List D → Mh → PQ → Prop
  | [.int i], M, P => i.natAbs.log2 < 1920 ∧ P (.str (toString i)) M
  | _, _, _ => False
def listD : List D → Mh → PQ → Prop
  | [x], M, P => match itemsD x M with
    | some ds => ∀ p, M p = none → P (.ref p) (mup M p (.lst ds))
    | none => False
  | _, _, _ => False
def intsOf : List D → Option (List Int)
  | [] => some []
  | .int i :: r => (intsOf r).map (i :: ·)
  | _ => none
def strsOf : List D → Option (List Str)
  | [] => some []
  | .str i :: r => (strsOf r).map (i :: ·)
  | _ => none
def tupleD : List D → Mh → PQ → Prop
  | [.tup ds], M, P => P (.tup ds) M
  | [.ktp ds], M, P => P (.ktp ds) M
  | [x], M, P => match litemsD x M with
    | some ds => P (.tup ds) M
    | none => False
  | _, _, _ => False
def sumD : List D → Mh → PQ → Prop
  | [x], M, P => match litemsD x M with
    | some ds => match intsOf ds with
      | some ns => P (.int ns.sum) M
      | none => False
    | none => False
  | _, _, _ => False
def absD : List D → Mh → PQ → Prop
  | [.int i], M, P => P (.int (if i < 0 then -i else i)) M
  | _, _, _ => False
def maxD : List D → Mh → PQ → Prop
  | [.int i, .int j], M, P => P (.int (if j > i then j else i)) M
  | [x], M, P => match litemsD x M with
    | some ds => match intsOf ds with
      | some ns => 0 < ns.length ∧ ∀ m, m ∈ ns → (∀ y, y ∈ ns → y ≤ m) → P (.int m) M
      | none => False
    | none => False
  | _, _, _ => False
def minD : List D → Mh → PQ → Prop
  | [.int i, .int j], M, P => P (.int (if j < i then j else i)) M
  | [x], M, P => match litemsD x M with
    | some ds => match intsOf ds with
      | some ns => 0 < ns.length ∧ ∀ m, m ∈ ns → (∀ y, y ∈ ns → m ≤ y) → P (.int m) M
      | none => False
    | none => False
  | _, _, _ => False
/-- isinstance, by the type's name -/
def isiD (T : String) (x : D) (M : Mh) (P : PQ) : Prop := match x with
  | .non => P (.bl false) M
  | .bl _ => P (.bl (T == "bool" || T == "int")) M
  | .int _ => P (.bl (T == "int")) M
  | .str _ => P (.bl (T == "str")) M
  | .tup _ => P (.bl (T == "tuple")) M
  | .ktp _ => P (.bl (T == "tuple")) M
  | .rol _ => P (.bl (T == "list")) M
  | .ref a => match M a with
    | some (.lst _) => P (.bl (T == "list")) M
    | _ => False
theorem intsOf_rel {K : PySem.W.Frag} {H : Hp} : ∀ {ds : List D} {vs : List V} {ns : List Int}, DRs K H ds vs → intsOf ds = some ns → vs = ns.map V.int
  | _, _, _, .nil, e => by cases e; rfl
  | _, _, _, .cons (d := d) h r, e => by
    cases h <;> first | (cases (show none = some _ from e); done) | skip
    unfold intsOf at e
    obtain ⟨ms, e1, rfl⟩ := Option.map_eq_some_iff.mp e
    rw [intsOf_rel r e1]; rfl
theorem strsOf_rel {K : PySem.W.Frag} {H : Hp} : ∀ {ds : List D} {vs : List V} {ns : List Str}, DRs K H ds vs → strsOf ds = some ns → vs = ns.map V.str
  | _, _, _, .nil, e => by cases e; rfl
  | _, _, _, .cons (d := d) h r, e => by
    cases h <;> first | (cases (show none = some _ from e); done) | skip
    unfold strsOf at e
    obtain ⟨ms, e1, rfl⟩ := Option.map_eq_some_iff.mp e
    rw [strsOf_rel r e1]; rfl
section
variable {X : Cx}
theorem fd_len : CallR X (.builtin "len") (upL X.K lenD) := by
  rintro pins s σ H vs us Q I r ⟨xs, M, P, dx, hr, w, k⟩
  match xs, dx with
  | [], _ => exact False.elim w
  | _ :: _ :: _, .cons d _ => cases d <;> exact False.elim w
  | [x], .cons d .nil =>
    have gen : ∀ ds, itemsD x M = some ds → P (.int ds.length) M → wpAny (model X.prog X.w) X.A (call (.builtin "len") us) (EP X pins σ Q) X.xe s := fun ds e w => by
      obtain ⟨p, ws, rfl, q, r'⟩ := items_of d hr e
      exact call_len_seq pins s σ H _ us Q I r ⟨_, _, rfl, q, by rw [← r'.length]; exact k _ _ _ _ w (.refl _ _) (.int _) hr⟩
    cases d with
    | str z => exact call_len_str pins s σ H _ us Q I r ⟨_, rfl, w.1, k _ _ _ _ w.2 (.refl _ _) (.int _) hr⟩
    | tup s1 r1 => exact gen _ rfl w
    | ktp s1 r1 => exact gen _ rfl w
    | rol s1 r1 => exact gen _ rfl w
    | ref a =>
      have w : (match dictD (.ref a) M with | some o => P (.int (dSize o)) M | none => (match itemsD (.ref a) M with | some ds => P (.int ds.length) M | none => False)) := w
      cases e0 : dictD (.ref a) M with
      | some o =>
        rw [e0] at w
        obtain ⟨a', e1, e2, ⟨kvs, rfl⟩ | ⟨kvs, rfl⟩⟩ := dict_of e0
        · cases e1
          obtain ⟨ws, q, p⟩ := hr _ _ e2
          exact call_lenD pins s σ H _ us Q I r ⟨_, _, rfl, q, by rw [← p.length]; exact k _ _ _ _ w (.refl _ _) (.int _) hr⟩
        · cases e1
          obtain ⟨ws, q, p⟩ := hr _ _ e2
          exact call_len_dT pins s σ H _ us Q I r ⟨_, _, rfl, q, by rw [← p.length]; exact k _ _ _ _ w (.refl _ _) (.int _) hr⟩
      | none =>
        rw [e0] at w
        cases e : itemsD (.ref a) M with
        | none => rw [e] at w; exact w.elim
        | some ds => rw [e] at w; exact gen _ e w
    | _ => exact False.elim w
theorem fd_int : CallR X (.type "int") (upL X.K intD) := by
  rintro pins s σ H vs us Q I r ⟨xs, M, P, dx, hr, w, k⟩
  match xs, dx with
  | [], _ => exact False.elim w
  | _ :: _ :: _, .cons d _ => cases d <;> exact False.elim w
  | [x], .cons d .nil =>
    cases d <;> first | exact False.elim w | skip
    · exact call_int1 pins s σ H _ us Q I r (.inr ⟨_, rfl, k _ _ _ _ w (.refl _ _) (.int _) hr⟩)
    · exact call_int1 pins s σ H _ us Q I r (.inl ⟨_, rfl, k _ _ _ _ w (.refl _ _) (.int _) hr⟩)
theorem fd_str : CallR X (.type "str") (upL X.K strD) := by
  rintro pins s σ H vs us Q I r ⟨xs, M, P, dx, hr, w, k⟩
  match xs, dx with
  | [], _ => exact False.elim w
  | _ :: _ :: _, .cons d _ => cases d <;> exact False.elim w
  | [x], .cons d .nil =>
    cases d <;> first | exact False.elim w | skip
    exact call_str_int pins s σ H _ us Q I r ⟨_, rfl, w.1, k _ _ _ _ w.2 (.refl _ _) (.str _) hr⟩
theorem fd_abs : CallR X (.builtin "abs") (upL X.K absD) := by
  rintro pins s σ H vs us Q I r ⟨xs, M, P, dx, hr, w, k⟩
  match xs, dx with
  | [], _ => exact False.elim w
  | _ :: _ :: _, .cons d _ => cases d <;> exact False.elim w
  | [x], .cons d .nil =>
    cases d <;> first | exact False.elim w | skip
    exact call_abs pins s σ H _ us Q I r ⟨_, rfl, k _ _ _ _ w (.refl _ _) (.int _) hr⟩
theorem fd_tuple : CallR X (.type "tuple") (upL X.K tupleD) := by
  rintro pins s σ H vs us Q I r ⟨xs, M, P, dx, hr, w, k⟩
  match xs, dx with
  | [], _ => exact False.elim w
  | _ :: _ :: _, .cons d _ => cases d <;> exact False.elim w
  | [x], .cons d .nil =>
    have gen : ∀ ds, litemsD x M = some ds → P (.tup ds) M → wpAny (model X.prog X.w) X.A (call (.type "tuple") us) (EP X pins σ Q) X.xe s := fun ds e w => by
      obtain ⟨p, ws, rfl, q, r'⟩ := litems_of d hr e
      exact call_tuple_of pins s σ H _ us Q I r ⟨_, _, rfl, .inl ⟨q, fun l nl => k _ _ _ _ w (.fresh nl) (.tup upd_same (r'.mono (.fresh nl))) (hr.fresh nl)⟩⟩
    cases d with
    | tup s1 r1 => exact call_tuple_of pins s σ H _ us Q I r ⟨_, _, rfl, .inr ⟨SqT.of s1, k _ _ _ _ w (.refl _ _) (.tup s1 r1) hr⟩⟩
    | ktp s1 r1 => exact call_tuple_of pins s σ H _ us Q I r ⟨_, _, rfl, .inr ⟨s1, k _ _ _ _ w (.refl _ _) (.ktp s1 r1) hr⟩⟩
    | rol s1 r1 => exact gen _ rfl w
    | ref a =>
      have w : (match litemsD (.ref a) M with | some ds => P (.tup ds) M | none => False) := w
      cases e : litemsD (.ref a) M with
      | none => rw [e] at w; exact w.elim
      | some ds => rw [e] at w; exact gen _ e w
    | _ => exact False.elim w
theorem fd_list : CallR X (.type "list") (upL X.K listD) := by
  rintro pins s σ H vs us Q I r ⟨xs, M, P, dx, hr, w, k⟩
  match xs, dx with
  | [], _ => exact False.elim w
  | _ :: _ :: _, _ => exact False.elim w
  | [x], .cons d .nil =>
    have w : (match itemsD x M with | some ds => ∀ p, M p = none → P (.ref p) (mup M p (.lst ds)) | none => False) := w
    cases e : itemsD x M with
    | none => rw [e] at w; exact w.elim
    | some ds =>
      rw [e] at w
      obtain ⟨p, ws, rfl, q, r'⟩ := items_of d hr e
      exact call_list_of pins s σ H _ us Q I r ⟨_, _, rfl, q, fun l nl => k _ _ _ _ (w l (hr.free nl)) (.fresh nl) (.ref l) (hr.new nl r')⟩
theorem fd_sum (hc : X.calm = true) : CallR X (.builtin "sum") (upL X.K sumD) := by
  rintro pins s σ H vs us Q I r ⟨xs, M, P, dx, hr, w, k⟩
  match xs, dx with
  | [], _ => exact False.elim w
  | _ :: _ :: _, _ => exact False.elim w
  | [x], .cons d .nil =>
    simp only [sumD] at w
    cases e : litemsD x M with
    | none => simp only [e] at w
    | some ds =>
      simp only [e] at w
      cases f : intsOf ds with
      | none => simp only [f] at w
      | some ns =>
        simp only [f] at w
        obtain ⟨p, ws, rfl, q, r'⟩ := litems_of d hr e
        rw [intsOf_rel r' f] at q
        exact cr_sum hc pins s σ H _ us Q I r ⟨_, _, rfl, q, k _ _ _ _ w (.refl _ _) (.int _) hr⟩
theorem fd_max (hc : X.calm = true) : CallR X (.builtin "max") (upL X.K maxD) := by
  rintro pins s σ H vs us Q I r ⟨xs, M, P, dx, hr, w, k⟩
  match xs, dx with
  | [], _ => exact False.elim w
  | [x], .cons d .nil =>
    have w : (match litemsD x M with | some ds => (match intsOf ds with | some ns => 0 < ns.length ∧ ∀ m, m ∈ ns → (∀ y, y ∈ ns → y ≤ m) → P (.int m) M | none => False) | none => False) := by
      cases x <;> exact w
    cases e : litemsD x M with
    | none => simp only [e] at w
    | some ds =>
      simp only [e] at w
      cases f : intsOf ds with
      | none => simp only [f] at w
      | some ns =>
        simp only [f] at w
        obtain ⟨p, ws, rfl, q, r'⟩ := litems_of d hr e
        rw [intsOf_rel r' f] at q
        exact cr_max hc pins s σ H _ us Q I r ⟨_, _, rfl, q, w.1, fun m h1 h2 => k _ _ _ _ (w.2 m h1 h2) (.refl _ _) (.int _) hr⟩
  | _ :: _ :: _ :: _, .cons d (.cons e _) => cases d <;> cases e <;> exact False.elim w
  | [x, y], .cons d (.cons e .nil) =>
    cases d <;> cases e <;> first | exact False.elim w | skip
    exact call_max2 hc pins s σ H _ us Q I r ⟨_, _, rfl, k _ _ _ _ w (.refl _ _) (.int _) hr⟩
theorem fd_min (hc : X.calm = true) : CallR X (.builtin "min") (upL X.K minD) := by
  rintro pins s σ H vs us Q I r ⟨xs, M, P, dx, hr, w, k⟩
  match xs, dx with
  | [], _ => exact False.elim w
  | [x], .cons d .nil =>
    have w : (match litemsD x M with | some ds => (match intsOf ds with | some ns => 0 < ns.length ∧ ∀ m, m ∈ ns → (∀ y, y ∈ ns → m ≤ y) → P (.int m) M | none => False) | none => False) := by
      cases x <;> exact w
    cases e : litemsD x M with
    | none => simp only [e] at w
    | some ds =>
      simp only [e] at w
      cases f : intsOf ds with
      | none => simp only [f] at w
      | some ns =>
        simp only [f] at w
        obtain ⟨p, ws, rfl, q, r'⟩ := litems_of d hr e
        rw [intsOf_rel r' f] at q
        exact cr_min hc pins s σ H _ us Q I r ⟨_, _, rfl, q, w.1, fun m h1 h2 => k _ _ _ _ (w.2 m h1 h2) (.refl _ _) (.int _) hr⟩
  | _ :: _ :: _ :: _, .cons d (.cons e _) => cases d <;> cases e <;> exact False.elim w
  | [x, y], .cons d (.cons e .nil) =>
    cases d <;> cases e <;> first | exact False.elim w | skip
    exact call_min2 hc pins s σ H _ us Q I r ⟨_, _, rfl, k _ _ _ _ w (.refl _ _) (.int _) hr⟩
theorem tyx_of {K : PySem.W.Frag} {H : Hp} {x : D} {v : V} {M : Mh} {T : String} {P : PQ} (hT : T = "int" ∨ T = "str" ∨ T = "tuple" ∨ T = "list" ∨ T = "bool" ∨ T = "dict") (d : DR K H x v) (h : HR K H M) (w : isiD T x M P) :
    ∃ t b, TyX K H v t ∧ PySem.W.kitOne K t (.type T) = some b ∧ P (.bl b) M := by
  have fin : ∀ {n : String} {b : Bool}, TyX K H v (.type n) → P (.bl b) M → kitB n T = some b → ∃ t b, TyX K H v t ∧ PySem.W.kitOne K t (.type T) = some b ∧ P (.bl b) M :=
    fun {n b} ty w e => ⟨_, b, ty, kit_ty e, w⟩
  cases d with
  | non => exact fin (.base .non) w (by rcases hT with rfl | rfl | rfl | rfl | rfl | rfl <;> decide +kernel)
  | bl b => exact fin (.base (.bl b)) w (by rcases hT with rfl | rfl | rfl | rfl | rfl | rfl <;> decide +kernel)
  | int b => exact fin (.base (.int b)) w (by rcases hT with rfl | rfl | rfl | rfl | rfl | rfl <;> decide +kernel)
  | str b => exact fin (.base (.str b)) w (by rcases hT with rfl | rfl | rfl | rfl | rfl | rfl <;> decide +kernel)
  | tup s r => exact fin (n := "tuple") (.base (.tup s)) w (by rcases hT with rfl | rfl | rfl | rfl | rfl | rfl <;> decide +kernel)
  | ktp s r =>
    refine fin (n := "tuple") ?_ w (by rcases hT with rfl | rfl | rfl | rfl | rfl | rfl <;> decide +kernel)
    rcases s with (s | ⟨o, s⟩) | ⟨o, its, n, s1, s2, _⟩
    · exact .base (.tup s)
    · exact .fTuple s
    · exact .kTuple s1 s2
  | rol s r =>
    refine fin (n := "list") ?_ w (by rcases hT with rfl | rfl | rfl | rfl | rfl | rfl <;> decide +kernel)
    rcases s with ⟨o, s⟩ | ⟨o, its, n, s1, s2, _⟩
    · exact .base (.frz s)
    · exact .kList s1 s2
  | ref a =>
    have w : (match M a with | some (.lst _) => P (.bl (T == "list")) M | _ => False) := w
    cases e : M a with
    | none => rw [e] at w; exact w.elim
    | some o =>
      rw [e] at w
      cases o with
      | dk ds => exact False.elim w
      | dt ds => exact False.elim w
      | lst ds =>
        obtain ⟨vs, q, _⟩ := h a _ e
        exact fin (n := "list") (.base (.lst q)) w (by rcases hT with rfl | rfl | rfl | rfl | rfl | rfl <;> decide +kernel)
end
end DL
/-! DLl: list(d.keys()). -/
namespace DL
open PySem PySem.Spec L2
open PyProof.Rows hiding St

section
variable {prog : Program} {w : World} {A : Around} {E : Value → Shared → Prop} {s : Shared} {d r : Addr} {o : Obj} {es : Array DictEntry} {ep : Nat}
theorem rawkeys_meets (hd : (d == sysModules) = false) : MeetsIn prog w (Builtin.«dict.keys» ⟨[.ref d], []⟩) (fun _ R s => s.TypeIs (.ref d) "dict" ∧
    R (.ok (.ret (.ref s.heap.objs.size))) { s with heap := s.heap.push { cls := .type "dict_keys", data := .fields #[.ref d] } }) :=
  .of_wp fun A R s ⟨hm, h⟩ => by
    refine wpAny_bind ?_
    unfold Builtin.Dict.noArgs
    refine wpAny_bind (wpAny_notOrdered_dict hm ?_)
    show wpAny _ _ (pure d) _ _ s
    refine wpAny_pure ?_
    show wpAny _ _ (Builtin.Dict.showsAll d >>= _) _ _ s
    unfold Builtin.Dict.showsAll
    rw [if_neg (by rw [hd]; exact Bool.false_ne_true)]
    refine wpAny_bind (wpAny_pure ?_)
    exact wpAny_bind (wpAny_newObj_type (wpAny_pure ⟨_, rfl, h⟩))
theorem rawkeys_iter {v : Addr} {Q : Value → Shared → Prop} (hv : PySem.W.KdlKeysView s.heap v d) (ho : s.heap.get? d = some o) (hdat : o.data = .dict es ep)
    (hQ : Q (.ref s.heap.objs.size) { s with heap := s.heap.push { cls := .type "dict_keyiterator", data := .fields #[.ref d, .int 0 0, .int es.size 0, .int ep 0] } }) :
    wpAny (model prog w) A (pyIter (.ref v)) Q E s := by
  obtain ⟨ov, hov, hcv, hdv⟩ := id hv
  refine wpAny_pyIter_slot hv.typeIs PySem.W.kdl_slot_keys_iter (wpAny_call_entry PySem.W.kdl_slot_keys_iter hv.typeIs PySem.W.kdl_entry_keys_iter ?_ (PySem.W.kdl_args_keys_iter _))
  unfold Builtin.«dict_keys.__iter__»
  refine wpAny_bind (wpAny_pure ?_)
  refine wpAny_bind ?_
  unfold Builtin.Dict_items.dictOf
  refine wpAny_bind (wpAny_field hov hdv (x := .ref d) rfl (wpAny_pure ?_))
  refine wpAny_bind ?_
  unfold Builtin.Dict_items.newIterator
  refine wpAny_bind (wpAny_dictEntries ho hdat ?_)
  refine wpAny_bind (wpAny_dictEpoch ho hdat ?_)
  have hown : Builtin.Dict_items.ownsTuple "dict_keyiterator" = false := by decide
  simp only [hown, Bool.false_eq_true, if_false]
  refine wpAny_newObj_type (wpAny_pure ⟨_, rfl, "dict_keyiterator", _, ⟨_, Heap.get?_push_size _ rfl, rfl⟩, PySem.F.slot_dict_keyiterator_next.lookup, ?_⟩)
  simpa [rawInt] using hQ
theorem kdl_rawkeys (hx : o.ExactDict) (hd : o.data = .dict es ep) :
    PySem.W.KdlSrc prog w "dict_keys" r d es.size (fun i v => ∃ en : DictEntry, es[i]? = some en ∧ v = en.key) (fun h => PySem.W.KdlKeysView h r d ∧ h.get? d = some o) where
  type := fun _ hm => hm.1.typeIs
  there := fun _ hm => ⟨let ⟨_, ho, _⟩ := hm.1; Heap.lt_size ho, Heap.lt_size hm.2⟩
  keep := fun _ _ hm hk => ⟨let ⟨o, ho, x⟩ := hm.1; ⟨o, hk r (.inl rfl) o ho, x⟩, hk d (.inr rfl) _ hm.2⟩
  notList := by decide
  notTuple := by decide
  hint := fun _ _ _ _ hm hq => PySem.W.kdl_hint_keys hm.1.typeIs hq
  iter := fun _ _ hh hm => ⟨_, _, (fun _ _ hq => rawkeys_iter hm.1 hm.2 hd hq), walks_raw hh _ d (Nat.ne_of_lt (Heap.lt_size hm.2)) hd, ⟨⟨_, Heap.get?_push_size _ rfl, rfl, rfl⟩, Heap.get?_push_of_some _ hm.2⟩⟩
end
/-- its keys, as values that stand -/
def KeysV (H : Hp) (d : Addr) (vs : List V) : Prop := (∃ kvs, H d = some (.dK kvs) ∧ vs = kvs.map fun kv => kV kv.1) ∨ ∃ kvs bs, H d = some (.dT kvs) ∧ IsKeys H kvs bs ∧ vs = bs.map V.ref
section
variable {X : Cx} {e : Expr} {te : TE} {p apos cpos pos : Pos}
def tLK (te : TE) : TE := fun σ H Q => te σ H fun x H1 => ∃ d, x = .ref d ∧ ((∃ kvs, H1 d = some (.dK kvs)) ∨ ∃ kvs, H1 d = some (.dT kvs)) ∧ ∀ vs q, KeysV H1 d vs → H1 q = none → Q (.ref q) (upd H1 q (.lst vs))
theorem pe_listKeys (hc : X.calm = true) (he : PE X e te) (hg : Gl X "list") (hm : X.mg "list" = none) (hv : bootBuiltins "list" = some (.type "list")) (hbase : attributeBase e "keys" X.env (eval e X.env) = eval e X.env) (hline : (apos.endLine == cpos.line) = true)
    (hs : starEach [.Call (.Attribute e "keys" apos) [] [] cpos] X.env = (false, eval (.Call (.Attribute e "keys" apos) [] [] cpos) X.env) :: starEach [] X.env) :
    PE X (.Call (.Name "list" p) [.Call (.Attribute e "keys" apos) [] [] cpos] [] pos) (tLK te) := by
  refine ⟨fun pins s σ H Q I hq => ?_⟩
  refine wpAny_Call_Name_kw (ld_blt I hg hm hv ?_)
  refine PyProof.Rows.callWith_type1 ?_ hs rfl
  rw [hs]
  show wpAny _ _ (spliced ((false, eval (.Call (.Attribute e "keys" apos) [] [] cpos) X.env) :: backTo pos (starEach [] X.env))) _ _ s
  refine Calls.spliced_cons ?_
  refine wpAny_Call_method (T := "dict") (id := "dict.keys") hbase rfl hline PySem.F.plainAttrs_dict PySem.F.slot_dict_keys PySem.F.type_dict_keys (thn (he.run pins s σ H _ I hq) fun u s1 ⟨x, H1, I1, rx, d, ex, hd, q⟩ => ?_)
  subst ex
  obtain rfl : u = Value.ref d := rx
  have I2 : Inv X pins σ H1 { s1 with heap := s1.heap.push { cls := .type "dict_keys", data := .fields #[.ref d] } } := I1.kept (t' := s1.toks) fun b ob q => Heap.get?_push_of_some _ q
  rcases hd with ⟨kvs, hd⟩ | ⟨kvs, hd⟩
  · obtain ⟨hz, hs0, vs, kv, hdo⟩ := I1.hok d _ hd
    obtain ⟨ep, hat⟩ := hdo.dictAt
    have hl : kvs.length = vs.length := Paired.length kv
    refine ⟨hdo.typeIs, hdo.mapOf.noDict, ?_⟩
    show wpAny _ _ (callWith cpos (.builtin "dict.keys") [.ref d] [] []) _ X.xe s1
    refine method_meetsIn PySem.F.slot_dict_keys PySem.F.entry_dict_keys rfl (PySem.evalArgs_none ⟨rfl, hdo.typeIs, PySem.F.args_dict_keys_1 _, _, rawkeys_meets hs0, hdo.typeIs, ?_⟩)
    refine Calls.spliced_nil ?_
    refine PySem.W.kdl_call (PySem.W.kdl_keys (knd := mixKind X.prog X.w) (kvs := vs) (ep := ep)) (I1.ok.hd hc) ⟨⟨_, Heap.get?_push_size _ rfl, rfl, rfl⟩, hat.push _⟩ (by rw [← hl]; exact hz) fun h' tk acc' c' hkeep hS hacc => ?_
    refine ⟨.ref _, upd H1 _ (.lst (kvs.map fun kv => kV kv.1)), I2.laid hkeep (Nat.le_refl _) (show ObjOk X.prog X.w _ _ _ (.lst (kvs.map fun kv => kV kv.1)) from ⟨?_, acc'.toList, c', ?_, ?_⟩), rfl, q _ _ (.inl ⟨_, hd, rfl⟩) (I2.hok.fresh (Nat.le_refl _))⟩
    · rw [List.length_map]; exact hz
    · have el : acc'.toList.length = acc'.size := by simp
      refine vals_of_at (by rw [List.length_map, el, hacc.1, hl]) fun j x w h1 h2 => ?_
      obtain ⟨k, y, hky, hi⟩ := hacc.2 j w (by rw [← Array.getElem?_toList]; exact h2)
      have e1 : (kvs.map (·.1))[j]? = some k := by
        rw [KV.keys kv, List.getElem?_map, hky] <;> rfl
      have e2 : (kvs.map fun kv => kV kv.1)[j]? = some (kV k) := by
        have e3 : (kvs.map fun kv => kV kv.1) = (kvs.map (·.1)).map kV := by rw [List.map_map] <;> rfl
        rw [e3, List.getElem?_map, e1] <;> rfl
      rw [e2] at h1
      cases h1
      exact keyIs_rel hi
    · rw [Array.toArray_toList]; exact hS
  · obtain ⟨z, hs0, ks, pr, o, es, ep, ho, hx, hdt, he2, hn⟩ := (show ObjOk X.prog X.w H1 s1.heap d (.dT kvs) from I1.hok d _ hd)
    have l1 : es.size = ks.length := size_of_entries he2
    have l2 : kvs.length = ks.length := Paired.length pr
    have ty : s1.TypeIs (.ref d) "dict" := ⟨o, ho, hx.1⟩
    have hne : d ≠ s1.heap.objs.size := Nat.ne_of_lt (Heap.lt_size ho)
    refine ⟨ty, fun ob ez => ?_, ?_⟩
    · cases ez
      exact ⟨o, ho, hx.2.1⟩
    show wpAny _ _ (callWith cpos (.builtin "dict.keys") [.ref d] [] []) _ X.xe s1
    refine method_meetsIn PySem.F.slot_dict_keys PySem.F.entry_dict_keys rfl (PySem.evalArgs_none ⟨rfl, ty, PySem.F.args_dict_keys_1 _, _, rawkeys_meets hs0, ty, ?_⟩)
    refine Calls.spliced_nil ?_
    refine PySem.W.kdl_call (kdl_rawkeys hx hdt) (I1.ok.hd hc) ⟨⟨_, Heap.get?_push_size _ rfl, rfl, rfl⟩, Heap.get?_push_of_some _ ho⟩ (by omega) fun h' tk acc' c' kp e it => ?_
    have ea : acc'.toList = ks.map fun x => Value.ref x.2.1 := by
      have hl : acc'.toList.length = ks.length := by rw [Array.length_toList, it.1]; exact l1
      apply List.ext_getElem?
      intro j
      rw [List.getElem?_map]
      cases hj : acc'.toList[j]? with
      | none =>
        have h1 := List.getElem?_eq_none_iff.mp hj
        rw [List.getElem?_eq_none (by omega)]
        all_goals rfl
      | some v =>
        obtain ⟨en, hen, hv⟩ := it.2 j v (by rw [← Array.getElem?_toList]; exact hj)
        have qe := entry_at he2 j
        rw [hen] at qe
        cases hb : ks[j]? with
        | none =>
          rw [hb] at qe
          exact nomatch (show some en = none from qe)
        | some b =>
          rw [hb] at qe
          have e2 : en = entryOfKey (tupleKind (mixKind X.prog X.w)) b := Option.some.inj qe
          rw [hv, e2]
          all_goals rfl
    have eb : acc'.toList = (ks.map fun x => x.2.1).map Value.ref := by rw [ea, List.map_map]; all_goals rfl
    have rv : Vals ((ks.map fun x => x.2.1).map V.ref) acc'.toList := by rw [eb]; exact vals_refs _
    have hz : ((ks.map fun x => x.2.1).map V.ref).length ≤ sizeLine := by rw [List.length_map, List.length_map]; omega
    refine ⟨.ref _, _, I2.laid (t' := tk) (o := .lst ((ks.map fun x => x.2.1).map V.ref)) kp (Nat.le_refl _) ?_, rfl, q _ _ (.inr ⟨kvs, _, hd, isKeys_of pr, rfl⟩) (I2.hok.fresh (Nat.le_refl _))⟩
    exact ⟨hz, acc'.toList, c', rv, by rw [Array.toArray_toList]; exact e⟩
/-- list(d.keys()) by values -/
def keysLD (x : D) (M : Mh) (P : PQ) : Prop := match dictD x M with
  | some o => ∀ p, M p = none → P (.ref p) (mup M p (.lst (dKeys o)))
  | none => False
def eKs (a : DT) : DT := fun ρ M P => a ρ M fun x M1 => keysLD x M1 P
theorem keys_rels {K : PySem.W.Frag} {H : Hp} : ∀ {ks : List Key}, DRs K H (ks.map kD) (ks.map kV)
  | [] => .nil
  | .inl i :: r => .cons (.int i) keys_rels
  | .inr i :: r => .cons (.str i) keys_rels
theorem keysV_rel {K : PySem.W.Frag} {H : Hp} {M : Mh} {a : Addr} {o : MO} {vs : List V} (h : MR K H a o) (kv : KeysV H a vs) : DRs K H (dKeys o) vs := by
  cases o with
  | lst ds =>
    obtain ⟨ws, q, _⟩ := h
    rcases kv with ⟨_, e, _⟩ | ⟨_, _, e, _⟩ <;> (rw [q] at e; cases e)
  | dk kvs =>
    obtain ⟨ws, q, r⟩ := h
    rcases kv with ⟨us, e, rfl⟩ | ⟨_, _, e, _⟩
    · rw [q] at e
      cases e
      have e1 : dKeys (.dk kvs) = (kvs.map (·.1)).map kD := by
        show kvs.map _ = _
        rw [List.map_map]; rfl
      have e2 : (ws.map fun kv => kV kv.1) = (ws.map (·.1)).map kV := by rw [List.map_map]; rfl
      rw [e1, e2, r.keys]
      exact keys_rels
    · rw [q] at e; cases e
  | dt kvs =>
    obtain ⟨ws, q, r⟩ := h
    rcases kv with ⟨_, e, _⟩ | ⟨us, bs, e, ik, rfl⟩
    · rw [q] at e; cases e
    · rw [q] at e
      cases e
      have e1 : dKeys (.dt kvs) = (kvs.map (·.1)).map fun k => .tup (k.map kD) := by
        show kvs.map _ = _
        rw [List.map_map]; rfl
      rw [e1, r.keys]
      clear e1 r q
      unfold IsKeys at ik
      induction ik with
      | nil => exact .nil
      | cons h _ ih => exact .cons (.tup h keys_rels) ih
theorem dx_keys {wa : DT} (hc : X.calm = true) (he : Dx X e wa) (hg : Gl X "list") (hm : X.mg "list" = none) (hbase : attributeBase e "keys" X.env (eval e X.env) = eval e X.env) (hline : (apos.endLine == cpos.line) = true)
    (hs : starEach [.Call (.Attribute e "keys" apos) [] [] cpos] X.env = (false, eval (.Call (.Attribute e "keys" apos) [] [] cpos) X.env) :: starEach [] X.env) :
    Dx X (.Call (.Name "list" p) [.Call (.Attribute e "keys" apos) [] [] cpos] [] pos) (eKs wa) :=
  pe_wk (pe_listKeys hc he hg hm (by decide +kernel) hbase hline hs) fun σ H Q ⟨ρ, M, P, er, hr, w, k⟩ =>
    ⟨ρ, M, _, er, hr, w, fun x M1 v H1 p1 e1 d1 h1 => by
      unfold keysLD at p1
      split at p1
      · rename_i o eo
        obtain ⟨a, rfl, e2, ho⟩ := dict_of eo
        cases d1
        refine ⟨a, rfl, ?_, fun vs q kv nq => k _ _ _ _ (p1 q (h1.free nq)) (e1.trans (.fresh nq)) (.ref q) (h1.new nq (keysV_rel (M := M1) (h1 _ _ e2) kv))⟩
        rcases ho with ⟨kvs, rfl⟩ | ⟨kvs, rfl⟩
        · obtain ⟨ws, q, _⟩ := h1 _ _ e2; exact .inl ⟨_, q⟩
        · obtain ⟨ws, q, _⟩ := h1 _ _ e2; exact .inr ⟨_, q⟩
      · exact p1.elim⟩
end
end DL
/-! DLd: subscripts, slices, methods, calls, statements, loops, comprehensions of the data layer. -/
namespace DL
open PySem PySem.Spec L2
open PyProof.Rows hiding St

/-! ### subscripts -/
def ixD : D → D → Mh → PQ → Prop := fun x y M P => match dictD x M with
  | some o => match dGet o y with
    | some (some d) => P d M
    | _ => False
  | none => match y with
  | .int i => match x with
    | .str z => z.length ≤ sizeLine ∧ match atI z.cps.toList i with
      | some c => P (.str ⟨#[c]⟩) M
      | none => False
    | x => match itemsD x M with
      | some ds => match atI ds i with
        | some d => P d M
        | none => False
      | none => False
  | _ => False
theorem DRs.at {K : PySem.W.Frag} {H : Hp} {ds : List D} {vs : List V} {i : Int} {d : D} (r : DRs K H ds vs) (e : atI ds i = some d) : ∃ v, atI vs i = some v ∧ DR K H d v := by
  unfold atI at e ⊢
  rw [r.length] at e
  cases q : ixN vs.length i with
  | none => rw [q] at e; cases e
  | some j =>
    rw [q] at e
    exact r.get e
def cutD (ds : List D) (lo hi : Option Int) : List D := (ds.drop (HT.sIx ds.length 0 lo)).take (HT.sIx ds.length ds.length hi - HT.sIx ds.length 0 lo)
theorem DRs.cut {K : PySem.W.Frag} {H : Hp} {ds : List D} {vs : List V} (r : DRs K H ds vs) (lo hi : Option Int) : DRs K H (cutD ds lo hi) (cutV vs lo hi) := by
  unfold cutD cutV
  rw [r.length]
  exact (r.drop _).take _
def slD : D → Option Int → Option Int → Mh → PQ → Prop := fun x lo hi M P => match x with
  | .str z => z.length ≤ sizeLine ∧ P (.str (cutS z lo hi)) M
  | .tup ds => P (.tup (cutD ds lo hi)) M
  | .rol ds => ∀ p, M p = none → P (.ref p) (mup M p (.lst (cutD ds lo hi)))
  | .ref a => match M a with
    | some (.lst ds) => ∀ p, M p = none → P (.ref p) (mup M p (.lst (cutD ds lo hi)))
    | _ => False
  | _ => False
def oPart : Option DT → Ev → Mh → (Option Int → Mh → Prop) → Prop
  | none, _, M, P => P none M
  | some w, ρ, M, P => w ρ M fun d M1 => match d with
    | .int i => P (some i) M1
    | _ => False
def eSl (a : DT) (lo hi : Option DT) : DT := fun ρ M P => a ρ M fun x M1 => oPart lo ρ M1 fun l M2 => oPart hi ρ M2 fun h M3 => slD x l h M3 P
def upO (K : PySem.W.Frag) (w : Ev → Mh → (Option Int → Mh → Prop) → Prop) : TO := fun σ H Q => ∃ ρ M P, ER K H ρ σ ∧ HR K H M ∧ w ρ M P ∧ ∀ o M' H', P o M' → Ext K H H' → HR K H' M' → Q o H'
def setD (o i v : D) (M : Mh) (Q : Mh → Prop) : Prop := match dictD o M with
  | some ob => dSize ob < sizeLine ∧ match dPut ob i v, o with
    | some o', .ref a => Q (mup M a o')
    | _, _ => False
  | none => match o, i with
    | .ref a, .int k => match M a with
      | some (.lst ds) => match ixN ds.length k with
        | some j => Q (mup M a (.lst (ds.set j v)))
        | none => False
      | _ => False
    | _, _ => False
/-- a store by values -/
def upS2 (K : PySem.W.Frag) : TSet := fun o i v H Q => ∃ x y d M P, DR K H x o ∧ DR K H y i ∧ DR K H d v ∧ HR K H M ∧ setD x y d M P ∧ ∀ M' H', P M' → Ext K H H' → HR K H' M' → Q H'
theorem set_dl {X : Cx} (hu : X.A.units + 65 < cLine) : PSet X (upS2 X.K) := by
  rintro pins s σ H o i v ov iv u Q I ro ri rv ⟨x, y, d, M, P, dx, dy, dv, hr, w, k⟩
  unfold setD at w
  cases e0 : dictD x M with
  | some ob =>
    simp only [e0] at w
    obtain ⟨l, w⟩ := w
    cases e1 : dPut ob y d with
    | none => simp only [e1] at w
    | some o' =>
      simp only [e1] at w
      obtain ⟨a, H', rfl, rfl, g, x1, h1⟩ := dput_of hr dx dy dv e0 e1 l
      exact set_dict (by omega) pins s σ H _ i v ov iv u Q I ro ri rv ⟨a, H', rfl, g, k _ _ w x1 h1⟩
  | none =>
    simp only [e0] at w
    cases dx <;> cases dy <;> first | exact False.elim w | skip
    rename_i a j
    cases e3 : M a with
    | none => simp only [e3] at w
    | some ob =>
      simp only [e3] at w
      cases ob with
      | lst ds =>
        simp only at w
        obtain ⟨vs, q, r⟩ := hr _ _ e3
        cases e4 : ixN ds.length j with
        | none => simp only [e4] at w
        | some m =>
          simp only [e4] at w
          exact set_list pins s σ H _ _ v ov iv u Q I ro ri rv ⟨_, _, _, m, rfl, rfl, q, by rw [← r.length]; exact e4, k _ _ w (.lst q) (hr.write q (r.set m dv))⟩
      | _ => exact False.elim w

section
variable {X : Cx}
theorem xd_ix (hu : X.A.units + 65 < cLine) : IxR X (up2 X.K ixD) := by
  rintro value slice pins s σ H v u a b Q I ra rb ⟨x, y, M, P, dx, dy, hr, w, k⟩ hs
  cases e0 : dictD x M with
  | some o =>
    unfold ixD at w
    rw [e0] at w
    cases e2 : dGet o y with
    | none => simp only [e2] at w
    | some r =>
      cases r with
      | none => simp only [e2] at w
      | some d =>
        simp only [e2] at w
        obtain ⟨q, r', rfl, g, _, e3⟩ := dget_of hr dx dy e0 e2
        obtain ⟨v', rfl, dv⟩ := e3 d rfl
        obtain rfl : a = Value.ref q := ra
        exact PyProof.Rows.tail_any (dict_typeIs I g) PySem.F.slot_dict_getitem.lookup (d_getItem (by omega) I g rb fun w' s3 I3 rw' => ⟨v', H, I3, rw', k _ _ _ _ w (.refl _ _) dv hr⟩) hs
  | none =>
  unfold ixD at w
  rw [e0] at w
  cases dy <;> first | exact False.elim w | skip
  rename_i i
  have gen : ∀ ds d, itemsD x M = some ds → atI ds i = some d → P d M → wpAny (model X.prog X.w) X.A (subscriptTail value slice a b) (EP X pins σ Q) X.xe s := fun ds d e e2 w => by
    obtain ⟨p, ws, rfl, q, r⟩ := items_of dx hr e
    obtain ⟨v', h1, h2⟩ := r.at e2
    rcases q with q | q
    · exact ix_list value slice pins s σ H _ _ a b Q I ra rb ⟨_, _, _, _, rfl, rfl, q, h1, k _ _ _ _ w (.refl _ _) h2 hr⟩ hs
    · exact ix_tup value slice pins s σ H _ _ a b Q I ra rb ⟨_, _, _, _, rfl, rfl, q, h1, k _ _ _ _ w (.refl _ _) h2 hr⟩ hs
  have gen2 : (match itemsD x M with | some ds => (match atI ds i with | some d => P d M | none => False) | none => False) → wpAny (model X.prog X.w) X.A (subscriptTail value slice a b) (EP X pins σ Q) X.xe s := fun w => by
    cases e : itemsD x M with
    | none => simp only [e] at w
    | some ds =>
      simp only [e] at w
      cases e2 : atI ds i with
      | none => simp only [e2] at w
      | some d => simp only [e2] at w; exact gen ds d e e2 w
  cases dx with
  | str z =>
    obtain ⟨hz, w⟩ := w
    cases e2 : atI z.cps.toList i with
    | none => simp only [e2] at w
    | some c =>
      simp only [e2] at w
      exact ix_str value slice pins s σ H _ _ a b Q I ra rb ⟨_, _, _, rfl, rfl, hz, e2, k _ _ _ _ w (.refl _ _) (.str _) hr⟩ hs
  | _ => exact gen2 w
theorem dx_ix {a b : Expr} {wa wb : DT} {pos : Pos} (hu : X.A.units + 65 < cLine) (ha : Dx X a wa) (hb : Dx X b wb) (hs : PlainIx b) : Dx X (.Subscript a b pos) (eBin ixD wa wb) :=
  pe_wk (pe_ix (xd_ix hu) ha hb hs) fun σ H Q ⟨ρ, M, P, er, hr, w, k⟩ =>
    ⟨ρ, M, _, er, hr, w, fun x M1 v H1 p1 e1 d1 h1 => ⟨ρ, M1, _, er.mono e1, h1, p1, fun y M2 u H2 p2 e2 d2 h2 => ⟨x, y, M2, P, d1.mono e2, d2, h2, p2, fun d M3 v3 H3 p3 e3 => k d M3 v3 H3 p3 (e1.trans (e2.trans e3))⟩⟩⟩
theorem po_wk {e : Option Expr} {t t' : TO} (h : PO X e t) (k : ∀ σ H Q, t' σ H Q → t σ H Q) : PO X e t' := ⟨fun pins s σ H Q I q => h.run pins s σ H Q I (k σ H Q q)⟩
theorem do_none : PO X none (upO X.K (oPart none)) := po_wk po_none fun σ H Q ⟨ρ, M, P, er, hr, w, k⟩ => k none M H w (.refl _ _) hr
theorem do_some {e : Expr} {w : DT} (h : Dx X e w) : PO X (some e) (upO X.K (oPart (some w))) :=
  po_wk (po_some h) fun σ H Q ⟨ρ, M, P, er, hr, w, k⟩ => ⟨ρ, M, _, er, hr, w, fun d M1 v H1 p1 e1 d1 h1 => by
    cases d1 <;> first | exact False.elim p1 | skip
    exact ⟨_, rfl, k _ M1 H1 p1 e1 h1⟩⟩
theorem sd_sl : SlR X (fun v lo hi H Q => ∃ x M P, DR X.K H x v ∧ HR X.K H M ∧ slD x lo hi M P ∧ ∀ d M' v' H', P d M' → Ext X.K H H' → DR X.K H' d v' → HR X.K H' M' → Q v' H') := by
  rintro pins s σ H v a vl vu lo hi sl Q I ra hs pl pu ⟨x, M, P, dx, hr, w, k⟩
  cases dx with
  | str z => exact sl_str pins s σ H _ a vl vu lo hi sl Q I ra hs pl pu ⟨_, rfl, w.1, k _ _ _ _ w.2 (.refl _ _) (.str _) hr⟩
  | tup s1 r1 =>
    refine sl_tupA pins s σ H _ a vl vu lo hi sl Q I ra hs pl pu ⟨_, _, rfl, SqT.of s1, fun hw => ?_, fun _ p np => ?_⟩
    · refine k _ _ _ _ w (.refl _ _) (.tup s1 ?_) hr
      have := r1.cut lo hi
      rw [show cutV _ lo hi = _ from by unfold cutV; rw [hw.1, hw.2, List.drop_zero, Nat.sub_zero, List.take_length]] at this
      exact this
    · exact k _ _ _ _ w (.fresh np) (.tup upd_same ((r1.cut lo hi).mono (.fresh np))) (hr.fresh np)
  | rol s1 r1 => exact sl_list pins s σ H _ a vl vu lo hi sl Q I ra hs pl pu ⟨_, _, rfl, s1.seq, fun p np => k _ _ _ _ (w p (hr.free np)) (.fresh np) (.ref p) (hr.new np (r1.cut lo hi))⟩
  | ref l =>
    have w : (match M l with | some (.lst ds) => ∀ p, M p = none → P (.ref p) (mup M p (.lst (cutD ds lo hi))) | _ => False) := w
    cases e : M l with
    | none => rw [e] at w; exact w.elim
    | some o =>
      rw [e] at w
      cases o with
      | dk _ => exact False.elim w
      | dt _ => exact False.elim w
      | lst ds =>
        obtain ⟨vs, q, r⟩ := hr _ _ e
        exact sl_list pins s σ H _ a vl vu lo hi sl Q I ra hs pl pu ⟨_, _, rfl, SqL.of q, fun p np => k _ _ _ _ (w p (hr.free np)) (.fresh np) (.ref p) (hr.new np (r.cut lo hi))⟩
  | _ => exact False.elim w
theorem dx_sl {a : Expr} {lo hi : Option Expr} {wa : DT} {wl wh : Option DT} {p2 pos : Pos} (ha : Dx X a wa) (hl : PO X lo (upO X.K (oPart wl))) (hh : PO X hi (upO X.K (oPart wh))) : Dx X (.Subscript a (.Slice lo hi none p2) pos) (eSl wa wl wh) :=
  pe_wk (pe_slice sd_sl ha hl hh) fun σ H Q ⟨ρ, M, P, er, hr, w, k⟩ =>
    ⟨ρ, M, _, er, hr, w, fun x M1 v H1 p1 e1 d1 h1 => ⟨ρ, M1, _, er.mono e1, h1, p1, fun l M2 H2 p2 e2 h2 => ⟨ρ, M2, _, er.mono (e1.trans e2), h2, p2, fun h M3 H3 p3 e3 h3 =>
      ⟨x, M3, P, d1.mono (e2.trans e3), h3, p3, fun d M4 v4 H4 p4 e4 => k d M4 v4 H4 p4 (e1.trans (e2.trans (e3.trans e4)))⟩⟩⟩⟩

/-! ### isinstance, calls -/
def eIsi (T : String) (a : DT) : DT := fun ρ M P => a ρ M fun x M1 => isiD T x M1 P
theorem dx_isi {e : Expr} {T : String} {wa : DT} {x : Str} {p p2 pos : Pos} (hT : T = "int" ∨ T = "str" ∨ T = "tuple" ∨ T = "list" ∨ T = "bool" ∨ T = "dict") (ha : Dx X e wa) (hg : Gl X "isinstance") (hm : X.mg "isinstance" = none) (hg2 : Gl X x) (hm2 : X.mg x = none)
    (hb : bootBuiltins x = some (.type T)) (hn : x ≠ "__name__") (hdb : (x == ("__debug__" : Str)) = false)
    (he : starEach (e :: [.Name x p2]) X.env = (false, eval e X.env) :: starEach [.Name x p2] X.env) : Dx X (.Call (.Name "isinstance" p) [e, .Name x p2] [] pos) (eIsi T wa) :=
  pe_wk (pe_callB call_isi hg hm (by decide +kernel) (pa_cons ha (pa_cons (pe_bltn (v := .ty T) hg2 hm2 hb rfl hn hdb) pa_nil (by rfl)) he) (by decide) (by decide) he (by rfl)) fun σ H Q ⟨ρ, M, P, er, hr, w, k⟩ =>
    ⟨ρ, M, _, er, hr, w, fun x M1 v H1 p1 e1 d1 h1 => by
      obtain ⟨t, b, h2, h3, h4⟩ := tyx_of hT d1 h1 p1
      exact ⟨_, _, _, _, _, rfl, .ty T, h2, h3, k _ M1 _ H1 h4 e1 (.bl b) h1⟩⟩
theorem dx_fb {id : String} {x : Str} {r : List D → Mh → PQ → Prop} {e : Expr} {es : List Expr} {wa : DA} {p pos : Pos} (hc : CallR X (.builtin id) (upL X.K r)) (hg : Gl X x) (hm : X.mg x = none) (hv : bootBuiltins x = some (.builtin id)) (ha : Da X (e :: es) wa)
    (hn : x ≠ "__name__") (hdb : (x == ("__debug__" : Str)) = false) (he : starEach (e :: es) X.env = (false, eval e X.env) :: starEach es X.env) (hpl : (backTo pos (starEach es X.env)).any (·.1) = false) : Dx X (.Call (.Name x p) (e :: es) [] pos) (eCall r wa) :=
  pe_wk (pe_callB hc hg hm hv ha hn hdb he hpl) fun σ H Q ⟨ρ, M, P, er, hr, w, k⟩ =>
    ⟨ρ, M, _, er, hr, w, fun xs M1 vs H1 p1 e1 d1 h1 => ⟨xs, M1, P, d1, h1, p1, fun d M2 v2 H2 p2 e2 => k d M2 v2 H2 p2 (e1.trans e2)⟩⟩
theorem dx_ft {T : String} {x : Str} {r : List D → Mh → PQ → Prop} {e : Expr} {es : List Expr} {wa : DA} {p pos : Pos} (hc : CallR X (.type T) (upL X.K r)) (hg : Gl X x) (hm : X.mg x = none) (hv : bootBuiltins x = some (.type T)) (ha : Da X (e :: es) wa)
    (hn : x ≠ "__name__") (hdb : (x == ("__debug__" : Str)) = false) (he : starEach (e :: es) X.env = (false, eval e X.env) :: starEach es X.env) (hpl : (backTo pos (starEach es X.env)).any (·.1) = false) : Dx X (.Call (.Name x p) (e :: es) [] pos) (eCall r wa) :=
  pe_wk (pe_callTy hc hg hm hv ha hn hdb he hpl) fun σ H Q ⟨ρ, M, P, er, hr, w, k⟩ =>
    ⟨ρ, M, _, er, hr, w, fun xs M1 vs H1 p1 e1 d1 h1 => ⟨xs, M1, P, d1, h1, p1, fun d M2 v2 H2 p2 e2 => k d M2 v2 H2 p2 (e1.trans e2)⟩⟩
/-- what a def of n parameters promises -/
abbrev DSp := List D → Mh → PQ → Prop
def upF (K : PySem.W.Frag) (n : Nat) (sp : DSp) : Sp := fun vs H Q _ => vs.length = n ∧ upL K sp vs H Q
/-- a def that may be called -/
structure CallOk (X : Cx) (x : Str) (n : Nat) (sp : DSp) : Prop where
  dbg : (x == ("__debug__" : Str)) = false
  ok : ∃ f fd k ps, ∃ (dd : List D) (dvs : List V) (us : List Value) (sp0 : DSp), FnOk X.prog X.w X.K X.mg X.base CX0 k f fd ps (upF X.K ps.length sp0) ∧ Room k X.A ∧ X.mg x = some (.ref f) ∧ PySem.W.keepIn X.K (.ref f) = true ∧ Binds X.K fd ps us ∧
    Vals dvs us ∧ (∀ H, DRs X.K H dd dvs) ∧ n + dd.length = ps.length ∧ ∀ ds M P, ds.length = n → sp ds M P → sp0 (ds ++ dd) M P
def eFn (n : Nat) (sp : DSp) (a : DA) : DT := fun ρ M P => a ρ M fun xs M1 => xs.length = n ∧ sp xs M1 P
theorem dx_fn {x : Str} {n : Nat} {sp : DSp} {e : Expr} {es : List Expr} {wa : DA} {p pos : Pos} (c : CallOk X x n sp) (hg : Gl X x) (ha : Da X (e :: es) wa) (he : starEach (e :: es) X.env = (false, eval e X.env) :: starEach es X.env)
    (hpl : (backTo pos (starEach es X.env)).any (·.1) = false) : Dx X (.Call (.Name x p) (e :: es) [] pos) (eFn n sp wa) := by
  obtain ⟨f, fd, k, ps, dd, dvs, us, sp0, F, hr, hm, hk, hb, hv, hdd, hl, hi⟩ := c.ok
  exact pe_wk (pe_call F hr hg hm hk hb hv pass0 ha c.dbg he hpl) fun σ H Q ⟨ρ, M, P, er, hr, w, k⟩ =>
    ⟨ρ, M, _, er, hr, w, fun xs M1 vs H1 p1 e1 d1 h1 => by
      show upF X.K ps.length sp0 (vs ++ dvs) H1 Q E0
      have l1 := (hdd H1).length
      have l2 := d1.length
      exact ⟨by rw [List.length_append]; have := p1.1; omega, xs ++ dd, M1, P, d1.append (hdd H1), h1, hi _ _ _ p1.1 p1.2, fun d M2 v2 H2 p2 e2 => k d M2 v2 H2 p2 (e1.trans e2)⟩⟩
theorem dx_fn0 {x : Str} {n : Nat} {sp : DSp} {p pos : Pos} (c : CallOk X x n sp) (hg : Gl X x) : Dx X (.Call (.Name x p) [] [] pos) (eFn n sp aNil) := by
  obtain ⟨f, fd, k, ps, dd, dvs, us, sp0, F, hr, hm, hk, hb, hv, hdd, hl, hi⟩ := c.ok
  exact pe_wk (pe_call0 F hr hg hm hk hb hv pass0 c.dbg) fun σ H Q ⟨ρ, M, P, er, hr, w, k⟩ => by
    show upF X.K ps.length sp0 ([] ++ dvs) H Q E0
    have l1 := (hdd H).length
    exact ⟨by rw [List.nil_append]; have : ([] : List D).length = n := w.1; simp at this; omega, [] ++ dd, M, P, hdd H, hr, hi _ _ _ w.1 w.2, k⟩

/-! ### methods of lists and texts -/
def tyD (T : String) (x : D) (M : Mh) : Prop := match x with
  | .str _ => T = "str"
  | .rol _ => T = "list"
  | .ref a => match M a with
    | some (.lst _) => T = "list"
    | _ => False
  | _ => False
theorem tyv_of {K : PySem.W.Frag} {H : Hp} {x : D} {v : V} {M : Mh} {T : String} (d : DR K H x v) (h : HR K H M) (t : tyD T x M) : tyV K T v H := by
  cases d <;> first | exact False.elim t | skip
  · exact t
  · rename_i s1 r1
    exact .inl ⟨t, _, s1.seq⟩
  · rename_i a
    have t : (match M a with | some (.lst _) => T = "list" | _ => False) := t
    cases e : M a with
    | none => rw [e] at t; exact t.elim
    | some o =>
      rw [e] at t
      cases o with
      | lst ds =>
        obtain ⟨vs, q, _⟩ := h _ _ e
        exact .inl ⟨t, _, SqL.of q⟩
      | _ => exact False.elim t
def eMt (T : String) (r : D → List D → Mh → PQ → Prop) (o : DT) (a : DA) : DT := fun ρ M P => o ρ M fun x M1 => tyD T x M1 ∧ a ρ M1 fun xs M2 => r x xs M2 P
theorem dx_mt {T id : String} {name : Str} {r : D → List D → Mh → PQ → Prop} {o e : Expr} {es : List Expr} {wo : DT} {wa : DA} {apos cpos : Pos} (pa : PlainAttrs T) (sl : Slot T name id) (hty : typeOf (.builtin id) = pure (.type "method_descriptor")) (hm : MtR X id (upM X.K r)) (ho : Dx X o wo) (ha : Da X (e :: es) wa)
    (hbase : attributeBase o name X.env (eval o X.env) = eval o X.env)
    (hfew : ((backTo cpos (starEach (e :: es) X.env)).all (fun x => !x.1) && (backToKw cpos (keywordEach [] X.env)).all (fun x => x.1.isSome)
      && decide ((e :: es).length + ([] : List Keyword).length + (if ([] : List Keyword).isEmpty then 0 else 1) < 30)) = true)
    (hline : (apos.endLine == cpos.line) = true) (hs : starEach (e :: es) X.env = (false, eval e X.env) :: starEach es X.env) (hplain : (backTo cpos (starEach es X.env)).any (·.1) = false) :
    Dx X (.Call (.Attribute o name apos) (e :: es) [] cpos) (eMt T r wo wa) :=
  pe_wk (pe_bm pa sl hty hm ho ha hbase hfew hline hs hplain) fun σ H Q ⟨ρ, M, P, er, hr, w, k⟩ =>
    ⟨ρ, M, _, er, hr, w, fun x M1 v H1 p1 e1 d1 h1 => ⟨tyv_of d1 h1 p1.1, ρ, M1, _, er.mono e1, h1, p1.2, fun xs M2 vs H2 p2 e2 d2 h2 => ⟨x, xs, M2, P, d1.mono e2, d2, h2, p2, fun d M3 v3 H3 p3 e3 => k d M3 v3 H3 p3 (e1.trans (e2.trans e3))⟩⟩⟩
theorem dx_mt0 {T id : String} {name : Str} {r : D → List D → Mh → PQ → Prop} {o : Expr} {wo : DT} {apos cpos : Pos} (pa : PlainAttrs T) (sl : Slot T name id) (hty : typeOf (.builtin id) = pure (.type "method_descriptor")) (hm : MtR X id (upM X.K r)) (ho : Dx X o wo)
    (hbase : attributeBase o name X.env (eval o X.env) = eval o X.env) (hline : (apos.endLine == cpos.line) = true) : Dx X (.Call (.Attribute o name apos) [] [] cpos) (eMt T r wo aNil) :=
  pe_wk (pe_bm0 pa sl hty hm ho hbase hline) fun σ H Q ⟨ρ, M, P, er, hr, w, k⟩ =>
    ⟨ρ, M, _, er, hr, w, fun x M1 v H1 p1 e1 d1 h1 => ⟨tyv_of d1 h1 p1.1, x, [], M1, P, d1, .nil, h1, p1.2, fun d M3 v3 H3 p3 e3 => k d M3 v3 H3 p3 (e1.trans e3)⟩⟩
def appendD : D → List D → Mh → PQ → Prop
  | .ref a, [y], M, P => match M a with
    | some (.lst ds) => ds.length < sizeLine ∧ P .non (mup M a (.lst (ds ++ [y])))
    | _ => False
  | _, _, _, _ => False
def extendD : D → List D → Mh → PQ → Prop
  | .ref a, [.ref b], M, P => match M a, M b with
    | some (.lst ds), some (.lst es) => ds.length + es.length ≤ sizeLine ∧ P .non (mup M a (.lst (ds ++ es)))
    | _, _ => False
  | _, _, _, _ => False
def popD : D → List D → Mh → PQ → Prop
  | .ref a, [], M, P => match M a with
    | some (.lst ds) => match ds[ds.length - 1]? with
      | some d => P d (mup M a (.lst ds.dropLast))
      | none => False
    | _ => False
  | .ref a, [.int i], M, P => match M a with
    | some (.lst ds) => (-(2 ^ 63) ≤ i ∧ i < 2 ^ 63) ∧ match seqIndex? i ds.length with
      | some j => match ds[j]? with
        | some d => P d (mup M a (.lst (ds.eraseIdx j)))
        | none => False
      | none => False
    | _ => False
  | _, _, _, _ => False
def joinD : D → List D → Mh → PQ → Prop
  | .str z, [x], M, P => match itemsD x M with
    | some ds => match strsOf ds with
      | some ys => (ys.map (·.length)).sum + ys.length * z.length ≤ 16777216 ∧ P (.str (Txt.join z ys)) M
      | none => False
    | none => False
  | _, _, _, _ => False
theorem md_append : MtR X "list.append" (upM X.K appendD) := by
  rintro pins s σ H v vs a us Q I ra rs ⟨x, xs, M, P, dx, ds, hr, w, k⟩
  cases dx <;> first | exact False.elim w | skip
  rename_i l
  match xs, ds with
  | [], _ => exact False.elim w
  | _ :: _ :: _, _ => exact False.elim w
  | [y], .cons dy .nil =>
    have w : (match M l with | some (.lst ds) => ds.length < sizeLine ∧ P .non (mup M l (.lst (ds ++ [y]))) | _ => False) := w
    cases e : M l with
    | none => rw [e] at w; exact w.elim
    | some o =>
      rw [e] at w
      cases o with
      | dk _ => exact False.elim w
      | dt _ => exact False.elim w
      | lst es =>
        obtain ⟨ws, q, r⟩ := hr _ _ e
        exact mt_append pins s σ H _ _ a us Q I ra rs ⟨_, _, _, rfl, rfl, q, by rw [← r.length]; exact w.1, k _ _ _ _ w.2 (.lst q) .non (hr.write q (r.append (.one dy)))⟩
theorem md_extend : MtR X "list.extend" (upM X.K extendD) := by
  rintro pins s σ H v vs a us Q I ra rs ⟨x, xs, M, P, dx, ds, hr, w, k⟩
  cases dx <;> first | exact False.elim w | skip
  rename_i l
  match xs, ds with
  | [], _ => exact False.elim w
  | _ :: _ :: _, .cons dy _ => cases dy <;> exact False.elim w
  | [y], .cons dy .nil =>
    cases dy <;> first | exact False.elim w | skip
    rename_i b
    have w : (match M l, M b with | some (.lst ds), some (.lst es) => ds.length + es.length ≤ sizeLine ∧ P .non (mup M l (.lst (ds ++ es))) | _, _ => False) := w
    cases e : M l with
    | none => rw [e] at w; exact w.elim
    | some o =>
      cases e2 : M b with
      | none => rw [e, e2] at w; cases o <;> exact w.elim
      | some o2 =>
        rw [e, e2] at w
        cases o with
        | dk _ => exact False.elim w
        | dt _ => exact False.elim w
        | lst es =>
          cases o2 with
          | dk _ => exact False.elim w
          | dt _ => exact False.elim w
          | lst fs =>
            obtain ⟨ws, q, r⟩ := hr _ _ e
            obtain ⟨zs, q2, r2⟩ := hr _ _ e2
            exact mt_extend pins s σ H _ _ a us Q I ra rs ⟨_, _, _, _, rfl, rfl, q, q2, by rw [← r.length, ← r2.length]; exact w.1, k _ _ _ _ w.2 (.lst q) .non (hr.write q (r.append r2))⟩
theorem md_pop : MtR X "list.pop" (upM X.K popD) := by
  rintro pins s σ H v vs a us Q I ra rs ⟨x, xs, M, P, dx, ds, hr, w, k⟩
  cases dx <;> first | exact False.elim w | skip
  rename_i l
  match xs, ds with
  | _ :: _ :: _, .cons dy _ => cases dy <;> exact False.elim w
  | [], .nil =>
    have w : (match M l with | some (.lst ds) => (match ds[ds.length - 1]? with | some d => P d (mup M l (.lst ds.dropLast)) | none => False) | _ => False) := w
    cases e : M l with
    | none => rw [e] at w; exact w.elim
    | some o =>
      rw [e] at w
      cases o with
      | dk _ => exact False.elim w
      | dt _ => exact False.elim w
      | lst es =>
        obtain ⟨ws, q, r⟩ := hr _ _ e
        cases e2 : es[es.length - 1]? with
        | none => simp only [e2] at w
        | some d =>
          simp only [e2] at w
          obtain ⟨v', h1, h2⟩ := r.get e2
          rw [r.length] at h1
          exact mt_pop pins s σ H _ _ a us Q I ra rs ⟨_, _, _, rfl, rfl, q, h1, k _ _ _ _ w (.lst q) (h2.mono (.lst q)) (hr.write q r.dropLast)⟩
  | [y], .cons dy .nil =>
    cases dy <;> first | exact False.elim w | skip
    rename_i i
    have w : (match M l with | some (.lst ds) => (-(2 ^ 63) ≤ i ∧ i < 2 ^ 63) ∧ (match seqIndex? i ds.length with | some j => (match ds[j]? with | some d => P d (mup M l (.lst (ds.eraseIdx j))) | none => False) | none => False) | _ => False) := w
    cases e : M l with
    | none => rw [e] at w; exact w.elim
    | some o =>
      rw [e] at w
      cases o with
      | dk _ => exact False.elim w
      | dt _ => exact False.elim w
      | lst es =>
        obtain ⟨ws, q, r⟩ := hr _ _ e
        obtain ⟨hb, w⟩ := w
        cases e2 : seqIndex? i es.length with
        | none => simp only [e2] at w
        | some j =>
          simp only [e2] at w
          cases e3 : es[j]? with
          | none => simp only [e3] at w
          | some d =>
            simp only [e3] at w
            obtain ⟨v', h1, h2⟩ := r.get e3
            exact mt_popAt pins s σ H _ _ a us Q I ra rs ⟨_, _, _, _, _, rfl, rfl, q, hb.1, hb.2, by rw [← r.length]; exact e2, h1, k _ _ _ _ w (.lst q) (h2.mono (.lst q)) (hr.write q (r.erase j))⟩
theorem md_join : MtR X "str.join" (upM X.K joinD) := by
  rintro pins s σ H v vs a us Q I ra rs ⟨x, xs, M, P, dx, ds, hr, w, k⟩
  cases dx <;> first | exact False.elim w | skip
  rename_i z
  match xs, ds with
  | [], _ => exact False.elim w
  | _ :: _ :: _, _ => exact False.elim w
  | [y], .cons dy .nil =>
    simp only [joinD] at w
    cases e : itemsD y M with
    | none => simp only [e] at w
    | some es =>
      simp only [e] at w
      cases e2 : strsOf es with
      | none => simp only [e2] at w
      | some ys =>
        simp only [e2] at w
        obtain ⟨p, ws, rfl, q, r⟩ := items_of dy hr e
        rw [strsOf_rel r e2] at q
        exact mt_join pins s σ H _ _ a us Q I ra rs ⟨_, _, _, rfl, rfl, q, w.1, k _ _ _ _ w.2 (.refl _ _) (.str _) hr⟩
end
end DL
/-! DLs: sorted, of ints, texts, flat tuples of them. -/
namespace DL
open PySem PySem.Spec L2
open PyProof.Rows hiding St

/-! ### rows of ints in their order -/
theorem li_swo {α : Type} (k : α → List Int) : SrtO.Swo fun x y => decide (k x < k y) := by
  refine ⟨fun x y h => ?_, fun x y z h1 h2 => ?_⟩
  · have a := of_decide_eq_true h
    exact decide_eq_false (List.lt_asymm a)
  · have a := of_decide_eq_false h1
    have b := of_decide_eq_false h2
    exact decide_eq_false (List.not_lt.mpr (List.le_trans (List.not_lt.mp a) (List.not_lt.mp b)))
/-- a text as a row that ends itself -/
def eS (s : Str) : List Int := s.cps.toList.map (fun n : Nat => (n : Int)) ++ [-1]
theorem eS_lt : ∀ (a b : List Nat) (r q : List Int), (a.map (fun n : Nat => (n : Int)) ++ [-1]) ++ r < (b.map (fun n : Nat => (n : Int)) ++ [-1]) ++ q ↔ if a = b then r < q else a < b
  | [], [], r, q => by simp [List.cons_lt_cons_iff]
  | [], y :: b, r, q => by
    rw [if_neg (by simp)]
    have : (-1 : Int) < (y : Int) := by omega
    simp [List.cons_lt_cons_iff, this]
  | x :: a, [], r, q => by
    rw [if_neg (by simp)]
    have h1 : ¬ (x : Int) < -1 := by omega
    have h2 : ¬ (x : Int) = -1 := by omega
    simp [List.cons_lt_cons_iff, h1, h2]
  | x :: a, y :: b, r, q => by
    have ih := eS_lt a b r q
    rw [List.map_cons, List.map_cons, List.cons_append, List.cons_append, List.cons_append, List.cons_append, List.cons_lt_cons_iff, ih]
    by_cases e : x = y
    · subst e
      by_cases e2 : a = b
      · subst e2
        simp
      · have hne : ¬ (x :: a = x :: b) := by simp [e2]
        rw [if_neg e2, if_neg hne]
        have : (x :: a < x :: b) ↔ (x < x ∨ x = x ∧ a < b) := List.cons_lt_cons_iff
        rw [this]
        simp only [true_and, Int.lt_irrefl, Nat.lt_irrefl]
    · have hne : ¬ (x :: a = y :: b) := by simp [e]
      rw [if_neg hne]
      have : (x :: a < y :: b) ↔ (x < y ∨ x = y ∧ a < b) := List.cons_lt_cons_iff
      rw [this]
      have e3 : ¬ ((x : Int) = (y : Int)) := by omega
      simp only [e, e3, false_and, or_false, Int.ofNat_lt]
/-! ### items -/
inductive Kn where
  | int
  | str
def isK : Kn → Value → Prop
  | .int, v => ∃ i t, v = .int i t
  | .str, v => ∃ x t, v = .str x t
def ea : Value → List Int
  | .int i _ => [i]
  | .str x _ => eS x
  | _ => []
def tv (h : Heap) : Value → List Int
  | .ref a => match h.get? a with
    | some o => match o.data with
      | .seq xs _ => xs.toList.flatMap ea
      | _ => []
    | none => []
  | _ => []
section
variable {prog : Program} {w : World} {A : Around} {E : Value → Shared → Prop} {s : Shared}
theorem oneLt_strs (c : Bool) {a b : Str} {t u : Tok} {Q : Bool → Shared → Prop} (h : Q (decide (a.cps.toList < b.cps.toList)) s) : wpAny (model prog w) A (oneLt' c (.str a t) (.str b u)) Q E s := by
  cases c with
  | true => exact oneLt_str h
  | false => exact PySem.W.kat_one _ _ (PyProof.Rows.lt_str (Q := PySem.W.BoolBack Q) h)
theorem lex_run {b : Bool} {Q : Bool → Shared → Prop} : ∀ {ks : List Kn} {xs ys : List Value} (i : Nat), Paired isK ks xs → Paired isK ks ys → Q (decide (xs.flatMap ea < ys.flatMap ea)) s → PySem.W.KatLex prog w A b false Q (xs.zip ys) i s
  | _, _, _, i, .nil, .nil, h => PySem.W.kat_nil (by simpa using h)
  | .int :: ks, _, _, i, .cons (b := v) (l₂ := xs) h1 r1, .cons (b := u) (l₂ := ys) h2 r2, h => by
    obtain ⟨m, t, rfl⟩ := h1
    obtain ⟨n, t', rfl⟩ := h2
    refine PySem.W.kat_cons (SeqAt.EqAt.int_int m t n t' prog w _ _ ?_)
    have e : ((Value.int m t :: xs).flatMap ea < (Value.int n t' :: ys).flatMap ea) ↔ (m < n ∨ m = n ∧ xs.flatMap ea < ys.flatMap ea) := by
      rw [List.flatMap_cons, List.flatMap_cons]
      exact List.cons_lt_cons_iff
    refine PySem.W.kat_go (fun e1 => ?_) (fun e1 => ?_)
    · have ex : m = n := by simpa using e1
      subst ex
      refine PySem.W.kat_yes (lex_run (i + 1) r1 r2 ?_)
      have e2 : decide (xs.flatMap ea < ys.flatMap ea) = decide ((Value.int m t :: xs).flatMap ea < (Value.int m t' :: ys).flatMap ea) := decide_eq_decide.mpr (by rw [e]; simp)
      rw [e2]; exact h
    · have ex : ¬ m = n := by simpa using e1
      refine PySem.W.kat_no (TS.oneLt_ints _ ?_)
      have e2 : decide (m < n) = decide ((Value.int m t :: xs).flatMap ea < (Value.int n t' :: ys).flatMap ea) := decide_eq_decide.mpr (by rw [e]; simp [ex])
      rw [e2]; exact h
  | .str :: ks, _, _, i, .cons (b := v) (l₂ := xs) h1 r1, .cons (b := u) (l₂ := ys) h2 r2, h => by
    obtain ⟨m, t, rfl⟩ := h1
    obtain ⟨n, t', rfl⟩ := h2
    refine PySem.W.kat_cons (SeqAt.EqAt.str_str m t n t' prog w _ _ ?_)
    have e : ((Value.str m t :: xs).flatMap ea < (Value.str n t' :: ys).flatMap ea) ↔ (if m.cps.toList = n.cps.toList then xs.flatMap ea < ys.flatMap ea else m.cps.toList < n.cps.toList) := by
      rw [List.flatMap_cons, List.flatMap_cons]
      exact eS_lt _ _ _ _
    refine PySem.W.kat_go (fun e1 => ?_) (fun e1 => ?_)
    · have ex : m = n := by simpa using e1
      subst ex
      refine PySem.W.kat_yes (lex_run (i + 1) r1 r2 ?_)
      have e2 : decide (xs.flatMap ea < ys.flatMap ea) = decide ((Value.str m t :: xs).flatMap ea < (Value.str m t' :: ys).flatMap ea) := decide_eq_decide.mpr (by rw [e, if_pos rfl])
      rw [e2]; exact h
    · have ex : ¬ m = n := by simpa using e1
      have ex2 : ¬ m.cps.toList = n.cps.toList := fun z => ex (by cases m; cases n; simp only [Str.mk.injEq]; exact Array.toList_inj.mp z)
      refine PySem.W.kat_no (oneLt_strs _ ?_)
      have e2 : decide (m.cps.toList < n.cps.toList) = decide ((Value.str m t :: xs).flatMap ea < (Value.str n t' :: ys).flatMap ea) := decide_eq_decide.mpr (by rw [e, if_neg ex2])
      rw [e2]; exact h
/-- a flat tuple -/
def IsTp (h : Heap) (ks : List Kn) (v : Value) : Prop := ∃ a o xs n, v = .ref a ∧ h.get? a = some o ∧ o.cls = .type "tuple" ∧ o.data = .seq xs n ∧ Paired isK ks xs.toList
theorem IsTp.keeps {h h' : Heap} {ks : List Kn} {v : Value} (x : IsTp h ks v) (k : ∀ b o, h.get? b = some o → o.cls = .type "tuple" → h'.get? b = some o) : IsTp h' ks v := by
  obtain ⟨a, o, xs, n, e, ho, hc, hd, r⟩ := x
  exact ⟨a, o, xs, n, e, k a o ho hc, hc, hd, r⟩
theorem IsTp.tv {h h' : Heap} {ks : List Kn} {v : Value} (x : IsTp h ks v) (k : ∀ b o, h.get? b = some o → o.cls = .type "tuple" → h'.get? b = some o) : tv h' v = DL.tv h v := by
  obtain ⟨a, o, xs, n, rfl, ho, hc, hd, r⟩ := x
  show (match h'.get? a with | some o => _ | none => _) = (match h.get? a with | some o => _ | none => _)
  rw [ho, k a o ho hc]
theorem tup_cmp {vs : List Value} {ks : List Kn} {b : Bool} (hp : ∀ v ∈ vs, IsTp s.heap ks v) : SrtO.Cmp prog w A s (tuples' b) (fun p => p.1 ∈ vs) (SrtO.lt2 fun v u => decide (tv s.heap v < tv s.heap u)) := by
  intro p q hm hm'
  show wpAny (model prog w) A (keyLt' (tuples' b) p.1 q.1) (fun r s' => s' = s ∧ r = decide (tv s.heap p.1 < tv s.heap q.1)) (fun _ _ => False) s
  obtain ⟨a, o, xs, n, e, ho, hc, hd, r⟩ := hp _ hm
  obtain ⟨a', o', xs', n', e', ho', hc', hd', r'⟩ := hp _ hm'
  rw [e, e']
  have t1 : tv s.heap (.ref a) = xs.toList.flatMap ea := by
    show (match s.heap.get? a with | some o => _ | none => _) = _
    rw [ho]; show (match o.data with | .seq xs _ => _ | _ => _) = _
    rw [hd]
  have t2 : tv s.heap (.ref a') = xs'.toList.flatMap ea := by
    show (match s.heap.get? a' with | some o => _ | none => _) = _
    rw [ho']; show (match o'.data with | .seq xs _ => _ | _ => _) = _
    rw [hd']
  rw [t1, t2]
  refine PySem.W.kat_lt ho hd ho' hd' ?_
  have hl : xs.size = xs'.size := by
    have h1 := Paired.length r
    have h2 := Paired.length r'
    simp only [Array.length_toList] at h1 h2
    omega
  rw [show decide (xs.size < xs'.size) = false from decide_eq_false (by omega)]
  exact lex_run 0 r r' ⟨rfl, rfl⟩
theorem tup_firsts {h : Heap} {k : Kn} {ks : List Kn} : ∀ {vs : List Value}, (∀ v ∈ vs, IsTp h (k :: ks) v) → ∃ fs : List Value, PySem.W.KatTups h vs fs ∧ fs.length = vs.length ∧ ∀ f ∈ fs, isK k f
  | [], _ => ⟨[], PySem.W.KatTups.nil, rfl, fun _ hm => by simp at hm⟩
  | v :: vs, hp => by
    obtain ⟨fs, h1, h2, h3⟩ := tup_firsts (vs := vs) fun v' hm => hp v' (List.mem_cons_of_mem _ hm)
    obtain ⟨a, o, xs, n, rfl, ho, hc, hd, r⟩ := hp v List.mem_cons_self
    obtain ⟨f, fr, ex, hf⟩ : ∃ f fr, xs.toList = f :: fr ∧ isK k f := by
      generalize xs.toList = l at r
      cases r with
      | cons h _ => exact ⟨_, _, rfl, h⟩
    have e0 : xs[0]? = some f := by rw [← Array.getElem?_toList, ex]; rfl
    refine ⟨f :: fs, PySem.W.KatTups.cons ho hc hd e0 h1, by rw [List.length_cons, List.length_cons, h2], fun g hm => ?_⟩
    rcases List.mem_cons.mp hm with rfl | hm
    · exact hf
    · exact h3 g hm
theorem tup_sortable {a : Addr} {vs : List Value} {k : Kn} {ks : List Kn} (h0 : 0 < vs.length) (hp : ∀ v ∈ vs, IsTp s.heap (k :: ks) v) (ha : ∀ o, s.heap.get? a = some o → o.cls ≠ .type "tuple") : SrtO.SortableO prog w A s a vs fun v u => decide (tv s.heap v < tv s.heap u) := by
  intro h' keep
  have kk : ∀ b o, s.heap.get? b = some o → o.cls = .type "tuple" → h'.get? b = some o := fun b o e c => keep b o (fun z => by subst z; exact ha o e c) e
  have hp' : ∀ v ∈ vs, IsTp h' (k :: ks) v := fun v hm => (hp v hm).keeps kk
  obtain ⟨fs, h1, h2, h3⟩ := tup_firsts hp'
  have cmp : ∀ b, SrtO.Cmp prog w A { s with heap := h' } (tuples' b) (fun p => p.1 ∈ vs) (SrtO.lt2 fun v u => decide (tv s.heap v < tv s.heap u)) := fun b p q hm hm' => by
    have := tup_cmp (s := { s with heap := h' }) (prog := prog) (w := w) (A := A) (b := b) hp' p q hm hm'
    have e1 := (hp _ hm).tv kk
    have e2 := (hp _ hm').tv kk
    show wpAny (model prog w) A (keyLt' (tuples' b) p.1 q.1) (fun r s' => s' = _ ∧ r = decide (tv s.heap p.1 < tv s.heap q.1)) (fun _ _ => False) _
    rw [← e1, ← e2]
    exact this
  cases k with
  | int =>
    refine ⟨tuples' true, fun Q E hq => ?_, cmp _⟩
    refine PySem.W.kat_kind (T := .type "int") h1 (by omega) (fun f hm => ?_) (by rfl) ?_
    · obtain ⟨x, t, rfl⟩ := h3 f hm
      exact PySem.W.Looks.now
    · have e : (Value.type "int" != Value.type "tuple") = true := by first | decide +kernel | rfl | decide
      rw [e]
      exact hq
  | str =>
    refine ⟨tuples' true, fun Q E hq => ?_, cmp _⟩
    refine PySem.W.kat_kind (T := .type "str") h1 (by omega) (fun f hm => ?_) (by rfl) ?_
    · obtain ⟨x, t, rfl⟩ := h3 f hm
      exact PySem.W.Looks.now
    · have e : (Value.type "str" != Value.type "tuple") = true := by first | decide +kernel | rfl | decide
      rw [e]
      exact hq
end

/-! ### in data -/
def eA : D → List Int
  | .int i => [i]
  | .str s => eS s
  | _ => []
def eD : D → List Int
  | .int i => [i]
  | .str s => eS s
  | .tup ds => ds.flatMap eA
  | _ => []
def isKD : Kn → D → Prop
  | .int, d => ∃ i, d = .int i
  | .str, d => ∃ s, d = .str s
/-- what can be sorted -/
def SortK (ds : List D) : Prop := (∀ d ∈ ds, ∃ i, d = .int i) ∨ (∀ d ∈ ds, ∃ s, d = .str s) ∨ ∃ k ks, ∀ d ∈ ds, ∃ es, d = .tup es ∧ Paired isKD (k :: ks) es
def sortedD : List D → Mh → PQ → Prop
  | [x], M, P => match litemsD x M with
    | some ds => SortK ds ∧ ∀ ys p, ys.Perm ds → ys.Pairwise (fun a b => ¬ (eD b < eD a)) → M p = none → P (.ref p) (mup M p (.lst ys))
    | none => False
  | _, _, _ => False
theorem perm_map_inv {α β : Type} {f : α → β} {m n : List β} (h : m.Perm n) : ∀ l : List α, n = l.map f → ∃ l' : List α, l'.Perm l ∧ l'.map f = m := by
  induction h with
  | nil => intro l e; exact ⟨[], by rw [List.map_eq_nil_iff.mp e.symm], rfl⟩
  | cons x _ ih =>
    intro l e
    match l, e with
    | a :: r, e =>
      rw [List.map_cons] at e
      injection e with e1 e2
      obtain ⟨l', h1, h2⟩ := ih r e2
      exact ⟨a :: l', h1.cons a, by rw [List.map_cons, h2, e1]⟩
  | swap x y l0 =>
    intro l e
    match l, e with
    | a :: b :: r, e =>
      rw [List.map_cons, List.map_cons] at e
      injection e with e1 e2
      injection e2 with e2 e3
      exact ⟨b :: a :: r, List.Perm.swap a b r, by rw [List.map_cons, List.map_cons, ← e1, ← e2, ← e3]⟩
  | trans _ _ ih1 ih2 =>
    intro l e
    obtain ⟨l1, h1, h2⟩ := ih2 l e
    obtain ⟨l2, h3, h4⟩ := ih1 l1 h2.symm
    exact ⟨l2, h3.trans h1, h4⟩
section
variable {K : PySem.W.Frag} {H : Hp}
/-- a list of values and its data, side by side -/
theorem side {X : Cx} : ∀ {ds : List D} {vs : List V} {us : List Value}, DRs X.K H ds vs → Vals vs us → ∃ zs : List (D × V × Value), zs.map (·.1) = ds ∧ zs.map (·.2.2) = us ∧ ∀ z ∈ zs, DR X.K H z.1 z.2.1 ∧ RelV z.2.1 z.2.2
  | _, _, _, .nil, .nil => ⟨[], rfl, rfl, fun _ h => by simp at h⟩
  | _, _, _, .cons (d := d) (v := v) h r, .cons (b := u) h2 r2 => by
    obtain ⟨zs, e1, e2, e3⟩ := side (X := X) r r2
    refine ⟨(d, v, u) :: zs, by rw [List.map_cons, e1], by rw [List.map_cons, e2], fun z hz => ?_⟩
    rcases List.mem_cons.mp hz with rfl | hz
    · exact ⟨h, h2⟩
    · exact e3 z hz
theorem unside {X : Cx} : ∀ {zs : List (D × V × Value)}, (∀ z ∈ zs, DR X.K H z.1 z.2.1 ∧ RelV z.2.1 z.2.2) → DRs X.K H (zs.map (·.1)) (zs.map (·.2.1)) ∧ Vals (zs.map (·.2.1)) (zs.map (·.2.2))
  | [], _ => ⟨.nil, .nil⟩
  | z :: zs, h => by
    obtain ⟨h1, h2⟩ := unside (X := X) (zs := zs) fun y hy => h y (List.mem_cons_of_mem _ hy)
    have h0 := h z List.mem_cons_self
    exact ⟨.cons h0.1 h1, .cons h0.2 h2⟩
theorem ea_rel {d : D} {v : V} {u : Value} (r : DR K H d v) (q : RelV v u) (c : ∃ k, isKD k d) : ea u = eA d := by
  obtain ⟨k, c⟩ := c
  cases k with
  | int =>
    obtain ⟨i, rfl⟩ := c
    cases r
    obtain ⟨t, rfl⟩ := q
    rfl
  | str =>
    obtain ⟨i, rfl⟩ := c
    cases r
    obtain ⟨t, rfl⟩ := q
    rfl
theorem isK_rel {d : D} {v : V} {u : Value} {k : Kn} (r : DR K H d v) (q : RelV v u) (c : isKD k d) : isK k u := by
  cases k with
  | int =>
    obtain ⟨i, rfl⟩ := c
    cases r
    obtain ⟨t, rfl⟩ := q
    exact ⟨_, _, rfl⟩
  | str =>
    obtain ⟨i, rfl⟩ := c
    cases r
    obtain ⟨t, rfl⟩ := q
    exact ⟨_, _, rfl⟩
theorem flat_rel : ∀ {ks : List Kn} {es : List D} {vs : List V} {us : List Value}, Paired isKD ks es → DRs K H es vs → Vals vs us → Paired isK ks us ∧ us.flatMap ea = es.flatMap eA
  | _, _, _, _, .nil, .nil, .nil => ⟨.nil, rfl⟩
  | _, _, _, _, .cons c p, .cons h r, .cons h2 r2 => by
    obtain ⟨q1, q2⟩ := flat_rel p r r2
    exact ⟨.cons (isK_rel h h2 c) q1, by rw [List.flatMap_cons, List.flatMap_cons, q2, ea_rel h h2 ⟨_, c⟩]⟩
end
section
variable {X : Cx}
theorem tp_rel {pins : List (Addr × Obj)} {σ : St} {H : Hp} {s : Shared} (I : Inv X pins σ H s) {d : D} {v : V} {u : Value} {ks : List Kn} {es : List D} (r : DR X.K H d v) (q : RelV v u) (e : d = .tup es) (c : Paired isKD ks es) : IsTp s.heap ks u ∧ tv s.heap u = eD d := by
  subst e
  cases r with
  | tup h r' =>
    rename_i a vs
    obtain rfl : u = Value.ref a := q
    obtain ⟨its, rv, ⟨o, ho, hc, n, hd⟩, _⟩ := I.tuple (SqT.of h)
    obtain ⟨k1, k2⟩ := flat_rel c r' rv
    refine ⟨⟨a, o, its.toArray, n, rfl, ho, hc, hd, by simpa using k1⟩, ?_⟩
    show (match s.heap.get? a with | some o => _ | none => _) = _
    rw [ho]
    show (match o.data with | .seq xs _ => _ | _ => _) = _
    rw [hd]
    simpa [eD] using k2
theorem fd_sorted : CallR X (.builtin "sorted") (upL X.K sortedD) := by
  rintro pins s σ H vs us Q I r ⟨xs, M, P, dx, hr, w, k⟩
  match xs, dx with
  | [], _ => exact False.elim w
  | _ :: _ :: _, _ => exact False.elim w
  | [x], .cons d .nil =>
    simp only [sortedD] at w
    cases e : litemsD x M with
    | none => simp only [e] at w
    | some ds =>
      simp only [e] at w
      obtain ⟨sk, w⟩ := w
      obtain ⟨p, ws, rfl, q, r'⟩ := litems_of d hr e
      obtain ⟨its, rv, hl, hz⟩ := I.list q
      rw [Vals.ref1 r]
      obtain ⟨zs, z1, z2, z3⟩ := side (X := X) r' rv
      have fin : ∀ (kv : Value → List Int), (∀ z ∈ zs, kv z.2.2 = eD z.1) → (2 ≤ its.length → ∀ (h₁ : Heap) (a : Addr), h₁.get? a = some (seqObj "list" its.toArray 0) → (∀ b o, s.heap.get? b = some o → b ≠ a ∧ h₁.get? b = some o) → SrtO.SortableO X.prog X.w X.A.in1.in1 { s with heap := h₁ } a its fun v u => decide (kv v < kv u)) →
          wpAny (model X.prog X.w) X.A (call (.builtin "sorted") [.ref p]) (EP X pins σ Q) X.xe s := fun kv hk hs => by
        refine SrtO.sorted_ord (li_swo kv) hl.isList (by rw [← rv.length]; exact hz) hs fun out h1 h2 => ?_
        obtain ⟨zs', p1, p2⟩ := perm_map_inv h2.perm zs z2.symm
        have z3' : ∀ z ∈ zs', DR X.K H z.1 z.2.1 ∧ RelV z.2.1 z.2.2 := fun z hz => z3 z (p1.mem_iff.mp hz)
        obtain ⟨u1, u2⟩ := unside (X := X) z3'
        rw [p2] at u2
        have hys : (zs'.map (·.1)).Perm ds := by rw [← z1]; exact p1.map _
        have hpw : (zs'.map (·.1)).Pairwise (fun a b => ¬ (eD b < eD a)) := by
          rw [← p2] at h1
          have h1 := List.pairwise_map.mp h1
          refine List.pairwise_map.mpr (List.Pairwise.imp_of_mem (fun {a b} ma mb hab => ?_) h1)
          have := of_decide_eq_false hab
          rw [hk a (p1.mem_iff.mp ma), hk b (p1.mem_iff.mp mb)] at this
          exact this
        obtain ⟨ep, he'⟩ := PyProof.Rows.sortedAll_at s.heap its out.toArray
        have hlen : (zs'.map (·.2.1)).length ≤ sizeLine := by
          have : (zs'.map (·.2.1)).length = ws.length := by
            rw [List.length_map, p1.length_eq, ← r'.length, ← z1, List.length_map]
          rw [this]; exact hz
        have np := I.hok.fresh (Nat.le_succ s.heap.objs.size)
        exact ⟨.ref _, upd H (s.heap.objs.size + 1) (.lst (zs'.map (·.2.1))), I.laid (t' := s.toks) (fun _ _ => PyProof.Rows.sortedAll_old) (Nat.le_succ _) ⟨hlen, out, ep, u2, he'⟩, rfl,
          k _ _ _ _ (w _ _ hys hpw (hr.free np)) (.fresh np) (.ref _) (hr.new np u1)⟩
      have mem_ds : ∀ z ∈ zs, z.1 ∈ ds := fun z hz => by rw [← z1]; exact List.mem_map_of_mem hz
      rcases sk with sk | sk | ⟨kn, ks, sk⟩
      · have hi : ∀ z ∈ zs, ∃ i t, z.1 = .int i ∧ z.2.2 = Value.int i t := fun z hz => by
          obtain ⟨i, e1⟩ := sk _ (mem_ds z hz)
          obtain ⟨h1, h2⟩ := z3 z hz
          rw [e1] at h1
          generalize z.2.1 = vv at h1 h2
          cases h1
          obtain ⟨t, e2⟩ := h2
          exact ⟨i, t, e1, e2⟩
        have hI : IntsAre its (its.map SrtO.iv) := SrtO.ints_iv fun v hv => by
          rw [← z2] at hv
          obtain ⟨z, hz, rfl⟩ := List.mem_map.mp hv
          obtain ⟨i, t, _, e2⟩ := hi z hz
          exact ⟨i, t, e2⟩
        refine fin ea (fun z hz => ?_) fun h2 h₁ a _ _ => ?_
        · obtain ⟨i, t, e1, e2⟩ := hi z hz
          rw [e1, e2]; rfl
        · have := SrtO.ints_sortable (prog := X.prog) (w := X.w) (A := X.A.in1.in1) (s := { s with heap := h₁ }) (a := a) hI h2
          intro h' keep
          obtain ⟨κ, c1, c2⟩ := this h' keep
          refine ⟨κ, c1, fun p q hm hm' => ?_⟩
          have c3 := c2 p q hm hm'
          obtain ⟨i, t, e1⟩ := SrtO.ints_mem hI _ hm
          obtain ⟨j, t', e2⟩ := SrtO.ints_mem hI _ hm'
          refine wpAny_mono c3 (fun r' s' hh => ⟨hh.1, hh.2.trans ?_⟩) fun _ _ z => z
          show SrtO.ltIv p.1 q.1 = decide (ea p.1 < ea q.1)
          rw [e1, e2]
          show decide (i < j) = decide ([i] < [j])
          refine decide_eq_decide.mpr ?_
          rw [List.cons_lt_cons_iff]
          simp
      · have hi : ∀ z ∈ zs, ∃ i t, z.1 = .str i ∧ z.2.2 = Value.str i t := fun z hz => by
          obtain ⟨i, e1⟩ := sk _ (mem_ds z hz)
          obtain ⟨h1, h2⟩ := z3 z hz
          rw [e1] at h1
          generalize z.2.1 = vv at h1 h2
          cases h1
          obtain ⟨t, e2⟩ := h2
          exact ⟨i, t, e1, e2⟩
        have hS : ∀ v ∈ its, ∃ i t, v = Value.str i t := fun v hv => by
          rw [← z2] at hv
          obtain ⟨z, hz, rfl⟩ := List.mem_map.mp hv
          obtain ⟨i, t, _, e2⟩ := hi z hz
          exact ⟨i, t, e2⟩
        have hA : ∀ l : List Value, (∀ v ∈ l, ∃ i t, v = Value.str i t) → ∃ ss, StrsAre l ss := fun l => by
          induction l with
          | nil => exact fun _ => ⟨[], .nil⟩
          | cons v l ih =>
            intro h
            obtain ⟨i, t, rfl⟩ := h v List.mem_cons_self
            obtain ⟨ss, hs⟩ := ih fun u hu => h u (List.mem_cons_of_mem _ hu)
            exact ⟨i :: ss, .cons i t hs⟩
        refine fin ea (fun z hz => ?_) fun h2 h₁ a _ _ => ?_
        · obtain ⟨i, t, e1, e2⟩ := hi z hz
          rw [e1, e2]; rfl
        · intro h' keep
          refine ⟨oneType', fun Q' E' hq => ?_, fun p q hm hm' => ?_⟩
          · obtain ⟨ss, hs⟩ := hA its hS
            generalize its = l at hs h2
            match l, hs, h2 with
            | v1 :: v2 :: rest, hs, _ =>
              rw [keyKind_strs hs]
              exact wpAny_pure hq
            | [], _, h => exact absurd h (by decide)
            | [v], _, h => exact absurd h (by simp)
          · obtain ⟨i, t, e1⟩ := hS _ hm
            obtain ⟨j, t', e2⟩ := hS _ hm'
            show wpAny (model X.prog X.w) _ (keyLt' oneType' p.1 q.1) (fun r s' => s' = _ ∧ r = decide (ea p.1 < ea q.1)) (fun _ _ => False) _
            rw [e1, e2, keyLt'_oneType]
            refine oneLt_str ⟨rfl, decide_eq_decide.mpr ?_⟩
            have := eS_lt i.cps.toList j.cps.toList [] []
            rw [List.append_nil, List.append_nil] at this
            show i.cps.toList < j.cps.toList ↔ eS i < eS j
            rw [eS, eS, this]
            by_cases e : i.cps.toList = j.cps.toList
            · rw [if_pos e, e]
              exact ⟨fun h => absurd h (List.lt_irrefl _), fun h => absurd h (List.lt_irrefl _)⟩
            · rw [if_neg e]
      · have hi : ∀ z ∈ zs, IsTp s.heap (kn :: ks) z.2.2 ∧ tv s.heap z.2.2 = eD z.1 := fun z hz => by
          obtain ⟨es, e1, c⟩ := sk _ (mem_ds z hz)
          exact tp_rel I (z3 z hz).1 (z3 z hz).2 e1 c
        have hT : ∀ v ∈ its, IsTp s.heap (kn :: ks) v := fun v hv => by
          rw [← z2] at hv
          obtain ⟨z, hz, rfl⟩ := List.mem_map.mp hv
          exact (hi z hz).1
        refine fin (tv s.heap) (fun z hz => (hi z hz).2) fun h2 h₁ a ha kk => ?_
        have kk' : ∀ b o, s.heap.get? b = some o → o.cls = .type "tuple" → h₁.get? b = some o := fun b o e _ => (kk b o e).2
        have := tup_sortable (prog := X.prog) (w := X.w) (A := X.A.in1.in1) (s := { s with heap := h₁ }) (a := a) (vs := its) (k := kn) (ks := ks) (by omega) (fun v hm => (hT v hm).keeps kk') fun o e => by
          have e' : some o = some (seqObj "list" its.toArray 0) := e.symm.trans ha
          cases e'
          intro c
          exact absurd (Value.type.inj c) (by decide)
        intro h' keep
        obtain ⟨κ, c1, c2⟩ := this h' keep
        refine ⟨κ, c1, fun p q hm hm' => wpAny_mono (c2 p q hm hm') (fun r' s' hh => ⟨hh.1, hh.2.trans ?_⟩) fun _ _ z => z⟩
        show decide (tv h₁ p.1 < tv h₁ q.1) = decide (tv s.heap p.1 < tv s.heap q.1)
        rw [(hT _ hm).tv kk', (hT _ hm').tv kk']
end
end DL
/-! DLr: list(reversed(x)). -/
namespace DL
open PySem PySem.Spec L2 RT
open PyProof.Rows hiding St

theorem nolen_rt : typeLookup (.type "reversed") "__len__" = pure none := by rw [typeLookup_type, builtinLookup_eq_fast]; kernel_rfl
theorem hint_rt : typeLookup (.type "reversed") "__length_hint__" = pure (some (.builtin "reversed.__length_hint__")) := by rw [typeLookup_type, builtinLookup_eq_fast]; kernel_rfl
section
variable {prog : Program} {w : World} {A : Around} {E : Value → Shared → Prop} {s : Shared}
theorem hintq_lri {it : Addr} {Q : Bool → Shared → Prop} (hT : s.TypeIs (.ref it) "list_reverseiterator") (h : Q false s) : wpAny (model prog w) A (Builtin.List.listLengthHint (.ref it)) Q E s := by
  unfold Builtin.List.listLengthHint
  refine wpAny_bind (wpAny_specialOf hT nolen_lri ?_)
  show wpAny _ A (specialOf (Value.ref it) (Str.ofString "__length_hint__") >>= _) _ _ _
  refine wpAny_bind (wpAny_specialOf hT hint_lri ?_)
  generalize hid : ("list_reverseiterator.__length_hint__" : String) = id0
  wp_delta
  rw [show splitId id0 = some ("list_reverseiterator", "__length_hint__") from by subst hid; decide +kernel]
  subst hid
  refine wpAny_bind (wpAny_isInstance (b := true) hT (by rw [isSubtype_type]; kernel_rfl) ?_)
  exact wpAny_pure h
theorem plain_rt_hint : plainId "reversed.__length_hint__" = true := by decide +kernel
theorem slot_rt_hint : Slot "reversed" "__length_hint__" "reversed.__length_hint__" :=
  .of (owner := "reversed") (n := "__length_hint__") (by rw [typeLookup_type, builtinLookup_eq_fast]; kernel_rfl) (by decide +kernel) (by decide +kernel) (by decide +kernel)
    (by first | exact .inl (by decide +kernel) | exact .inr (by decide +kernel)) (by rw [isSubtype_type]; kernel_rfl)
theorem entry_rt_hint : entryFor table "reversed.__length_hint__" = some Builtin.«reversed.__length_hint__» := entryFor_of_tree (by kernel_rfl)
theorem args_rt_hint (a : Value) : argsOk "reversed.__length_hint__" ⟨[a], []⟩ := by
  unfold argsOk; rw [signature?_of (id := "reversed.__length_hint__") (n := ['_', '_', 't', 'n', 'i', 'h', '_', 'h', 't', 'g', 'n', 'e', 'l', '_', '_']) (o := ['d', 'e', 's', 'r', 'e', 'v', 'e', 'r']) (by kernel_rfl) owner_rt]; kernel_rfl
theorem bind_rt_hint (self : Value) : bindSpecial (.builtin "reversed.__length_hint__") self = pure (.builtin "reversed.__length_hint__", [self]) := by
  unfold bindSpecial
  rw [show typeOf (.builtin "reversed.__length_hint__") = pure (.type "method_descriptor") from by show builtinType _ = _; rw [builtinType_eq_fast]; kernel_rfl]
  rfl
theorem hintq_rt {it t : Addr} {items : Array Value} {Q : Bool → Shared → Prop} (hit : IsRt s.heap it t ((items.size : Int) - 1)) (ht : IsTup s.heap t items) (hz : items.size ≤ sizeLine) (h : ∀ b tk, Q b { s with toks := tk }) :
    wpAny (model prog w) A (Builtin.List.listLengthHint (.ref it)) Q E s := by
  have hT := hit.typeIs
  obtain ⟨o, ho, hc, hd⟩ := id hit
  unfold Builtin.List.listLengthHint
  refine wpAny_bind (wpAny_specialOf hT nolen_rt ?_)
  show wpAny _ A (specialOf (Value.ref it) (Str.ofString "__length_hint__") >>= _) _ _ _
  refine wpAny_bind (wpAny_specialOf hT hint_rt ?_)
  generalize hid : ("reversed.__length_hint__" : String) = id0
  wp_delta
  rw [show splitId id0 = some ("reversed", "__length_hint__") from by subst hid; decide +kernel]
  subst hid
  refine wpAny_bind (wpAny_isInstance (b := true) hT (by rw [isSubtype_type]; kernel_rfl) ?_)
  try rw [if_neg (by decide)]
  try dsimp only
  rw [if_neg (by decide +kernel)]
  refine wpAny_bind (wpAny_rule ?_)
  rw [bind_rt_hint]
  refine wpAny_bind (wpAny_pure ?_)
  refine wpAny_bind (wpAny_attempt (wpAny_call_entry slot_rt_hint hT entry_rt_hint ?_ (args_rt_hint _)))
  unfold Builtin.«reversed.__length_hint__»
  refine wpAny_bind (wpAny_of_eq (a := Value.ref it) rfl ?_)
  try dsimp only
  refine wpAny_bind (wpAny_field ho hd (x := .ref t) rfl ?_)
  try dsimp only
  have hne : ¬ (Value.ref t == Value.none) = true := fun z => by
    have := eq_of_beq z
    cases this
  rw [if_neg hne]
  have hz' := hz
  rw [sizeLine_eq] at hz'
  refine wpAny_bind (len_tuple ht (by omega) ?_)
  refine wpAny_bind (wpAny_of_eq (a := some ((items.size : Nat) : Int)) rfl ?_)
  try dsimp only
  refine wpAny_bind (wpAny_field (s := { s with toks := s.toks + 1 + 1 }) ho hd (x := rawInt ((items.size : Int) - 1)) rfl ?_)
  show wpAny _ _ (if (items.size : Int) < ((items.size : Int) - 1) + 1 then _ else _) _ _ _
  rw [if_neg (by omega)]
  unfold retInt
  refine wpAny_bind (wpAny_mkInt (wpAny_pure ⟨_, rfl, ?_⟩))
  refine wpAny_bind (wpAny_of_eq (a := some (((items.size : Int) - 1) + 1)) rfl ?_)
  try dsimp only
  rw [if_neg (by
    simp only [Builtin.List.listFitsIndex, Bool.not_eq_true', Bool.and_eq_false_iff, decide_eq_false_iff_not]
    omega)]
  rw [if_neg (by omega)]
  rw [if_neg (by
    simp only [Builtin.List.listTooLong, decide_eq_true_eq]
    omega)]
  exact wpAny_pure (h _ _)
/-- a walk over reversed(a tuple) -/
theorem walks_tupRev (hh : A.handled = none) (I t : Addr) (hne : t ≠ I) (items : Array Value) (hz : items.size ≤ sizeLine) :
    Walks prog w A I [I, t] [I] items.size (fun i v => items[items.size - 1 - i]? = some v) (fun i h => i ≤ items.size ∧ IsRt h I t ((items.size : Int) - 1 - (i : Int)) ∧ IsTup h t items) where
  sub := fun b hb => by simp at hb; simp [hb]
  frame := fun _ _ _ x hk => ⟨x.1, x.2.1.at fun o e => hk I (by simp) o e, by obtain ⟨o, ho, r⟩ := x.2.2; exact ⟨o, hk t (by simp) o ho, r⟩⟩
  item := fun i s Q E hi x hQ => by
    have e : (items.size : Int) - 1 - (i : Int) = ((items.size - 1 - i : Nat) : Int) := by omega
    have hit := x.2.1
    rw [e] at hit
    have hx : items[items.size - 1 - i]? = some (items[items.size - 1 - i]'(by omega)) := Array.getElem?_eq_getElem (by omega)
    refine next_rt_item hit x.2.2 hx hz fun h' hit' hs' => ?_
    have e2 : ((items.size - 1 - i : Nat) : Int) - 1 = (items.size : Int) - 1 - ((i + 1 : Nat) : Int) := by omega
    rw [e2] at hit'
    obtain ⟨o, ho, r⟩ := x.2.2
    exact hQ _ h' (s.toks + 1) hx ⟨hi, hit', ⟨o, (hs'.2 t hne).trans ho, r⟩⟩ fun b o hb eo => hs'.extBut b o (fun h => hb (by simp [h])) eo
  done := fun s Q E x hQ => by
    have e : (items.size : Int) - 1 - (items.size : Int) = -1 := by omega
    have hit := x.2.1
    rw [e] at hit
    exact next_rt_end hh hit fun h' he' => hQ h' s.toks fun b o hb eo => he' b o (fun h => hb (by simp [h])) eo
  self := fun _ _ _ _ x hQ => iter_rt x.2.1 hQ

/-- list(it), it an iterator that gives itself -/
theorem self_extend {T : String} {it d : Addr} {n : Nat} {P : Nat → Value → Prop} {St : Nat → Heap → Prop} {R : Result → Shared → Prop} (W : Walks prog w A.in1 it [it, d] [it] n P St) (hh : A.handled = none) (hT : ∀ s : Shared, St 0 s.heap → s.TypeIs (.ref it) T) (n1 : T ≠ "list") (n2 : T ≠ "tuple")
    (hint : ∀ (A : Around) (E : Value → Shared → Prop) (s : Shared) (Q : Bool → Shared → Prop), St 0 s.heap → (∀ b tk, Q b { s with toks := tk }) → wpAny (model prog w) A (Builtin.List.listLengthHint (.ref it)) Q E s)
    (st : St 0 s.heap) (S : Addr) (hSr : S ≠ it) (hSd : S ≠ d) (res : Value) (c₀ : Nat) (hS : s.heap.get? S = some { cls := .type "list", data := .seq #[] c₀ })
    (hR : ∀ h' tk acc' c', (∀ b o, b ≠ S → b ≠ it → s.heap.get? b = some o → h'.get? b = some o) → h'.get? S = some { cls := .type "list", dict := none, data := .seq acc' c', slots := #[] } → ItemsOf P acc' n → R (.ok (.ret res)) { s with heap := h', toks := tk }) (hn : n ≤ sizeLine) :
    wpAny (model prog w) A.in1 (Builtin.List.listExtendWith (.ref S) (.ref it) res)
      (fun fin s' => match fin with | .done f => R (.ok f) s' | .again c' => c'.quiet = true ∧ codeAny (model prog w) A c' R s') (fun e s' => R (.error e) s') s := by
  have hSf : S ∉ [it, d] := by simp only [List.mem_cons, List.not_mem_nil, or_false, not_or]; exact ⟨hSr, hSd⟩
  have key : ∀ (h : Heap) (c₁ tk : Nat), St 0 h → (∀ b o, b ≠ S → b ≠ it → s.heap.get? b = some o → h.get? b = some o) →
      h.get? S = some { cls := .type "list", data := .seq #[] c₁ } → codeAny (model prog w) A (.builtin "list.extend.loop" ⟨[.ref S, .ref it, res], []⟩) R { s with heap := h, toks := tk } := by
    intro h c₁ tk hst hk hS₁
    refine codeAny_extend_loopS W.toS hn S hSf res n 0 _ #[] c₁ rfl (Nat.zero_le _) hst hS₁ (ItemsOf.nil _) fun s' acc' c' hm hS' hacc => ?_
    rw [Moved.eq_with hm]
    refine hR s'.heap s'.toks acc' c' (fun b o hb hb2 e => hm.heap b o (fun hmem => ?_) (hk b o hb hb2 e)) hS' hacc
    rcases List.mem_cons.mp hmem with e' | hmem
    · exact hb e'
    · exact hb2 (List.mem_singleton.mp hmem)
  have b1 : (Value.type T == Value.type "list") = false := beq_eq_false_iff_ne.mpr fun e => n1 (Value.type.inj e)
  have b2 : (Value.type T == Value.type "tuple") = false := beq_eq_false_iff_ne.mpr fun e => n2 (Value.type.inj e)
  unfold Builtin.List.listExtendWith
  refine wpAny_bind (wpAny_typeOf (T := T) (hT s st) ?_)
  have h1 : Builtin.List.listSameRef (.ref S) (.ref it) = false := by simp [Builtin.List.listSameRef, hSr]
  simp only [h1, b1, b2, Bool.or_false, Bool.false_eq_true, if_false]
  refine wpAny_bind (W.self _ _ _ _ st ?_)
  refine wpAny_bind (wpAny_holding (hint _ _ _ _ st fun b tk => ?_))
  refine wpAny_ite_split (fun _ => ?_) (fun _ => wpAny_pure ⟨plainId_quiet PySem.F.plain_extend_loop _, key _ c₀ _ st (fun b o _ _ e => e) hS⟩)
  refine wpAny_bind (wpAny_rule ?_)
  refine wpAny_bind ?_
  show wpAny _ _ (updateSeq S (·.push .none) >>= fun _ => updateSeq S (·.pop)) _ _ _
  refine wpAny_bind (wpAny_updateSeq (s := { s with toks := tk }) hS rfl ?_)
  have hS₂ := Heap.get?_update_self (Obj.mapSeq (·.push Value.none)) hS rfl
  refine wpAny_updateSeq (hz := by seq_fits) hS₂ rfl ?_
  have hS₃ := Heap.get?_update_self (Obj.mapSeq (·.pop)) hS₂ rfl
  refine wpAny_pure ⟨plainId_quiet PySem.F.plain_extend_loop _, key _ _ _ ?_ (fun b o hb _ e => ?_) hS₃⟩
  · refine W.frame 0 _ _ st fun b hb o e => ?_
    have hbS : b ≠ S := fun h => hSf (h ▸ hb)
    exact (Heap.get?_update_other _ _ (Ne.symm hbS)).trans ((Heap.get?_update_other _ _ (Ne.symm hbS)).trans e)
  · exact (Heap.get?_update_other _ _ (Ne.symm hb)).trans ((Heap.get?_update_other _ _ (Ne.symm hb)).trans e)
theorem self_init {T : String} {it d : Addr} {n : Nat} {P : Nat → Value → Prop} {St : Nat → Heap → Prop} {R : Result → Shared → Prop} (W : Walks prog w A.in1 it [it, d] [it] n P St) (hh : A.handled = none) (hT : ∀ s : Shared, St 0 s.heap → s.TypeIs (.ref it) T) (n1 : T ≠ "list") (n2 : T ≠ "tuple")
    (hint : ∀ (A : Around) (E : Value → Shared → Prop) (s : Shared) (Q : Bool → Shared → Prop), St 0 s.heap → (∀ b tk, Q b { s with toks := tk }) → wpAny (model prog w) A (Builtin.List.listLengthHint (.ref it)) Q E s)
    (st : St 0 s.heap) (S : Addr) (hSr : S ≠ it) (hSd : S ≠ d) (hS : s.heap.get? S = some { cls := .type "list", data := .seq #[] })
    (hR : ∀ h' tk acc' c', (∀ b o, b ≠ S → b ≠ it → s.heap.get? b = some o → h'.get? b = some o) → h'.get? S = some { cls := .type "list", dict := none, data := .seq acc' c', slots := #[] } → ItemsOf P acc' n → R (.ok (.ret .none)) { s with heap := h', toks := tk }) (hn : n ≤ sizeLine) :
    wpAny (model prog w) A.in1 (Builtin.«list.__init__» ⟨[.ref S, .ref it], []⟩)
      (fun fin s' => match fin with | .done f => R (.ok f) s' | .again c' => c'.quiet = true ∧ codeAny (model prog w) A c' R s') (fun e s' => R (.error e) s') s := by
  show wpAny _ _ (do let old ← Builtin.List.listItems (.ref S); Builtin.List.listUpdate (.ref S) (fun _ => #[]); letGo old.toList.reverse; Builtin.List.listExtendWith (.ref S) (.ref it) .none) _ _ s
  refine wpAny_bind ?_
  unfold Builtin.List.listItems
  refine wpAny_bind (wpAny_seqItems hS rfl (wpAny_pure ?_))
  show wpAny _ _ (updateSeq S (fun _ => #[]) >>= fun _ => letGo (#[] : Array Value).toList.reverse >>= fun _ => Builtin.List.listExtendWith (.ref S) (.ref it) .none) _ _ s
  refine wpAny_bind (wpAny_updateSeq hS rfl ?_)
  have hS₂ := Heap.get?_update_self (Obj.mapSeq (fun _ => (#[] : Array Value))) hS rfl
  have oth : ∀ b o, b ≠ S → s.heap.get? b = some o → (s.heap.update S (Obj.mapSeq (fun _ => (#[] : Array Value)))).get? b = some o :=
    fun b o hb e => (Heap.get?_update_other _ _ (Ne.symm hb)).trans e
  refine wpAny_bind (wpAny_letGo ?_)
  refine self_extend W hh hT n1 n2 hint (W.frame 0 _ _ st fun b hb o e => oth b o (fun z => ?_) e) S hSr hSd .none _ hS₂ (fun h' tk acc' c' hk hS' hacc => ?_) hn
  · rcases List.mem_cons.mp hb with h | h
    · exact hSr (z.symm.trans h)
    · exact hSd (z.symm.trans (List.mem_singleton.mp h))
  · exact hR h' tk acc' c' (fun b o hb hb2 e => hk b o hb hb2 (oth b o hb e)) hS' hacc
theorem self_list {T : String} {it d : Addr} {n : Nat} {P : Nat → Value → Prop} {St : Nat → Heap → Prop} {Q : Value → Shared → Prop} (W : Walks prog w A.in1.in1 it [it, d] [it] n P St) (hh : A.handled = none) (hT : ∀ s : Shared, St 0 s.heap → s.TypeIs (.ref it) T) (n1 : T ≠ "list") (n2 : T ≠ "tuple")
    (hint : ∀ (A : Around) (E : Value → Shared → Prop) (s : Shared) (Q : Bool → Shared → Prop), St 0 s.heap → (∀ b tk, Q b { s with toks := tk }) → wpAny (model prog w) A (Builtin.List.listLengthHint (.ref it)) Q E s)
    (st : St 0 s.heap) (l1 : it < s.heap.objs.size) (l2 : d < s.heap.objs.size) (hn : n ≤ sizeLine)
    (hQ : ∀ h' tk acc' c', (∀ b o, b ≠ it → s.heap.get? b = some o → h'.get? b = some o) → h'.get? s.heap.objs.size = some { cls := .type "list", dict := none, data := .seq acc' c', slots := #[] } → ItemsOf P acc' n → Q (.ref s.heap.objs.size) { s with heap := h', toks := tk }) :
    wpAny (model prog w) A (call (.type "list") [.ref it]) Q E s := by
  refine callType_codes (Q₁ := fun obj s₁ => obj = .ref s.heap.objs.size ∧ s₁ = { s with heap := s.heap.push { cls := .type "list", data := .seq #[] } }) PySem.F.called_list (PySem.F.typeCall_list_1 _) PySem.F.entry_list_init
    (code_list_new _ ⟨rfl, rfl⟩) fun obj s₁ h₁ => ?_
  obtain ⟨rfl, rfl⟩ := h₁
  have hS : (s.heap.push { cls := .type "list", data := .seq #[] }).get? s.heap.objs.size = some { cls := .type "list", data := .seq #[] } := Heap.get?_push_size _ rfl
  refine ⟨⟨_, hS, rfl⟩, PySem.F.args_list_init_2 _ _, self_init (A := A.in1) W hh hT n1 n2 hint (W.frame 0 _ _ st fun b _ o e => Heap.get?_push_of_some _ e) _ (Nat.ne_of_gt l1) (Nat.ne_of_gt l2) hS (fun h' tk acc' c' hk hS' hacc => ?_) hn⟩
  exact ⟨rfl, hQ h' tk acc' c' (fun b o hb e => hk b o (Nat.ne_of_lt (Heap.lt_size e)) hb (Heap.get?_push_of_some _ e)) hS' hacc⟩
end
/-- list(reversed(x)) by values -/
def eRv (a : DT) : DT := fun ρ M P => a ρ M fun x M1 => match itemsD x M1 with
  | some ds => ∀ p, M1 p = none → P (.ref p) (mup M1 p (.lst ds.reverse))
  | none => False
theorem DRs.rev {K : PySem.W.Frag} {H : Hp} : ∀ {ds : List D} {vs : List V}, DRs K H ds vs → DRs K H ds.reverse vs.reverse
  | _, _, .nil => .nil
  | _, _, .cons h r => by rw [List.reverse_cons, List.reverse_cons]; exact (DRs.rev r).append (.one h)
section
variable {X : Cx}
def tRv (K : PySem.W.Frag) (te : TE) : TE := fun σ H Q => te σ H fun v H1 => ∃ (a : Addr) (xs : List V), v = .ref a ∧ (SqL K H1 a xs ∨ SqT K H1 a xs) ∧ ∀ q, H1 q = none → Q (.ref q) (upd H1 q (.lst xs.reverse))
theorem pe_listRev {e : Expr} {te : TE} {p p2 pos pos2 : Pos} (hc : X.calm = true) (hg : Gl X "list") (hm : X.mg "list" = none) (hg2 : Gl X "reversed") (hm2 : X.mg "reversed" = none) (he : PE X e te)
    (hs : starEach [e] X.env = (false, eval e X.env) :: starEach [] X.env)
    (hs2 : starEach [.Call (.Name "reversed" p2) [e] [] pos2] X.env = (false, eval (.Call (.Name "reversed" p2) [e] [] pos2) X.env) :: starEach [] X.env := by rfl) :
    PE X (.Call (.Name "list" p) [.Call (.Name "reversed" p2) [e] [] pos2] [] pos) (tRv X.K te) := by
  refine ⟨fun pins s σ H Q I h => ?_⟩
  refine Call_ (ld_blt I hg hm (by decide +kernel : bootBuiltins "list" = some (.type "list")) (PyProof.Rows.callWith_type1 (args_cons (Call_ (ld_blt I hg2 hm2 PyProof.Rows.boot_reversed (PyProof.Rows.callWith_type1 (args_cons (thn (he.run pins s σ H _ I h) fun u s1 ⟨v, H1, I1, r1, q1⟩ => args_nil ?_) hs) hs rfl))) hs2) hs2 rfl))
  obtain ⟨a, xs, ev, hq, q⟩ := q1
  subst ev
  obtain rfl : u = Value.ref a := r1
  have fin : ∀ (its : List Value) (s2 : Shared) (H2 : s2.heap.objs.size = s1.heap.objs.size + 1) (h' : Heap) (tk c' : Nat) (acc : Array Value), Vals xs its → xs.length ≤ sizeLine → Inv X pins σ H1 s2 → (∀ b ∈ [s1.heap.objs.size], FpOk X pins H1 b) →
      (∀ b o, b ≠ s1.heap.objs.size → s2.heap.get? b = some o → h'.get? b = some o) → h'.get? s2.heap.objs.size = some { cls := .type "list", dict := none, data := .seq acc c', slots := #[] } → ItemsOf (fun i v => its.toArray[its.toArray.size - 1 - i]? = some v) acc its.toArray.size →
      EP X pins σ Q (.ref s2.heap.objs.size) { s2 with heap := h', toks := tk } := fun its s2 H2 h' tk c' acc rv hz I2 hf hk hD hi =>
    ⟨.ref s2.heap.objs.size, upd H1 s2.heap.objs.size (.lst xs.reverse), I2.turnedNew (t' := tk) (ch := [s1.heap.objs.size]) (fun b o hb e => hk b o (fun z => hb (by simp [z])) e) hf (Nat.le_refl _)
      ⟨by rw [List.length_reverse]; exact hz, acc.toList, c', vals_rev rv hi, by rw [Array.toArray_toList]; exact hD⟩, rfl, q _ (I2.hok.fresh (Nat.le_refl _))⟩
  rcases hq with hq | hq
  · obtain ⟨its, rv, p', hz⟩ := I1.list hq
    refine call_reversed_list p'.isList (args_nil ?_)
    have k0 : ∀ b o, s1.heap.get? b = some o → (s1.heap.push (revObj a ((its.toArray.size : Int) - 1))).get? b = some o := fun b o e => Heap.get?_push_of_some _ e
    have I2 : Inv X pins σ H1 { s1 with heap := s1.heap.push (revObj a ((its.toArray.size : Int) - 1)) } := I1.kept (t' := s1.toks) k0
    have hf := I1.fpOk (H' := H1) (b := s1.heap.objs.size) (Nat.le_refl _) (I1.hok.fresh (Nat.le_refl _))
    have hl := p'.isList
    obtain ⟨ol, hol, _⟩ := id hl
    have hne : a ≠ s1.heap.objs.size := Nat.ne_of_lt (Heap.lt_size hol)
    have hn : its.toArray.size ≤ sizeLine := by rw [List.size_toArray, ← rv.length]; exact hz
    have hit : (s1.heap.push (revObj a ((its.toArray.size : Int) - 1))).IsRevIter s1.heap.objs.size a ((its.toArray.size : Int) - 1 - ((0 : Nat) : Int)) := by
      rw [show (its.toArray.size : Int) - 1 - ((0 : Nat) : Int) = (its.toArray.size : Int) - 1 by omega]
      exact ⟨_, Heap.get?_push_size _ rfl, rfl, rfl⟩
    have W := Walks.listRev (prog := X.prog) (w := X.w) (A := X.A.in1.in1) (I1.ok.hd hc) s1.heap.objs.size a hne its.toArray
    have sz : (s1.heap.push (revObj a ((its.toArray.size : Int) - 1))).objs.size = s1.heap.objs.size + 1 := size_push' ..
    have la := Heap.lt_size hol
    refine self_list (T := "list_reverseiterator") (s := { s1 with heap := s1.heap.push (revObj a ((its.toArray.size : Int) - 1)) }) W (I1.ok.hd hc) (fun s st => st.2.1.typeIs) (by decide) (by decide)
      (fun A E s Q st h => hintq_lri st.2.1.typeIs (h false s.toks)) ⟨Nat.zero_le _, hit, hl.push _⟩ (by show s1.heap.objs.size < (s1.heap.push _).objs.size; rw [sz]; omega) (by show a < (s1.heap.push _).objs.size; rw [sz]; exact Nat.lt_succ_of_lt la) hn fun h' tk acc c' hk hS hi => ?_
    exact fin its _ (size_push' ..) h' tk c' acc rv hz I2 (fun b hb => by rw [List.mem_singleton.mp hb]; exact hf) hk hS hi
  · obtain ⟨its, rv, p', hz⟩ := I1.tuple hq
    have hn : its.toArray.size ≤ sizeLine := by rw [List.size_toArray, ← rv.length]; exact hz
    have hz63 : (its.toArray.size : Int) < 2 ^ 63 := by
      have := hn
      rw [sizeLine_eq] at this
      omega
    refine call_reversed_tup p' (fun A E Q k => len_tuple p' hz63 k) (args_nil ?_)
    have k0 : ∀ b o, s1.heap.get? b = some o → (s1.heap.push (rtObj a ((its.toArray.size : Int) - 1))).get? b = some o := fun b o e => Heap.get?_push_of_some _ e
    have I2 : Inv X pins σ H1 { s1 with heap := s1.heap.push (rtObj a ((its.toArray.size : Int) - 1)), toks := s1.toks + 1 + 1 } := I1.kept (t' := s1.toks + 1 + 1) k0
    have hf := I1.fpOk (H' := H1) (b := s1.heap.objs.size) (Nat.le_refl _) (I1.hok.fresh (Nat.le_refl _))
    obtain ⟨ol, hol, ho2⟩ := id p'
    have hne : a ≠ s1.heap.objs.size := Nat.ne_of_lt (Heap.lt_size hol)
    have hit : IsRt (s1.heap.push (rtObj a ((its.toArray.size : Int) - 1))) s1.heap.objs.size a ((its.toArray.size : Int) - 1 - ((0 : Nat) : Int)) := by
      rw [show (its.toArray.size : Int) - 1 - ((0 : Nat) : Int) = (its.toArray.size : Int) - 1 by omega]
      exact ⟨_, Heap.get?_push_size _ rfl, rfl, rfl⟩
    have W := walks_tupRev (prog := X.prog) (w := X.w) (A := X.A.in1.in1) (I1.ok.hd hc) s1.heap.objs.size a hne its.toArray hn
    have sz : (s1.heap.push (rtObj a ((its.toArray.size : Int) - 1))).objs.size = s1.heap.objs.size + 1 := size_push' ..
    have la := Heap.lt_size hol
    refine self_list (T := "reversed") (s := { s1 with heap := s1.heap.push (rtObj a ((its.toArray.size : Int) - 1)), toks := s1.toks + 1 + 1 }) W (I1.ok.hd hc) (fun s st => st.2.1.typeIs) (by decide) (by decide)
      (fun A E s Q st h => hintq_rt (by have := st.2.1; rw [show (its.toArray.size : Int) - 1 - ((0 : Nat) : Int) = (its.toArray.size : Int) - 1 by omega] at this; exact this) st.2.2 hn h) ⟨Nat.zero_le _, hit, ⟨ol, Heap.get?_push_of_some _ hol, ho2⟩⟩ (by show s1.heap.objs.size < (s1.heap.push _).objs.size; rw [sz]; omega) (by show a < (s1.heap.push _).objs.size; rw [sz]; exact Nat.lt_succ_of_lt la) hn fun h' tk acc c' hk hS hi => ?_
    exact fin its _ (size_push' ..) h' tk c' acc rv hz I2 (fun b hb => by rw [List.mem_singleton.mp hb]; exact hf) hk hS hi
theorem dx_rev {e : Expr} {wa : DT} {p p2 pos pos2 : Pos} (hc : X.calm = true) (hg : Gl X "list") (hm : X.mg "list" = none) (hg2 : Gl X "reversed") (hm2 : X.mg "reversed" = none) (he : Dx X e wa)
    (hs : starEach [e] X.env = (false, eval e X.env) :: starEach [] X.env) : Dx X (.Call (.Name "list" p) [.Call (.Name "reversed" p2) [e] [] pos2] [] pos) (eRv wa) :=
  pe_wk (pe_listRev hc hg hm hg2 hm2 he hs) fun σ H Q ⟨ρ, M, P, er, hr, w, k⟩ =>
    ⟨ρ, M, _, er, hr, w, fun x M1 v H1 p1 e1 d1 h1 => by
      split at p1
      · rename_i ds eo
        obtain ⟨a, vs, rfl, q, r⟩ := items_of d1 h1 eo
        exact ⟨a, vs, rfl, q, fun z nz => k _ _ _ _ (p1 z (h1.free nz)) (e1.trans (.fresh nz)) (.ref z) (h1.new nz r.rev)⟩
      · exact p1.elim⟩
end

/-! ### tuple(reversed(x)) -/
section
variable {prog : Program} {w : World} {A : Around} {E : Value → Shared → Prop} {s : Shared}
theorem iadd_rt {it t S : Addr} {items : Array Value} {R : Result → Shared → Prop} (hh : A.handled = none) (hit : IsRt s.heap it t ((items.size : Int) - 1)) (ht : IsTup s.heap t items) (hne : t ≠ it) (hn : items.size ≤ sizeLine)
    (hSi : S ≠ it) (hSl : S ≠ t) (hS : s.heap.get? S = some { cls := .type "list", data := .seq ([] : List Value).toArray })
    (hR : ∀ h' tk acc' c', (∀ b o, b ≠ S → b ≠ it → s.heap.get? b = some o → h'.get? b = some o) → h'.get? S = some { cls := .type "list", dict := none, data := .seq acc' c', slots := #[] } → ItemsOf (fun i v => items[items.size - 1 - i]? = some v) acc' items.size → R (.ok (.ret (.ref S))) { s with heap := h', toks := tk }) :
    codeAny (model prog w) A (.builtin "list.__iadd__" ⟨[.ref S, .ref it], []⟩) R s := by
  have W := walks_tupRev (prog := prog) (w := w) (A := A.in1) hh it t hne items hn
  refine codeAny_builtin F.entry_list_iadd ?_
  rw [Around.under_plainId F.plain_list_iadd _]
  show wpAny _ A.in1 (Builtin.List.listExtendWith (.ref S) (.ref it) (.ref S)) _ _ _
  have hit1 : IsRt s.heap it t ((items.size : Int) - 1 - ((0 : Nat) : Int)) := by
    rw [show (items.size : Int) - 1 - ((0 : Nat) : Int) = (items.size : Int) - 1 by omega]
    exact hit
  exact self_extend (T := "reversed") (s := s) (R := R) W hh (fun s st => st.2.1.typeIs) (by decide) (by decide)
    (fun A E s Q st h => hintq_rt (by have := st.2.1; rw [show (items.size : Int) - 1 - ((0 : Nat) : Int) = (items.size : Int) - 1 by omega] at this; exact this) st.2.2 hn h)
    ⟨Nat.zero_le _, hit1, ht⟩ S hSi hSl (.ref S) _ hS hR hn
theorem collect_rt {it t : Addr} {items : Array Value} {Q : List Value → Shared → Prop} (hh : A.handled = none) (hit : IsRt s.heap it t ((items.size : Int) - 1)) (ht : IsTup s.heap t items) (hne : t ≠ it) (hn : items.size ≤ sizeLine)
    (hQ : ∀ (h' : Heap) (tk : Nat) (acc : Array Value), (∀ b o, b ≠ it → s.heap.get? b = some o → h'.get? b = some o) → ItemsOf (fun i v => items[items.size - 1 - i]? = some v) acc items.size → Q acc.toList { s with heap := h', toks := tk }) :
    wpAny (model prog w) A (collect (.ref it)) Q E s := by
  obtain ⟨oi, hoi, _⟩ := id hit
  obtain ⟨ol, hol, _⟩ := id ht
  have hSi : s.heap.objs.size ≠ it := Nat.ne_of_gt (Heap.lt_size hoi)
  have hSl : s.heap.objs.size ≠ t := Nat.ne_of_gt (Heap.lt_size hol)
  unfold collect
  refine wpAny_bind (wpAny_runValue (codeAny_builtin F.entry_proto_collect ?_))
  rw [Around.under_plainId F.plain_proto_collect _]
  show wpAny _ A.in1 (newList [] >>= fun l' => again (.builtin "list.__iadd__" ⟨[l', .ref it], []⟩)) _ _ s
  refine wpAny_bind (wpAny_newObj_type ?_)
  have hS₁ : (s.heap.push { cls := .type "list", data := .seq ([] : List Value).toArray }).get? s.heap.objs.size = some { cls := .type "list", data := .seq ([] : List Value).toArray } := Heap.get?_push_size _ rfl
  have hit1 : IsRt (s.heap.push { cls := .type "list", data := .seq ([] : List Value).toArray }) it t ((items.size : Int) - 1) := hit.at fun o e => Heap.get?_push_of_some _ e
  have ht1 : IsTup (s.heap.push { cls := .type "list", data := .seq ([] : List Value).toArray }) t items := by
    obtain ⟨o, ho, r⟩ := ht
    exact ⟨o, Heap.get?_push_of_some _ ho, r⟩
  refine wpAny_pure ⟨plainId_quiet F.plain_list_iadd _, iadd_rt (s := { s with heap := s.heap.push { cls := .type "list", data := .seq ([] : List Value).toArray } }) hh hit1 ht1 hne hn hSi hSl hS₁ fun h' tk acc' c' hk hS' hacc => ?_⟩
  show wpAny _ A (load s.heap.objs.size >>= _) _ _ _
  refine wpAny_bind (wpAny_load hS' ?_)
  refine wpAny_pure ?_
  exact hQ h' tk acc' (fun b o hb e => hk b o (fun z => absurd (Heap.lt_size e) (by rw [z]; exact Nat.lt_irrefl _)) hb (Heap.get?_push_of_some _ e)) hacc
theorem code_tuple_new_rt {it t : Addr} {items : Array Value} {Q₁ : Value → Shared → Prop} (hh : A.handled = none) (hit : IsRt s.heap it t ((items.size : Int) - 1)) (ht : IsTup s.heap t items) (hne : t ≠ it) (hn : items.size ≤ sizeLine)
    (h : ∀ (h' : Heap) (tk : Nat) (acc : Array Value), (∀ b o, b ≠ it → s.heap.get? b = some o → h'.get? b = some o) → ItemsOf (fun i v => items[items.size - 1 - i]? = some v) acc items.size →
      Q₁ (.ref h'.objs.size) { s with heap := h'.push { cls := .type "tuple", data := .seq acc }, toks := tk }) :
    codeAny (model prog w) A (.call (.builtin "tuple.__new__") ⟨[.type "tuple", .ref it], []⟩) (wants Q₁ E) s := by
  refine codeAny_of_tree ?_
  show wpAny _ A.in1 (do checkBuiltinCall "tuple.__new__" ⟨[.type "tuple", .ref it], []⟩; again (.builtin "tuple.__new__" ⟨[.type "tuple", .ref it], []⟩)) _ _ s
  refine wpAny_bind (wpAny_of_eq (F.newCall_tuple_1 _) (wpAny_pure ⟨plainId_quiet F.plain_tuple_new _, codeAny_builtin F.entry_tuple_new ?_⟩))
  rw [Around.under_plainId F.plain_tuple_new _]
  have hsub := sub_tuple_self
  have hinit := init_tuple_lookup
  have hmh := madeHere_tuple
  have hTI : s.TypeIs (.ref it) "reversed" := hit.typeIs
  have hh1 : A.in1.handled = none := hh
  wp_walk using wpAny_typeOf hTI, collect_rt (A := A.in1) hh1 hit ht hne hn
  intro h' tk acc hk hacc
  show wpAny _ _ (Builtin.Tuple.tupleExact acc.toList.toArray >>= fun v => ret v) _ _ _
  unfold Builtin.Tuple.tupleExact
  refine wpAny_bind (wpAny_newObj_type ?_ (by show acc.toList.toArray.size ≤ sizeLine; simp only [Array.toArray_toList]; rw [hacc.1]; exact hn))
  refine wpAny_pure ?_
  have e : acc.toList.toArray = acc := by simp
  rw [e]
  exact h h' tk acc hk hacc
theorem call_tuple_rt {it t : Addr} {items : Array Value} {Q : Value → Shared → Prop} (hh : A.handled = none) (hit : IsRt s.heap it t ((items.size : Int) - 1)) (ht : IsTup s.heap t items) (hne : t ≠ it) (hn : items.size ≤ sizeLine)
    (hQ : ∀ (h' : Heap) (tk : Nat) (acc : Array Value), (∀ b o, b ≠ it → s.heap.get? b = some o → h'.get? b = some o) → ItemsOf (fun i v => items[items.size - 1 - i]? = some v) acc items.size →
      Q (.ref h'.objs.size) { s with heap := h'.push { cls := .type "tuple", data := .seq acc }, toks := tk }) :
    wpAny (model prog w) A (call (.type "tuple") [.ref it]) Q E s := by
  refine callType_codes (Q₁ := fun obj s₁ => s₁.TypeIs obj "tuple" ∧ Q obj s₁) F.called_tuple (F.typeCall_tuple_1 _) F.entry_object_init
    (code_tuple_new_rt (A := A.in1) hh hit ht hne hn fun h' tk acc hk hacc => ⟨⟨_, Heap.get?_push_size _ rfl, rfl⟩, hQ h' tk acc hk hacc⟩) fun obj s₁ h₁ => ?_
  exact ⟨h₁.1, F.args_object_init_2 obj _, object_init_meets F.called_tuple.init.lookup F.called_tuple.made (by decide) prog w A.in1 _ s₁ ⟨h₁.1, rfl, h₁.2⟩⟩
end
/-- tuple(reversed(x)) by values -/
def eTr (a : DT) : DT := fun ρ M P => a ρ M fun x M1 => match itemsD x M1 with
  | some ds => P (.tup ds.reverse) M1
  | none => False
section
variable {X : Cx}
def tTr (K : PySem.W.Frag) (te : TE) : TE := fun σ H Q => te σ H fun v H1 => ∃ (a : Addr) (xs : List V), v = .ref a ∧ (SqL K H1 a xs ∨ SqT K H1 a xs) ∧ ∀ q, H1 q = none → Q (.ref q) (upd H1 q (.tup xs.reverse))
theorem pe_tupRevA {e : Expr} {te : TE} {p p2 pos pos2 : Pos} (hc : X.calm = true) (hg : Gl X "tuple") (hm : X.mg "tuple" = none) (hg2 : Gl X "reversed") (hm2 : X.mg "reversed" = none) (he : PE X e te)
    (hs : starEach [e] X.env = (false, eval e X.env) :: starEach [] X.env)
    (hs2 : starEach [.Call (.Name "reversed" p2) [e] [] pos2] X.env = (false, eval (.Call (.Name "reversed" p2) [e] [] pos2) X.env) :: starEach [] X.env := by rfl) :
    PE X (.Call (.Name "tuple" p) [.Call (.Name "reversed" p2) [e] [] pos2] [] pos) (tTr X.K te) := by
  refine ⟨fun pins s σ H Q I h => ?_⟩
  refine Call_ (ld_blt I hg hm (by decide +kernel : bootBuiltins "tuple" = some (.type "tuple")) (PyProof.Rows.callWith_type1 (args_cons (Call_ (ld_blt I hg2 hm2 PyProof.Rows.boot_reversed (PyProof.Rows.callWith_type1 (args_cons (thn (he.run pins s σ H _ I h) fun u s1 ⟨v, H1, I1, r1, q1⟩ => args_nil ?_) hs) hs rfl))) hs2) hs2 rfl))
  obtain ⟨a, xs, ev, hq, q⟩ := q1
  subst ev
  obtain rfl : u = Value.ref a := r1
  rcases hq with hq | hq
  · obtain ⟨its, rv, p', hz⟩ := I1.list hq
    refine call_reversed_list p'.isList (args_nil ?_)
    have k0 : ∀ b o, s1.heap.get? b = some o → (s1.heap.push (revObj a ((its.toArray.size : Int) - 1))).get? b = some o := fun b o e => Heap.get?_push_of_some _ e
    have I2 : Inv X pins σ H1 { s1 with heap := s1.heap.push (revObj a ((its.toArray.size : Int) - 1)) } := I1.kept (t' := s1.toks) k0
    obtain ⟨f0, f1, f2, f3, f4, f5⟩ := I1.fpOk (H' := H1) (b := s1.heap.objs.size) (Nat.le_refl _) (I1.hok.fresh (Nat.le_refl _))
    have hl := p'.isList
    obtain ⟨ol, hol, _⟩ := id hl
    have hne : a ≠ s1.heap.objs.size := Nat.ne_of_lt (Heap.lt_size hol)
    have hn : its.toArray.size ≤ sizeLine := by rw [List.size_toArray, ← rv.length]; exact hz
    refine call_tuple_rev (s := { s1 with heap := s1.heap.push (revObj a ((its.toArray.size : Int) - 1)) }) (I1.ok.hd hc) ⟨_, Heap.get?_push_size _ rfl, rfl, rfl⟩ (hl.push _) hne hn fun h' tk acc hk hi => ?_
    have I3 : Inv X pins σ H1 { s1 with heap := h', toks := tk } := I2.turned (t' := tk) (fun b o hb e => hk b o hb e) f0 f1 f3 f4 f5
    refine ⟨.ref h'.objs.size, upd H1 h'.objs.size (.tup xs.reverse), I3.laid (t' := tk) (fun c o e => Heap.get?_push_of_some _ e) (Nat.le_refl _) (show ObjOk X.prog X.w _ _ _ (.tup xs.reverse) from ⟨by rw [List.length_reverse]; exact hz, acc.toList, vals_rev rv hi, ?_⟩), rfl, q _ (I3.hok.fresh (Nat.le_refl _))⟩
    rw [Array.toArray_toList]
    exact IsTup.new _ _
  · obtain ⟨its, rv, p', hz⟩ := I1.tuple hq
    have hn : its.toArray.size ≤ sizeLine := by rw [List.size_toArray, ← rv.length]; exact hz
    have hz63 : (its.toArray.size : Int) < 2 ^ 63 := by
      have := hn
      rw [sizeLine_eq] at this
      omega
    refine call_reversed_tup p' (fun A E Q k => len_tuple p' hz63 k) (args_nil ?_)
    have k0 : ∀ b o, s1.heap.get? b = some o → (s1.heap.push (rtObj a ((its.toArray.size : Int) - 1))).get? b = some o := fun b o e => Heap.get?_push_of_some _ e
    have I2 : Inv X pins σ H1 { s1 with heap := s1.heap.push (rtObj a ((its.toArray.size : Int) - 1)), toks := s1.toks + 1 + 1 } := I1.kept (t' := s1.toks + 1 + 1) k0
    obtain ⟨f0, f1, f2, f3, f4, f5⟩ := I1.fpOk (H' := H1) (b := s1.heap.objs.size) (Nat.le_refl _) (I1.hok.fresh (Nat.le_refl _))
    obtain ⟨ol, hol, ho2⟩ := id p'
    have hne : a ≠ s1.heap.objs.size := Nat.ne_of_lt (Heap.lt_size hol)
    refine call_tuple_rt (s := { s1 with heap := s1.heap.push (rtObj a ((its.toArray.size : Int) - 1)), toks := s1.toks + 1 + 1 }) (I1.ok.hd hc) ⟨_, Heap.get?_push_size _ rfl, rfl, rfl⟩ ⟨ol, Heap.get?_push_of_some _ hol, ho2⟩ hne hn fun h' tk acc hk hi => ?_
    have I3 : Inv X pins σ H1 { s1 with heap := h', toks := tk } := I2.turned (t' := tk) (fun b o hb e => hk b o hb e) f0 f1 f3 f4 f5
    refine ⟨.ref h'.objs.size, upd H1 h'.objs.size (.tup xs.reverse), I3.laid (t' := tk) (fun c o e => Heap.get?_push_of_some _ e) (Nat.le_refl _) (show ObjOk X.prog X.w _ _ _ (.tup xs.reverse) from ⟨by rw [List.length_reverse]; exact hz, acc.toList, vals_rev rv hi, ?_⟩), rfl, q _ (I3.hok.fresh (Nat.le_refl _))⟩
    rw [Array.toArray_toList]
    exact IsTup.new _ _
theorem dx_trev {e : Expr} {wa : DT} {p p2 pos pos2 : Pos} (hc : X.calm = true) (hg : Gl X "tuple") (hm : X.mg "tuple" = none) (hg2 : Gl X "reversed") (hm2 : X.mg "reversed" = none) (he : Dx X e wa)
    (hs : starEach [e] X.env = (false, eval e X.env) :: starEach [] X.env) : Dx X (.Call (.Name "tuple" p) [.Call (.Name "reversed" p2) [e] [] pos2] [] pos) (eTr wa) :=
  pe_wk (pe_tupRevA hc hg hm hg2 hm2 he hs) fun σ H Q ⟨ρ, M, P, er, hr, w, k⟩ =>
    ⟨ρ, M, _, er, hr, w, fun x M1 v H1 p1 e1 d1 h1 => by
      split at p1
      · rename_i ds eo
        obtain ⟨a, vs, rfl, q, r⟩ := items_of d1 h1 eo
        exact ⟨a, vs, rfl, q, fun z nz => k _ _ _ _ p1 (e1.trans (.fresh nz)) (.tup upd_same (r.rev.mono (.fresh nz))) (h1.fresh nz)⟩
      · exact p1.elim⟩
end
end DL
/-! DLe: statements, loops, comprehensions of the data layer. -/
namespace DL
open PySem PySem.Spec L2
open PyProof.Rows hiding St

/-- the slots at a def's entry -/
def startD (n : Nat) (ds : List D) : Ev := ds.map some ++ List.replicate (n - ds.length) none
structure EndsOk (K : PySem.W.Frag) (H : Hp) (P : De) (D : Ends) : Prop where
  nx : ∀ ρ M σ H', P.nx ρ M → Ext K H H' → ER K H' ρ σ → HR K H' M → D.nx σ H'
  rt : ∀ d M v H', P.rt d M → Ext K H H' → DR K H' d v → HR K H' M → D.rt v H'
  bk : ∀ ρ M σ H', P.bk ρ M → Ext K H H' → ER K H' ρ σ → HR K H' M → D.bk σ H'
  ct : ∀ ρ M σ H', P.ct ρ M → Ext K H H' → ER K H' ρ σ → HR K H' M → D.ct σ H'
theorem EndsOk.mono {K : PySem.W.Frag} {H H1 : Hp} {P : De} {D : Ends} (o : EndsOk K H P D) (x : Ext K H H1) : EndsOk K H1 P D :=
  ⟨fun ρ M σ H' p e => o.nx ρ M σ H' p (x.trans e), fun d M v H' p e => o.rt d M v H' p (x.trans e), fun ρ M σ H' p e => o.bk ρ M σ H' p (x.trans e), fun ρ M σ H' p e => o.ct ρ M σ H' p (x.trans e)⟩
def upS (K : PySem.W.Frag) (w : DS) : TS := fun D σ H => ∃ ρ M P, ER K H ρ σ ∧ HR K H M ∧ w P ρ M ∧ EndsOk K H P D
abbrev Ds (X : Cx) (s : Stmt) (w : DS) : Prop := PS X s (upS X.K w)
abbrev Dss (X : Cx) (s : List Stmt) (w : DS) : Prop := PSs X s (upS X.K w)
theorem ps_wk {X : Cx} {e : Stmt} {t t' : TS} (h : PS X e t) (k : ∀ D σ H, t' D σ H → t D σ H) : PS X e t' := ⟨fun pins s σ H Q I q => h.run pins s σ H Q I (k Q σ H q)⟩
theorem pss_wk {X : Cx} {e : List Stmt} {t t' : TS} (h : PSs X e t) (k : ∀ D σ H, t' D σ H → t D σ H) : PSs X e t' := ⟨fun pins s σ H Q I q => h.run pins s σ H Q I (k Q σ H q)⟩

abbrev DG := D → Ev → Mh → (Ev → Mh → Prop) → Prop
abbrev DGs := List D → Ev → Mh → (Ev → Mh → Prop) → Prop
def upG (K : PySem.W.Frag) (g : DG) : TG := fun v σ H Q => ∃ d ρ M P, DR K H d v ∧ ER K H ρ σ ∧ HR K H M ∧ g d ρ M P ∧ ∀ ρ' M' σ' H', P ρ' M' → Ext K H H' → ER K H' ρ' σ' → HR K H' M' → Q σ' H'
def upGs (K : PySem.W.Frag) (g : DGs) : TGs := fun vs σ H Q => ∃ ds ρ M P, DRs K H ds vs ∧ ER K H ρ σ ∧ HR K H M ∧ g ds ρ M P ∧ ∀ ρ' M' σ' H', P ρ' M' → Ext K H H' → ER K H' ρ' σ' → HR K H' M' → Q σ' H'
abbrev Dg (X : Cx) (tg : Expr) (g : DG) : Prop := PG X tg (upG X.K g)
abbrev Dgs (X : Cx) (ts : List Expr) (g : DGs) : Prop := PGs X ts (upGs X.K g)
theorem pg_wk {X : Cx} {e : Expr} {t t' : TG} (h : PG X e t) (k : ∀ v σ H Q, t' v σ H Q → t v σ H Q) : PG X e t' := ⟨fun pins s σ H v u Q I r q => h.run pins s σ H v u Q I r (k v σ H Q q)⟩
theorem pgs_wk {X : Cx} {e : List Expr} {t t' : TGs} (h : PGs X e t) (k : ∀ v σ H Q, t' v σ H Q → t v σ H Q) : PGs X e t' := ⟨fun pins s σ H v u Q I r q => h.run pins s σ H v u Q I r (k v σ H Q q)⟩

def gN (i : Nat) : DG := fun d ρ M Q => Q (ρ.set i (some d)) M
def gsN : DGs := fun ds ρ M Q => match ds with
  | [] => Q ρ M
  | _ => False
def gsC (g : DG) (r : DGs) : DGs := fun ds ρ M Q => match ds with
  | d :: ds => g d ρ M fun ρ1 M1 => r ds ρ1 M1 Q
  | [] => False
def gT (n : Nat) (g : DGs) : DG := fun d ρ M Q => match d with
  | .tup ds => ds.length = n ∧ g ds ρ M Q
  | .ref a => match M a with
    | some (.lst ds) => ds.length = n ∧ g ds ρ M Q
    | _ => False
  | _ => False
def gS (o i : DT) : DG := fun v ρ M Q => o ρ M fun x M1 => i ρ M1 fun y M2 => setD x y v M2 fun M3 => Q ρ M3

/-! ### statements -/
def sNil : DS := fun P ρ M => P.nx ρ M
def sSeq (a b : DS) : DS := fun P ρ M => a { P with nx := fun ρ1 M1 => b P ρ1 M1 } ρ M
def sIf (c : DB) (a b : DS) : DS := fun P ρ M => c ρ M fun k M1 => if k = true then a P ρ M1 else b P ρ M1
def sAsg (e : DT) (g : DG) : DS := fun P ρ M => e ρ M fun d M1 => g d ρ M1 P.nx
def sExp (e : DT) : DS := fun P ρ M => e ρ M fun _ M1 => P.nx ρ M1
def sRet (e : DT) : DS := fun P ρ M => e ρ M P.rt
def sRetN : DS := fun P _ M => P.rt .non M
def sBrk : DS := fun P ρ M => P.bk ρ M
def sCnt : DS := fun P ρ M => P.ct ρ M
def sAug (i : Nat) (r : D → D → Mh → PQ → Prop) (e : DT) : DS := fun P ρ M => match slot ρ i with
  | some x => e ρ M fun y M1 => r x y M1 fun z M2 => P.nx (ρ.set i (some z)) M2
  | none => False
def whileD (c : DB) (b : DS) (P : De) : Nat → Ev → Mh → Prop
  | 0, _, _ => False
  | n + 1, ρ, M => c ρ M fun t M1 => if t = true then b { P with nx := whileD c b P n, ct := whileD c b P n, bk := P.nx } ρ M1 else P.nx ρ M1
def sWh (c : DB) (b : DS) : DS := fun P ρ M => ∃ n, whileD c b P n ρ M
/-- what a loop walks: items, and what must stay true of the heap meanwhile -/
abbrev DI := Ev → Mh → (List D → (Mh → Prop) → Mh → Prop) → Prop
def forD (g : DG) (b : DS) (chk : Mh → Prop) (P : De) : List D → Ev → Mh → Prop
  | [], ρ, M => chk M ∧ P.nx ρ M
  | d :: ds, ρ, M => chk M ∧ g d ρ M fun ρ1 M1 => b { P with nx := forD g b chk P ds, ct := forD g b chk P ds, bk := P.nx } ρ1 M1
def sFor (it : DI) (g : DG) (b : DS) : DS := fun P ρ M => it ρ M fun items chk M1 => forD g b chk P items ρ M1
def sParN (i j : Nat) (a b : DT) : DS := fun P ρ M => a ρ M fun x M1 => b ρ M1 fun y M2 => P.nx ((ρ.set i (some x)).set j (some y)) M2

structure WalkJ (K : PySem.W.Frag) (H0 : Hp) (items : List D) (chk : Mh → Prop) (J : It) : Prop where
  stop : ∀ i H M, Ext K H0 H → HR K H M → chk M → items.length ≤ i → J.stop i H
  go : ∀ i H M d, Ext K H0 H → HR K H M → chk M → items[i]? = some d → J.go i H
  yld : ∀ i H M d x H', Ext K H0 H → HR K H M → chk M → items[i]? = some d → J.yld i H x H' → Ext K H H' ∧ HR K H' M ∧ (∀ p vs, H p = some (.lst vs) → H' p = some (.lst vs)) ∧ DR K H' d x
def upI (K : PySem.W.Frag) (w : DI) : TI := fun σ H R => ∃ ρ M P, ER K H ρ σ ∧ HR K H M ∧ w ρ M P ∧ ∀ items chk M' H' J, P items chk M' → Ext K H H' → HR K H' M' → WalkJ K H' items chk J → R J H'
abbrev Di (X : Cx) (tg it : Expr) (w : DI) : Prop := PI X tg it (upI X.K w)
def seqP (x : D) (M : Mh) (P : List D → (Mh → Prop) → Mh → Prop) : Prop := match x with
  | .tup ds => P ds (fun _ => True) M
  | .ktp ds => P ds (fun _ => True) M
  | .rol ds => P ds (fun _ => True) M
  | .str z => P (z.cps.toList.map fun c => .str ⟨#[c]⟩) (fun _ => True) M
  | .ref a => match M a with
    | some (.lst ds) => P ds (fun M' => M' a = some (.lst ds)) M
    | _ => False
  | _ => False
def iSeq (e : DT) : DI := fun ρ M P => e ρ M fun x M1 => seqP x M1 P
def rngI (lo : Int) (n : Nat) : List D := (List.range n).map fun (k : Nat) => .int (lo + (k : Int))
def iRg1 (a : DA) : DI := fun ρ M P => a ρ M fun xs M1 => match xs with
  | [.int j] => (-(2 ^ 62) ≤ j ∧ j < 2 ^ 62) ∧ P (rngI 0 j.toNat) (fun _ => True) M1
  | _ => False
def iRg2 (a : DA) : DI := fun ρ M P => a ρ M fun xs M1 => match xs with
  | [.int i, .int j] => (-(2 ^ 62) ≤ i ∧ i < 2 ^ 62 ∧ -(2 ^ 62) ≤ j ∧ j < 2 ^ 62) ∧ P (rngI i (j - i).toNat) (fun _ => True) M1
  | _ => False

/-- range with a step above 0, of small numbers -/
def rngC (lo c : Int) (n : Nat) : List D := (List.range n).map fun (k : Nat) => .int (lo + (k : Int) * c)
def stepN (i j c : Int) : Nat := (Builtin.Range.rangeSize i j c).toNat
theorem stepN_lt {i j c : Int} {k : Nat} (h : 0 < c) (hk : k < stepN i j c) : i + (k : Int) * c < j := by
  unfold stepN Builtin.Range.rangeSize at hk
  rw [if_pos h] at hk
  split at hk
  · have h1 : (k : Int) ≤ (j - i - 1) / c := by omega
    have h2 : (k : Int) * c ≤ (j - i - 1) / c * c := Int.mul_le_mul_of_nonneg_right h1 (Int.le_of_lt h)
    have h3 := Int.ediv_mul_le (j - i - 1) (show c ≠ 0 by omega)
    omega
  · simp at hk
theorem stepN_le {i j c : Int} (h : 0 < c) (h0 : 0 ≤ i) (h1 : 0 ≤ j) : (stepN i j c : Int) ≤ j := by
  by_cases z : stepN i j c = 0
  · omega
  · have := stepN_lt (i := i) (j := j) (c := c) (k := stepN i j c - 1) h (by omega)
    have h2 : ((stepN i j c - 1 : Nat) : Int) * 1 ≤ ((stepN i j c - 1 : Nat) : Int) * c := Int.mul_le_mul_of_nonneg_left (by omega) (by omega)
    omega
theorem stepN_size {i j c : Int} (h : 0 < c) : Builtin.Range.rangeSize i j c = (stepN i j c : Int) := by
  unfold stepN
  have : 0 ≤ Builtin.Range.rangeSize i j c := by
    unfold Builtin.Range.rangeSize
    rw [if_pos h]
    split
    · have := Int.ediv_nonneg (show 0 ≤ j - i - 1 by omega) (Int.le_of_lt h)
      omega
    · exact Int.le_refl _
  omega
theorem stepN_ok {i j c : Int} (h0 : 0 ≤ i ∧ i < 1073741824 ∧ 0 ≤ j ∧ j < 1073741824 ∧ 0 < c ∧ c < 1073741824) : RgC i j c (stepN i j c) := by
  obtain ⟨a, b, d, e, f, g⟩ := h0
  refine ⟨by omega, by omega, ?_, stepN_size f⟩
  unfold Builtin.Range.small
  rw [stepN_size f]
  have := stepN_le f a d
  simp only [Builtin.Range.rangeFitsLong, Bool.and_eq_true, Bool.or_eq_true, decide_eq_true_eq, beq_iff_eq, show c > 0 from f, if_true]
  omega
def iRg3 (a : DA) : DI := fun ρ M P => a ρ M fun xs M1 => match xs with
  | [.int i, .int j, .int c] => (0 ≤ i ∧ i < 1073741824 ∧ 0 ≤ j ∧ j < 1073741824 ∧ 0 < c ∧ c < 1073741824) ∧ P (rngC i c (stepN i j c)) (fun _ => True) M1
  | _ => False

section
variable {K : PySem.W.Frag} {H0 : Hp}
theorem wj_list {a : Addr} {ds : List D} : WalkJ K H0 ds (fun M => M a = some (.lst ds)) (Itl K a) where
  stop := fun i H M x h c hl => by
    obtain ⟨vs, q, r⟩ := h a _ c
    exact ⟨vs, SqL.of q, by rw [← r.length]; exact hl⟩
  go := fun i H M d x h c e => by
    obtain ⟨vs, q, r⟩ := h a _ c
    obtain ⟨v, h1, _⟩ := r.get e
    exact ⟨vs, v, SqL.of q, h1⟩
  yld := fun i H M d y H' x h c e w => by
    obtain ⟨rfl, w⟩ := w
    obtain ⟨vs, q, r⟩ := h a _ c
    obtain ⟨v, h1, h2⟩ := r.get e
    have := w _ (SqL.of q)
    rw [h1] at this; cases this
    exact ⟨.refl _ _, h, fun _ _ z => z, h2⟩
theorem wj_rol {a : Addr} {ds : List D} {vs : List V} (s : SqF K H0 a vs) (r : DRs K H0 ds vs) : WalkJ K H0 ds (fun _ => True) (Itl K a) where
  stop := fun i H M x h c hl => ⟨vs, (s.mono x).seq, by rw [← r.length]; exact hl⟩
  go := fun i H M d x h c e => by
    obtain ⟨v, h1, _⟩ := r.get e
    exact ⟨vs, v, (s.mono x).seq, h1⟩
  yld := fun i H M d y H' x h c e w => by
    obtain ⟨rfl, w⟩ := w
    obtain ⟨v, h1, h2⟩ := r.get e
    have := w _ (s.mono x).seq
    rw [h1] at this; cases this
    exact ⟨.refl _ _, h, fun _ _ z => z, h2.mono x⟩
theorem wj_tup {a : Addr} {ds : List D} {vs : List V} (s : SqT K H0 a vs) (r : DRs K H0 ds vs) : WalkJ K H0 ds (fun _ => True) (Itt K a) where
  stop := fun i H M x h c hl => ⟨vs, x.sqT s, by rw [← r.length]; exact hl⟩
  go := fun i H M d x h c e => by
    obtain ⟨v, h1, _⟩ := r.get e
    exact ⟨vs, v, x.sqT s, h1⟩
  yld := fun i H M d y H' x h c e w => by
    obtain ⟨rfl, w⟩ := w
    obtain ⟨v, h1, h2⟩ := r.get e
    have := w _ (x.sqT s)
    rw [h1] at this; cases this
    exact ⟨.refl _ _, h, fun _ _ z => z, h2.mono x⟩
theorem wj_str {z : Str} : WalkJ K H0 (z.cps.toList.map fun c => .str ⟨#[c]⟩) (fun _ => True) (Its z) where
  stop := fun i H M x h c hl => by
    show z.cps.size ≤ i
    simpa using hl
  go := fun i H M d x h c e => by
    show i < z.cps.size
    have := (List.getElem?_eq_some_iff.mp e).1
    simpa using this
  yld := fun i H M d y H' x h c e w => by
    obtain ⟨rfl, k, e2, rfl⟩ := w
    refine ⟨.refl _ _, h, fun _ _ z => z, ?_⟩
    rw [List.getElem?_map, Array.getElem?_toList, e2] at e
    cases e
    exact .str _
theorem rng_get {lo : Int} {n i : Nat} {d : D} (e : (rngI lo n)[i]? = some d) : i < n ∧ d = .int (lo + i) := by
  unfold rngI at e
  rw [List.getElem?_map] at e
  by_cases h : i < n
  · rw [List.getElem?_range h] at e
    cases e
    exact ⟨h, rfl⟩
  · rw [List.getElem?_eq_none (by simpa using h)] at e
    cases e
theorem wj_rng {lo : Int} {n : Nat} : WalkJ K H0 (rngI lo n) (fun _ => True) (Itr lo n) where
  stop := fun i H M x h c hl => by
    show n ≤ i
    simpa [rngI] using hl
  go := fun i H M d x h c e => (rng_get e).1
  yld := fun i H M d y H' x h c e w => by
    obtain ⟨rfl, rfl⟩ := w
    rw [(rng_get e).2]
    exact ⟨.refl _ _, h, fun _ _ z => z, .int _⟩
theorem rngC_get {lo c : Int} {n i : Nat} {d : D} (e : (rngC lo c n)[i]? = some d) : i < n ∧ d = .int (lo + (i : Int) * c) := by
  unfold rngC at e
  rw [List.getElem?_map] at e
  by_cases h : i < n
  · rw [List.getElem?_range h] at e
    cases e
    exact ⟨h, rfl⟩
  · rw [List.getElem?_eq_none (by simpa using h)] at e
    cases e
theorem rngC_len {lo c : Int} {n : Nat} : (rngC lo c n).length = n := by simp [rngC]
theorem wj_rngC {lo c : Int} {n : Nat} : WalkJ K H0 (rngC lo c n) (fun _ => True) (Itc lo c n) where
  stop := fun i H M x h q hl => by
    show n ≤ i
    simpa [rngC] using hl
  go := fun i H M d x h q e => (rngC_get e).1
  yld := fun i H M d y H' x h q e w => by
    obtain ⟨rfl, rfl⟩ := w
    rw [(rngC_get e).2]
    exact ⟨.refl _ _, h, fun _ _ z => z, .int _⟩
end

section
variable {X : Cx}
theorem di_seq {tg l : Expr} {wl : DT} (hl : Dx X l wl) : Di X tg l (iSeq wl) := by
  refine ⟨fun pins s σ H R I h => ?_⟩
  obtain ⟨ρ, M, P, er, hr, w, k⟩ := h
  refine thn (hl.run pins s σ H (fun v H1 => ∃ d M1, seqP d M1 P ∧ Ext X.K H H1 ∧ DR X.K H1 d v ∧ HR X.K H1 M1) I ⟨ρ, M, _, er, hr, w, fun d M1 v H1 p e d1 h1 => ⟨d, M1, p, e, d1, h1⟩⟩) ?_
  rintro u s1 ⟨v, H1, I1, r1, d, M1, p, e, d1, h1⟩
  have lists : ∀ a vs J, u = .ref a → SqL X.K H1 a vs → J = Itl X.K a → R J H1 → wpAny (model X.prog X.w) X.A (pyIter u) (PIE X pins σ tg R) X.xe s1 := fun a vs J eu q ej qR => by
    subst eu ej
    obtain ⟨its, rv, pl, hz⟩ := I1.list q
    exact wpAny_pyIter_list pl.isList (pi_one (tk := s1.toks) I1 _ (turn_list a _) ⟨_, Heap.get?_push_size _ rfl, rfl, rfl⟩ qR)
  cases d1 with
  | tup s2 r2 =>
    obtain ⟨its, rv, pl, hz⟩ := I1.tuple (SqT.of s2)
    cases r1
    exact wpAny_pyIter_tuple (show s1.heap.IsTuple _ its.toArray from pl) (pi_one (tk := s1.toks) I1 _ (turn_tuple _ _) ⟨_, Heap.get?_push_size _ rfl, rfl, rfl⟩ (k _ _ _ _ _ p e h1 (wj_tup (SqT.of s2) r2)))
  | ktp s2 r2 =>
    obtain ⟨its, rv, pl, hz⟩ := I1.tuple s2
    cases r1
    exact wpAny_pyIter_tuple (show s1.heap.IsTuple _ its.toArray from pl) (pi_one (tk := s1.toks) I1 _ (turn_tuple _ _) ⟨_, Heap.get?_push_size _ rfl, rfl, rfl⟩ (k _ _ _ _ _ p e h1 (wj_tup s2 r2)))
  | rol s2 r2 => exact lists _ _ _ r1 s2.seq rfl (k _ _ _ _ _ p e h1 (wj_rol s2 r2))
  | str z =>
    obtain ⟨t, rfl⟩ := r1
    have q := k _ _ _ _ _ p e h1 wj_str
    cases ha : z.cps.all (· < 128)
    · exact wpAny_pyIter_wide ha (pi_one (tk := s1.toks) I1 _ (turn_str _ z t "str_iterator" (.inr rfl)) ⟨_, Heap.get?_push_size _ rfl, rfl, rfl⟩ q)
    · exact wpAny_pyIter_ascii ha (pi_one (tk := s1.toks) I1 _ (turn_str _ z t "str_ascii_iterator" (.inl rfl)) ⟨_, Heap.get?_push_size _ rfl, rfl, rfl⟩ q)
  | ref a =>
    have p : (match M1 a with | some (.lst ds) => P ds (fun M' => M' a = some (.lst ds)) M1 | _ => False) := p
    cases e2 : M1 a with
    | none => rw [e2] at p; exact p.elim
    | some o =>
      rw [e2] at p
      cases o with
      | dk _ => exact False.elim p
      | dt _ => exact False.elim p
      | lst ds =>
        obtain ⟨vs, q, r⟩ := h1 _ _ e2
        exact lists _ _ _ r1 (SqL.of q) rfl (k _ _ _ _ _ p e h1 wj_list)
  | _ => exact False.elim p
theorem pi_wk {tg e : Expr} {t t' : TI} (h : PI X tg e t) (k : ∀ σ H Q, t' σ H Q → t σ H Q) : PI X tg e t' := ⟨fun pins s σ H R I q => h.run pins s σ H R I (k σ H R q)⟩
theorem di_rg1 {tg a : Expr} {wa : DA} {p pos : Pos} (hg : Gl X "range") (hm : X.mg "range" = none) (ha : Da X [a] wa) (hs : starEach [a] X.env = [(false, eval a X.env)]) : Di X tg (.Call (.Name "range" p) [a] [] pos) (iRg1 wa) :=
  pi_wk (pi_range1 hg hm ha hs) fun σ H R ⟨ρ, M, P, er, hr, w, k⟩ => ⟨ρ, M, _, er, hr, w, fun xs M1 vs H1 p1 e1 d1 h1 => by
    match xs, d1 with
    | [], _ => exact False.elim p1
    | [x], .cons d .nil =>
      cases d <;> first | exact False.elim p1 | skip
      exact ⟨_, rfl, p1.1.1, p1.1.2, k _ _ _ _ _ p1.2 e1 h1 wj_rng⟩
    | x :: _ :: _, .cons d _ => cases d <;> exact False.elim p1⟩
theorem di_rg2 {tg a b : Expr} {wa : DA} {p pos : Pos} (hg : Gl X "range") (hm : X.mg "range" = none) (ha : Da X [a, b] wa) (hs : starEach [a, b] X.env = [(false, eval a X.env), (false, eval b X.env)]) (hs2 : starEach [b] X.env = [(false, eval b X.env)]) :
    Di X tg (.Call (.Name "range" p) [a, b] [] pos) (iRg2 wa) :=
  pi_wk (pi_range2 hg hm ha hs hs2) fun σ H R ⟨ρ, M, P, er, hr, w, k⟩ => ⟨ρ, M, _, er, hr, w, fun xs M1 vs H1 p1 e1 d1 h1 => by
    match xs, d1 with
    | [], _ => exact False.elim p1
    | [x], .cons d .nil => cases d <;> exact False.elim p1
    | [x, y], .cons d (.cons d2 .nil) =>
      cases d <;> cases d2 <;> first | exact False.elim p1 | skip
      exact ⟨_, _, rfl, p1.1, k _ _ _ _ _ p1.2 e1 h1 wj_rng⟩
    | x :: y :: _ :: _, .cons d (.cons d2 _) => cases d <;> cases d2 <;> exact False.elim p1⟩
theorem di_rg3 {tg a b c : Expr} {wa : DA} {p pos : Pos} (hg : Gl X "range") (hm : X.mg "range" = none) (ha : Da X [a, b, c] wa) (hs : starEach [a, b, c] X.env = (false, eval a X.env) :: starEach [b, c] X.env) (hpl : (backTo pos (starEach [b, c] X.env)).any (·.1) = false) :
    Di X tg (.Call (.Name "range" p) [a, b, c] [] pos) (iRg3 wa) :=
  pi_wk (pi_range3 hg hm ha hs hpl) fun σ H R ⟨ρ, M, P, er, hr, w, k⟩ => ⟨ρ, M, _, er, hr, w, fun xs M1 vs H1 p1 e1 d1 h1 => by
    match xs, d1 with
    | [], _ => exact False.elim p1
    | [x], .cons d .nil => cases d <;> exact False.elim p1
    | [x, y], .cons d (.cons d2 .nil) => cases d <;> cases d2 <;> exact False.elim p1
    | [x, y, z], .cons d (.cons d2 (.cons d3 .nil)) =>
      cases d <;> cases d2 <;> first | exact False.elim p1 | skip
      cases d3 <;> first | exact False.elim p1 | skip
      exact ⟨_, _, _, _, rfl, stepN_ok p1.1, k _ _ _ _ _ p1.2 e1 h1 wj_rngC⟩
    | x :: y :: z :: _ :: _, .cons d (.cons d2 (.cons d3 _)) => cases d <;> cases d2 <;> first | exact False.elim p1 | (cases d3 <;> exact False.elim p1)⟩

/-! ### targets -/
theorem dg_nm {i : Nat} {x : Str} {pos : Pos} (hN : X.N.Nodup) (hi : X.N[i]? = some x) (hx : Loc X.env.scope x) (hf : X.fn x = true ∨ X.env.scope.names.lookup x = some .local) : Dg X (.Name x pos) (gN i) :=
  pg_wk (pg_name hN hi hx hf) fun v σ H Q ⟨d, ρ, M, P, dv, er, hr, w, k⟩ => k _ M _ H w (.refl _ _) (er.set dv) hr
theorem dgs_nil : Dgs X [] gsN := pgs_wk pgs_nil fun vs σ H Q ⟨ds, ρ, M, P, dv, er, hr, w, k⟩ => by
  cases dv with
  | nil => exact ⟨rfl, k _ M _ H w (.refl _ _) er hr⟩
  | cons _ _ => exact False.elim w
theorem dgs_cons {e : Expr} {es : List Expr} {t : DG} {u : DGs} (h1 : Dg X e t) (h2 : Dgs X es u) (hs : (assignEach (e :: es) X.env).map (·.2) = assign e X.env :: (assignEach es X.env).map (·.2)) : Dgs X (e :: es) (gsC t u) :=
  pgs_wk (pgs_cons h1 h2 hs) fun vs σ H Q ⟨ds, ρ, M, P, dv, er, hr, w, k⟩ => by
    cases dv with
    | nil => exact False.elim w
    | cons d r => exact ⟨_, _, rfl, _, ρ, M, _, d, er, hr, w, fun ρ1 M1 σ1 H1 p1 e1 er1 hr1 => ⟨_, ρ1, M1, P, r.mono e1, er1, hr1, p1, fun ρ2 M2 σ2 H2 p2 e2 => k ρ2 M2 σ2 H2 p2 (e1.trans e2)⟩⟩
theorem dg_tup {es : List Expr} {n k : Nat} {g : DGs} {pos : Pos} (hc : X.calm = true) (h : Dgs X es g) (hn : (assignEach es X.env).length = n) (hst : (assignEach es X.env).findIdx? (·.1) = none) : Dg X (.Tuple es k pos) (gT n g) :=
  ⟨fun pins s σ H v u Q I rv ⟨d, ρ, M, P, dv, er, hr, w, k⟩ => by
    cases dv with
    | tup s r => exact (pg_tup hc h hn hst).run pins _ σ H _ u Q I rv ⟨_, _, rfl, SqT.of s, by rw [← r.length]; exact w.1, _, ρ, M, P, r, er, hr, w.2, k⟩
    | ref a =>
      have w : (match M a with | some (.lst ds) => ds.length = n ∧ g ds ρ M P | _ => False) := w
      cases e : M a with
      | none => rw [e] at w; exact w.elim
      | some o =>
        rw [e] at w
        cases o with
        | dk _ => exact False.elim w
        | dt _ => exact False.elim w
        | lst ds =>
          obtain ⟨vs, q, r⟩ := hr _ _ e
          exact (pg_lst hc h hn hst).run pins _ σ H _ u Q I rv ⟨_, _, rfl, SqL.of q, by rw [← r.length]; exact w.1, _, ρ, M, P, r, er, hr, w.2, k⟩
    | _ => exact False.elim w⟩
theorem dg_sub {o i : Expr} {wo wi : DT} {pos : Pos} (hu : X.A.units + 65 < cLine) (ho : Dx X o wo) (hi : Dx X i wi)
    (ha : ∀ v, assign (.Subscript o i pos) X.env v = (do
      let ov ← holding [v] (eval o X.env)
      let iv ← holding [v, ov] (eval i X.env)
      standAt pos
      holding [v, ov, iv] (setItem ov iv v)
      release [v, ov, iv] [])) : Dg X (.Subscript o i pos) (gS wo wi) :=
  pg_wk (pg_sub ho hi (set_dl hu) ha) fun v σ H Q ⟨d, ρ, M, P, dv, er, hr, w, k⟩ =>
    ⟨ρ, M, _, er, hr, w, fun x M1 v1 H1 p1 e1 d1 h1 => ⟨ρ, M1, _, er.mono e1, h1, p1, fun y M2 v2 H2 p2 e2 d2 h2 =>
      ⟨x, y, d, M2, _, d1.mono e2, d2, dv.mono (e1.trans e2), h2, p2, fun M3 H3 p3 e3 h3 => k _ _ _ _ p3 (e1.trans (e2.trans e3)) (er.mono (e1.trans (e2.trans e3))) h3⟩⟩⟩

/-! ### statements -/
theorem dss_nil : Dss X [] sNil := pss_wk pss_nil fun D σ H ⟨ρ, M, P, er, hr, w, k⟩ => k.nx _ _ _ _ w (.refl _ _) er hr
theorem dss_cons {s : Stmt} {r : List Stmt} {a b : DS} (h1 : Ds X s a) (h2 : Dss X r b) : Dss X (s :: r) (sSeq a b) :=
  pss_wk (pss_cons h1 h2) fun D σ H ⟨ρ, M, P, er, hr, w, k⟩ => ⟨ρ, M, _, er, hr, w, ⟨fun ρ1 M1 σ1 H1 p1 e1 er1 hr1 => ⟨ρ1, M1, P, er1, hr1, p1, k.mono e1⟩, k.rt, k.bk, k.ct⟩⟩
theorem ds_if {c : Expr} {p q : List Stmt} {wc : DB} {a b : DS} {pos : Pos} (hc : Dt X c wc) (ha : Dss X p a) (hb : Dss X q b) : Ds X (.If c p q pos) (sIf wc a b) :=
  ps_wk (ps_if hc ha hb) fun D σ H ⟨ρ, M, P, er, hr, w, k⟩ => ⟨ρ, M, _, er, hr, w, fun b M1 H1 p1 e1 h1 => by
    cases b with
    | true => exact ⟨ρ, M1, P, er.mono e1, h1, p1, k.mono e1⟩
    | false => exact ⟨ρ, M1, P, er.mono e1, h1, p1, k.mono e1⟩⟩
theorem ds_asg {tg e : Expr} {we : DT} {g : DG} {pos : Pos} (he : Dx X e we) (hg : Dg X tg g) (hs : swapsWithSole [tg] e pos.line X.env = pure false) (hw : swappedStores [tg] e X.env = pure none)
    (h1 : (assignEach [tg] X.env).map (·.2) = [assign tg X.env]) : Ds X (.Assign [tg] e pos) (sAsg we g) :=
  ps_wk (ps_asg he hg hs hw h1) fun D σ H ⟨ρ, M, P, er, hr, w, k⟩ => ⟨ρ, M, _, er, hr, w, fun d M1 v H1 p1 e1 d1 h1 => ⟨d, ρ, M1, P.nx, d1, er.mono e1, h1, p1, fun ρ2 M2 σ2 H2 p2 e2 => k.nx ρ2 M2 σ2 H2 p2 (e1.trans e2)⟩⟩
theorem ds_set {i : Nat} {x : Str} {e : Expr} {we : DT} {pos pos' : Pos} (hN : X.N.Nodup) (hi : X.N[i]? = some x) (hx : Loc X.env.scope x) (he : Dx X e we) (hs : swapsWith e (some (.Name x pos')) pos.line X.env = pure false) (hf : X.fn x = true ∨ X.env.scope.names.lookup x = some .local) :
    Ds X (.Assign [.Name x pos'] e pos) (sAsg we (gN i)) :=
  ps_wk (ps_set hN hi hx he hs hf) fun D σ H ⟨ρ, M, P, er, hr, w, k⟩ => ⟨ρ, M, _, er, hr, w, fun d M1 v H1 p1 e1 d1 h1 => k.nx _ _ _ _ p1 e1 ((er.mono e1).set d1) h1⟩
theorem ds_exp {e : Expr} {we : DT} {pos : Pos} (he : Dx X e we) (hs : swapsWith e none pos.line X.env = pure false) : Ds X (.Expr e pos) (sExp we) :=
  ps_wk (ps_expr he hs) fun D σ H ⟨ρ, M, P, er, hr, w, k⟩ => ⟨ρ, M, _, er, hr, w, fun d M1 v H1 p1 e1 d1 h1 => k.nx _ _ _ _ p1 e1 (er.mono e1) h1⟩
theorem ds_ret {e : Expr} {we : DT} {pos : Pos} (he : Dx X e we) : Ds X (.Return (some e) pos) (sRet we) :=
  ps_wk (ps_ret he) fun D σ H ⟨ρ, M, P, er, hr, w, k⟩ => ⟨ρ, M, _, er, hr, w, fun d M1 v H1 p1 e1 d1 h1 => k.rt _ _ _ _ p1 e1 d1 h1⟩
theorem ds_retN {pos : Pos} : Ds X (.Return none pos) sRetN := ps_wk ps_retN fun D σ H ⟨ρ, M, P, er, hr, w, k⟩ => k.rt _ _ _ _ w (.refl _ _) .non hr
theorem ds_pass {pos : Pos} : Ds X (.Pass pos) sNil := ps_wk ps_pass fun D σ H ⟨ρ, M, P, er, hr, w, k⟩ => k.nx _ _ _ _ w (.refl _ _) er hr
theorem ds_brk {pos : Pos} : Ds X (.Break pos) sBrk := ps_wk ps_break fun D σ H ⟨ρ, M, P, er, hr, w, k⟩ => k.bk _ _ _ _ w (.refl _ _) er hr
theorem ds_cnt {pos : Pos} : Ds X (.Continue pos) sCnt := ps_wk ps_continue fun D σ H ⟨ρ, M, P, er, hr, w, k⟩ => k.ct _ _ _ _ w (.refl _ _) er hr
theorem ds_aug {i : Nat} {x : Str} {e : Expr} {we : DT} {op : Operator} {r : D → D → Mh → PQ → Prop} {pos pos' : Pos} (hN : X.N.Nodup) (hi : X.N[i]? = some x) (hx : Loc X.env.scope x) (he : Dx X e we) (ho : OpR X (inplaceOp op) (up2 X.K r)) (hf : X.fn x = true ∨ X.env.scope.names.lookup x = some .local) :
    Ds X (.AugAssign (.Name x pos') op e pos) (sAug i r we) :=
  ps_wk (ps_aug hN hi hx he ho hf) fun D σ H ⟨ρ, M, P, er, hr, w, k⟩ => by
    unfold sAug at w
    cases e0 : slot ρ i with
    | none => rw [e0] at w; exact w.elim
    | some d =>
      rw [e0] at w
      obtain ⟨v, h1, h2⟩ := er.2 i d (slot_get e0)
      exact ⟨v, h1, ρ, M, _, er, hr, w, fun y M1 u H1 p1 e1 d1 hr1 => ⟨_, y, M1, _, h2.mono e1, d1, hr1, p1, fun z M2 v2 H2 p2 e2 d2 hr2 => k.nx _ _ _ _ p2 (e1.trans e2) ((er.mono (e1.trans e2)).set d2) hr2⟩⟩
theorem ds_par {i j : Nat} {x y : Str} {a b : Expr} {wa wb : DT} {px py pt pos : Pos} {kt k2 pt2} (hc : X.calm = true) (hN : X.N.Nodup) (hi : X.N[i]? = some x) (hj : X.N[j]? = some y) (hij : i ≠ j)
    (hx : X.env.scope.names.lookup x = some .local) (hy : X.env.scope.names.lookup y = some .local) (ha : Dx X a wa) (hb : Dx X b wb) (hs1 : starEach (a :: [b]) X.env = (false, eval a X.env) :: starEach [b] X.env) (hs2 : starEach (b :: []) X.env = (false, eval b X.env) :: starEach [] X.env)
    (hw : swappedStores [.Tuple [.Name x px, .Name y py] kt pt] (.Tuple [a, b] k2 pt2) X.env = pure (some [x, y])) :
    Ds X (.Assign [.Tuple [.Name x px, .Name y py] kt pt] (.Tuple [a, b] k2 pt2) pos) (sParN i j wa wb) :=
  ps_wk (ps_par hc hN hi hj hij hx hy (pa_cons ha (pa_cons hb pa_nil hs2) hs1) hw) fun D σ H ⟨ρ, M, P, er, hr, w, k⟩ =>
    ⟨ρ, M, _, er, hr, w, fun x M1 v H1 p1 e1 d1 h1 => ⟨ρ, M1, _, er.mono e1, h1, p1, fun y M2 u H2 p2 e2 d2 h2 => ⟨v, u, rfl, k.nx _ _ _ _ p2 (e1.trans e2) (((er.mono (e1.trans e2)).set (d1.mono e2)).set d2) h2⟩⟩⟩
theorem ds_wh {c : Expr} {body : List Stmt} {wc : DB} {wb : DS} {pos : Pos} (hp : PassesOwn (model X.prog X.w) X.A X.env X.xe) (hc : Dt X c wc) (hb : Dss X body wb) : Ds X (.While c body [] pos) (sWh wc wb) :=
  ps_wk (ps_while hp hc hb) fun D σ H ⟨ρ, M, P, er, hr, ⟨n, w⟩, k⟩ => by
    refine ⟨fun n σ1 H1 => ∃ ρ1 M1, ER X.K H1 ρ1 σ1 ∧ HR X.K H1 M1 ∧ Ext X.K H H1 ∧ whileD wc wb P n ρ1 M1, ⟨n, ρ, M, er, hr, .refl _ _, w⟩, ?_⟩
    rintro n σ1 H1 ⟨ρ1, M1, er1, hr1, x1, w1⟩
    cases n with
    | zero => exact False.elim w1
    | succ n =>
      refine ⟨ρ1, M1, _, er1, hr1, w1, fun t M2 H2 p2 e2 h2 => ?_⟩
      cases t with
      | false => exact k.nx _ _ _ _ p2 (x1.trans e2) (er1.mono e2) h2
      | true =>
        refine ⟨fun σ3 H3 => ∃ ρ3 M3, ER X.K H3 ρ3 σ3 ∧ HR X.K H3 M3 ∧ Ext X.K H H3 ∧ whileD wc wb P n ρ3 M3, fun σ3 H3 h => ⟨n, Nat.lt_succ_self n, h⟩, ρ1, M2, _, er1.mono e2, h2, p2, ?_⟩
        have x2 := x1.trans e2
        exact ⟨fun ρ3 M3 σ3 H3 p3 e3 er3 h3 => ⟨ρ3, M3, er3, h3, x2.trans e3, p3⟩, (k.mono x2).rt, fun ρ3 M3 σ3 H3 p3 e3 er3 h3 => k.nx _ _ _ _ p3 (x2.trans e3) er3 h3, fun ρ3 M3 σ3 H3 p3 e3 er3 h3 => ⟨ρ3, M3, er3, h3, x2.trans e3, p3⟩⟩
theorem ds_for {tg it : Expr} {body : List Stmt} {wi : DI} {g : DG} {wb : DS} {pos : Pos} (hp : PassesOwn (model X.prog X.w) X.A X.env X.xe) (hc : X.calm = true) (hi : Di X tg it wi) (hg : Dg X tg g) (hb : Dss X body wb)
    (hs : ∀ x, foldedSetIterable it X.env x = pure x) : Ds X (.For tg it body [] pos) (sFor wi g wb) :=
  ps_wk (ps_for hp hc hi hg hb hs) fun D σ H ⟨ρ, M, P, er, hr, w, k⟩ => by
    refine ⟨ρ, M, _, er, hr, w, fun items chk M1 H1 J p1 e1 h1 wj => ?_⟩
    refine ⟨fun i m σ2 H2 => ∃ ρ2 M2, ER X.K H2 ρ2 σ2 ∧ HR X.K H2 M2 ∧ Ext X.K H1 H2 ∧ m = items.length - i ∧ i ≤ items.length ∧ forD g wb chk P (items.drop i) ρ2 M2,
      ⟨items.length, ρ, M1, er.mono e1, h1, .refl _ _, rfl, Nat.zero_le _, p1⟩, ?_⟩
    rintro i m σ2 H2 ⟨ρ2, M2, er2, h2, x2, rfl, hi, w2⟩
    by_cases hl : i < items.length
    · have ed : items.drop i = items[i] :: items.drop (i + 1) := List.drop_eq_getElem_cons hl
      have eg : items[i]? = some items[i] := List.getElem?_eq_getElem hl
      rw [ed] at w2
      obtain ⟨c2, w2⟩ := w2
      refine .inr ⟨wj.go i H2 M2 _ x2 h2 c2 eg, fun σ3 H3 => ∃ ρ3 M3, ER X.K H3 ρ3 σ3 ∧ HR X.K H3 M3 ∧ Ext X.K H1 H3 ∧ forD g wb chk P (items.drop (i + 1)) ρ3 M3, ?_, ?_⟩
      · rintro σ3 H3 ⟨ρ3, M3, a, b, c, d⟩
        exact ⟨items.length - (i + 1), by omega, ρ3, M3, a, b, c, rfl, hl, d⟩
      · intro x H3 hy
        obtain ⟨e3, h3, _, d3⟩ := wj.yld i H2 M2 _ x H3 x2 h2 c2 eg hy
        refine ⟨_, ρ2, M2, _, d3, er2.mono e3, h3, w2, fun ρ4 M4 σ4 H4 p4 e4 er4 h4 => ⟨ρ4, M4, _, er4, h4, p4, ?_⟩⟩
        have x4 : Ext X.K H1 H4 := x2.trans (e3.trans e4)
        exact ⟨fun ρ5 M5 σ5 H5 p5 e5 er5 h5 => ⟨ρ5, M5, er5, h5, x4.trans e5, p5⟩, (k.mono (e1.trans x4)).rt, fun ρ5 M5 σ5 H5 p5 e5 er5 h5 => k.nx _ _ _ _ p5 (e1.trans (x4.trans e5)) er5 h5, fun ρ5 M5 σ5 H5 p5 e5 er5 h5 => ⟨ρ5, M5, er5, h5, x4.trans e5, p5⟩⟩
    · have ei : i = items.length := by omega
      rw [ei, List.drop_length] at w2
      exact .inl ⟨wj.stop i H2 M2 x2 h2 w2.1 (by omega), k.nx _ _ _ _ w2.2 (e1.trans x2) er2 h2⟩

/-! ### comprehensions -/
end
inductive Tg where
  | nm (i : Nat)
  | tp (is : List Nat)
def Tg.slots : Tg → List Nat
  | .nm i => [i]
  | .tp is => is
def gNms : List Nat → TGs
  | [] => gNil
  | i :: r => gCons (gName i) (gNms r)
def tgV (K : PySem.W.Frag) : Tg → TG
  | .nm i => gName i
  | .tp is => gTup K is.length (gNms is)
def setsD : List Nat → List D → Ev → Option Ev
  | [], [], ρ => some ρ
  | i :: is, d :: ds, ρ => setsD is ds (ρ.set i (some d))
  | _, _, _ => none
def tgD : Tg → D → Ev → Option Ev
  | .nm i, d, ρ => some (ρ.set i (some d))
  | .tp is, .tup ds, ρ => setsD is ds ρ
  | _, _, _ => none
def wipeD (ρ : Ev) : List Nat → Ev
  | [] => ρ
  | v :: vs => (wipeD ρ vs).set v none
def bYes : DB := fun _ M P => P true M
def lcLoop (p : Addr) (chk : Mh → Prop) (t : Tg) (tt : DB) (te : DT) (ρ : Ev) (P : PQ) : List D → Mh → Prop
  | [], M => chk M ∧ P (.ref p) M
  | d :: ds, M => chk M ∧ match tgD t d ρ with
    | none => False
    | some ρ1 => tt ρ1 M fun k M1 => if k = true then te ρ1 M1 fun y M2 => (match M2 p with
        | some (.lst acc) => acc.length < sizeLine ∧ lcLoop p chk t tt te ρ P ds (mup M2 p (.lst (acc ++ [y])))
        | _ => False) else lcLoop p chk t tt te ρ P ds M1
def eLC (it : DI) (t : Tg) (tt : DB) (te : DT) (vs : List Nat) : DT := fun ρ M P => it ρ M fun items chk M1 => ∀ p, M1 p = none → lcLoop p chk t tt te (wipeD ρ vs) P items (mup M1 p (.lst []))
section
variable {K : PySem.W.Frag} {H : Hp}
theorem ER.unset {ρ : Ev} {σ : St} (e : ER K H ρ σ) (i : Nat) : ER K H (ρ.set i none) (σ.set i none) := by
  refine ⟨by rw [List.length_set, List.length_set, e.1], fun j c q => ?_⟩
  by_cases hj : i = j
  · subst hj
    rw [List.getElem?_set, if_pos rfl] at q
    split at q <;> cases q
  · rw [List.getElem?_set_ne hj] at q
    obtain ⟨w, h1, h2⟩ := e.2 j c q
    exact ⟨w, by rw [List.getElem?_set_ne hj]; exact h1, h2⟩
theorem ER.wipe {ρ : Ev} {σ : St} (e : ER K H ρ σ) : ∀ vs, ER K H (wipeD ρ vs) (wipe σ vs)
  | [] => e
  | v :: vs => (ER.wipe e vs).unset v
theorem wipe_get {j : Nat} : ∀ (vs : List Nat) (σ : St), (wipe σ vs)[j]? = if j ∈ vs then (if j < σ.length then some none else none) else σ[j]?
  | [], σ => by simp [wipe]
  | v :: vs, σ => by
    show ((wipe σ vs).set v none)[j]? = _
    rw [List.getElem?_set, wipe_length, wipe_get vs σ]
    by_cases hv : v = j
    · subst hv
      simp
    · have hv' : ¬ j = v := fun e => hv e.symm
      simp [hv, hv']
theorem wipe_set {i : Nat} {vs : List Nat} {σ : St} {x : Option V} (h : i ∈ vs) : wipe (σ.set i x) vs = wipe σ vs := by
  apply List.ext_getElem?
  intro j
  rw [wipe_get, wipe_get, List.length_set]
  by_cases hj : j ∈ vs
  · rw [if_pos hj, if_pos hj]
  · rw [if_neg hj, if_neg hj, List.getElem?_set_ne]
    intro e
    exact hj (e ▸ h)
theorem wipe_wipe {vs : List Nat} {σ : St} : wipe (wipe σ vs) vs = wipe σ vs := by
  apply List.ext_getElem?
  intro j
  rw [wipe_get, wipe_length, wipe_get]
  by_cases hj : j ∈ vs
  · rw [if_pos hj, if_pos hj]
  · rw [if_neg hj, if_neg hj]
theorem sets_ok : ∀ {is : List Nat} {ds : List D} {vs : List V} {ρ ρ1 : Ev} {σ : St} {own : List Nat} {Q : St → Hp → Prop}, setsD is ds ρ = some ρ1 → DRs K H ds vs → ER K H ρ σ → (∀ i ∈ is, i ∈ own) →
    (∀ σ1, ER K H ρ1 σ1 → wipe σ1 own = wipe σ own → Q σ1 H) → is.length = vs.length ∧ gNms is vs σ H Q
  | [], [], _, ρ, ρ1, σ, own, Q, e, .nil, er, _, k => by
    cases e
    exact ⟨rfl, rfl, k σ er rfl⟩
  | i :: is, d :: ds, _, ρ, ρ1, σ, own, Q, e, .cons h r, er, ho, k => by
    obtain ⟨h1, h2⟩ := sets_ok (Q := Q) (show setsD is ds (ρ.set i (some d)) = some ρ1 from e) r (er.set h) (fun j hj => ho j (List.mem_cons_of_mem _ hj)) fun σ1 er1 hw => k σ1 er1 (hw.trans (wipe_set (ho i List.mem_cons_self)))
    exact ⟨by rw [List.length_cons, List.length_cons, h1], _, _, rfl, h2⟩
theorem tg_ok {t : Tg} {d : D} {v : V} {ρ ρ1 : Ev} {σ : St} {own : List Nat} {Q : St → Hp → Prop} (e : tgD t d ρ = some ρ1) (dv : DR K H d v) (er : ER K H ρ σ) (ho : ∀ i ∈ t.slots, i ∈ own)
    (k : ∀ σ1, ER K H ρ1 σ1 → wipe σ1 own = wipe σ own → Q σ1 H) : tgV K t v σ H Q := by
  cases t with
  | nm i =>
    cases e
    exact k _ (er.set dv) (wipe_set (ho i (List.mem_singleton.mpr rfl)))
  | tp is =>
    cases dv <;> first | (cases (show none = some ρ1 from e); done) | skip
    rename_i s r
    obtain ⟨h1, h2⟩ := sets_ok (Q := Q) (show setsD is _ ρ = some ρ1 from e) r er ho k
    exact ⟨_, _, rfl, SqT.of s, h1.symm, h2⟩
/-- a comprehension's reading -/
theorem lc_ok {wi : DI} {t : Tg} {tt : DB} {te : DT} {own : List Nat} {σ : St} {Q : VK} (ho : ∀ i ∈ t.slots, i ∈ own) (h : up K (eLC wi t tt te own) σ H Q) : tLc (upI K wi) (tgV K t) (upB K tt) (up K te) own σ H Q := by
  obtain ⟨ρ, M, P, er, hr, w, k⟩ := h
  refine ⟨ρ, M, _, er, hr, w, fun items chk M1 H1 J p1 e1 h1 wj D nD => ?_⟩
  refine ⟨fun i m H2 => ∃ M2, HR K H2 M2 ∧ Ext K H1 H2 ∧ m = items.length - i ∧ i ≤ items.length ∧ lcLoop D chk t tt te (wipeD ρ own) P (items.drop i) M2,
    ⟨items.length, _, h1.new nD .nil, .fresh nD, rfl, Nat.zero_le _, p1 D (h1.free nD)⟩, ?_⟩
  rintro i m H2 ⟨M2, h2, x2, rfl, hi, w2⟩
  by_cases hl : i < items.length
  · have ed : items.drop i = items[i] :: items.drop (i + 1) := List.drop_eq_getElem_cons hl
    have eg : items[i]? = some items[i] := List.getElem?_eq_getElem hl
    rw [ed] at w2
    obtain ⟨c2, w2⟩ := w2
    refine .inr ⟨wj.go i H2 M2 _ x2 h2 c2 eg, fun H3 => ∃ M3, HR K H3 M3 ∧ Ext K H1 H3 ∧ lcLoop D chk t tt te (wipeD ρ own) P (items.drop (i + 1)) M3, ?_, ?_⟩
    · rintro H3 ⟨M3, a, b, c⟩
      exact ⟨items.length - (i + 1), by omega, M3, a, b, rfl, hl, c⟩
    · intro x H3 hy
      obtain ⟨e3, h3, _, d3⟩ := wj.yld i H2 M2 _ x H3 x2 h2 c2 eg hy
      cases et : tgD t items[i] (wipeD ρ own) with
      | none => simp only [et] at w2
      | some ρ1 =>
        simp only [et] at w2
        have er3 : ER K H3 (wipeD ρ own) (wipe σ own) := (er.mono (e1.trans (x2.trans e3))).wipe own
        refine tg_ok et d3 er3 ho fun σ4 er4 hw4 => ⟨hw4.trans wipe_wipe, ρ1, M2, _, er4, h3, w2, fun b M5 H5 p5 e5 h5 => ?_⟩
        cases b with
        | false => exact ⟨M5, h5, x2.trans (e3.trans e5), p5⟩
        | true =>
          refine ⟨ρ1, M5, _, er4.mono e5, h5, p5, fun y M6 u H6 p6 e6 d6 h6 => ?_⟩
          cases em : M6 D with
          | none => simp only [em] at p6
          | some o =>
            simp only [em] at p6
            cases o with
            | dk _ => exact False.elim p6
            | dt _ => exact False.elim p6
            | lst acc =>
              simp only at p6
              obtain ⟨vs, q, r⟩ := h6 _ _ em
              exact ⟨vs, q, by rw [← r.length]; exact p6.1, _, h6.write q (r.append (.one d6)), x2.trans (e3.trans (e5.trans (e6.trans (.lst q)))), p6.2⟩
  · have ei : i = items.length := by omega
    rw [ei, List.drop_length] at w2
    exact .inl ⟨wj.stop i H2 M2 x2 h2 w2.1 (by omega), k _ _ _ _ w2.2 (e1.trans x2) (.ref D) h2⟩
end
section
variable {X : Cx}
/-- the parts of a comprehension -/
structure LcOk (X : Cx) (elt tg : Expr) (ifs : List Expr) (scope : Scope) (t : Tg) (tt : DB) (te : DT) : Prop where
  tg : ∀ (s : Shared) (H : Hp) (C : Addr) (cl : List (Str × Addr)) (fp : List Addr), PG (X.blk s H scope (compEnvC scope cl C X.env) fp) tg (tgV X.K t)
  ts : ∀ (s : Shared) (H : Hp) (C : Addr) (cl : List (Str × Addr)) (fp : List Addr), PTs (X.blk s H scope (compEnvC scope cl C X.env) fp) ifs (upB X.K tt)
  el : ∀ (s : Shared) (H : Hp) (C : Addr) (cl : List (Str × Addr)) (fp : List Addr), PE (X.blk s H scope (compEnvC scope cl C X.env) fp) elt (up X.K te)
theorem dx_lc {elt tg iter : Expr} {ifs : List Expr} {scope : Scope} {own : List (Str × Nat)} {pos : Pos} {wi : DI} {t : Tg} {tt : DB} {te : DT} (hc : X.calm = true) (hN : X.N.Nodup) (hi : Di X tg iter wi) (ok : BlkOk X.N X.env.scope scope own)
    (L : LcOk X elt tg ifs scope t tt te) (ho : ∀ i ∈ t.slots, i ∈ own.map (·.2)) (hs : ∀ x, foldedSetIterable iter X.env x = pure x) : Dx X (.ListComp elt [⟨tg, iter, ifs, 0⟩] scope pos) (eLC wi t tt te (own.map (·.2))) :=
  pe_wk (pe_lc hc hN hi ok L.tg L.ts L.el hs) fun σ H Q h => lc_ok ho h
theorem ds_lc {i : Nat} {y : Str} {py : Pos} {elt tg iter : Expr} {ifs : List Expr} {scope : Scope} {own : List (Str × Nat)} {pos spos : Pos} {wi : DI} {t : Tg} {tt : DB} {te : DT} (hc : X.calm = true) (hN : X.N.Nodup) (hy : X.N[i]? = some y) (hyl : X.env.scope.names.lookup y = some .local)
    (hsw : swapsWith (.ListComp elt [⟨tg, iter, ifs, 0⟩] scope pos) (some (.Name y py)) spos.line X.env = pure true) (hi : Di X tg iter wi) (ok : BlkOk X.N X.env.scope scope own)
    (L : LcOk X elt tg ifs scope t tt te) (ho : ∀ i ∈ t.slots, i ∈ own.map (·.2)) (hs : ∀ x, foldedSetIterable iter X.env x = pure x) :
    Ds X (.Assign [.Name y py] (.ListComp elt [⟨tg, iter, ifs, 0⟩] scope pos) spos) (sAsg (eLC wi t tt te (own.map (·.2))) (gN i)) :=
  ps_wk (ps_setLc hc hN hy hyl hsw hi ok L.tg L.ts L.el hs) fun D σ H ⟨ρ, M, P, er, hr, w, k⟩ =>
    lc_ok ho ⟨ρ, M, _, er, hr, w, fun d M1 v H1 p1 e1 d1 h1 => k.nx _ _ _ _ p1 e1 ((er.mono e1).set d1) h1⟩
end
end DL
/-! DLf: from the syntax to its transformer, and that this is right. -/
namespace DL
open PySem PySem.Spec L2
open PyProof.Rows hiding St

/-- what is known where a piece of code runs -/
structure Gm where
  N : List Str
  sc : Scope
  st : Str → Bool
  fns : List (Str × Nat × DSp)
  glb : List (Str × D)

def bltNames : List Str := ["len", "int", "str", "tuple", "list", "sum", "abs", "max", "min", "range", "isinstance", "bool", "dict", "sorted", "zip", "enumerate", "reversed", "repr"]
/-- the def of this name that takes so many -/
def fnAt (l : List (Str × Nat × DSp)) (x : Str) (n : Nat) : Option DSp := (l.find? fun e => e.1 == x && e.2.1 == n).map (·.2.2)
structure XOk (X : Cx) (G : Gm) : Prop where
  nd : X.N.Nodup
  hN : X.N = G.N
  sc : X.env.scope = G.sc
  calm : X.calm = true
  hu : X.A.units + 65 < cLine
  pass : PassesOwn (model X.prog X.w) X.A X.env X.xe
  fns : ∀ x n sp, fnAt G.fns x n = some sp → CallOk X x n sp
  glb : ∀ x d, G.glb.lookup x = some d → ∃ u v, X.mg x = some u ∧ RelV v u ∧ ∀ H, DR X.K H d v
  blt : ∀ x ∈ bltNames, X.mg x = none
  st : ∀ x, G.st x = true → Loc X.env.scope x ∧ (X.fn x = true ∨ X.env.scope.names.lookup x = some .local)

def ixOf : List Str → Str → Option Nat
  | [], _ => none
  | y :: r, x => if y == x then some 0 else (ixOf r x).map (· + 1)
theorem ixOf_get : ∀ {N : List Str} {x : Str} {i : Nat}, ixOf N x = some i → N[i]? = some x
  | [], _, _, h => by cases h
  | y :: r, x, i, h => by
    unfold ixOf at h
    split at h
    · cases h
      rename_i e
      rw [eq_of_beq e]; rfl
    · obtain ⟨j, e, rfl⟩ := Option.map_eq_some_iff.mp h
      simpa using ixOf_get e
def okName (x : Str) : Bool := !(x == ("__debug__" : Str)) && !(x == ("__classdict__" : Str))
def visB (sc : Scope) (x : Str) : Bool := match sc.names.lookup x with
  | some .local => true | some .cell => true | some .free => true
  | _ => false
theorem vis_of {sc : Scope} {x : Str} (h : visB sc x = true) : Vis sc x := by
  unfold visB at h
  split at h
  · exact .inl (by assumption)
  · exact .inr (.inl (by assumption))
  · exact .inr (.inr (by assumption))
  · cases h
def glB (sc : Scope) (x : Str) : Bool := match sc.names.lookup x with
  | some .globalImplicit => true
  | _ => false
theorem gl_of {X : Cx} {G : Gm} (O : XOk X G) {x : Str} (h : glB G.sc x = true) : Gl X x := by
  unfold glB at h
  split at h
  · show X.env.scope.names.lookup x = _
    rw [O.sc]; assumption
  · cases h
def starB : Expr → Bool
  | .Starred .. => true
  | _ => false
theorem star_of {e : Expr} {es : List Expr} {env : Env} (h : starB e = false) : starEach (e :: es) env = (false, eval e env) :: starEach es env := by
  cases e <;> first | rfl | cases h
theorem stars_of {pos : Pos} {env : Env} : ∀ {es : List Expr}, es.all (fun e => !starB e) = true → (backTo pos (starEach es env)).any (·.1) = false
  | [], _ => rfl
  | e :: es, h => by
    rw [List.all_cons, Bool.and_eq_true] at h
    rw [star_of (by simpa using h.1)]
    show (false || (backTo pos (starEach es env)).any (·.1)) = false
    rw [stars_of h.2]; rfl
theorem stars_all {pos : Pos} {env : Env} : ∀ {es : List Expr}, es.all (fun e => !starB e) = true → (backTo pos (starEach es env)).all (fun x => !x.1) = true
  | [], _ => rfl
  | e :: es, h => by
    rw [List.all_cons, Bool.and_eq_true] at h
    rw [star_of (by simpa using h.1)]
    show (true && (backTo pos (starEach es env)).all (fun x => !x.1)) = true
    rw [stars_all h.2]; rfl
def sliceB : Expr → Bool
  | .Slice .. => true
  | _ => false
theorem plain_of {b : Expr} (h : sliceB b = false) : PlainIx b := by
  intro o i
  cases b <;> first | rfl | cases h
def setB : Expr → Bool
  | .Set .. => true
  | _ => false
theorem folded_of {e : Expr} {env : Env} (h : setB e = false) : ∀ x, foldedSetIterable e env x = pure x := by
  intro x
  cases e <;> first | rfl | cases h
theorem marks_of {op : CmpOp} {e : Expr} (h : setB e = false) : behindInMarks op e = false := by
  cases e <;> first | rfl | cases h
def compB : Expr → Bool
  | .ListComp .. => true | .SetComp .. => true | .DictComp .. => true
  | _ => false
theorem swaps_of {e : Expr} {t : Option Expr} {l : Nat} {env : Env} (h : compB e = false) : swapsWith e t l env = pure false := by
  cases e <;> first | rfl | cases h
/-- a test that is its value's truth -/
def truB : Expr → Bool
  | .UnaryOp .. => false | .BoolOp .. => false | .IfExp .. => false | .Compare .. => false
  | _ => true
theorem tru_plain {e : Expr} {env : Env} (h : truB e = true) : ∀ whole, isTrue e env whole = (do let v ← whole; standAt e.pos; holding [v] (truthy v)) := by
  intro whole
  cases e <;> first | rfl | cases h
def superB : Expr → Bool
  | .Call .. => true
  | _ => false
theorem base_of {o : Expr} {m : Str} {env : Env} {t : Sem Value} (h : superB o = false) : attributeBase o m env t = t := by
  cases o <;> first | rfl | cases h

def binR : Operator → Option (D → D → Mh → PQ → Prop)
  | .Add => some addD | .Sub => some subD | .Mult => some mulD | .FloorDiv => some divD | .Mod => some modD | .Pow => some powD
  | _ => none
def augR : Operator → Option (D → D → Mh → PQ → Prop)
  | .Add => some iaddD | .Sub => some subD
  | _ => none
def cmpR : CmpOp → Option Cmp
  | .Eq => some eqD | .NotEq => some neD | .Lt => some ltD | .LtE => some leD | .Gt => some gtD | .GtE => some geD | .In => some inD | .NotIn => some ninD | .Is => some isD | .IsNot => some isnD
def fnR (x : Str) : Option (Bool × String × DSp) :=
  if x == "len" then some (true, "len", lenD) else if x == "int" then some (false, "int", intD) else if x == "str" then some (false, "str", strD)
  else if x == "tuple" then some (false, "tuple", tupleD) else if x == "list" then some (false, "list", listD) else if x == "sum" then some (true, "sum", sumD)
  else if x == "abs" then some (true, "abs", absD) else if x == "max" then some (true, "max", maxD) else if x == "min" then some (true, "min", minD) else if x == "sorted" then some (true, "sorted", sortedD) else none
def tyR (x : Str) : Option String :=
  if x == "int" then some "int" else if x == "str" then some "str" else if x == "tuple" then some "tuple" else if x == "list" then some "list" else if x == "bool" then some "bool" else if x == "dict" then some "dict" else none
def mtR (x : Str) : Option (String × (D → List D → Mh → PQ → Prop)) :=
  if x == "append" then some ("list", appendD) else if x == "extend" then some ("list", extendD) else if x == "pop" then some ("list", popD) else if x == "join" then some ("str", joinD) else none

def andE : BoolOp → DT → DT → DT
  | .And => eAnd
  | .Or => eOr
def andB : BoolOp → DB → DB → DB
  | .And => bAnd
  | .Or => bOr
/-- the recursion, given from outside -/
structure Rc where
  e : Gm → Expr → Option DT
  b : Gm → Expr → Option DB
section
variable (r : Rc)
def dAs (G : Gm) : List Expr → Option DA
  | [] => some aNil
  | e :: es => if starB e then none else match r.e G e, dAs G es with
    | some w, some u => some (aCons w u)
    | _, _ => none
def dOpt (G : Gm) : Option Expr → Option (Option DT)
  | none => some none
  | some e => (r.e G e).map some
def dIt (G : Gm) (it : Expr) : Option DI := match it with
  | .Call (.Name f _) [a] [] _ => if f == "range" then (if glB G.sc f && !starB a then (dAs r G [a]).map iRg1 else none) else (r.e G it).map iSeq
  | .Call (.Name f _) [a, b] [] _ => if f == "range" then (if glB G.sc f && !starB a && !starB b then (dAs r G [a, b]).map iRg2 else none) else (r.e G it).map iSeq
  | .Call (.Name f _) [a, b, c] [] _ => if f == "range" then (if glB G.sc f && !starB a && !starB b && !starB c then (dAs r G [a, b, c]).map iRg3 else none) else (r.e G it).map iSeq
  | it => (r.e G it).map iSeq
def ownOf (N : List Str) (scope : Scope) : List (Str × Nat) := scope.names.filterMap fun (x, k) => if k == .local || k == .cell then (ixOf N x).map (x, ·) else none
def tgNms (N : List Str) (st : Str → Bool) : List Expr → Option (List Nat)
  | [] => some []
  | .Name x _ :: r => if st x then match ixOf N x, tgNms N st r with
    | some i, some is => some (i :: is)
    | _, _ => none else none
  | _ => none
def tgOf (N : List Str) (st : Str → Bool) : Expr → Option Tg
  | .Name x _ => if st x then (ixOf N x).map .nm else none
  | .Tuple es _ _ => (tgNms N st es).map .tp
  | _ => none
def Gm.blk (G : Gm) (scope : Scope) : Gm := { G with sc := relS scope G.sc, st := fun x => match scope.names.lookup x with | some .local => true | some .cell => true | _ => false }
def dTs (G : Gm) : List Expr → Option DB
  | [] => some bYes
  | [c] => r.b G c
  | _ => none
def dLc (G : Gm) (elt tg it : Expr) (ifs : List Expr) (scope : Scope) : Option DT :=
  match dIt r G it, tgOf G.N (G.blk scope).st tg, dTs r (G.blk scope) ifs, r.e (G.blk scope) elt with
  | some wi, some t, some tt, some te =>
    if blkC G.N G.sc scope (ownOf G.N scope) && t.slots.all (fun i => (ownOf G.N scope).map (·.2) |>.contains i) && !setB it then some (eLC wi t tt te ((ownOf G.N scope).map (·.2))) else none
  | _, _, _, _ => none
/-- special forms -/
def dX (G : Gm) : Expr → Option DT
  | .Dict [] [] _ => some eDct
  | .Dict [some k] [v] _ => match r.e G k, r.e G v with
    | some a, some b => some (eD1 a b)
    | _, _ => none
  | .Call (.Name f _) [.Call (.Attribute o m apos) [] [] cpos] [] _ => if (f == "list") && (m == "keys") && glB G.sc f && !superB o && (apos.endLine == cpos.line) then (r.e G o).map eKs else none
  | .Call (.Name f _) [.Call (.Name g _) [e] [] _] [] _ => if (f == "list") && (g == "reversed") && glB G.sc f && glB G.sc g && !starB e then (r.e G e).map eRv
    else if (f == "tuple") && (g == "reversed") && glB G.sc f && glB G.sc g && !starB e then (r.e G e).map eTr else none
  | _ => none
def dE0 (G : Gm) : Expr → Option DT
  | .Name x _ => if okName x then (if visB G.sc x then (ixOf G.N x).map eVar else if glB G.sc x then (G.glb.lookup x).map eC else none) else none
  | .Constant c _ _ => match c with
    | .int i => some (eC (.int i)) | .bool b => some (eC (.bl b)) | .none => some (eC .non) | .str x => some (eC (.str x))
    | _ => none
  | .BinOp a op b _ => match binR op, r.e G a, r.e G b with
    | some f, some x, some y => some (eBin f x y)
    | _, _, _ => none
  | .UnaryOp op a _ => match op with
    | .USub => (r.e G a).map (eUn negD)
    | .Not => (r.e G a).map eNot
    | _ => none
  | .Compare a [op] [b] _ => if setB b then none else match cmpR op, r.e G a, r.e G b with
    | some f, some x, some y => some (eCmp f x y)
    | _, _, _ => none
  | .BoolOp _ [a] _ => r.e G a
  | .BoolOp op (a :: b :: rest) pos => match r.e G a, r.e G (.BoolOp op (b :: rest) pos) with
    | some x, some y => some (andE op x y)
    | _, _ => none
  | .IfExp c a b _ => match r.b G c, r.e G a, r.e G b with
    | some z, some x, some y => some (eIf z x y)
    | _, _, _ => none
  | .Tuple es _ _ => (dAs r G es).map eTup
  | .List es _ => (dAs r G es).map eLst
  | .Subscript a (.Slice lo hi none _) _ => match r.e G a, dOpt r G lo, dOpt r G hi with
    | some x, some l, some h => some (eSl x l h)
    | _, _, _ => none
  | .Subscript a b _ => if sliceB b then none else match r.e G a, r.e G b with
    | some x, some y => some (eBin ixD x y)
    | _, _ => none
  | .Call (.Name f _) args [] _ => if glB G.sc f then (match fnAt G.fns f args.length with
      | some sp => if args.all (fun e => !starB e) then (dAs r G args).map (eFn args.length sp) else none
      | none => if f == "isinstance" then (match args with
          | [e, .Name t _] => if starB e || !glB G.sc t then none else match tyR t, r.e G e with
            | some T, some w => some (eIsi T w)
            | _, _ => none
          | _ => none)
        else match fnR f, args with
          | some (_, _, sp), _ :: _ => if args.all (fun e => !starB e) then (dAs r G args).map (eCall sp) else none
          | _, _ => none) else none
  | .Call (.Attribute o m apos) args [] cpos => if (apos.endLine == cpos.line) && !superB o && args.all (fun e => !starB e) && decide (args.length < 30) then (match mtR m, r.e G o, dAs r G args with
      | some (T, f), some w, some a => some (eMt T f w a)
      | _, _, _ => none) else none
  | .ListComp elt [⟨tg, it, ifs, 0⟩] scope _ => dLc r G elt tg it ifs scope
  | _ => none
def dE1 (G : Gm) (e : Expr) : Option DT := match dX r G e with
  | some w => some w
  | none => dE0 r G e
def dB1 (G : Gm) : Expr → Option DB
  | .UnaryOp .Not a _ => (r.b G a).map bNot
  | .Compare a [op] [b] _ => if setB b then none else match cmpR op, r.e G a, r.e G b with
    | some f, some x, some y => some (bCmp f x y)
    | _, _, _ => none
  | .BoolOp _ [a] _ => r.b G a
  | .BoolOp op (a :: b :: rest) pos => match r.b G a, r.b G (.BoolOp op (b :: rest) pos) with
    | some x, some y => some (andB op x y)
    | _, _ => none
  | e => if truB e then (r.e G e).map bTru else none
end
def dR : Nat → Rc
  | 0 => ⟨fun _ _ => none, fun _ _ => none⟩
  | n + 1 => ⟨dE1 (dR n), dB1 (dR n)⟩

/-! ### it is right -/
/-- tests: a row of and, or stands also where 'whole' is another -/
structure RcOk (r : Rc) : Prop where
  e : ∀ (X : Cx) (G : Gm) (e : Expr) (w : DT), XOk X G → r.e G e = some w → Dx X e w
  b : ∀ (X : Cx) (G : Gm) (e : Expr) (w : DB), XOk X G → r.b G e = some w → Dt X e w
  w : ∀ (X : Cx) (G : Gm) (op : BoolOp) (es : List Expr) (pos : Pos) (w : DB), XOk X G → r.b G (.BoolOp op es pos) = some w → Dw X (.BoolOp op es pos) w
section
variable {X : Cx} {G : Gm} {r : Rc}
theorem as_ok (R : RcOk r) (O : XOk X G) : ∀ {es : List Expr} {w : DA}, dAs r G es = some w → Da X es w
  | [], _, h => by cases h; exact da_nil
  | e :: es, w, h => by
    unfold dAs at h
    split at h
    · cases h
    · rename_i hs
      split at h
      · cases h
        rename_i h1 h2
        exact da_cons (R.e X G _ _ O h1) (as_ok R O h2) (star_of (by simpa using hs))
      · cases h
theorem opt_ok (R : RcOk r) (O : XOk X G) : ∀ {o : Option Expr} {w : Option DT}, dOpt r G o = some w → PO X o (upO X.K (oPart w))
  | none, _, h => by cases h; exact do_none
  | some e, w, h => by
    obtain ⟨u, h1, rfl⟩ := Option.map_eq_some_iff.mp h
    exact do_some (R.e X G _ _ O h1)
theorem seq_ok (R : RcOk r) (O : XOk X G) {tg it : Expr} {w : DI} (h : (r.e G it).map iSeq = some w) : Di X tg it w := by
  obtain ⟨u, h1, rfl⟩ := Option.map_eq_some_iff.mp h
  exact di_seq (R.e X G _ _ O h1)
theorem it_ok (R : RcOk r) (O : XOk X G) {tg it : Expr} {w : DI} (h : dIt r G it = some w) : Di X tg it w := by
  unfold dIt at h
  split at h
  · rename_i f p a pos
    by_cases hf : (f == "range") = true
    · rw [if_pos hf] at h
      have ef : f = "range" := eq_of_beq hf
      subst ef
      split at h
      · rename_i hc
        simp only [Bool.and_eq_true, Bool.not_eq_true'] at hc
        obtain ⟨u, h1, rfl⟩ := Option.map_eq_some_iff.mp h
        exact di_rg1 (gl_of O hc.1) (O.blt _ (by decide +kernel)) (as_ok R O h1) (by rw [star_of hc.2]; rfl)
      · cases h
    · rw [if_neg hf] at h
      exact seq_ok R O h
  · rename_i f p a b pos
    by_cases hf : (f == "range") = true
    · rw [if_pos hf] at h
      have ef : f = "range" := eq_of_beq hf
      subst ef
      split at h
      · rename_i hc
        simp only [Bool.and_eq_true, Bool.not_eq_true'] at hc
        obtain ⟨u, h1, rfl⟩ := Option.map_eq_some_iff.mp h
        exact di_rg2 (gl_of O hc.1.1) (O.blt _ (by decide +kernel)) (as_ok R O h1) (by rw [star_of hc.1.2, star_of hc.2]; rfl) (by rw [star_of hc.2]; rfl)
      · cases h
    · rw [if_neg hf] at h
      exact seq_ok R O h
  · rename_i f p a b c pos
    by_cases hf : (f == "range") = true
    · rw [if_pos hf] at h
      have ef : f = "range" := eq_of_beq hf
      subst ef
      split at h
      · rename_i hc
        simp only [Bool.and_eq_true, Bool.not_eq_true'] at hc
        obtain ⟨u, h1, rfl⟩ := Option.map_eq_some_iff.mp h
        exact di_rg3 (gl_of O hc.1.1.1) (O.blt _ (by decide +kernel)) (as_ok R O h1) (by rw [star_of hc.1.1.2]) (by rw [star_of hc.1.2, star_of hc.2]; rfl)
      · cases h
    · rw [if_neg hf] at h
      exact seq_ok R O h
  · exact seq_ok R O h
end

section
variable {X : Cx} {G : Gm} {r : Rc}
theorem blk_ok (O : XOk X G) {scope : Scope} {own : List (Str × Nat)} (ok : BlkOk X.N X.env.scope scope own) (s : Shared) (H : Hp) (C : Addr) (cl : List (Str × Addr)) (fp : List Addr) :
    XOk (X.blk s H scope (compEnvC scope cl C X.env) fp) (G.blk scope) where
  nd := O.nd
  hN := O.hN
  sc := by
    show relS scope X.env.scope = relS scope G.sc
    rw [O.sc]
  calm := O.calm
  hu := O.hu
  pass := PassesOwn.never
  fns := fun x n sp h => ⟨(O.fns x n sp h).dbg, (O.fns x n sp h).ok⟩
  glb := O.glb
  blt := O.blt
  st := fun x h => by
    have h : (match scope.names.lookup x with | some .local => true | some .cell => true | _ => false) = true := h
    split at h
    · rename_i e
      have e2 := lookup_relS_keep (sc := X.env.scope) (by decide) e
      exact ⟨.inl e2, .inr e2⟩
    · rename_i e
      have e2 := lookup_relS_keep (sc := X.env.scope) (by decide) e
      exact ⟨.inr e2, .inl (by show (scope.names.lookup x == some NameKind.cell) = true; rw [e]; rfl)⟩
    · cases h
theorem nms_ok (O : XOk X G) {st : Str → Bool} (hst : st = G.st) : ∀ {es : List Expr} {is : List Nat}, tgNms G.N st es = some is → PGs X es (gNms is) ∧ (assignEach es X.env).length = is.length ∧ (assignEach es X.env).findIdx? (·.1) = none
  | [], _, h => by cases h; exact ⟨pgs_nil, rfl, rfl⟩
  | e :: es, is, h => by
    cases e with
    | Name x p =>
      unfold tgNms at h
      split at h
      · rename_i hx
        split at h
        · cases h
          rename_i h1 h2
          obtain ⟨g1, g2, g3⟩ := nms_ok O hst h2
          rw [hst] at hx
          obtain ⟨hl, hf⟩ := O.st x hx
          refine ⟨pgs_cons (pg_name O.nd (by rw [O.hN]; exact ixOf_get h1) hl hf) g1 (by rfl), by show (assignEach es X.env).length + 1 = _; rw [g2]; rfl, ?_⟩
          show ((false, _) :: assignEach es X.env).findIdx? (·.1) = none
          rw [List.findIdx?_cons, g3]; rfl
        · cases h
      · cases h
    | _ => cases h
theorem tgv_ok (O : XOk X G) {tg : Expr} {t : Tg} (h : tgOf G.N G.st tg = some t) : PG X tg (tgV X.K t) := by
  cases tg with
  | Name x p =>
    have h : (if G.st x then (ixOf G.N x).map Tg.nm else none) = some t := h
    split at h
    · rename_i hx
      obtain ⟨i, h1, rfl⟩ := Option.map_eq_some_iff.mp h
      obtain ⟨hl, hf⟩ := O.st x hx
      exact pg_name O.nd (by rw [O.hN]; exact ixOf_get h1) hl hf
    · cases h
  | Tuple es k p =>
    have h : (tgNms G.N G.st es).map Tg.tp = some t := h
    obtain ⟨is, h1, rfl⟩ := Option.map_eq_some_iff.mp h
    obtain ⟨g1, g2, g3⟩ := nms_ok O rfl h1
    exact pg_tup O.calm g1 g2 g3
  | _ => cases h
theorem ts_ok (R : RcOk r) (O : XOk X G) {ifs : List Expr} {w : DB} (h : dTs r G ifs = some w) : PTs X ifs (upB X.K w) := by
  match ifs with
  | [] =>
    cases h
    exact ⟨fun pins s σ H Q I ⟨ρ, M, P, er, hr, w, k⟩ => pts_nil.run pins s σ H Q I (k _ M H w (.refl _ _) hr)⟩
  | [c] => exact pts_one (R.b X G _ _ O h)
  | _ :: _ :: _ => cases h
theorem lcp_ok (R : RcOk r) (O : XOk X G) {elt tg it : Expr} {ifs : List Expr} {scope : Scope} {w : DT} (h : dLc r G elt tg it ifs scope = some w) :
    ∃ wi t tt te, w = eLC wi t tt te ((ownOf G.N scope).map (·.2)) ∧ Di X tg it wi ∧ BlkOk X.N X.env.scope scope (ownOf G.N scope) ∧ LcOk X elt tg ifs scope t tt te ∧ (∀ i ∈ t.slots, i ∈ (ownOf G.N scope).map (·.2)) ∧ setB it = false := by
  unfold dLc at h
  split at h
  · rename_i wi t tt te h1 h2 h3 h4
    split at h
    · rename_i hc
      cases h
      simp only [Bool.and_eq_true, List.all_eq_true, Bool.not_eq_true'] at hc
      have ok : BlkOk X.N X.env.scope scope (ownOf G.N scope) := by
        rw [O.hN, O.sc]; exact blkOk_by hc.1.1
      have O' := fun s H C cl fp => blk_ok O ok s H C cl fp
      refine ⟨wi, t, tt, te, rfl, it_ok R O h1, ok, ⟨fun s H C cl fp => ?_, fun s H C cl fp => ts_ok R (O' s H C cl fp) h3, fun s H C cl fp => R.e _ _ _ _ (O' s H C cl fp) h4⟩, fun i hi => by simpa using hc.1.2 i hi, hc.2⟩
      exact tgv_ok (O' s H C cl fp) h2
    · cases h
  · cases h
theorem bin_ok (O : XOk X G) {op : Operator} {f : D → D → Mh → PQ → Prop} (h : binR op = some f) : OpR X (binaryOp op) (up2 X.K f) := by
  cases op <;> first | (cases h; done) | skip
  all_goals (cases h)
  all_goals first | exact od_add | exact od_sub | exact od_mul | exact od_mod | exact od_pow | exact od_div
theorem aug_ok {op : Operator} {f : D → D → Mh → PQ → Prop} (h : augR op = some f) : OpR X (inplaceOp op) (up2 X.K f) := by
  cases op <;> first | (cases h; done) | skip
  all_goals (cases h)
  all_goals first | exact iod_add | exact iod_sub
theorem cmp_ok (O : XOk X G) {op : CmpOp} {f : Cmp} (h : cmpR op = some f) : OpR X (compareOp op) (upC X.K f) := by
  have hu : X.A.units + 64 < cLine := Nat.lt_of_succ_lt O.hu
  cases op <;> cases h
  all_goals first | exact cd_eq hu | exact cd_ne hu | exact cd_lt | exact cd_le | exact cd_gt | exact cd_ge | exact cd_is | exact cd_isn | exact cd_in O.hu | exact cd_nin O.hu
theorem fnR_ok (O : XOk X G) {f : Str} {b : Bool} {id : String} {sp : DSp} {e : Expr} {es : List Expr} {wa : DA} {p pos : Pos} (h : fnR f = some (b, id, sp)) (hg : Gl X f) (ha : Da X (e :: es) wa)
    (he : starEach (e :: es) X.env = (false, eval e X.env) :: starEach es X.env) (hpl : (backTo pos (starEach es X.env)).any (·.1) = false) : Dx X (.Call (.Name f p) (e :: es) [] pos) (eCall sp wa) := by
  unfold fnR at h
  have eqf : ∀ {z : Str}, (f == z) = true → f = z := fun h => eq_of_beq h
  by_cases c1 : (f == "len") = true
  · rw [if_pos c1] at h; cases h; have := eqf c1; subst this
    exact dx_fb fd_len hg (O.blt _ (by decide +kernel)) (by decide +kernel) ha (by decide +kernel) (by decide +kernel) he hpl
  rw [if_neg c1] at h
  by_cases c2 : (f == "int") = true
  · rw [if_pos c2] at h; cases h; have := eqf c2; subst this
    exact dx_ft fd_int hg (O.blt _ (by decide +kernel)) (by decide +kernel) ha (by decide +kernel) (by decide +kernel) he hpl
  rw [if_neg c2] at h
  by_cases c3 : (f == "str") = true
  · rw [if_pos c3] at h; cases h; have := eqf c3; subst this
    exact dx_ft fd_str hg (O.blt _ (by decide +kernel)) (by decide +kernel) ha (by decide +kernel) (by decide +kernel) he hpl
  rw [if_neg c3] at h
  by_cases c4 : (f == "tuple") = true
  · rw [if_pos c4] at h; cases h; have := eqf c4; subst this
    exact dx_ft fd_tuple hg (O.blt _ (by decide +kernel)) (by decide +kernel) ha (by decide +kernel) (by decide +kernel) he hpl
  rw [if_neg c4] at h
  by_cases c5 : (f == "list") = true
  · rw [if_pos c5] at h; cases h; have := eqf c5; subst this
    exact dx_ft fd_list hg (O.blt _ (by decide +kernel)) (by decide +kernel) ha (by decide +kernel) (by decide +kernel) he hpl
  rw [if_neg c5] at h
  by_cases c6 : (f == "sum") = true
  · rw [if_pos c6] at h; cases h; have := eqf c6; subst this
    exact dx_fb (fd_sum O.calm) hg (O.blt _ (by decide +kernel)) (by decide +kernel) ha (by decide +kernel) (by decide +kernel) he hpl
  rw [if_neg c6] at h
  by_cases c7 : (f == "abs") = true
  · rw [if_pos c7] at h; cases h; have := eqf c7; subst this
    exact dx_fb fd_abs hg (O.blt _ (by decide +kernel)) (by decide +kernel) ha (by decide +kernel) (by decide +kernel) he hpl
  rw [if_neg c7] at h
  by_cases c8 : (f == "max") = true
  · rw [if_pos c8] at h; cases h; have := eqf c8; subst this
    exact dx_fb (fd_max O.calm) hg (O.blt _ (by decide +kernel)) (by decide +kernel) ha (by decide +kernel) (by decide +kernel) he hpl
  rw [if_neg c8] at h
  by_cases c9 : (f == "min") = true
  · rw [if_pos c9] at h; cases h; have := eqf c9; subst this
    exact dx_fb (fd_min O.calm) hg (O.blt _ (by decide +kernel)) (by decide +kernel) ha (by decide +kernel) (by decide +kernel) he hpl
  rw [if_neg c9] at h
  by_cases c10 : (f == "sorted") = true
  · rw [if_pos c10] at h; cases h; have := eqf c10; subst this
    exact dx_fb fd_sorted hg (O.blt _ (by decide +kernel)) (by decide +kernel) ha (by decide +kernel) (by decide +kernel) he hpl
  rw [if_neg c10] at h
  cases h
theorem tyR_ok (O : XOk X G) {e : Expr} {t : Str} {T : String} {w : DT} {p p2 pos : Pos} (h : tyR t = some T) (he : Dx X e w) (hg : Gl X "isinstance") (hg2 : Gl X t) (hs : starB e = false) : Dx X (.Call (.Name "isinstance" p) [e, .Name t p2] [] pos) (eIsi T w) := by
  unfold tyR at h
  have eqf : ∀ {z : Str}, (t == z) = true → t = z := fun h => eq_of_beq h
  by_cases c1 : (t == "int") = true
  · rw [if_pos c1] at h; cases h; have := eqf c1; subst this
    exact dx_isi (by simp) he hg (O.blt _ (by decide +kernel)) hg2 (O.blt _ (by decide +kernel)) (by decide +kernel) (by decide +kernel) (by decide +kernel) (star_of hs)
  rw [if_neg c1] at h
  by_cases c2 : (t == "str") = true
  · rw [if_pos c2] at h; cases h; have := eqf c2; subst this
    exact dx_isi (by simp) he hg (O.blt _ (by decide +kernel)) hg2 (O.blt _ (by decide +kernel)) (by decide +kernel) (by decide +kernel) (by decide +kernel) (star_of hs)
  rw [if_neg c2] at h
  by_cases c3 : (t == "tuple") = true
  · rw [if_pos c3] at h; cases h; have := eqf c3; subst this
    exact dx_isi (by simp) he hg (O.blt _ (by decide +kernel)) hg2 (O.blt _ (by decide +kernel)) (by decide +kernel) (by decide +kernel) (by decide +kernel) (star_of hs)
  rw [if_neg c3] at h
  by_cases c4 : (t == "list") = true
  · rw [if_pos c4] at h; cases h; have := eqf c4; subst this
    exact dx_isi (by simp) he hg (O.blt _ (by decide +kernel)) hg2 (O.blt _ (by decide +kernel)) (by decide +kernel) (by decide +kernel) (by decide +kernel) (star_of hs)
  rw [if_neg c4] at h
  by_cases c5 : (t == "bool") = true
  · rw [if_pos c5] at h; cases h; have := eqf c5; subst this
    exact dx_isi (by simp) he hg (O.blt _ (by decide +kernel)) hg2 (O.blt _ (by decide +kernel)) (by decide +kernel) (by decide +kernel) (by decide +kernel) (star_of hs)
  rw [if_neg c5] at h
  by_cases c6 : (t == "dict") = true
  · rw [if_pos c6] at h; cases h; have := eqf c6; subst this
    exact dx_isi (by simp) he hg (O.blt _ (by decide +kernel)) hg2 (O.blt _ (by decide +kernel)) (by decide +kernel) (by decide +kernel) (by decide +kernel) (star_of hs)
  rw [if_neg c6] at h
  cases h
theorem mtd_ok (R : RcOk r) (O : XOk X G) {T id : String} {name : Str} {f : D → List D → Mh → PQ → Prop} {o : Expr} {args : List Expr} {wo : DT} {wa : DA} {apos cpos : Pos} (pa : PlainAttrs T) (sl : Slot T name id) (hty : typeOf (.builtin id) = pure (.type "method_descriptor"))
    (hm : MtR X id (upM X.K f)) (ho : Dx X o wo) (ha : dAs r G args = some wa) (hline : (apos.endLine == cpos.line) = true) (hb : superB o = false) (hs : args.all (fun e => !starB e) = true) (hl : args.length < 30) : Dx X (.Call (.Attribute o name apos) args [] cpos) (eMt T f wo wa) := by
  cases args with
  | nil => cases ha; exact dx_mt0 pa sl hty hm ho (base_of hb) hline
  | cons e es =>
    have hs' := hs
    rw [List.all_cons, Bool.and_eq_true] at hs'
    refine dx_mt pa sl hty hm ho (as_ok R O ha) (base_of hb) ?_ hline (star_of (by simpa using hs'.1)) (stars_of hs'.2)
    rw [stars_all hs]
    show (true && true && decide ((e :: es).length + 0 + 0 < 30)) = true
    rw [decide_eq_true (by omega)]; rfl
theorem mtR_ok (R : RcOk r) (O : XOk X G) {T : String} {name : Str} {f : D → List D → Mh → PQ → Prop} {o : Expr} {args : List Expr} {wo : DT} {wa : DA} {apos cpos : Pos} (h : mtR name = some (T, f)) (ho : Dx X o wo) (ha : dAs r G args = some wa)
    (hline : (apos.endLine == cpos.line) = true) (hb : superB o = false) (hs : args.all (fun e => !starB e) = true) (hl : args.length < 30) : Dx X (.Call (.Attribute o name apos) args [] cpos) (eMt T f wo wa) := by
  unfold mtR at h
  have eqf : ∀ {z : Str}, (name == z) = true → name = z := fun h => eq_of_beq h
  by_cases c1 : (name == "append") = true
  · rw [if_pos c1] at h; cases h; have := eqf c1; subst this
    exact mtd_ok R O PySem.F.plainAttrs_list PySem.F.slot_list_append PySem.F.type_list_append md_append ho ha hline hb hs hl
  rw [if_neg c1] at h
  by_cases c2 : (name == "extend") = true
  · rw [if_pos c2] at h; cases h; have := eqf c2; subst this
    exact mtd_ok R O PySem.F.plainAttrs_list PySem.F.slot_list_extend PySem.F.type_list_extend md_extend ho ha hline hb hs hl
  rw [if_neg c2] at h
  by_cases c3 : (name == "pop") = true
  · rw [if_pos c3] at h; cases h; have := eqf c3; subst this
    exact mtd_ok R O PySem.F.plainAttrs_list PySem.F.slot_list_pop PySem.F.type_list_pop md_pop ho ha hline hb hs hl
  rw [if_neg c3] at h
  by_cases c4 : (name == "join") = true
  · rw [if_pos c4] at h; cases h; have := eqf c4; subst this
    exact mtd_ok R O PySem.F.plainAttrs_str PySem.F.slot_str_join PySem.F.type_str_join md_join ho ha hline hb hs hl
  rw [if_neg c4] at h
  cases h
theorem x_ok (R : RcOk r) (O : XOk X G) {e : Expr} {w : DT} (h : dX r G e = some w) : Dx X e w := by
  unfold dX at h
  split at h
  · cases h
    exact dx_dct
  · split at h
    · cases h
      rename_i h1 h2
      exact dx_d1 (R.e X G _ _ O h1) (R.e X G _ _ O h2)
    · cases h
  · split at h
    · rename_i hc
      simp only [Bool.and_eq_true, Bool.not_eq_true'] at hc
      obtain ⟨⟨⟨⟨c1, c2⟩, c3⟩, c4⟩, c5⟩ := hc
      obtain ⟨u, h1, rfl⟩ := Option.map_eq_some_iff.mp h
      have e1 := eq_of_beq c1
      have e2 := eq_of_beq c2
      subst e1 e2
      exact dx_keys O.calm (R.e X G _ _ O h1) (gl_of O c3) (O.blt _ (by decide +kernel)) (base_of c4) c5 rfl
    · cases h
  · split at h
    · rename_i hc
      simp only [Bool.and_eq_true, Bool.not_eq_true'] at hc
      obtain ⟨⟨⟨⟨c1, c2⟩, c3⟩, c4⟩, c5⟩ := hc
      obtain ⟨u, h1, rfl⟩ := Option.map_eq_some_iff.mp h
      have e1 := eq_of_beq c1
      have e2 := eq_of_beq c2
      subst e1 e2
      exact dx_rev O.calm (gl_of O c3) (O.blt _ (by decide +kernel)) (gl_of O c4) (O.blt _ (by decide +kernel)) (R.e X G _ _ O h1) (star_of c5)
    · split at h
      · rename_i hc
        simp only [Bool.and_eq_true, Bool.not_eq_true'] at hc
        obtain ⟨⟨⟨⟨c1, c2⟩, c3⟩, c4⟩, c5⟩ := hc
        obtain ⟨u, h1, rfl⟩ := Option.map_eq_some_iff.mp h
        have e1 := eq_of_beq c1
        have e2 := eq_of_beq c2
        subst e1 e2
        exact dx_trev O.calm (gl_of O c3) (O.blt _ (by decide +kernel)) (gl_of O c4) (O.blt _ (by decide +kernel)) (R.e X G _ _ O h1) (star_of c5)
      · cases h
  · cases h
theorem e0_ok (R : RcOk r) (O : XOk X G) {e : Expr} {w : DT} (h : dE0 r G e = some w) : Dx X e w := by
  unfold dE0 at h
  split at h
  · -- a name
    rename_i x p
    by_cases c : okName x = true
    · rw [if_pos c] at h
      unfold okName at c
      simp only [Bool.and_eq_true, Bool.not_eq_true'] at c
      by_cases v : visB G.sc x = true
      · rw [if_pos v] at h
        obtain ⟨i, h1, rfl⟩ := Option.map_eq_some_iff.mp h
        exact dx_var (by rw [O.hN]; exact ixOf_get h1) (by rw [O.sc]; exact vis_of v) c.1 c.2
      · rw [if_neg v] at h
        by_cases g : glB G.sc x = true
        · rw [if_pos g] at h
          obtain ⟨d, h1, rfl⟩ := Option.map_eq_some_iff.mp h
          obtain ⟨u, vv, h2, h3, h4⟩ := O.glb x d h1
          exact dx_c (pe_glob (gl_of O g) h2 h3 c.1) h4
        · rw [if_neg g] at h; cases h
    · rw [if_neg c] at h; cases h
  · split at h <;> cases h
    · exact dx_c pe_int fun H => .int _
    · exact dx_c pe_bl fun H => .bl _
    · exact dx_c pe_non fun H => .non
    · exact dx_c pe_str fun H => .str _
  · split at h
    · cases h
      rename_i h1 h2 h3
      exact dx_bin (bin_ok O h1) (R.e X G _ _ O h2) (R.e X G _ _ O h3)
    · cases h
  · split at h
    · obtain ⟨u, h1, rfl⟩ := Option.map_eq_some_iff.mp h
      exact dx_un ud_neg (R.e X G _ _ O h1)
    · obtain ⟨u, h1, rfl⟩ := Option.map_eq_some_iff.mp h
      exact dx_not (R.e X G _ _ O h1)
    · cases h
  · split at h
    · cases h
    · rename_i hs
      split at h
      · cases h
        rename_i h1 h2 h3
        exact dx_cmp (cmp_ok O h1) (R.e X G _ _ O h2) (R.e X G _ _ O h3) (marks_of (by simpa using hs))
      · cases h
  · exact pe_one (R.e X G _ _ O h)
  · rename_i op _ _ _ _
    split at h
    · cases h
      rename_i h1 h2
      cases op with
      | And => exact dx_and (R.e X G _ _ O h1) (R.e X G _ _ O h2)
      | Or => exact dx_or (R.e X G _ _ O h1) (R.e X G _ _ O h2)
    · cases h
  · split at h
    · cases h
      rename_i h1 h2 h3
      exact dx_if (R.b X G _ _ O h1) (R.e X G _ _ O h2) (R.e X G _ _ O h3)
    · cases h
  · obtain ⟨u, h1, rfl⟩ := Option.map_eq_some_iff.mp h
    exact dx_tup (as_ok R O h1)
  · obtain ⟨u, h1, rfl⟩ := Option.map_eq_some_iff.mp h
    exact dx_lst (as_ok R O h1)
  · split at h
    · cases h
      rename_i h1 h2 h3
      exact dx_sl (R.e X G _ _ O h1) (opt_ok R O h2) (opt_ok R O h3)
    · cases h
  · split at h
    · cases h
    · rename_i hs
      split at h
      · cases h
        rename_i h1 h2
        exact dx_ix O.hu (R.e X G _ _ O h1) (R.e X G _ _ O h2) (plain_of (by simpa using hs))
      · cases h
  · -- a call of a name
    rename_i f p args pos
    by_cases g : glB G.sc f = true
    · rw [if_pos g] at h
      have hg := gl_of O g
      split at h
      · rename_i sp hf
        split at h
        · rename_i hs
          obtain ⟨u, h1, rfl⟩ := Option.map_eq_some_iff.mp h
          have c := O.fns _ _ _ hf
          cases args with
          | nil => cases h1; exact dx_fn0 c hg
          | cons e es =>
            rw [List.all_cons, Bool.and_eq_true] at hs
            exact dx_fn c hg (as_ok R O h1) (star_of (by simpa using hs.1)) (stars_of hs.2)
        · cases h
      · by_cases ci : (f == "isinstance") = true
        · rw [if_pos ci] at h
          have := eq_of_beq ci
          subst this
          split at h
          · split at h
            · cases h
            · rename_i hs
              simp only [Bool.or_eq_true, not_or, Bool.not_eq_true, Bool.not_eq_true', Bool.not_eq_false] at hs
              split at h
              · cases h
                rename_i h1 h2
                exact tyR_ok O h1 (R.e X G _ _ O h2) hg (gl_of O (by simpa using hs.2)) hs.1
              · cases h
          · cases h
        · rw [if_neg ci] at h
          split at h
          · rename_i h0 _hn
            split at h
            · rename_i hs
              obtain ⟨u, h1, rfl⟩ := Option.map_eq_some_iff.mp h
              rw [List.all_cons, Bool.and_eq_true] at hs
              exact fnR_ok O h0 hg (as_ok R O h1) (star_of (by simpa using hs.1)) (stars_of hs.2)
            · cases h
          · cases h
    · rw [if_neg g] at h; cases h
  · -- a method
    split at h
    · rename_i hc
      simp only [Bool.and_eq_true, Bool.not_eq_true', decide_eq_true_eq] at hc
      obtain ⟨⟨⟨c1, c2⟩, c3⟩, c4⟩ := hc
      split at h
      · cases h
        rename_i h1 h2 h3
        exact mtR_ok R O h1 (R.e X G _ _ O h2) h3 c1 c2 c3 c4
      · cases h
    · cases h
  · obtain ⟨wi, t, tt, te, rfl, h1, h2, h3, h4, h5⟩ := lcp_ok R O h
    exact dx_lc O.calm O.nd h1 h2 h3 h4 (folded_of h5)
  · cases h
theorem e1_ok (R : RcOk r) (O : XOk X G) {e : Expr} {w : DT} (h : dE1 r G e = some w) : Dx X e w := by
  unfold dE1 at h
  split at h
  · rename_i hx
    cases h
    exact x_ok R O hx
  · exact e0_ok R O h
theorem w1_ok (R : RcOk r) (O : XOk X G) {op : BoolOp} {es : List Expr} {pos : Pos} {w : DB} (h : dB1 r G (.BoolOp op es pos) = some w) : Dw X (.BoolOp op es pos) w := by
  match es with
  | [] => cases h
  | [a] =>
    have := R.b X G _ _ O h
    cases op with
    | And => exact pw_and1 this
    | Or => exact pw_or1 this
  | a :: b :: rest =>
    have h : (match r.b G a, r.b G (.BoolOp op (b :: rest) pos) with | some x, some y => some (andB op x y) | _, _ => none) = some w := h
    split at h
    · cases h
      rename_i h1 h2
      cases op with
      | And => exact dw_and (R.b X G _ _ O h1) (R.w X G _ _ _ _ O h2)
      | Or => exact dw_or (R.b X G _ _ O h1) (R.w X G _ _ _ _ O h2)
    · cases h
theorem b1_ok (R : RcOk r) (O : XOk X G) {e : Expr} {w : DB} (h : dB1 r G e = some w) : Dt X e w := by
  unfold dB1 at h
  split at h
  · obtain ⟨u, h1, rfl⟩ := Option.map_eq_some_iff.mp h
    exact dt_not (R.b X G _ _ O h1)
  · split at h
    · cases h
    · rename_i hs
      split at h
      · cases h
        rename_i h1 h2 h3
        exact dt_cmp (cmp_ok O h1) (R.e X G _ _ O h2) (R.e X G _ _ O h3) (marks_of (by simpa using hs))
      · cases h
  · exact (w1_ok (op := _) (es := [_]) R O h).pt
  · exact (w1_ok (es := _ :: _ :: _) R O h).pt
  · split at h
    · rename_i ht
      obtain ⟨u, h1, rfl⟩ := Option.map_eq_some_iff.mp h
      exact dt_tru (R.e X G _ _ O h1) (tru_plain ht)
    · cases h
theorem dR_ok : ∀ n, RcOk (dR n)
  | 0 => ⟨fun _ _ _ _ _ h => (nomatch h), fun _ _ _ _ _ h => (nomatch h), fun _ _ _ _ _ _ _ h => (nomatch h)⟩
  | n + 1 => ⟨fun _ _ _ _ O h => e1_ok (dR_ok n) O h, fun _ _ _ _ O h => b1_ok (dR_ok n) O h, fun _ _ _ _ _ _ O h => w1_ok (dR_ok n) O h⟩
end
end DL
/-! DLg: statements from the syntax; a def by its body. -/
namespace DL
open PySem PySem.Spec L2
open PyProof.Rows hiding St

def lcSw (sc : Scope) (x : Str) (l1 l2 : Nat) (scope : Scope) : Bool := (match sc.names.lookup x with | some .local => true | _ => false) && (match sc.kind with | .function => true | _ => false) && (l1 == l2) && !(scope.names.any fun (n, k) => n == x && (k == .local || k == .cell))
theorem swapsSole_of {t e : Expr} {l : Nat} {env : Env} (h : compB e = false) : swapsWithSole [t] e l env = pure false := swaps_of h
def isTupB : Expr → Bool
  | .Tuple .. => true
  | _ => false
section
variable (r : Rc)
def dGs (G : Gm) : List Expr → Option DGs
  | [] => some gsN
  | .Name x _ :: es => if G.st x then match ixOf G.N x, dGs G es with
    | some i, some g => some (gsC (gN i) g)
    | _, _ => none else none
  | _ => none
def dG (G : Gm) : Expr → Option DG
  | .Name x _ => if G.st x then (ixOf G.N x).map gN else none
  | .Tuple es _ _ => (dGs G es).map (gT es.length)
  | .Subscript o i _ => if sliceB i then none else match r.e G o, r.e G i with
    | some x, some y => some (gS x y)
    | _, _ => none
  | _ => none
/-- a statement, its blocks given from outside -/
def dS1 (bl : Gm → List Stmt → Option DS) (G : Gm) : Stmt → Option DS
  | .Assign [.Name x p'] e pos => if G.st x then (match e with
      | .ListComp elt [⟨tg, it, ifs, 0⟩] scope pos2 => if lcSw G.sc x p'.line pos2.line scope then
          (match ixOf G.N x, dLc r G elt tg it ifs scope with
          | some i, some w => some (sAsg w (gN i))
          | _, _ => none) else none
      | e => if compB e then none else match ixOf G.N x, r.e G e with
        | some i, some w => some (sAsg w (gN i))
        | _, _ => none) else none
  | .Assign [.Tuple ts kt pt] e pos => if isTupB e || compB e then none else match dG r G (.Tuple ts kt pt), r.e G e with
    | some g, some w => some (sAsg w g)
    | _, _ => none
  | .Assign [.Subscript o i p] e pos => if compB e then none else match dG r G (.Subscript o i p), r.e G e with
    | some g, some w => some (sAsg w g)
    | _, _ => none
  | .AugAssign (.Name x _) op e _ => if G.st x then (match ixOf G.N x, augR op, r.e G e with
    | some i, some f, some w => some (sAug i f w)
    | _, _, _ => none) else none
  | .Expr e _ => if compB e then none else (r.e G e).map sExp
  | .Return (some e) _ => (r.e G e).map sRet
  | .Return none _ => some sRetN
  | .If c p q _ => match r.b G c, bl G p, bl G q with
    | some w, some a, some b => some (sIf w a b)
    | _, _, _ => none
  | .While c p [] _ => match r.b G c, bl G p with
    | some w, some a => some (sWh w a)
    | _, _ => none
  | .For tg it p [] _ => if setB it then none else match dIt r G it, dG r G tg, bl G p with
    | some w, some g, some a => some (sFor w g a)
    | _, _, _ => none
  | .Pass _ => some sNil
  | .Break _ => some sBrk
  | .Continue _ => some sCnt
  | _ => none
def dSs1 (bl : Gm → List Stmt → Option DS) (G : Gm) : List Stmt → Option DS
  | [] => some sNil
  | s :: ss => match dS1 r bl G s, dSs1 bl G ss with
    | some a, some b => some (sSeq a b)
    | _, _ => none
def dB : Nat → Gm → List Stmt → Option DS
  | 0 => fun _ _ => none
  | n + 1 => dSs1 r (dB n)
end

section
variable {X : Cx} {G : Gm} {r : Rc}
theorem gs_ok (O : XOk X G) : ∀ {es : List Expr} {g : DGs}, dGs G es = some g → Dgs X es g ∧ (assignEach es X.env).length = es.length ∧ (assignEach es X.env).findIdx? (·.1) = none
  | [], _, h => by cases h; exact ⟨dgs_nil, rfl, rfl⟩
  | e :: es, g, h => by
    cases e with
    | Name x p =>
      unfold dGs at h
      split at h
      · rename_i hx
        split at h
        · cases h
          rename_i h1 h2
          obtain ⟨g1, g2, g3⟩ := gs_ok O h2
          obtain ⟨hl, hf⟩ := O.st x hx
          refine ⟨dgs_cons (dg_nm O.nd (by rw [O.hN]; exact ixOf_get h1) hl hf) g1 (by rfl), by show (assignEach es X.env).length + 1 = _; rw [g2]; rfl, ?_⟩
          show ((false, _) :: assignEach es X.env).findIdx? (·.1) = none
          rw [List.findIdx?_cons, g3]; rfl
        · cases h
      · cases h
    | _ => cases h
theorem g_ok (R : RcOk r) (O : XOk X G) {tg : Expr} {g : DG} (h : dG r G tg = some g) : Dg X tg g := by
  unfold dG at h
  split at h
  · split at h
    · rename_i hx
      obtain ⟨i, h1, rfl⟩ := Option.map_eq_some_iff.mp h
      obtain ⟨hl, hf⟩ := O.st _ hx
      exact dg_nm O.nd (by rw [O.hN]; exact ixOf_get h1) hl hf
    · cases h
  · obtain ⟨u, h1, rfl⟩ := Option.map_eq_some_iff.mp h
    obtain ⟨g1, g2, g3⟩ := gs_ok O h1
    exact dg_tup O.calm g1 g2 g3
  · rename_i o i p
    split at h
    · cases h
    · rename_i hs
      split at h
      · cases h
        rename_i h1 h2
        refine dg_sub O.hu (R.e X G _ _ O h1) (R.e X G _ _ O h2) fun v => ?_
        cases i <;> first | rfl | (exact (hs rfl).elim)
      · cases h
  · cases h
theorem swapS_of {t e : Expr} {env : Env} (h : isTupB t = false ∨ isTupB e = false) (hl : ∀ es p, t ≠ .List es p) : swappedStores [t] e env = pure none := by
  rcases h with h | h
  · cases t <;> first | rfl | (cases h; done) | (exact absurd rfl (hl _ _))
  · cases t <;> first | rfl | (exact absurd rfl (hl _ _)) | skip
    cases e <;> first | rfl | cases h
theorem s1_ok (R : RcOk r) {bl : Gm → List Stmt → Option DS} (B : ∀ (b : List Stmt) (w : DS), bl G b = some w → Dss X b w) (O : XOk X G) {s : Stmt} {w : DS} (h : dS1 r bl G s = some w) : Ds X s w := by
  unfold dS1 at h
  split at h
  · -- name = e
    rename_i x p' e pos
    by_cases hx : G.st x = true
    · rw [if_pos hx] at h
      obtain ⟨hl, hf⟩ := O.st _ hx
      split at h
      · rename_i elt tg it ifs scope pos2
        split at h
        · rename_i hc
          unfold lcSw at hc
          simp only [Bool.and_eq_true] at hc
          obtain ⟨⟨⟨c1, c0⟩, c2⟩, c3⟩ := hc
          split at h
          · cases h
            rename_i h1 h2
            obtain ⟨wi, t, tt, te, rfl, l1, l2, l3, l4, l5⟩ := lcp_ok R O h2
            have hloc : X.env.scope.names.lookup x = some .local := by
              rw [O.sc]
              split at c1
              · assumption
              · cases c1
            have hk : X.env.scope.kind = .function := by
              rw [O.sc]
              split at c0
              · assumption
              · cases c0
            exact ds_lc O.calm O.nd (by rw [O.hN]; exact ixOf_get h1) hloc (sw_true hk hloc c2 (by simpa using c3)) l1 l2 l3 l4 (folded_of l5)
          · cases h
        · cases h
      · split at h
        · cases h
        · rename_i hs
          split at h
          · cases h
            rename_i h1 h2
            exact ds_set O.nd (by rw [O.hN]; exact ixOf_get h1) hl (R.e X G _ _ O h2) (swaps_of (by simpa using hs)) hf
          · cases h
    · rw [if_neg hx] at h; cases h
  · split at h
    · cases h
    · rename_i hs
      simp only [Bool.or_eq_true, not_or, Bool.not_eq_true] at hs
      split at h
      · cases h
        rename_i h1 h2
        exact ds_asg (R.e X G _ _ O h2) (g_ok R O h1) (swapsSole_of hs.2) (swapS_of (.inr hs.1) fun _ _ z => nomatch z) (by rfl)
      · cases h
  · split at h
    · cases h
    · rename_i hs
      split at h
      · cases h
        rename_i h1 h2
        exact ds_asg (R.e X G _ _ O h2) (g_ok R O h1) (swapsSole_of (by simpa using hs)) (swapS_of (.inl rfl) fun _ _ z => nomatch z) (by rfl)
      · cases h
  · split at h
    · rename_i hx
      obtain ⟨hl, hf⟩ := O.st _ hx
      split at h
      · cases h
        rename_i h1 h2 h3
        exact ds_aug O.nd (by rw [O.hN]; exact ixOf_get h1) hl (R.e X G _ _ O h3) (aug_ok h2) hf
      · cases h
    · cases h
  · split at h
    · cases h
    · rename_i hs
      obtain ⟨u, h1, rfl⟩ := Option.map_eq_some_iff.mp h
      exact ds_exp (R.e X G _ _ O h1) (swaps_of (by simpa using hs))
  · obtain ⟨u, h1, rfl⟩ := Option.map_eq_some_iff.mp h
    exact ds_ret (R.e X G _ _ O h1)
  · cases h; exact ds_retN
  · split at h
    · cases h
      rename_i h1 h2 h3
      exact ds_if (R.b X G _ _ O h1) (B _ _ h2) (B _ _ h3)
    · cases h
  · split at h
    · cases h
      rename_i h1 h2
      exact ds_wh O.pass (R.b X G _ _ O h1) (B _ _ h2)
    · cases h
  · split at h
    · cases h
    · rename_i hs
      split at h
      · cases h
        rename_i h1 h2 h3
        exact ds_for O.pass O.calm (it_ok R O h1) (g_ok R O h2) (B _ _ h3) (folded_of (by simpa using hs))
      · cases h
  · cases h; exact ds_pass
  · cases h; exact ds_brk
  · cases h; exact ds_cnt
  · cases h
theorem ss1_ok (R : RcOk r) {bl : Gm → List Stmt → Option DS} (B : ∀ (b : List Stmt) (w : DS), bl G b = some w → Dss X b w) (O : XOk X G) : ∀ {ss : List Stmt} {w : DS}, dSs1 r bl G ss = some w → Dss X ss w
  | [], _, h => by cases h; exact dss_nil
  | s :: ss, w, h => by
    unfold dSs1 at h
    split at h
    · cases h
      rename_i h1 h2
      exact dss_cons (s1_ok R B O h1) (ss1_ok R B O h2)
    · cases h
theorem b_ok (R : RcOk r) (O : XOk X G) : ∀ (n : Nat) (b : List Stmt) (w : DS), dB r n G b = some w → Dss X b w
  | 0, _, _, h => by cases h
  | n + 1, b, w, h => ss1_ok R (b_ok R O n) O h
end

/-! ### a def -/
def stOf (sc : Scope) (x : Str) : Bool := match sc.names.lookup x with
  | some .local => true
  | some .cell => true
  | _ => false
/-- the context of a def's body -/
def gmOf (N : List Str) (sc : Scope) (fns : List (Str × Nat × DSp)) (glb : List (Str × D)) : Gm := ⟨N, sc, stOf sc, fns, glb⟩
section
variable {P : Program} {w : World} {K : PySem.W.Frag} {mg : Str → Option Value} {base : Heap}
/-- a def of the module, known by its promise -/
structure Dfn (P : Program) (w : World) (K : PySem.W.Frag) (mg : Str → Option Value) (base : Heap) (k : Nat) (x : Str) (n : Nat) (sp : DSp) : Prop where
  dbg : (x == ("__debug__" : Str)) = false
  ok : ∃ f fd ps, ∃ (dd : List D) (dvs : List V) (us : List Value) (sp0 : DSp), FnOk P w K mg base CX0 k f fd ps (upF K ps.length sp0) ∧ mg x = some (.ref f) ∧ PySem.W.keepIn K (.ref f) = true ∧ Binds K fd ps us ∧
    Vals dvs us ∧ (∀ H, DRs K H dd dvs) ∧ n + dd.length = ps.length ∧ ∀ ds M P, ds.length = n → sp ds M P → sp0 (ds ++ dd) M P
theorem Dfn.mono {j k : Nat} {x : Str} {n : Nat} {sp : DSp} (d : Dfn P w K mg base j x n sp) (h : j ≤ k) : Dfn P w K mg base k x n sp :=
  ⟨d.dbg, let ⟨f, fd, ps, dd, dvs, us, sp0, F, r⟩ := d.ok; ⟨f, fd, ps, dd, dvs, us, sp0, F.mono h, r⟩⟩
/-- a weaker promise -/
theorem Dfn.imp {k : Nat} {x : Str} {n : Nat} {sp sp' : DSp} (d : Dfn P w K mg base k x n sp) (h : ∀ ds M P, sp' ds M P → sp ds M P) : Dfn P w K mg base k x n sp' :=
  ⟨d.dbg, let ⟨f, fd, ps, dd, dvs, us, sp0, F, a, b, c, d, e, g, i⟩ := d.ok; ⟨f, fd, ps, dd, dvs, us, sp0, F, a, b, c, d, e, g, fun ds M P l q => i ds M P l (h ds M P q)⟩⟩
def FnsOk (P : Program) (w : World) (K : PySem.W.Frag) (mg : Str → Option Value) (base : Heap) (k : Nat) (l : List (Str × Nat × DSp)) : Prop := ∀ x n sp, fnAt l x n = some sp → Dfn P w K mg base k x n sp
theorem FnsOk.nil {k : Nat} : FnsOk P w K mg base k [] := fun _ _ _ h => nomatch h
theorem FnsOk.cons {k : Nat} {x : Str} {n : Nat} {sp : DSp} {l : List (Str × Nat × DSp)} (d : Dfn P w K mg base k x n sp) (h : FnsOk P w K mg base k l) : FnsOk P w K mg base k ((x, n, sp) :: l) := fun y m s e => by
  unfold fnAt at e
  rw [List.find?_cons] at e
  by_cases c : (x == y && n == m) = true
  · simp only [c] at e
    cases e
    rw [Bool.and_eq_true] at c
    have c1 := eq_of_beq c.1
    have c2 := eq_of_beq c.2
    subst c1 c2
    exact d
  · simp only [Bool.eq_false_iff.mpr c] at e
    exact h y m s e
def GlbOk (K : PySem.W.Frag) (mg : Str → Option Value) (l : List (Str × D)) : Prop := ∀ x d, l.lookup x = some d → ∃ u v, mg x = some u ∧ RelV v u ∧ ∀ H, DR K H d v
theorem GlbOk.nil : GlbOk K mg [] := fun _ _ h => nomatch h
theorem GlbOk.cons {x : Str} {d : D} {l : List (Str × D)} (c : ∃ u v, mg x = some u ∧ RelV v u ∧ ∀ H, DR K H d v) (h : GlbOk K mg l) : GlbOk K mg ((x, d) :: l) := fun y e q => by
  rw [List.lookup_cons] at q
  by_cases b : (y == x) = true
  · rw [b] at q
    cases q
    rw [eq_of_beq b]
    exact c
  · rw [Bool.eq_false_iff.mpr b] at q
    exact h y e q
def BltOk (mg : Str → Option Value) : Prop := ∀ x ∈ bltNames, mg x = none

theorem start_er {K : PySem.W.Frag} {H : Hp} {N : List Str} {ds : List D} {vs : List V} (r : DRs K H ds vs) : ER K H (startD N.length ds) (L2.start N vs) := by
  unfold startD L2.start
  refine ⟨by simp [r.length], fun i d e => ?_⟩
  by_cases h : i < ds.length
  · rw [List.getElem?_append_left (by simpa using h), List.getElem?_map] at e
    cases q : ds[i]? with
    | none => rw [q] at e; cases e
    | some d' =>
      rw [q] at e
      cases e
      obtain ⟨v, h1, h2⟩ := r.get q
      refine ⟨v, ?_, h2⟩
      rw [List.getElem?_append_left (by rw [List.length_map, ← r.length]; exact h), List.getElem?_map, h1]; rfl
  · rw [List.getElem?_append_right (by simpa using h), List.getElem?_replicate] at e
    split at e <;> cases e
/-- THE RULE for a def: its body's transformer, and that its promise follows -/
theorem fnok_of {x qual : Str} {st : Stmt} {f : Addr} {fd : FuncData} {N ps : List Str} {k m : Nat} {b : DS} {sp : DSp} {fns : List (Str × Nat × DSp)} {glb : List (Str × D)} (F : Fun K x qual st f fd) (S : FnScope N ps (defScope st))
    (hfs : FnsOk P w K mg base k fns) (hgl : GlbOk K mg glb) (hbl : BltOk mg) (hden : dB (dR m) m (gmOf N (defScope st) fns glb) (defBody st) = some b)
    (hsp : ∀ ds M P, sp ds M P → b { nx := fun _ M' => P .non M', rt := P } (startD N.length ds) M) : FnOk P w K mg base CX0 (k + 1) f fd ps (upF K ps.length sp) := by
  refine F.ok S (fun vs H Q E h => h.1) (fun cdv A outer s H vs Q E hr h => ?_)
  obtain ⟨hl, ds, M, PP, dr, h1, w1, k1⟩ := h
  have O : XOk (cxOf CX0 P w K mg base N qual (defScope st) f cdv A outer s H E).nox (gmOf N (defScope st) fns glb) := {
    nd := S.nd
    hN := rfl
    sc := rfl
    calm := rfl
    hu := by
      have := hr.un
      show (A.deeper _).units + 65 < cLine
      omega
    pass := PassesOwn.never
    fns := fun y n sp' e => ⟨(hfs y n sp' e).dbg, let ⟨f', fd', ps', dd, dvs, us, sp0, F', r⟩ := (hfs y n sp' e).ok; ⟨f', fd', k, ps', dd, dvs, us, sp0, F', hr, r⟩⟩
    glb := hgl
    blt := hbl
    st := fun y e => by
      have e : stOf (defScope st) y = true := e
      unfold stOf at e
      split at e
      · exact ⟨.inl (by assumption), .inl rfl⟩
      · exact ⟨.inr (by assumption), .inl rfl⟩
      · cases e }
  refine ⟨_, b_ok (dR_ok m) O m _ _ hden, startD N.length ds, M, _, start_er dr, h1, hsp ds M PP w1, ⟨fun ρ M' σ' H' p e er hr' => k1 _ _ _ _ p e .non hr', fun d M' v H' p e dv hr' => k1 _ _ _ _ p e dv hr', fun _ _ _ _ p => p.elim, fun _ _ _ _ p => p.elim⟩⟩
theorem dfn_of {x qual : Str} {st : Stmt} {f : Addr} {fd : FuncData} {N ps : List Str} {k m : Nat} {b : DS} {sp : DSp} {fns : List (Str × Nat × DSp)} {glb : List (Str × D)} (F : Fun K x qual st f fd) (S : FnScope N ps (defScope st)) (hm : mg x = some (.ref f))
    (hd : (x == ("__debug__" : Str)) = false) (hb : Binds K fd ps []) (hfs : FnsOk P w K mg base k fns) (hgl : GlbOk K mg glb) (hbl : BltOk mg) (hden : dB (dR m) m (gmOf N (defScope st) fns glb) (defBody st) = some b)
    (hsp : ∀ ds M P, sp ds M P → b { nx := fun _ M' => P .non M', rt := P } (startD N.length ds) M) : Dfn P w K mg base (k + 1) x ps.length sp :=
  ⟨hd, f, fd, ps, [], [], [], sp, fnok_of F S hfs hgl hbl hden hsp, hm, F.kp, hb, .nil, fun _ => .nil, rfl, fun ds M P _ h => by rw [List.append_nil]; exact h⟩

theorem FunD.okN {dvs0 : List V} {x qual : Str} {st : Stmt} {f : Addr} {fd : FuncData} {N ps : List Str} {k : Nat} {sp : Sp} (F : FunD K x qual (defArgs st) (defBody st) (defScope st) dvs0 [] f fd) (S : FnScope N ps (defScope st)) (len : ∀ vs H Q E, sp vs H Q E → vs.length = ps.length)
    (hbody : ∀ (cdv : Value) (A : Around) (outer : List Env) (s : Shared) (H : Hp) (vs : List V) (Q : VK) (E : XK), Room k (A.deeper (envOfC qual (defScope st) s.heap.objs.size f cdv)) → sp vs H Q E →
      ∃ t, PSs (cxOf CX0 P w K mg base N qual (defScope st) f cdv A outer s H E).nox (defBody st) t ∧ t { nx := fun _ H' => Q .non H', rt := Q } (L2.start N vs) H) : FnOk P w K mg base CX0 (k + 1) f fd ps sp := by
  obtain ⟨oc, od, dV, kV, doc, pm, an, cdv, ct, osl, rfl, lk, hcd, _, _⟩ := F.ex
  refine fn_of lk hcd S len fun A outer s H vs Q E hr hsp => ?_
  obtain ⟨t, h, q⟩ := hbody cdv A outer s H vs Q E hr hsp
  exact ⟨t, h.nox, q⟩
/-- the same of a def with defaults -/
theorem fnok_ofD {dvs0 : List V} {x qual : Str} {st : Stmt} {f : Addr} {fd : FuncData} {N ps : List Str} {k m : Nat} {b : DS} {sp : DSp} {fns : List (Str × Nat × DSp)} {glb : List (Str × D)} (F : FunD K x qual (defArgs st) (defBody st) (defScope st) dvs0 [] f fd) (S : FnScope N ps (defScope st))
    (hfs : FnsOk P w K mg base k fns) (hgl : GlbOk K mg glb) (hbl : BltOk mg) (hden : dB (dR m) m (gmOf N (defScope st) fns glb) (defBody st) = some b)
    (hsp : ∀ ds M P, sp ds M P → b { nx := fun _ M' => P .non M', rt := P } (startD N.length ds) M) : FnOk P w K mg base CX0 (k + 1) f fd ps (upF K ps.length sp) := by
  refine FunD.okN F S (fun vs H Q E h => h.1) (fun cdv A outer s H vs Q E hr h => ?_)
  obtain ⟨hl, ds, M, PP, dr, h1, w1, k1⟩ := h
  have O : XOk (cxOf CX0 P w K mg base N qual (defScope st) f cdv A outer s H E).nox (gmOf N (defScope st) fns glb) := {
    nd := S.nd
    hN := rfl
    sc := rfl
    calm := rfl
    hu := by
      have := hr.un
      show (A.deeper _).units + 65 < cLine
      omega
    pass := PassesOwn.never
    fns := fun y n sp' e => ⟨(hfs y n sp' e).dbg, let ⟨f', fd', ps', dd, dvs, us, sp0, F', r⟩ := (hfs y n sp' e).ok; ⟨f', fd', k, ps', dd, dvs, us, sp0, F', hr, r⟩⟩
    glb := hgl
    blt := hbl
    st := fun y e => by
      have e : stOf (defScope st) y = true := e
      unfold stOf at e
      split at e
      · exact ⟨.inl (by assumption), .inl rfl⟩
      · exact ⟨.inr (by assumption), .inl rfl⟩
      · cases e }
  refine ⟨_, b_ok (dR_ok m) O m _ _ hden, startD N.length ds, M, _, start_er dr, h1, hsp ds M PP w1, ⟨fun ρ M' σ' H' p e er hr' => k1 _ _ _ _ p e .non hr', fun d M' v H' p e dv hr' => k1 _ _ _ _ p e dv hr', fun _ _ _ _ p => p.elim, fun _ _ _ _ p => p.elim⟩⟩
/-- .. that may be called with n values: dd stand for those behind them -/
theorem dfn_ofD {dvs0 : List V} {x qual : Str} {st : Stmt} {f : Addr} {fd : FuncData} {N ps : List Str} {k m n : Nat} {b : DS} {sp sp0 : DSp} {fns : List (Str × Nat × DSp)} {glb : List (Str × D)} {dd : List D} {dvs : List V} {us : List Value} (F : FunD K x qual (defArgs st) (defBody st) (defScope st) dvs0 [] f fd) (S : FnScope N ps (defScope st)) (hm : mg x = some (.ref f))
    (hd : (x == ("__debug__" : Str)) = false) (hb : Binds K fd ps us) (hv : Vals dvs us) (hr : ∀ H, DRs K H dd dvs) (hn : n + dd.length = ps.length) (hfs : FnsOk P w K mg base k fns) (hgl : GlbOk K mg glb) (hbl : BltOk mg) (hden : dB (dR m) m (gmOf N (defScope st) fns glb) (defBody st) = some b)
    (hsp : ∀ ds M P, sp0 ds M P → b { nx := fun _ M' => P .non M', rt := P } (startD N.length ds) M) (hi : ∀ ds M P, ds.length = n → sp ds M P → sp0 (ds ++ dd) M P) : Dfn P w K mg base (k + 1) x n sp :=
  ⟨hd, f, fd, ps, dd, dvs, us, sp0, fnok_ofD F S hfs hgl hbl hden hsp, hm, F.kp, hb, hv, hr, hn, hi⟩

/-! ### what the top has left -/
/-- a def of the module, as it stands behind the top -/
structure DefAt (K : PySem.W.Frag) (x : Str) (st : Stmt) : Prop where
  ex : ∃ (f : Addr) (oc : Value) (od : Option Addr) (osl : Array (Option Value)) (kV doc pm : Value) (an : Option Addr) (cdv ct : Value), PySem.W.nsIn K mainGlobals x = some (some (.ref f)) ∧
    K.lookup f = some ⟨oc, od, .func (PySem.W.fnOf x x (defArgs st) (defBody st) (defScope st) .none kV doc pm an cdv ct), osl⟩ ∧ PySem.W.codeIn K cdv x = true ∧ PySem.W.keepIn K (.ref f) = true
theorem defAt {x : Str} {st : Stmt} {f : Addr} {oc : Value} {od : Option Addr} {osl : Array (Option Value)} {kV doc pm : Value} {an : Option Addr} {cdv ct : Value} (a : PySem.W.nsIn K mainGlobals x = some (some (.ref f)))
    (l : K.lookup f = some ⟨oc, od, .func (PySem.W.fnOf x x (defArgs st) (defBody st) (defScope st) .none kV doc pm an cdv ct), osl⟩) (c : PySem.W.codeIn K cdv x = true) (k : PySem.W.keepIn K (.ref f) = true) : DefAt K x st :=
  ⟨⟨f, oc, od, osl, kV, doc, pm, an, cdv, ct, a, l, c, k⟩⟩
/-- how a def binds: by its own text -/
def BindsBy (x : Str) (st : Stmt) (ps : List Str) : Prop := ∀ (kV doc pm : Value) (an : Option Addr) (cdv ct : Value) (us : List Value), us.length = ps.length →
  bindArgs (PySem.W.fnOf x x (defArgs st) (defBody st) (defScope st) .none kV doc pm an cdv ct) ⟨us, []⟩ = pure (ps.zip us)
theorem DefAt.get {x : Str} {st : Stmt} {h : Heap} {ps : List Str} (D : DefAt K x st) (X : K.In h) (G : h.Ns mainGlobals mg) (B : BindsBy x st ps) : ∃ f fd, Fun K x x st f fd ∧ mg x = some (.ref f) ∧ Binds K fd ps [] ∧ ∀ (s : Shared) (us : List Value), us.length = ps.length → BindsTo s fd ⟨us, []⟩ (ps.zip us) := by
  obtain ⟨f, oc, od, osl, kV, doc, pm, an, cdv, ct, a, l, c, k⟩ := D.ex
  have F := fun_mk (st := st) l c k
  exact ⟨f, _, F, PySem.W.mg_of X G a, F.binds fun kV doc pm an cdv ct us hl => B kV doc pm an cdv ct us hl, fun s us hl => .of_eq (B _ _ _ _ _ _ us hl)⟩
theorem glb_str {x z : Str} {t : Tok} {h : Heap} (X : K.In h) (G : h.Ns mainGlobals mg) (a : PySem.W.nsIn K mainGlobals x = some (some (.str z t))) : ∃ u v, mg x = some u ∧ RelV v u ∧ ∀ H, DR K H (.str z) v :=
  ⟨_, .str z, PySem.W.mg_of X G a, ⟨t, rfl⟩, fun _ => .str z⟩
theorem glb_int {x : Str} {z : Int} {t : Tok} {h : Heap} (X : K.In h) (G : h.Ns mainGlobals mg) (a : PySem.W.nsIn K mainGlobals x = some (some (.int z t))) : ∃ u v, mg x = some u ∧ RelV v u ∧ ∀ H, DR K H (.int z) v :=
  ⟨_, .int z, PySem.W.mg_of X G a, ⟨t, rfl⟩, fun _ => .int z⟩
/-- a constant's data -/
inductive Lit : D → Value → Prop
  | non : Lit .non .none
  | bl (b : Bool) : Lit (.bl b) (.bool b)
  | int (i : Int) (t : Tok) : Lit (.int i) (.int i t)
  | str (z : Str) (t : Tok) : Lit (.str z) (.str z t)
theorem Lit.rel {d : D} {u : Value} (l : Lit d u) : ∃ v, RelV v u ∧ ∀ (K : PySem.W.Frag) H, DR K H d v := by
  cases l with
  | non => exact ⟨.non, rfl, fun _ _ => .non⟩
  | bl b => exact ⟨.bl b, rfl, fun _ _ => .bl b⟩
  | int i t => exact ⟨.int i, ⟨t, rfl⟩, fun _ _ => .int i⟩
  | str z t => exact ⟨.str z, ⟨t, rfl⟩, fun _ _ => .str z⟩
theorem lits_rel : ∀ {ds : List D} {us : List Value}, Paired Lit ds us → ∃ vs, Vals vs us ∧ ∀ (K : PySem.W.Frag) H, DRs K H ds vs
  | _, _, .nil => ⟨[], .nil, fun _ _ => .nil⟩
  | _, _, .cons l r => let ⟨v, h1, h2⟩ := l.rel; let ⟨vs, h3, h4⟩ := lits_rel r; ⟨v :: vs, .cons h1 h3, fun K H => .cons (h2 K H) (h4 K H)⟩
/-- a def with defaults dd, as it stands behind the top -/
structure DefAtD (K : PySem.W.Frag) (x : Str) (st : Stmt) (dd : List D) : Prop where
  ex : ∃ (f T : Addr) (oc : Value) (od : Option Addr) (osl : Array (Option Value)) (o : Obj) (its : Array Value) (n : Nat) (kV doc pm : Value) (an : Option Addr) (cdv ct : Value), PySem.W.nsIn K mainGlobals x = some (some (.ref f)) ∧
    K.lookup f = some ⟨oc, od, .func (PySem.W.fnOf x x (defArgs st) (defBody st) (defScope st) (.ref T) kV doc pm an cdv ct), osl⟩ ∧ PySem.W.codeIn K cdv x = true ∧ PySem.W.keepIn K (.ref f) = true ∧ K.lookup T = some o ∧ o.data = .seq its n ∧ Paired Lit dd its.toList ∧ dd ≠ []
theorem defAtD {x : Str} {st : Stmt} {dd : List D} {f T : Addr} {oc : Value} {od od2 : Option Addr} {osl sl : Array (Option Value)} {its : Array Value} {n : Nat} {kV doc pm : Value} {an : Option Addr} {cdv ct : Value} (a : PySem.W.nsIn K mainGlobals x = some (some (.ref f)))
    (l : K.lookup f = some ⟨oc, od, .func (PySem.W.fnOf x x (defArgs st) (defBody st) (defScope st) (.ref T) kV doc pm an cdv ct), osl⟩) (c : PySem.W.codeIn K cdv x = true) (k : PySem.W.keepIn K (.ref f) = true) (t : K.lookup T = some ⟨.type "tuple", od2, .seq its n, sl⟩) (p : Paired Lit dd its.toList) (h : dd ≠ []) : DefAtD K x st dd :=
  ⟨⟨f, T, oc, od, osl, _, its, n, kV, doc, pm, an, cdv, ct, a, l, c, k, t, rfl, p, h⟩⟩
theorem DefAtD.get {x : Str} {st : Stmt} {dd : List D} {h : Heap} (D : DefAtD K x st dd) (X : K.In h) (G : h.Ns mainGlobals mg) : ∃ f fd dvs, FunD K x x (defArgs st) (defBody st) (defScope st) dvs [] f fd ∧ mg x = some (.ref f) ∧ (∀ H, DRs K H dd dvs) ∧ dvs ≠ [] ∧ dvs.length = dd.length := by
  obtain ⟨f, T, oc, od, osl, o, its, n, kV, doc, pm, an, cdv, ct, a, l, c, k, t, e, p, hne⟩ := D.ex
  obtain ⟨vs, h1, h2⟩ := lits_rel p
  have hl : vs.length = dd.length := ((h2 K (fun _ => none)).length).symm
  have hv : vs ≠ [] := fun z => by
    subst z
    cases dd with
    | nil => exact hne rfl
    | cons _ _ => cases hl
  exact ⟨f, _, vs, ⟨⟨oc, od, .ref T, kV, doc, pm, an, cdv, ct, osl, rfl, l, c, .inr ⟨hv, T, o, its.toList, n, rfl, t, by rw [e], h1⟩, .inl rfl⟩, k⟩, PySem.W.mg_of X G a, fun H => h2 K H, hv, hl⟩
theorem glb_tup {x : Str} {ds : List D} {a : Addr} {od : Option Addr} {its : Array Value} {n : Nat} {sl : Array (Option Value)} {h : Heap} (X : K.In h) (G : h.Ns mainGlobals mg) (e : PySem.W.nsIn K mainGlobals x = some (some (.ref a)))
    (l : K.lookup a = some ⟨.type "tuple", od, .seq its n, sl⟩) (hz : its.size ≤ sizeLine) (p : Paired Lit ds its.toList) : ∃ u v, mg x = some u ∧ RelV v u ∧ ∀ H, DR K H (.ktp ds) v := by
  obtain ⟨vs, h1, h2⟩ := lits_rel p
  exact ⟨_, .ref a, PySem.W.mg_of X G e, rfl, fun H => .ktp (.inr ⟨_, its, n, l, rfl, rfl, hz, h1⟩) (h2 K H)⟩
/-- the built-in names are free -/
theorem blt_of {h : Heap} (X : K.In h) (G : h.Ns mainGlobals mg) (z : ∀ x ∈ bltNames, PySem.W.nsIn K mainGlobals x = some none) : BltOk mg := fun x hx => PySem.W.mg_none_of X G (z x hx)
end
theorem ints_dr {K : PySem.W.Frag} {H : Hp} : ∀ ns : List Int, DRs K H (ns.map D.int) (ns.map V.int)
  | [] => .nil
  | n :: r => .cons (.int n) (ints_dr r)
/-- the law's promise: it gives True for every list of ints -/
def lawSp : DSp := fun ds M P => ∃ ns : List Int, ds = [.rol (ns.map D.int)] ∧ ns.length ≤ 63 ∧ ∀ M', P (.bl true) M'
theorem law_entry {K : PySem.W.Frag} {H : Hp} {a : Addr} {ns : List Int} (hl : ns.length ≤ 63) (hO : Only H) (hS : SqL K H a (ns.map V.int)) (E : XK) : upF K 1 lawSp [.ref a] H (fun v _ => v = .bl true) E := by
  refine ⟨rfl, [.rol (ns.map D.int)], fun _ => none, fun d _ => d = .bl true, .cons (.rol ?_ (ints_dr ns)) .nil, (fun _ _ e => (nomatch e)), ⟨ns, rfl, hl, fun _ => rfl⟩, fun d M' v H' e _ dv _ => ?_⟩
  · rcases hS with (h | ⟨o, h⟩) | h
    · rcases hO a with z | ⟨o, xs, z⟩
      · rw [h] at z; cases z
      · rw [h] at z; cases z
    · exact .inl ⟨o, h⟩
    · exact .inr h
  · subst e
    cases dv
    rfl
end DL
/-! DLp: steps through the transformers of a body, one rule a construct. -/
namespace DL
open PySem L2

section
variable {P : De} {ρ : Ev} {M : Mh} {Q : PQ} {a b e : DT} {wc wd : DB} {p q : DS} {wa : DA}
theorem t_nil (h : P.nx ρ M) : sNil P ρ M := h
theorem t_seq (h : p { P with nx := fun ρ1 M1 => q P ρ1 M1 } ρ M) : sSeq p q P ρ M := h
/-- a block in two parts, with what holds between them -/
theorem t_cut (R : Ev → Mh → Prop) (h : ∀ N : Ev → Mh → Prop, (∀ ρ' M', R ρ' M' → N ρ' M') → p { P with nx := N } ρ M) (h2 : ∀ ρ' M', R ρ' M' → q P ρ' M') : sSeq p q P ρ M := h _ h2
theorem t_if (h : wc ρ M fun k M1 => if k = true then p P ρ M1 else q P ρ M1) : sIf wc p q P ρ M := h
theorem t_asg {g : DG} (h : e ρ M fun d M1 => g d ρ M1 P.nx) : sAsg e g P ρ M := h
theorem t_exp (h : e ρ M fun _ M1 => P.nx ρ M1) : sExp e P ρ M := h
theorem t_ret (h : e ρ M P.rt) : sRet e P ρ M := h
theorem t_retN (h : P.rt .non M) : sRetN P ρ M := h
theorem t_brk (h : P.bk ρ M) : sBrk P ρ M := h
theorem t_cnt (h : P.ct ρ M) : sCnt P ρ M := h
theorem t_aug {i : Nat} {r : D → D → Mh → PQ → Prop} {x : D} (s : slot ρ i = some x) (h : e ρ M fun y M1 => r x y M1 fun z M2 => P.nx (ρ.set i (some z)) M2) : sAug i r e P ρ M := by
  unfold sAug; rw [s]; exact h
theorem t_for {it : DI} {g : DG} (h : it ρ M fun items chk M1 => forD g p chk P items ρ M1) : sFor it g p P ρ M := h
theorem t_gN {i : Nat} {d : D} {R : Ev → Mh → Prop} (h : R (ρ.set i (some d)) M) : gN i d ρ M R := h
theorem t_gT {n : Nat} {g : DGs} {ds : List D} {R : Ev → Mh → Prop} (l : ds.length = n) (h : g ds ρ M R) : gT n g (.tup ds) ρ M R := ⟨l, h⟩
theorem t_gTr {n : Nat} {g : DGs} {a : Addr} {ds : List D} {R : Ev → Mh → Prop} (e : M a = some (.lst ds)) (l : ds.length = n) (h : g ds ρ M R) : gT n g (.ref a) ρ M R := by
  show (match M a with | some (.lst ds) => ds.length = n ∧ g ds ρ M R | _ => False)
  rw [e]; exact ⟨l, h⟩
theorem t_gsC {g : DG} {r : DGs} {d : D} {ds : List D} {R : Ev → Mh → Prop} (h : g d ρ M fun ρ1 M1 => r ds ρ1 M1 R) : gsC g r (d :: ds) ρ M R := h
theorem t_gsN {R : Ev → Mh → Prop} (h : R ρ M) : gsN [] ρ M R := h
theorem t_gS {o i : DT} {d : D} {R : Ev → Mh → Prop} (h : o ρ M fun x M1 => i ρ M1 fun y M2 => setD x y d M2 fun M3 => R ρ M3) : gS o i d ρ M R := h
theorem t_var {i : Nat} {d : D} (s : slot ρ i = some d) (h : Q d M) : eVar i ρ M Q := by
  unfold eVar; rw [s]; exact h
theorem t_c {d : D} (h : Q d M) : eC d ρ M Q := h
theorem t_bin {r : D → D → Mh → PQ → Prop} (h : a ρ M fun x M1 => b ρ M1 fun y M2 => r x y M2 Q) : eBin r a b ρ M Q := h
theorem t_un {r : D → Mh → PQ → Prop} (h : a ρ M fun x M1 => r x M1 Q) : eUn r a ρ M Q := h
theorem t_cmp {r : Cmp} (h : a ρ M fun x M1 => b ρ M1 fun y M2 => r x y M2 fun k => Q (.bl k) M2) : eCmp r a b ρ M Q := h
theorem t_not (h : a ρ M fun x M1 => truD x M1 fun k => Q (.bl (!k)) M1) : eNot a ρ M Q := h
theorem t_and (h : a ρ M fun x M1 => truD x M1 fun k => if k = true then b ρ M1 Q else Q x M1) : eAnd a b ρ M Q := h
theorem t_or (h : a ρ M fun x M1 => truD x M1 fun k => if k = true then Q x M1 else b ρ M1 Q) : eOr a b ρ M Q := h
theorem t_ife (h : wc ρ M fun k M1 => if k = true then a ρ M1 Q else b ρ M1 Q) : eIf wc a b ρ M Q := h
theorem t_tup (h : wa ρ M fun xs M1 => xs.length ≤ sizeLine ∧ Q (.tup xs) M1) : eTup wa ρ M Q := h
theorem t_lst (h : wa ρ M fun xs M1 => xs.length ≤ sizeLine ∧ ∀ p, M1 p = none → Q (.ref p) (mup M1 p (.lst xs))) : eLst wa ρ M Q := h
theorem t_call {sp : List D → Mh → PQ → Prop} (h : wa ρ M fun xs M1 => sp xs M1 Q) : eCall sp wa ρ M Q := h
theorem t_fn {n : Nat} {sp : DSp} (h : wa ρ M fun xs M1 => xs.length = n ∧ sp xs M1 Q) : eFn n sp wa ρ M Q := h
theorem t_mt {T : String} {r : D → List D → Mh → PQ → Prop} (h : a ρ M fun x M1 => tyD T x M1 ∧ wa ρ M1 fun xs M2 => r x xs M2 Q) : eMt T r a wa ρ M Q := h
theorem t_isi {T : String} (h : a ρ M fun x M1 => isiD T x M1 Q) : eIsi T a ρ M Q := h
theorem t_sl {lo hi : Option DT} (h : a ρ M fun x M1 => oPart lo ρ M1 fun l M2 => oPart hi ρ M2 fun u M3 => slD x l u M3 Q) : eSl a lo hi ρ M Q := h
theorem t_o0 {R : Option Int → Mh → Prop} (h : R none M) : oPart none ρ M R := h
theorem t_o1 {R : Option Int → Mh → Prop} {w : DT} (h : w ρ M fun d M1 => match d with | .int i => R (some i) M1 | _ => False) : oPart (some w) ρ M R := h
theorem t_an {R : List D → Mh → Prop} (h : R [] M) : aNil ρ M R := h
theorem t_ac {R : List D → Mh → Prop} (h : a ρ M fun x M1 => wa ρ M1 fun xs M2 => R (x :: xs) M2) : aCons a wa ρ M R := h
theorem t_bcmp {r : Cmp} {R : Bool → Mh → Prop} (h : a ρ M fun x M1 => b ρ M1 fun y M2 => r x y M2 fun k => R k M2) : bCmp r a b ρ M R := h
theorem t_btru {R : Bool → Mh → Prop} (h : a ρ M fun x M1 => truD x M1 fun k => R k M1) : bTru a ρ M R := h
theorem t_bnot {R : Bool → Mh → Prop} (h : wc ρ M fun k M1 => R (!k) M1) : bNot wc ρ M R := h
theorem t_band {R : Bool → Mh → Prop} (h : wc ρ M fun k M1 => if k = true then wd ρ M1 R else R false M1) : bAnd wc wd ρ M R := h
theorem t_bor {R : Bool → Mh → Prop} (h : wc ρ M fun k M1 => if k = true then R true M1 else wd ρ M1 R) : bOr wc wd ρ M R := h
theorem t_byes {R : Bool → Mh → Prop} (h : R true M) : bYes ρ M R := h
theorem t_seqi {R : List D → (Mh → Prop) → Mh → Prop} (h : e ρ M fun x M1 => seqP x M1 R) : iSeq e ρ M R := h
theorem t_lc {it : DI} {t : Tg} {tt : DB} {te : DT} {vs : List Nat} (h : it ρ M fun items chk M1 => ∀ p, M1 p = none → lcLoop p chk t tt te (wipeD ρ vs) Q items (mup M1 p (.lst []))) : eLC it t tt te vs ρ M Q := h
theorem t_rg1 {R : List D → (Mh → Prop) → Mh → Prop} (h : wa ρ M fun xs M1 => match xs with
  | [.int j] => (-(2 ^ 62) ≤ j ∧ j < 2 ^ 62) ∧ R (rngI 0 j.toNat) (fun _ => True) M1
  | _ => False) : iRg1 wa ρ M R := h
theorem t_rg2 {R : List D → (Mh → Prop) → Mh → Prop} (h : wa ρ M fun xs M1 => match xs with
  | [.int i, .int j] => (-(2 ^ 62) ≤ i ∧ i < 2 ^ 62 ∧ -(2 ^ 62) ≤ j ∧ j < 2 ^ 62) ∧ R (rngI i (j - i).toNat) (fun _ => True) M1
  | _ => False) : iRg2 wa ρ M R := h
end

/-! ### values -/
section
variable {M : Mh} {Q : PQ} {R : Bool → Prop}
theorem v_tru_bl {b : Bool} (h : R b) : truD (.bl b) M R := h
theorem v_tru_int {i : Int} (h : R (i != 0)) : truD (.int i) M R := h
theorem v_tru_non (h : R false) : truD .non M R := h
theorem v_tru_ref {p : Addr} {ds : List D} (e : M p = some (.lst ds)) (h : R (!ds.isEmpty)) : truD (.ref p) M R := by
  show (match M p with | some (.lst ds) => R (!ds.isEmpty) | _ => False)
  rw [e]; exact h
theorem v_tru_tup {ds : List D} (h : R (!ds.isEmpty)) : truD (.tup ds) M R := h
theorem v_add_int {i j : Int} (h : Q (.int (i + j)) M) : addD (.int i) (.int j) M Q := h
theorem v_add_str {i j : Str} (l : i.length + j.length ≤ sizeLine) (h : Q (.str (i ++ j)) M) : addD (.str i) (.str j) M Q := ⟨l, h⟩
theorem v_add_tup {i j : List D} (l : i.length + j.length ≤ sizeLine) (h : Q (.tup (i ++ j)) M) : addD (.tup i) (.tup j) M Q := ⟨l, h⟩
theorem v_iadd_int {i j : Int} (h : Q (.int (i + j)) M) : iaddD (.int i) (.int j) M Q := h
theorem v_iadd_str {i j : Str} (l : i.length + j.length ≤ sizeLine) (h : Q (.str (i ++ j)) M) : iaddD (.str i) (.str j) M Q := ⟨l, h⟩
theorem v_sub {i j : Int} (h : Q (.int (i - j)) M) : subD (.int i) (.int j) M Q := h
theorem v_mul {i j : Int} (c : CMul i j) (h : Q (.int (i * j)) M) : mulD (.int i) (.int j) M Q := ⟨c, h⟩
theorem v_div {i j : Int} (c : 0 < j ∧ j < 1073741824) (h : Q (.int (i / j)) M) : divD (.int i) (.int j) M Q := ⟨c, h⟩
theorem v_mod {i j : Int} (c : 0 < j) (h : Q (.int (i % j)) M) : modD (.int i) (.int j) M Q := ⟨c, h⟩
theorem v_pow {i j : Int} (c : CPow i j) (h : Q (.int (i ^ j.toNat)) M) : powD (.int i) (.int j) M Q := ⟨c, h⟩
theorem v_neg {i : Int} (h : Q (.int (-i)) M) : negD (.int i) M Q := h
theorem deq_int {i j : Int} : deq (.int i) (.int j) = (i == j) := by simp [deq, pd, PyData.eqv]
theorem deq_str {i j : Str} : deq (.str i) (.str j) = (i == j) := by simp [deq, pd, PyData.eqv]
theorem deq_bl {i j : Bool} : deq (.bl i) (.bl j) = (i == j) := by simp [deq, pd, PyData.eqv]
theorem v_eq_int {i j : Int} (h : R (i == j)) : eqD (.int i) (.int j) M R := .inl ⟨.inl rfl, by rw [deq_int]; exact h⟩
theorem v_eq_str {i j : Str} (h : R (i == j)) : eqD (.str i) (.str j) M R := .inl ⟨.inl rfl, by rw [deq_str]; exact h⟩
theorem v_eq_bl {i j : Bool} (h : R (i == j)) : eqD (.bl i) (.bl j) M R := .inl ⟨.inl rfl, by rw [deq_bl]; exact h⟩
theorem v_ne_int {i j : Int} (h : R (!(i == j))) : neD (.int i) (.int j) M R := .inl ⟨.inl rfl, by rw [deq_int]; exact h⟩
theorem v_ne_str {i j : Str} (h : R (!(i == j))) : neD (.str i) (.str j) M R := .inl ⟨.inl rfl, by rw [deq_str]; exact h⟩
theorem v_ne_bl {i j : Bool} (h : R (!(i == j))) : neD (.bl i) (.bl j) M R := .inl ⟨.inl rfl, by rw [deq_bl]; exact h⟩
theorem v_lt {i j : Int} (h : R (decide (i < j))) : ltD (.int i) (.int j) M R := h
theorem v_lt_str {i j : Str} (h : R (decide (i.cps.toList < j.cps.toList))) : ltD (.str i) (.str j) M R := h
theorem v_le {i j : Int} (h : R (decide (i ≤ j))) : leD (.int i) (.int j) M R := h
theorem v_gt {i j : Int} (h : R (decide (j < i))) : gtD (.int i) (.int j) M R := h
theorem v_ge {i j : Int} (h : R (decide (j ≤ i))) : geD (.int i) (.int j) M R := h
theorem v_len_str {z : Str} (l : z.length ≤ sizeLine) (h : Q (.int z.length) M) : lenD [.str z] M Q := ⟨l, h⟩
theorem v_len_tup {ds : List D} (h : Q (.int ds.length) M) : lenD [.tup ds] M Q := h
theorem v_len_rol {ds : List D} (h : Q (.int ds.length) M) : lenD [.rol ds] M Q := h
theorem items_ref {p : Addr} {ds : List D} (e : M p = some (.lst ds)) : itemsD (.ref p) M = some ds := by
  show (match M p with | some (.lst ds) => some ds | _ => none) = _
  rw [e]
theorem dict_lst {p : Addr} {ds : List D} (e : M p = some (.lst ds)) : dictD (.ref p) M = none := by
  show (match M p with | some (.dk kvs) => some (MO.dk kvs) | some (.dt kvs) => some (.dt kvs) | _ => none) = _
  rw [e]
theorem dict_dk {p : Addr} {ds : List (Key × D)} (e : M p = some (.dk ds)) : dictD (.ref p) M = some (.dk ds) := by
  show (match M p with | some (.dk kvs) => some (MO.dk kvs) | some (.dt kvs) => some (.dt kvs) | _ => none) = _
  rw [e]
theorem dict_dt {p : Addr} {ds : List (List Key × D)} (e : M p = some (.dt ds)) : dictD (.ref p) M = some (.dt ds) := by
  show (match M p with | some (.dk kvs) => some (MO.dk kvs) | some (.dt kvs) => some (.dt kvs) | _ => none) = _
  rw [e]
theorem v_len_ref {p : Addr} {ds : List D} (e : M p = some (.lst ds)) (h : Q (.int ds.length) M) : lenD [.ref p] M Q := by
  show (match dictD (.ref p) M with | some o => Q (.int (dSize o)) M | none => (match itemsD (.ref p) M with | some ds => Q (.int ds.length) M | none => False))
  rw [dict_lst e, items_ref e]; exact h
theorem v_len_dict {p : Addr} {o : MO} (e : dictD (.ref p) M = some o) (h : Q (.int (dSize o)) M) : lenD [.ref p] M Q := by
  show (match dictD (.ref p) M with | some o => Q (.int (dSize o)) M | none => (match itemsD (.ref p) M with | some ds => Q (.int ds.length) M | none => False))
  rw [e]; exact h
theorem v_int_int {i : Int} (h : Q (.int i) M) : intD [.int i] M Q := h
theorem litems_ref {p : Addr} {ds : List D} (e : M p = some (.lst ds)) : litemsD (.ref p) M = some ds := by
  show (match M p with | some (.lst ds) => some ds | _ => none) = _
  rw [e]
theorem v_tuple_ref {p : Addr} {ds : List D} (e : M p = some (.lst ds)) (h : Q (.tup ds) M) : tupleD [.ref p] M Q := by
  show (match litemsD (.ref p) M with | some ds => Q (.tup ds) M | none => False)
  rw [litems_ref e]; exact h
theorem v_tuple_tup {ds : List D} (h : Q (.tup ds) M) : tupleD [.tup ds] M Q := h
theorem v_list_tup {ds : List D} (h : ∀ p, M p = none → Q (.ref p) (mup M p (.lst ds))) : listD [.tup ds] M Q := h
theorem v_list_ref {p : Addr} {ds : List D} (e : M p = some (.lst ds)) (h : ∀ l, M l = none → Q (.ref l) (mup M l (.lst ds))) : listD [.ref p] M Q := by
  show (match itemsD (.ref p) M with | some ds => ∀ l, M l = none → Q (.ref l) (mup M l (.lst ds)) | none => False)
  rw [items_ref e]; exact h
theorem v_max {i j : Int} (h : Q (.int (if j > i then j else i)) M) : maxD [.int i, .int j] M Q := h
theorem v_min {i j : Int} (h : Q (.int (if j < i then j else i)) M) : minD [.int i, .int j] M Q := h
theorem v_ix_tup {ds : List D} {i : Int} {d : D} (e : atI ds i = some d) (h : Q d M) : ixD (.tup ds) (.int i) M Q := by
  show (match atI ds i with | some d => Q d M | none => False)
  rw [e]; exact h
theorem v_ix_rol {ds : List D} {i : Int} {d : D} (e : atI ds i = some d) (h : Q d M) : ixD (.rol ds) (.int i) M Q := by
  show (match atI ds i with | some d => Q d M | none => False)
  rw [e]; exact h
theorem v_ix_ref {p : Addr} {ds : List D} {i : Int} {d : D} (e : M p = some (.lst ds)) (e2 : atI ds i = some d) (h : Q d M) : ixD (.ref p) (.int i) M Q := by
  unfold ixD
  rw [dict_lst e]
  show (match itemsD (.ref p) M with | some ds => (match atI ds i with | some d => Q d M | none => False) | none => False)
  rw [items_ref e]
  show (match atI ds i with | some d => Q d M | none => False)
  rw [e2]; exact h
theorem v_ix_dict {p : Addr} {y d : D} {o : MO} (e : dictD (.ref p) M = some o) (e2 : dGet o y = some (some d)) (h : Q d M) : ixD (.ref p) y M Q := by
  unfold ixD
  rw [e]
  show (match dGet o y with | some (some d) => Q d M | _ => False)
  rw [e2]; exact h
theorem v_ix_str {z : Str} {i : Int} {c : Nat} (l : z.length ≤ sizeLine) (e : atI z.cps.toList i = some c) (h : Q (.str ⟨#[c]⟩) M) : ixD (.str z) (.int i) M Q := by
  refine ⟨l, ?_⟩
  rw [e]; exact h
theorem v_set {p : Addr} {ds : List D} {i : Int} {j : Nat} {d : D} {S : Mh → Prop} (e : M p = some (.lst ds)) (e2 : ixN ds.length i = some j) (h : S (mup M p (.lst (ds.set j d)))) : setD (.ref p) (.int i) d M S := by
  unfold setD
  rw [dict_lst e]
  show (match M p with | some (.lst ds) => (match ixN ds.length i with | some j => S (mup M p (.lst (ds.set j d))) | none => False) | _ => False)
  rw [e]
  show (match ixN ds.length i with | some j => S (mup M p (.lst (ds.set j d))) | none => False)
  rw [e2]; exact h
theorem v_set_dict {p : Addr} {y d : D} {o o' : MO} {S : Mh → Prop} (e : dictD (.ref p) M = some o) (l : dSize o < sizeLine) (e2 : dPut o y d = some o') (h : S (mup M p o')) : setD (.ref p) y d M S := by
  unfold setD
  rw [e]
  refine ⟨l, ?_⟩
  rw [e2]; exact h
theorem v_in_dict {x : D} {p : Addr} {o : MO} {r : Option D} (e : dictD (.ref p) M = some o) (e2 : dGet o x = some r) (h : R r.isSome) : inD x (.ref p) M R := by
  unfold inD
  rw [e]
  show (match dGet o x with | some r => R r.isSome | none => False)
  rw [e2]; exact h
theorem v_nin_dict {x : D} {p : Addr} {o : MO} {r : Option D} (e : dictD (.ref p) M = some o) (e2 : dGet o x = some r) (h : R (!r.isSome)) : ninD x (.ref p) M R := v_in_dict (R := fun k => R (!k)) e e2 h
theorem v_keys {p : Addr} {o : MO} (e : dictD (.ref p) M = some o) (h : ∀ q, M q = none → Q (.ref q) (mup M q (.lst (dKeys o)))) : keysLD (.ref p) M Q := by
  unfold keysLD
  rw [e]; exact h
theorem v_ty_ref {p : Addr} {ds : List D} (e : M p = some (.lst ds)) : tyD "list" (.ref p) M := by
  show (match M p with | some (.lst _) => "list" = "list" | _ => False)
  rw [e]
theorem v_append {p : Addr} {ds : List D} {y : D} (e : M p = some (.lst ds)) (l : ds.length < sizeLine) (h : Q .non (mup M p (.lst (ds ++ [y])))) : appendD (.ref p) [y] M Q := by
  show (match M p with | some (.lst ds) => ds.length < sizeLine ∧ Q .non (mup M p (.lst (ds ++ [y]))) | _ => False)
  rw [e]; exact ⟨l, h⟩
theorem v_extend {p b : Addr} {ds es : List D} (e : M p = some (.lst ds)) (e2 : M b = some (.lst es)) (l : ds.length + es.length ≤ sizeLine) (h : Q .non (mup M p (.lst (ds ++ es)))) : extendD (.ref p) [.ref b] M Q := by
  show (match M p, M b with | some (.lst ds), some (.lst es) => ds.length + es.length ≤ sizeLine ∧ Q .non (mup M p (.lst (ds ++ es))) | _, _ => False)
  rw [e, e2]; exact ⟨l, h⟩
theorem v_join {z : Str} {x : D} {ds : List D} {ys : List Str} (e : itemsD x M = some ds) (e2 : strsOf ds = some ys) (l : (ys.map (·.length)).sum + ys.length * z.length ≤ 16777216) (h : Q (.str (Txt.join z ys)) M) : joinD (.str z) [x] M Q := by
  show (match itemsD x M with | some ds => (match strsOf ds with | some ys => (ys.map (·.length)).sum + ys.length * z.length ≤ 16777216 ∧ Q (.str (Txt.join z ys)) M | none => False) | none => False)
  rw [e]
  show (match strsOf ds with | some ys => (ys.map (·.length)).sum + ys.length * z.length ≤ 16777216 ∧ Q (.str (Txt.join z ys)) M | none => False)
  rw [e2]; exact ⟨l, h⟩
theorem v_sl_str {z : Str} {lo hi : Option Int} (l : z.length ≤ sizeLine) (h : Q (.str (cutS z lo hi)) M) : slD (.str z) lo hi M Q := ⟨l, h⟩
theorem v_sl_tup {ds : List D} {lo hi : Option Int} (h : Q (.tup (cutD ds lo hi)) M) : slD (.tup ds) lo hi M Q := h
theorem v_sl_rol {ds : List D} {lo hi : Option Int} (h : ∀ p, M p = none → Q (.ref p) (mup M p (.lst (cutD ds lo hi)))) : slD (.rol ds) lo hi M Q := h
theorem v_sl_ref {p : Addr} {ds : List D} {lo hi : Option Int} (e : M p = some (.lst ds)) (h : ∀ l, M l = none → Q (.ref l) (mup M l (.lst (cutD ds lo hi)))) : slD (.ref p) lo hi M Q := by
  show (match M p with | some (.lst ds) => ∀ l, M l = none → Q (.ref l) (mup M l (.lst (cutD ds lo hi))) | _ => False)
  rw [e]; exact h
theorem v_in_str {i j : Str} (h : R (strIn i j)) : inD (.str i) (.str j) M R := h
theorem v_nin_str {i j : Str} (h : R (!strIn i j)) : ninD (.str i) (.str j) M R := h
theorem strIn_one {c : Nat} {z : Str} : strIn ⟨#[c]⟩ z = decide (c ∈ z.cps.toList) := (PySem.StrLaws.found_one z c)
theorem v_seq_tup {ds : List D} {S : List D → (Mh → Prop) → Mh → Prop} (h : S ds (fun _ => True) M) : seqP (.tup ds) M S := h
theorem v_seq_rol {ds : List D} {S : List D → (Mh → Prop) → Mh → Prop} (h : S ds (fun _ => True) M) : seqP (.rol ds) M S := h
theorem v_seq_str {z : Str} {S : List D → (Mh → Prop) → Mh → Prop} (h : S (z.cps.toList.map fun c => .str ⟨#[c]⟩) (fun _ => True) M) : seqP (.str z) M S := h
theorem v_seq_ref {p : Addr} {ds : List D} {S : List D → (Mh → Prop) → Mh → Prop} (e : M p = some (.lst ds)) (h : S ds (fun M' => M' p = some (.lst ds)) M) : seqP (.ref p) M S := by
  show (match M p with | some (.lst ds) => S ds (fun M' => M' p = some (.lst ds)) M | _ => False)
  rw [e]; exact h
theorem v_seq_ktp {ds : List D} {S : List D → (Mh → Prop) → Mh → Prop} (h : S ds (fun _ => True) M) : seqP (.ktp ds) M S := h
theorem t_ite {c : Bool} {A B : Prop} (h1 : c = true → A) (h2 : c = false → B) : if c = true then A else B := by
  cases c
  · rw [if_neg Bool.false_ne_true]; exact h2 rfl
  · rw [if_pos rfl]; exact h1 rfl
theorem t_if0 {c : Bool} {A B : Prop} (e : c = false) (h : B) : if c = true then A else B := by rw [e, if_neg Bool.false_ne_true]; exact h
theorem t_if1 {c : Bool} {A B : Prop} (e : c = true) (h : A) : if c = true then A else B := by rw [e, if_pos rfl]; exact h
theorem v_isi_non {T : String} (h : Q (.bl false) M) : isiD T .non M Q := h
theorem v_isi_bl {T : String} {b : Bool} (h : Q (.bl (T == "bool" || T == "int")) M) : isiD T (.bl b) M Q := h
theorem v_isi_int {T : String} {b : Int} (h : Q (.bl (T == "int")) M) : isiD T (.int b) M Q := h
theorem v_isi_str {T : String} {b : Str} (h : Q (.bl (T == "str")) M) : isiD T (.str b) M Q := h
theorem v_isi_tup {T : String} {b : List D} (h : Q (.bl (T == "tuple")) M) : isiD T (.tup b) M Q := h
theorem v_in_tup {x : D} {ds : List D} (f : inOk x ds) (h : R (memD x ds)) : inD x (.tup ds) M R := by
  cases x <;> exact ⟨f, h⟩
theorem v_nin_tup {x : D} {ds : List D} (f : inOk x ds) (h : R (!memD x ds)) : ninD x (.tup ds) M R := by
  cases x <;> exact ⟨f, h⟩
theorem v_in_ktp {x : D} {ds : List D} (f : inOk x ds) (h : R (memD x ds)) : inD x (.ktp ds) M R := by
  cases x <;> exact ⟨f, h⟩
theorem v_nin_ktp {x : D} {ds : List D} (f : inOk x ds) (h : R (!memD x ds)) : ninD x (.ktp ds) M R := by
  cases x <;> exact ⟨f, h⟩
theorem v_in_ref {x : D} {p : Addr} {ds : List D} (e : M p = some (.lst ds)) (f : inOk x ds) (h : R (memD x ds)) : inD x (.ref p) M R := by
  unfold inD
  rw [dict_lst e]
  have e2 := items_ref e
  cases x <;> (show (match itemsD (.ref p) M with | some ys => inOk _ ys ∧ R (memD _ ys) | none => False)) <;> rw [e2] <;> exact ⟨f, h⟩
theorem v_nin_ref {x : D} {p : Addr} {ds : List D} (e : M p = some (.lst ds)) (f : inOk x ds) (h : R (!memD x ds)) : ninD x (.ref p) M R := v_in_ref (R := fun k => R (!k)) e f h
theorem v_sorted {p : Addr} {ds : List D} (e : M p = some (.lst ds)) (sk : SortK ds) (h : ∀ ys q, ys.Perm ds → ys.Pairwise (fun a b => ¬ (eD b < eD a)) → M q = none → Q (.ref q) (mup M q (.lst ys))) : sortedD [.ref p] M Q := by
  show (match litemsD (.ref p) M with | some ds => SortK ds ∧ ∀ ys q, ys.Perm ds → ys.Pairwise (fun a b => ¬ (eD b < eD a)) → M q = none → Q (.ref q) (mup M q (.lst ys)) | none => False)
  rw [litems_ref e]; exact ⟨sk, h⟩
theorem v_maxl {p : Addr} {ds : List D} {ns : List Int} (e : M p = some (.lst ds)) (e2 : intsOf ds = some ns) (l : 0 < ns.length) (h : ∀ m, m ∈ ns → (∀ y, y ∈ ns → y ≤ m) → Q (.int m) M) : maxD [.ref p] M Q := by
  show (match litemsD (.ref p) M with | some ds => (match intsOf ds with | some ns => 0 < ns.length ∧ ∀ m, m ∈ ns → (∀ y, y ∈ ns → y ≤ m) → Q (.int m) M | none => False) | none => False)
  rw [litems_ref e]
  show (match intsOf ds with | some ns => 0 < ns.length ∧ ∀ m, m ∈ ns → (∀ y, y ∈ ns → y ≤ m) → Q (.int m) M | none => False)
  rw [e2]; exact ⟨l, h⟩
theorem v_minl {p : Addr} {ds : List D} {ns : List Int} (e : M p = some (.lst ds)) (e2 : intsOf ds = some ns) (l : 0 < ns.length) (h : ∀ m, m ∈ ns → (∀ y, y ∈ ns → m ≤ y) → Q (.int m) M) : minD [.ref p] M Q := by
  show (match litemsD (.ref p) M with | some ds => (match intsOf ds with | some ns => 0 < ns.length ∧ ∀ m, m ∈ ns → (∀ y, y ∈ ns → m ≤ y) → Q (.int m) M | none => False) | none => False)
  rw [litems_ref e]
  show (match intsOf ds with | some ns => 0 < ns.length ∧ ∀ m, m ∈ ns → (∀ y, y ∈ ns → m ≤ y) → Q (.int m) M | none => False)
  rw [e2]; exact ⟨l, h⟩
theorem t_dct_k (h : ∀ p, M p = none → Q (.ref p) (mup M p (.dk []))) : eDct ρ M Q := .inl h
theorem t_dct_t (h : ∀ p, M p = none → Q (.ref p) (mup M p (.dt []))) : eDct ρ M Q := .inr h
theorem t_d1 {e : DT} (h : ∀ p, M p = none → a ρ (mup M p (.dk [])) fun x M1 => e ρ M1 fun y M2 => M2 p = some (.dk []) ∧ match keyD x with
  | some k => Q (.ref p) (mup M2 p (.dk [(k, y)]))
  | none => False) : eD1 a e ρ M Q := h
theorem t_ks (h : a ρ M fun x M1 => keysLD x M1 Q) : eKs a ρ M Q := h
theorem t_rv (h : a ρ M fun x M1 => match itemsD x M1 with
  | some ds => ∀ p, M1 p = none → Q (.ref p) (mup M1 p (.lst ds.reverse))
  | none => False) : eRv a ρ M Q := h
theorem t_tr (h : a ρ M fun x M1 => match itemsD x M1 with
  | some ds => Q (.tup ds.reverse) M1
  | none => False) : eTr a ρ M Q := h
theorem t_rg3 {R : List D → (Mh → Prop) → Mh → Prop} (h : wa ρ M fun xs M1 => match xs with
  | [.int i, .int j, .int c] => (0 ≤ i ∧ i < 1073741824 ∧ 0 ≤ j ∧ j < 1073741824 ∧ 0 < c ∧ c < 1073741824) ∧ R (rngC i c (stepN i j c)) (fun _ => True) M1
  | _ => False) : iRg3 wa ρ M R := h
theorem v_ty_str {z : Str} : tyD "str" (.str z) M := rfl
theorem v_eq_tup {xs ys : List D} (f : okD (.tup xs) = true ∧ okD (.tup ys) = true) (h : R (deq (.tup xs) (.tup ys))) : eqD (.tup xs) (.tup ys) M R := .inl ⟨.inr f, h⟩
theorem rol_ints : ∀ ns : List Int, PyData.canLayAll0 (pds (ns.map D.int)) = true ∧ PyData.depthAll (pds (ns.map D.int)) ≤ 1
  | [] => by simp [pds, PyData.canLayAll0, PyData.depthAll]
  | n :: r => by
    obtain ⟨i1, i2⟩ := rol_ints r
    simp only [List.map_cons, pds, pd, PyData.canLayAll0, PyData.canLay0, PyData.depthAll, PyData.depth, i1, Bool.true_and, true_and]
    omega
theorem okD_ints (ns : List Int) : okD (.rol (ns.map D.int)) = true := by
  obtain ⟨i1, i2⟩ := rol_ints ns
  unfold okD SeqAt.shaped
  simp only [pd, PyData.canLay0, PyData.depth, i1, Bool.true_and, decide_eq_true_eq]
  omega
theorem deq_ints : ∀ ns ms : List Int, deq (.rol (ns.map D.int)) (.rol (ms.map D.int)) = decide (ns = ms)
  | [], [] => rfl
  | [], m :: s => by simp [deq, pd, pds, PyData.eqv, PyData.eqvAll]
  | n :: r, [] => by simp [deq, pd, pds, PyData.eqv, PyData.eqvAll]
  | n :: r, m :: s => by
    have := deq_ints r s
    simp only [deq, pd, PyData.eqv] at this
    simp only [deq, List.map_cons, pd, pds, PyData.eqv, PyData.eqvAll, this]
    by_cases h : n = m <;> by_cases h2 : r = s <;> simp [h, h2]
theorem v_ne_ints {p q : Addr} {ns ms : List Int} (e : M p = some (.lst (ns.map D.int))) (e2 : M q = some (.lst (ms.map D.int))) (h : R (!decide (ns = ms))) : neD (.ref p) (.ref q) M R :=
  .inr ⟨_, _, litems_ref e, litems_ref e2, ⟨okD_ints ns, okD_ints ms⟩, by rw [deq_ints]; exact h⟩
theorem v_eq_ints {p q : Addr} {ns ms : List Int} (e : M p = some (.lst (ns.map D.int))) (e2 : M q = some (.lst (ms.map D.int))) (h : R (decide (ns = ms))) : eqD (.ref p) (.ref q) M R :=
  .inr ⟨_, _, litems_ref e, litems_ref e2, ⟨okD_ints ns, okD_ints ms⟩, by rw [deq_ints]; exact h⟩
theorem CMul.r {i j : Int} (h : -(2 ^ 64) < j ∧ j < 2 ^ 64) : CMul i j := .inr h
theorem CMul.l {i j : Int} (h : -(2 ^ 64) < i ∧ i < 2 ^ 64) : CMul i j := .inl h
end

/-! ### heaps -/
theorem mup_mup {M : Mh} {a : Addr} {o o' : MO} : mup (mup M a o) a o' = mup M a o' := by
  funext b; unfold mup; split <;> rfl
theorem ne_free {M : Mh} {a p : Addr} {o : MO} (h : M a = some o) (n : M p = none) : a ≠ p := fun e => by rw [e, n] at h; cases h
/-- elsewhere as it was -/
def MKeep (S : Addr → Prop) (M M' : Mh) : Prop := ∀ a o, ¬ S a → M a = some o → M' a = some o
theorem MKeep.refl {S : Addr → Prop} {M : Mh} : MKeep S M M := fun _ _ _ h => h
theorem MKeep.trans {S : Addr → Prop} {M M1 M2 : Mh} (x : MKeep S M M1) (y : MKeep S M1 M2) : MKeep S M M2 := fun a o n h => y a o n (x a o n h)
theorem MKeep.fresh {S : Addr → Prop} {M : Mh} {p : Addr} {o : MO} (n : M p = none) : MKeep S M (mup M p o) := fun a o _ h => by rw [mup_ne (ne_free h n)]; exact h
theorem MKeep.put {S : Addr → Prop} {M : Mh} {p : Addr} {o : MO} (h : S p) : MKeep S M (mup M p o) := fun a o n q => by rw [mup_ne fun e => n (by rw [e]; exact h)]; exact q
theorem MKeep.mono {S S' : Addr → Prop} {M M1 : Mh} (x : MKeep S M M1) (h : ∀ a, S a → S' a) : MKeep S' M M1 := fun a o n q => x a o (fun z => n (h a z)) q
theorem MKeep.over {S : Addr → Prop} {M M' : Mh} {p : Addr} {o : MO} (x : MKeep S M M') (n : M p = none) : MKeep S M (mup M' p o) := fun a q h e => by rw [mup_ne (ne_free e n)]; exact x a q h e
abbrev MExt (M M' : Mh) : Prop := MKeep (fun _ => False) M M'

/-! ### loops by what holds of them -/
theorem for_each {g : DG} {b : DS} {chk : Mh → Prop} {P : De} {items : List D} {ρ : Ev} {M : Mh} (I : Nat → Ev → Mh → Prop) (h0 : I 0 ρ M)
    (step : ∀ (N : Ev → Mh → Prop) (i : Nat) (d : D) (ρ : Ev) (M : Mh), items[i]? = some d → I i ρ M → (∀ ρ' M', I (i + 1) ρ' M' → N ρ' M') → chk M ∧ g d ρ M fun ρ1 M1 => b { P with nx := N, ct := N, bk := P.nx } ρ1 M1)
    (fin : ∀ ρ M, I items.length ρ M → chk M ∧ P.nx ρ M) : forD g b chk P items ρ M := by
  have go : ∀ (l : List D) (i : Nat) (ρ : Ev) (M : Mh), items.drop i = l → i ≤ items.length → I i ρ M → forD g b chk P l ρ M := by
    intro l
    induction l with
    | nil =>
      intro i ρ M e hi h
      have : i = items.length := by
        have := congrArg List.length e
        simp at this
        omega
      subst this
      exact fin ρ M h
    | cons d l ih =>
      intro i ρ M e hi h
      have hl : i < items.length := by
        have := congrArg List.length e
        simp at this
        omega
      have e1 : items[i]? = some d := by
        have := congrArg (·[0]?) e
        simpa using this
      have e2 : items.drop (i + 1) = l := by
        rw [show i + 1 = i + 1 from rfl, ← List.drop_drop, e]; rfl
      exact step _ i d ρ M e1 h fun ρ' M' h' => ih (i + 1) ρ' M' e2 hl h'
  exact go items 0 ρ M rfl (Nat.zero_le _) h0
theorem while_each {c : DB} {b : DS} {P : De} {ρ : Ev} {M : Mh} (I : Nat → Ev → Mh → Prop) (m : Nat) (h0 : I m ρ M)
    (step : ∀ (N : Ev → Mh → Prop) (m : Nat) (ρ : Ev) (M : Mh), I m ρ M → (∀ m' ρ' M', m' < m → I m' ρ' M' → N ρ' M') → c ρ M fun t M1 => if t = true then b { P with nx := N, ct := N, bk := P.nx } ρ M1 else P.nx ρ M1) : sWh c b P ρ M := by
  have go : ∀ (n m : Nat) (ρ : Ev) (M : Mh), m < n → I m ρ M → whileD c b P n ρ M := by
    intro n
    induction n with
    | zero => intro m ρ M h; omega
    | succ n ih => intro m ρ M h hI; exact step _ m ρ M hI fun m' ρ' M' h' hI' => ih m' ρ' M' (by omega) hI'
  exact ⟨m + 1, go (m + 1) m ρ M (Nat.lt_succ_self m) h0⟩
/-- a comprehension without a test -/
theorem lc_each {t : Tg} {te : DT} {chk : Mh → Prop} {ρ : Ev} {Q : PQ} {items : List D} {M : Mh} {p : Addr} (I : Nat → List D → Mh → Prop) (hz : items.length < sizeLine) (hp : M p = some (.lst [])) (h0 : I 0 [] M)
    (step : ∀ (R : PQ) (i : Nat) (d : D) (acc : List D) (M : Mh), items[i]? = some d → acc.length = i → I i acc M → M p = some (.lst acc) → (∀ y M2, M2 p = some (.lst acc) → I (i + 1) (acc ++ [y]) (mup M2 p (.lst (acc ++ [y]))) → R y M2) →
      chk M ∧ ∃ ρ1, tgD t d ρ = some ρ1 ∧ te ρ1 M R)
    (fin : ∀ acc M, acc.length = items.length → I items.length acc M → M p = some (.lst acc) → chk M ∧ Q (.ref p) M) : lcLoop p chk t bYes te ρ Q items M := by
  have go : ∀ (l : List D) (i : Nat) (acc : List D) (M : Mh), items.drop i = l → i ≤ items.length → acc.length = i → I i acc M → M p = some (.lst acc) → lcLoop p chk t bYes te ρ Q l M := by
    intro l
    induction l with
    | nil =>
      intro i acc M e hi ha h hp
      have : i = items.length := by
        have := congrArg List.length e
        simp at this
        omega
      subst this
      exact fin acc M ha h hp
    | cons d l ih =>
      intro i acc M e hi ha h hp
      have hl : i < items.length := by
        have := congrArg List.length e
        simp at this
        omega
      have e1 : items[i]? = some d := by
        have := congrArg (·[0]?) e
        simpa using this
      have e2 : items.drop (i + 1) = l := by
        rw [show i + 1 = i + 1 from rfl, ← List.drop_drop, e]; rfl
      obtain ⟨hc, ρ1, ht, hw⟩ := step (fun y M2 => match M2 p with
        | some (.lst acc) => acc.length < sizeLine ∧ lcLoop p chk t bYes te ρ Q l (mup M2 p (.lst (acc ++ [y])))
        | _ => False) i d acc M e1 ha h hp (fun y M2 hp2 h2 => by
          simp only [hp2]
          exact ⟨by omega, ih (i + 1) (acc ++ [y]) _ e2 hl (by simp [ha]) h2 mup_same⟩)
      refine ⟨hc, ?_⟩
      rw [ht]
      unfold bYes
      dsimp only
      rw [if_pos rfl]
      exact hw
  exact go items 0 [] M rfl (Nat.zero_le _) rfl h0 hp
/-- .. with a test -/
theorem lc_eachT {t : Tg} {tt : DB} {te : DT} {chk : Mh → Prop} {ρ : Ev} {Q : PQ} {items : List D} {M : Mh} {p : Addr} (I : Nat → List D → Mh → Prop) (hz : items.length < sizeLine) (hp : M p = some (.lst [])) (h0 : I 0 [] M)
    (step : ∀ (R : PQ) (S : Mh → Prop) (i : Nat) (d : D) (acc : List D) (M : Mh), items[i]? = some d → acc.length ≤ i → I i acc M → M p = some (.lst acc) → (∀ y M2, M2 p = some (.lst acc) → I (i + 1) (acc ++ [y]) (mup M2 p (.lst (acc ++ [y]))) → R y M2) →
      (∀ M2, M2 p = some (.lst acc) → I (i + 1) acc M2 → S M2) → chk M ∧ ∃ ρ1, tgD t d ρ = some ρ1 ∧ tt ρ1 M fun k M1 => if k = true then te ρ1 M1 R else S M1)
    (fin : ∀ acc M, acc.length ≤ items.length → I items.length acc M → M p = some (.lst acc) → chk M ∧ Q (.ref p) M) : lcLoop p chk t tt te ρ Q items M := by
  have go : ∀ (l : List D) (i : Nat) (acc : List D) (M : Mh), items.drop i = l → i ≤ items.length → acc.length ≤ i → I i acc M → M p = some (.lst acc) → lcLoop p chk t tt te ρ Q l M := by
    intro l
    induction l with
    | nil =>
      intro i acc M e hi ha h hp
      have : i = items.length := by
        have := congrArg List.length e
        simp at this
        omega
      subst this
      exact fin acc M ha h hp
    | cons d l ih =>
      intro i acc M e hi ha h hp
      have hl : i < items.length := by
        have := congrArg List.length e
        simp at this
        omega
      have e1 : items[i]? = some d := by
        have := congrArg (·[0]?) e
        simpa using this
      have e2 : items.drop (i + 1) = l := by
        rw [show i + 1 = i + 1 from rfl, ← List.drop_drop, e]; rfl
      obtain ⟨hc, ρ1, ht, hw⟩ := step (fun y M2 => match M2 p with
        | some (.lst acc) => acc.length < sizeLine ∧ lcLoop p chk t tt te ρ Q l (mup M2 p (.lst (acc ++ [y])))
        | _ => False) (fun M2 => lcLoop p chk t tt te ρ Q l M2) i d acc M e1 ha h hp (fun y M2 hp2 h2 => by
          simp only [hp2]
          exact ⟨by omega, ih (i + 1) (acc ++ [y]) _ e2 hl (by simp; omega) h2 mup_same⟩) (fun M2 hp2 h2 => ih (i + 1) acc M2 e2 hl (by omega) h2 hp2)
      refine ⟨hc, ?_⟩
      rw [ht]
      exact hw
  exact go items 0 [] M rfl (Nat.zero_le _) (Nat.le_refl _) h0 hp

/-! ### items -/
theorem atI_mem {α : Type} {ds : List α} {k : Int} (h0 : 0 ≤ k) (h1 : k < ds.length) : ∃ d, atI ds k = some d ∧ d ∈ ds ∧ ds[k.toNat]? = some d := by
  have h2 : k.toNat < ds.length := by omega
  refine ⟨ds[k.toNat], ?_, List.getElem_mem h2, List.getElem?_eq_getElem h2⟩
  unfold atI ixN
  rw [if_pos h0, if_pos h1]
  exact List.getElem?_eq_getElem h2
theorem atI_get? {α : Type} {ds : List α} {k : Int} {d : α} (h0 : 0 ≤ k) (h : ds[k.toNat]? = some d) : atI ds k = some d := by
  have h2 := (List.getElem?_eq_some_iff.mp h).1
  unfold atI ixN
  rw [if_pos h0, if_pos (by omega)]
  exact h
theorem intsOf_map (ns : List Int) : intsOf (ns.map D.int) = some ns := by
  induction ns with
  | nil => rfl
  | cons n r ih => simp [intsOf, ih]
theorem strsOf_map (ns : List Str) : strsOf (ns.map D.str) = some ns := by
  induction ns with
  | nil => rfl
  | cons n r ih => simp [strsOf, ih]

/-! ### texts as lists of signs -/
def st (l : List Nat) : Str := ⟨l.toArray⟩
theorem st_cps (l : List Nat) : (st l).cps.toList = l := by simp [st]
theorem st_len (l : List Nat) : (st l).length = l.length := by simp [st, Str.length]
theorem st_of (z : Str) : z = st z.cps.toList := by cases z; simp [st]
theorem st_app (l r : List Nat) : st l ++ st r = st (l ++ r) := by
  show (⟨l.toArray ++ r.toArray⟩ : Str) = ⟨(l ++ r).toArray⟩
  simp
theorem st_inj {l r : List Nat} (h : st l = st r) : l = r := by
  have := congrArg (fun z : Str => z.cps.toList) h
  simpa [st] using this
theorem st_beq (l r : List Nat) : (st l == st r) = (l == r) := by
  by_cases h : l = r
  · subst h; simp
  · have : st l ≠ st r := fun e => h (st_inj e)
    rw [beq_eq_false_iff_ne.mpr this, beq_eq_false_iff_ne.mpr h]
theorem st_one (c : Nat) : (⟨#[c]⟩ : Str) = st [c] := rfl
theorem st_cut (l : List Nat) (lo hi : Option Int) : cutS (st l) lo hi = st ((l.drop (HT.sIx l.length 0 lo)).take (HT.sIx l.length l.length hi - HT.sIx l.length 0 lo)) := by
  unfold cutS
  rw [st_cps, st_len]; rfl
theorem st_cut_nat (l : List Nat) (i j : Nat) : cutS (st l) (some (i : Int)) (some (j : Int)) = st ((l.drop i).take (j - i)) := by
  rw [st_cut, HT.sIx_nat, HT.sIx_nat]
  congr 1
  by_cases h : i ≤ l.length
  · rw [Nat.min_eq_left h]
    by_cases h2 : j ≤ l.length
    · rw [Nat.min_eq_left h2]
    · rw [Nat.min_eq_right (show l.length ≤ j by omega), List.take_of_length_le (by simp), List.take_of_length_le (by simp; omega)]
  · rw [Nat.min_eq_right (show l.length ≤ i by omega), List.drop_of_length_le (Nat.le_refl _), List.drop_of_length_le (show l.length ≤ i by omega)]
    simp
theorem st_take (l : List Nat) (j : Nat) : cutS (st l) none (some (j : Int)) = st (l.take j) := by
  rw [st_cut, HT.sIx_none, HT.sIx_nat, List.drop_zero, Nat.sub_zero]
  congr 1
  by_cases h : j ≤ l.length
  · rw [Nat.min_eq_left h]
  · rw [Nat.min_eq_right (show l.length ≤ j by omega), List.take_length, List.take_of_length_le (show l.length ≤ j by omega)]
theorem st_drop (l : List Nat) (i : Nat) : cutS (st l) (some (i : Int)) none = st (l.drop i) := by
  rw [st_cut, HT.sIx_none, HT.sIx_nat]
  congr 1
  by_cases h : i ≤ l.length
  · rw [Nat.min_eq_left h, List.take_of_length_le (by simp)]
  · rw [Nat.min_eq_right (by omega), List.drop_of_length_le (Nat.le_refl _), List.drop_of_length_le (show l.length ≤ i by omega)]
    simp

/-! ### more of texts and items -/
theorem st_push (c : Nat) : (⟨#[c]⟩ : Str) = st [c] := rfl
def lit (z : Str) : List Nat := z.cps.toList
theorem lit_st (l : List Nat) : lit (st l) = l := st_cps l
theorem st_lit (z : Str) : st (lit z) = z := (st_of z).symm
theorem lit_len (z : Str) : (lit z).length = z.length := by simp [lit, Str.length]
theorem atI_map {α : Type} {zs : List α} {f : α → D} {k : Int} (h0 : 0 ≤ k) (h1 : k < zs.length) : ∃ z, z ∈ zs ∧ atI (zs.map f) k = some (f z) := by
  obtain ⟨d, h2, h3, h4⟩ := atI_mem (ds := zs) h0 h1
  refine ⟨d, h3, atI_get? h0 ?_⟩
  rw [List.getElem?_map, h4]; rfl
theorem atI_end {α : Type} (ds : List α) (d : α) : atI (ds ++ [d]) (((ds ++ [d]).length : Int) - 1) = some d := by
  have e : (((ds ++ [d]).length : Int) - 1) = ((ds.length : Nat) : Int) := by simp
  rw [e]
  exact atI_nat (by simp)
theorem ixN_end {α : Type} (ds : List α) (d : α) : ixN (ds ++ [d]).length (((ds ++ [d]).length : Int) - 1) = some ds.length := by
  have e : (((ds ++ [d]).length : Int) - 1) = ((ds.length : Nat) : Int) := by simp
  rw [e]
  unfold ixN
  rw [if_pos (Int.natCast_nonneg _), if_pos (by rw [List.length_append]; simp; omega)]
  simp
/-- texts of small signs: data that == takes -/
def small (l : List Nat) : Prop := ∀ c ∈ l, c < 128
theorem strOk_small {l : List Nat} (h : small l) : PyData.strOk (st l) = true := by
  unfold PyData.strOk st
  simp only [List.all_toArray, List.all_eq_true, decide_eq_true_eq]
  intro c hc
  have := h c hc
  omega
theorem okD_strs {ts : List (List Nat)} (h : ∀ t ∈ ts, small t) : okD (.tup (ts.map fun t => .str (st t))) = true := by
  have h1 : ∀ ts : List (List Nat), (∀ t ∈ ts, small t) → PyData.canLayAll0 (pds (ts.map fun t => .str (st t))) = true ∧ PyData.depthAll (pds (ts.map fun t => .str (st t))) ≤ 1 := by
    intro ts
    induction ts with
    | nil => intro _; simp [pds, PyData.canLayAll0, PyData.depthAll]
    | cons t r ih =>
      intro h
      obtain ⟨i1, i2⟩ := ih fun x hx => h x (List.mem_cons_of_mem _ hx)
      have := strOk_small (h t List.mem_cons_self)
      simp only [List.map_cons, pds, pd, PyData.canLayAll0, PyData.canLay0, PyData.depthAll, PyData.depth, this, i1, Bool.true_and, true_and]
      omega
  obtain ⟨i1, i2⟩ := h1 ts h
  unfold okD SeqAt.shaped
  simp only [pd, PyData.canLay0, PyData.depth, i1, Bool.true_and, decide_eq_true_eq]
  omega
theorem deq_refl (x : D) (h : okD x = true) : deq x x = true := SeqAt.eqv_refl _ (SeqAt.canLay_of_shaped h)

/-! ### texts joined -/
theorem glue_fold (g : Array Nat) : ∀ (ps : List Str) (a : Array Nat), (ps.foldl (fun acc p => acc ++ g ++ p.cps) a).toList = a.toList ++ ps.flatMap fun q => g.toList ++ lit q
  | [], a => by simp
  | p :: ps, a => by
    rw [List.foldl_cons, glue_fold g ps]
    simp [lit]
theorem join_lit (z p : Str) (ps : List Str) : lit (Txt.join z (p :: ps)) = lit p ++ ps.flatMap fun q => lit z ++ lit q := by
  show (((p :: ps).drop 1).foldl (fun acc p => acc ++ z.cps ++ p.cps) ((p :: ps).headD Str.empty).cps).toList = _
  rw [glue_fold]; rfl
theorem join_nil (z : Str) : Txt.join z [] = st [] := rfl
theorem join_empty (ys : List Str) : lit (Txt.join "" ys) = ys.flatMap lit := by
  cases ys with
  | nil => rfl
  | cons p ps =>
    rw [join_lit]
    have : lit (("" : String) : Str) = [] := by decide +kernel
    simp [this]
theorem str_ext {x y : Str} (h : lit x = lit y) : x = y := by
  rw [← st_lit x, ← st_lit y, h]
end DL
/-! DLq: the draws that every law has: a cell of the script, a jar, a pick. -/
namespace DL
open PySem L2
-- what the heap holds at a place
local macro_rules | `(tactic| walk_at "h") => `(tactic| first
  | assumption
  | exact mup_same
  | (refine (mup_ne ?_).trans ?_ <;> first | assumption | (apply Ne.symm; assumption) | walk_at "h"))
-- small facts of numbers
local macro_rules | `(tactic| walk_at "n") => `(tactic| first
  | assumption
  | omega
  | decide
  | (exact CMul.r (by decide))
  | (exact CMul.l (by decide))
  | (refine ⟨?_, ?_⟩ <;> first | assumption | omega | decide))
-- lengths
local macro_rules | `(tactic| walk_at "l") => `(tactic| first
  | assumption
  | (rw [sizeLine_eq]; first | omega | decide | (simp; done) | (simp; omega) | decide +kernel))
-- one step
local macro_rules | `(tactic| walk_at "e1") => `(tactic| first
  | with_reducible refine t_nil ?_
  | ((with_reducible refine' t_var ?s ?_); (case s => first | assumption | exact rfl))
  | with_reducible refine t_c ?_
  | with_reducible refine t_bin ?_
  | with_reducible refine t_if ?_
  | with_reducible refine t_asg ?_
  | with_reducible refine t_gN ?_
  | with_reducible refine t_ret ?_
  | with_reducible refine t_exp ?_
  | with_reducible refine t_bcmp ?_
  | with_reducible refine t_band ?_
  | with_reducible refine t_bor ?_
  | with_reducible refine t_bnot ?_
  | with_reducible refine t_btru ?_
  | with_reducible refine t_byes ?_
  | with_reducible refine t_an ?_
  | with_reducible refine t_ac ?_
  | with_reducible refine t_fn ?_
  | with_reducible refine t_call ?_
  | with_reducible refine t_cmp ?_
  | with_reducible refine t_and ?_
  | with_reducible refine t_or ?_
  | with_reducible refine t_not ?_
  | with_reducible refine t_ife ?_
  | with_reducible refine t_tup ?_
  | with_reducible refine t_lst ?_
  | with_reducible refine t_isi ?_
  | with_reducible refine t_sl ?_
  | with_reducible refine t_o0 ?_
  | with_reducible refine t_o1 ?_
  | with_reducible refine t_un ?_
  | with_reducible refine t_mt ?_
  | with_reducible refine t_gS ?_
  | with_reducible refine t_gsC ?_
  | with_reducible refine t_gsN ?_
  | ((with_reducible refine t_gT ?s ?_); (case s => first | assumption | exact rfl))
  | with_reducible refine t_retN ?_
  | with_reducible refine t_brk ?_
  | with_reducible refine t_cnt ?_
  | ((with_reducible refine' t_aug ?s ?_); (case s => first | assumption | exact rfl))
  | with_reducible refine t_for ?_
  | with_reducible refine t_seqi ?_
  | with_reducible refine t_rg1 ?_
  | with_reducible refine t_rg2 ?_
  | with_reducible refine t_lc ?_
  | with_reducible refine v_tru_bl ?_
  | with_reducible refine v_tru_int ?_
  | with_reducible refine v_tru_non ?_
  | with_reducible refine v_tru_tup ?_
  | with_reducible refine v_add_int ?_
  | ((with_reducible refine v_add_str ?l ?_); (case l => walk_at "l"))
  | ((with_reducible refine v_add_tup ?l ?_); (case l => walk_at "l"))
  | with_reducible refine v_iadd_int ?_
  | with_reducible refine v_sub ?_
  | ((with_reducible refine v_mul ?c ?_); (case c => walk_at "n"))
  | ((with_reducible refine v_div ?c ?_); (case c => walk_at "n"))
  | ((with_reducible refine v_mod ?c ?_); (case c => walk_at "n"))
  | ((with_reducible refine v_pow ?c ?_); (case c => exact ⟨by decide, by decide, by decide⟩))
  | with_reducible refine v_neg ?_
  | with_reducible exact trivial
  | with_reducible refine v_eq_int ?_
  | with_reducible refine v_eq_str ?_
  | with_reducible refine v_eq_bl ?_
  | with_reducible refine v_ne_int ?_
  | with_reducible refine v_ne_str ?_
  | with_reducible refine v_ne_bl ?_
  | with_reducible refine v_lt ?_
  | with_reducible refine v_lt_str ?_
  | with_reducible refine t_ks ?_
  | with_reducible refine t_rv ?_
  | with_reducible refine v_seq_ktp ?_
  | ((with_reducible refine' v_extend ?e ?f ?l ?_); (case e => walk_at "h"); (case f => walk_at "h"); (case l => walk_at "l"))
  | with_reducible refine v_le ?_
  | with_reducible refine v_gt ?_
  | with_reducible refine v_ge ?_
  | with_reducible refine v_isi_non ?_
  | with_reducible refine v_isi_bl ?_
  | with_reducible refine v_isi_int ?_
  | with_reducible refine v_isi_str ?_
  | with_reducible refine v_isi_tup ?_
  | with_reducible refine v_in_str ?_
  | with_reducible refine v_nin_str ?_
  | with_reducible refine v_len_tup ?_
  | with_reducible refine v_len_rol ?_
  | ((with_reducible refine v_len_str ?l ?_); (case l => walk_at "l"))
  | ((with_reducible refine' v_len_ref ?e ?_); (case e => walk_at "h"))
  | with_reducible refine v_int_int ?_
  | with_reducible refine v_max ?_
  | with_reducible refine v_min ?_
  | with_reducible refine v_tuple_tup ?_
  | ((with_reducible refine' v_tuple_ref ?e ?_); (case e => walk_at "h"))
  | ((with_reducible refine' v_ix_ref ?e ?f ?_); (case e => walk_at "h"); (case f => first | assumption | exact rfl))
  | ((with_reducible refine' v_ix_tup ?f ?_); (case f => first | assumption | exact rfl))
  | ((with_reducible refine' v_set ?e ?f ?_); (case e => walk_at "h"); (case f => first | assumption | exact rfl))
  | ((with_reducible refine v_sl_str ?l ?_); (case l => walk_at "l"))
  | with_reducible refine v_sl_tup ?_
  | with_reducible refine v_seq_tup ?_
  | with_reducible refine v_seq_str ?_
  | with_reducible refine v_seq_rol ?_
  | ((with_reducible refine' v_seq_ref ?e ?_); (case e => walk_at "h"))
  | ((with_reducible refine' ⟨v_ty_ref ?e, ?_⟩); (case e => walk_at "h"))
  | ((with_reducible refine' v_append ?e ?l ?_); (case e => walk_at "h"); (case l => walk_at "l")))
local macro_rules | `(tactic| walk_at "d1") => `(tactic| first | with_reducible refine t_seq ?_ | walk_at "e1")
local macro_rules | `(tactic| walk_at "d") => `(tactic| repeat walk_at "d1")
-- one statement
local macro_rules | `(tactic| walk_at "e") => `(tactic| ((repeat walk_at "e1"); try (with_reducible show sSeq _ _ _ _ _)))
local macro_rules | `(tactic| walk_at "s") => `(tactic| ((with_reducible refine t_seq ?_); walk_at "e"))
def b_cell : DS :=
  (sSeq (sIf (bCmp ltD (eVar 1) (eCall lenD (aCons (eVar 0) aNil)))
   (sSeq (sRet (eBin ixD (eVar 0) (eVar 1)))
   sNil)
   sNil)
  (sSeq (sRet (eBin addD (eBin addD (eBin mulD (eBin modD (eCall intD (aCons (eCall sumD (aCons (eSl (eVar 0) none (some (eC (.int 1)))) aNil)) aNil)) (eC (.int 1000003))) (eC (.int 7919))) (eBin mulD (eVar 1) (eC (.int 104729)))) (eC (.int 12345))))
  sNil))
def b_jar (c_cell : List D → Mh → PQ → Prop) : DS :=
  (sSeq (sAsg (eFn 2 c_cell (aCons (eVar 0) (aCons (eVar 1) aNil))) (gN 2))
  (sSeq (sAsg (eVar 2) (gN 3))
  (sSeq (sIf (bCmp ltD (eVar 2) (eC (.int 0)))
   (sSeq (sAsg (eBin subD (eC (.int 1)) (eBin mulD (eC (.int 3)) (eVar 2))) (gN 3))
   sNil)
   sNil)
  (sSeq (sIf (bCmp geD (eVar 3) (eBin powD (eC (.int 10)) (eC (.int 18))))
   (sSeq (sRet (eLst (aCons (eVar 3) (aCons (eC (.int 1)) (aCons (eVar 1) aNil)))))
   sNil)
   sNil)
  (sSeq (sRet (eLst (aCons (eBin addD (eBin modD (eCall intD (aCons (eVar 3) aNil)) (eC (.int 2147483646))) (eC (.int 1))) (aCons (eC (.int 0)) (aCons (eVar 1) aNil)))))
  sNil)))))
def b_pick : DS :=
  (sSeq (sIf (bAnd (bCmp eqD (eBin ixD (eVar 0) (eC (.int 1))) (eC (.int 1))) (bCmp gtD (eBin ixD (eVar 0) (eC (.int 0))) (eC (.int 0))))
   (sSeq (sAsg (eBin modD (eCall intD (aCons (eBin ixD (eVar 0) (eC (.int 0))) aNil)) (eVar 1)) (gN 2))
   (sSeq (sAsg (eBin divD (eBin ixD (eVar 0) (eC (.int 0))) (eVar 1)) (gS (eVar 0) (eC (.int 0))))
   (sSeq (sRet (eVar 2))
   sNil)))
   sNil)
  (sSeq (sIf (bCmp eqD (eBin ixD (eVar 0) (eC (.int 1))) (eC (.int 1)))
   (sSeq (sAsg (eC (.int 0)) (gS (eVar 0) (eC (.int 1))))
   (sSeq (sAsg (eBin addD (eC (.int 1234567)) (eBin mulD (eBin ixD (eVar 0) (eC (.int 2))) (eC (.int 7907)))) (gS (eVar 0) (eC (.int 0))))
   sNil))
   sNil)
  (sSeq (sAsg (eBin addD (eBin ixD (eVar 0) (eC (.int 2))) (eC (.int 1))) (gS (eVar 0) (eC (.int 2))))
  (sSeq (sAsg (eBin modD (eCall intD (aCons (eBin addD (eBin mulD (eBin ixD (eVar 0) (eC (.int 0))) (eC (.int 48271))) (eBin mulD (eBin ixD (eVar 0) (eC (.int 2))) (eC (.int 69621)))) aNil)) (eC (.int 2147483647))) (gS (eVar 0) (eC (.int 0))))
  (sSeq (sRet (eBin modD (eCall intD (aCons (eBin divD (eBin ixD (eVar 0) (eC (.int 0))) (eC (.int 977))) aNil)) (eVar 1)))
  sNil)))))

theorem cut_ints (ns : List Int) (lo hi : Option Int) : ∃ ms : List Int, cutD (ns.map D.int) lo hi = ms.map D.int := by
  unfold cutD
  exact ⟨(ns.drop (HT.sIx ns.length 0 lo)).take (HT.sIx ns.length ns.length hi - HT.sIx ns.length 0 lo), by simp⟩
theorem v_sum_ref {M : Mh} {Q : PQ} {p : Addr} {ds : List D} {ns : List Int} (e : M p = some (.lst ds)) (f : intsOf ds = some ns) (h : Q (.int ns.sum) M) : sumD [.ref p] M Q := by
  show (match litemsD (.ref p) M with | some ds => (match intsOf ds with | some ns => Q (.int ns.sum) M | none => False) | none => False)
  have : litemsD (.ref p) M = some ds := by
    show (match M p with | some (.lst ds) => some ds | _ => none) = _
    rw [e]
  rw [this]
  show (match intsOf ds with | some ns => Q (.int ns.sum) M | none => False)
  rw [f]; exact h
theorem MKeep.none {S : Addr → Prop} {M M1 : Mh} (x : MKeep S M M1) {p : Addr} (h : M1 p = none) (n : ¬ S p) : M p = none := by
  cases e : M p with
  | none => rfl
  | some o => rw [x p o n e] at h; cases h

/-- a cell: some int -/
def sp_cell : DSp := fun ds M P => ∃ (ns : List Int) (i : Int), ds = [.rol (ns.map D.int), .int i] ∧ 0 ≤ i ∧ ∀ (x : Int) M', MExt M M' → P (.int x) M'
theorem ok_cell (ds : List D) (M : Mh) (P : PQ) (h : sp_cell ds M P) : b_cell { nx := fun _ M' => P .non M', rt := P } (startD 2 ds) M := by
  obtain ⟨ns, i, rfl, hi, k⟩ := h
  unfold b_cell
  walk_at "d"
  refine t_ite (fun e => ?_) (fun e => ?_)
  · have e : i < (ns.map D.int).length := of_decide_eq_true e
    walk_at "d"
    obtain ⟨d, h1, h2, _⟩ := atI_mem hi e
    obtain ⟨x, _, rfl⟩ := List.mem_map.mp h2
    exact v_ix_rol h1 (k x M .refl)
  · walk_at "d"
    refine v_sl_rol fun p np => ?_
    walk_at "d"
    obtain ⟨ms, hm⟩ := cut_ints ns none (some 1)
    rw [hm]
    refine v_sum_ref mup_same (intsOf_map ms) ?_
    walk_at "d"
    exact k _ _ (.fresh np)

def JarOk (M : Mh) (j : Addr) : Prop := ∃ a b c : Int, M j = some (.lst [.int a, .int b, .int c]) ∧ 0 ≤ a ∧ (b = 0 ∨ b = 1) ∧ 0 ≤ c
/-- a jar: a new one -/
def sp_jar : DSp := fun ds M P => ∃ (ns : List Int) (i : Int), ds = [.rol (ns.map D.int), .int i] ∧ 0 ≤ i ∧ ∀ (p : Addr) M', MExt M M' → M p = none → JarOk M' p → P (.ref p) M'
theorem ok_jar (ds : List D) (M : Mh) (P : PQ) (h : sp_jar ds M P) : b_jar sp_cell { nx := fun _ M' => P .non M', rt := P } (startD 4 ds) M := by
  obtain ⟨ns, i, rfl, hi, k⟩ := h
  unfold b_jar
  walk_at "s"
  refine ⟨rfl, ns, i, rfl, hi, fun x M1 x1 => ?_⟩
  have fin : ∀ (a b c : Int) (p : Addr), 0 ≤ a → (b = 0 ∨ b = 1) → 0 ≤ c → M1 p = none → P (.ref p) (mup M1 p (.lst [.int a, .int b, .int c])) := fun a b c p ha hb hc np =>
    k p _ (x1.trans (.fresh np)) (x1.none np (fun z => z)) ⟨a, b, c, mup_same, ha, hb, hc⟩
  walk_at "e"
  walk_at "s"
  refine t_cut (fun ρ M' => M' = M1 ∧ slot ρ 0 = some (.rol (ns.map D.int)) ∧ slot ρ 1 = some (.int i) ∧ ∃ n : Int, 0 ≤ n ∧ slot ρ 3 = some (.int n)) (fun N hN => ?_) ?_
  · walk_at "d"
    refine t_ite (fun e => ?_) (fun e => ?_)
    · have e : x < 0 := of_decide_eq_true e
      walk_at "d"
      exact hN _ _ ⟨rfl, rfl, rfl, 1 - 3 * x, by omega, rfl⟩
    · have e : ¬ x < 0 := of_decide_eq_false e
      walk_at "d"
      exact hN _ _ ⟨rfl, rfl, rfl, x, by omega, rfl⟩
  · rintro ρ M' ⟨rfl, s0, s1, n, hn, s3⟩
    walk_at "d"
    refine t_ite (fun e => ?_) (fun e => ?_)
    · walk_at "d"
      refine ⟨by walk_at "l", fun p np => ?_⟩
      exact fin n 1 i p hn (.inr rfl) hi np
    · walk_at "d"
      refine ⟨by walk_at "l", fun p np => ?_⟩
      exact fin _ 0 i p (by have := Int.emod_nonneg n (show (2147483646 : Int) ≠ 0 by decide); omega) (.inl rfl) hi np

/-- a pick: some number below many; the jar alone changes -/
def sp_pick : DSp := fun ds M P => ∃ (j : Addr) (many : Int), ds = [.ref j, .int many] ∧ JarOk M j ∧ (0 < many ∧ many < 1073741824) ∧ ∀ (k : Int) o, 0 ≤ k → k < many → JarOk (mup M j o) j → P (.int k) (mup M j o)
theorem ok_pick (ds : List D) (M : Mh) (P : PQ) (h : sp_pick ds M P) : b_pick { nx := fun _ M' => P .non M', rt := P } (startD 3 ds) M := by
  obtain ⟨j, many, rfl, ⟨a, b, c, hM, ha, hb, hc⟩, ⟨h0, h1⟩, k⟩ := h
  have fin : ∀ (x y z r : Int), 0 ≤ x → (y = 0 ∨ y = 1) → 0 ≤ z → 0 ≤ r → r < many → P (.int r) (mup M j (.lst [.int x, .int y, .int z])) := fun x y z r hx hy hz h2 h3 =>
    k r _ h2 h3 ⟨x, y, z, mup_same, hx, hy, hz⟩
  have md : ∀ x : Int, 0 ≤ x % many ∧ x % many < many := fun x => ⟨Int.emod_nonneg _ (by omega), Int.emod_lt_of_pos _ h0⟩
  unfold b_pick
  walk_at "d"
  refine t_ite (fun e => ?_) (fun e => ?_)
  · walk_at "d"
    refine t_ite (fun e2 => ?_) (fun e2 => ?_)
    · walk_at "d"
      exact fin (a / many) b c _ (Int.ediv_nonneg ha (by omega)) hb hc (md _).1 (md _).2
    · walk_at "d"
      refine t_ite (fun e3 => ?_) (fun e3 => ?_)
      · walk_at "d"
        simp only [mup_mup]
        exact fin _ 0 (c + 1) _ (Int.emod_nonneg _ (by decide)) (.inl rfl) (by omega) (md _).1 (md _).2
      · walk_at "d"
        simp only [mup_mup]
        exact fin _ b (c + 1) _ (Int.emod_nonneg _ (by decide)) hb (by omega) (md _).1 (md _).2
  · refine t_ite (fun z => nomatch z) (fun _ => ?_)
    walk_at "d"
    refine t_ite (fun e3 => ?_) (fun e3 => ?_)
    · walk_at "d"
      simp only [mup_mup]
      exact fin _ 0 (c + 1) _ (Int.emod_nonneg _ (by decide)) (.inl rfl) (by omega) (md _).1 (md _).2
    · walk_at "d"
      simp only [mup_mup]
      exact fin _ b (c + 1) _ (Int.emod_nonneg _ (by decide)) hb (by omega) (md _).1 (md _).2
/-- the call of a pick -/
theorem c_pick {j : Addr} {many : Int} {M : Mh} {Q : PQ} (h : JarOk M j) (hm : 0 < many ∧ many < 1073741824) (k : ∀ (k : Int) o, 0 ≤ k → k < many → JarOk (mup M j o) j → Q (.int k) (mup M j o)) :
    [D.ref j, D.int many].length = 2 ∧ sp_pick [.ref j, .int many] M Q := ⟨rfl, j, many, rfl, h, hm, k⟩
theorem JarOk.keep {S : Addr → Prop} {M M' : Mh} {j : Addr} (h : JarOk M j) (x : MKeep S M M') (n : ¬ S j) : JarOk M' j := let ⟨a, b, c, e, r⟩ := h; ⟨a, b, c, x _ _ n e, r⟩
theorem JarOk.ne {M : Mh} {j p : Addr} (h : JarOk M j) (n : M p = none) : j ≠ p := let ⟨a, b, c, e, r⟩ := h; ne_free e n
end DL
/-! DLt: expressions that draw from a jar, by what they may give. -/
namespace DL
open PySem L2

/-- e draws from the jar at j alone, and gives something of T -/
def GI (j : Addr) (ρ : Ev) (T : D → Prop) (e : DT) : Prop := ∀ (M : Mh) (P : PQ), JarOk M j → (∀ d M', MKeep (· = j) M M' → JarOk M' j → T d → P d M') → e ρ M P
def GIs (j : Addr) (ρ : Ev) (T : List D → Prop) (a : DA) : Prop := ∀ (M : Mh) (P : List D → Mh → Prop), JarOk M j → (∀ ds M', MKeep (· = j) M M' → JarOk M' j → T ds → P ds M') → a ρ M P
/-- n things of T -/
def GA (n : Nat) (T : D → Prop) (xs : List D) : Prop := xs.length = n ∧ ∀ x ∈ xs, T x
def IsI (lo hi : Int) (d : D) : Prop := ∃ i, d = .int i ∧ lo ≤ i ∧ i ≤ hi
section
variable {j : Addr} {ρ : Ev} {T A B : D → Prop} {e a b : DT} {n : Nat} {as : DA}
theorem GI.mono (h : GI j ρ A e) (k : ∀ d, A d → T d) : GI j ρ T e := fun M P jk q => h M P jk fun d M' m jk' t => q d M' m jk' (k d t)
theorem gi_c {d : D} (h : T d) : GI j ρ T (eC d) := fun M P jk k => k d M .refl jk h
theorem gi_v {i : Nat} {d : D} (s : slot ρ i = some d) (h : T d) : GI j ρ T (eVar i) := fun M P jk k => by
  refine t_var s ?_
  exact k d M .refl jk h
theorem gi_bin {r : D → D → Mh → PQ → Prop} (ha : GI j ρ A a) (hb : GI j ρ B b) (h : ∀ x y M (P : PQ), A x → B y → (∀ d, T d → P d M) → r x y M P) : GI j ρ T (eBin r a b) := fun M P jk k =>
  ha M _ jk fun x M1 m1 j1 t1 => hb M1 _ j1 fun y M2 m2 j2 t2 => h x y M2 P t1 t2 fun d t => k d M2 (m1.trans m2) j2 t
theorem gi_add {l1 h1 l2 h2 : Int} (ha : GI j ρ (IsI l1 h1) a) (hb : GI j ρ (IsI l2 h2) b) : GI j ρ (IsI (l1 + l2) (h1 + h2)) (eBin addD a b) :=
  gi_bin ha hb fun x y M P ⟨i, e1, q1, q2⟩ ⟨i', e2, q3, q4⟩ k => by
    subst e1 e2
    exact k _ ⟨i + i', rfl, by omega, by omega⟩
theorem gi_sub {l1 h1 l2 h2 : Int} (ha : GI j ρ (IsI l1 h1) a) (hb : GI j ρ (IsI l2 h2) b) : GI j ρ (IsI (l1 - h2) (h1 - l2)) (eBin subD a b) :=
  gi_bin ha hb fun x y M P ⟨i, e1, q1, q2⟩ ⟨i', e2, q3, q4⟩ k => by
    subst e1 e2
    exact k _ ⟨i - i', rfl, by omega, by omega⟩
theorem gis_nil : GIs j ρ (· = []) aNil := fun M P jk k => k [] M .refl jk rfl
theorem gis_cons {U V : List D → Prop} (he : GI j ρ A e) (ha : GIs j ρ U as) (h : ∀ x xs, A x → U xs → V (x :: xs)) : GIs j ρ V (aCons e as) := fun M P jk k =>
  he M _ jk fun x M1 m1 j1 t1 => ha M1 _ j1 fun xs M2 m2 j2 t2 => k _ M2 (m1.trans m2) j2 (h x xs t1 t2)
theorem ga_nil : GIs j ρ (GA 0 T) aNil := fun M P jk k => k [] M .refl jk ⟨rfl, fun _ h => by simp at h⟩
theorem ga_cons (he : GI j ρ T e) (ha : GIs j ρ (GA n T) as) : GIs j ρ (GA (n + 1) T) (aCons e as) :=
  gis_cons he ha fun x xs t ⟨l, h⟩ => ⟨by rw [List.length_cons, l], fun y hy => by
    rcases List.mem_cons.mp hy with rfl | hy
    · exact t
    · exact h y hy⟩
theorem ga_cons2 (ha : GIs j ρ (GA n T) as) (he : GI j ρ T e) : GIs j ρ (GA (n + 1) T) (aCons e as) := ga_cons he ha
theorem keepj {M : Mh} {o : MO} : MKeep (· = j) M (mup M j o) := .put rfl
theorem gi_tup {U : List D → Prop} (ha : GIs j ρ U as) (h : ∀ xs, U xs → xs.length ≤ sizeLine ∧ T (.tup xs)) : GI j ρ T (eTup as) := fun M P jk k =>
  ha M _ jk fun xs M1 m1 j1 t1 => ⟨(h xs t1).1, k _ M1 m1 j1 (h xs t1).2⟩
theorem gi_pick {i : Nat} {m h : Int} (s : slot ρ i = some (.ref j)) (he : GI j ρ (IsI m h) e) (h0 : 0 < m) (h1 : h < 1073741824) : GI j ρ (IsI 0 (h - 1)) (eFn 2 sp_pick (aCons (eVar i) (aCons e aNil))) := fun M P jk k => by
  refine t_fn (t_ac (t_var s (t_ac (he M _ jk fun d M1 m1 j1 t1 => t_an ?_))))
  obtain ⟨v, rfl, q1, q2⟩ := t1
  refine c_pick j1 (by omega) fun x o x0 x1 j2 => k _ _ (m1.trans (.put rfl)) j2 ⟨x, rfl, x0, by omega⟩
/-- [..][e] -/
theorem gi_menu {h : Int} (ha : GIs j ρ (GA n T) as) (hi : GI j ρ (IsI 0 h) e) (hn : h < n) (hz : n ≤ sizeLine) : GI j ρ T (eBin ixD (eLst as) e) := fun M P jk k => by
  refine t_bin (t_lst (ha M _ jk fun xs M1 m1 j1 t1 => ⟨by rw [t1.1]; exact hz, fun p np => ?_⟩))
  have jp := j1.ne np
  refine hi _ _ (j1.keep (.fresh (S := fun _ => False) np) (fun z => z)) fun d M2 m2 j2 t2 => ?_
  obtain ⟨i, rfl, q1, q2⟩ := t2
  obtain ⟨d, h1, h2, _⟩ := atI_mem (ds := xs) q1 (by rw [t1.1]; omega)
  refine v_ix_ref (m2 _ _ (fun z => jp z.symm) mup_same) h1 ?_
  exact k d M2 (m1.trans ((MKeep.fresh np).trans m2)) j2 (t1.2 d h2)
/-- the same, the list's length asked for -/
theorem GI.run (h : GI j ρ T e) {M : Mh} {P : PQ} (jk : JarOk M j) (k : ∀ d M', MKeep (· = j) M M' → JarOk M' j → T d → P d M') : e ρ M P := h M P jk k
/-- a text of at most n -/
def IsS (n : Nat) (d : D) : Prop := ∃ z, d = .str z ∧ z.length ≤ n
theorem line_big {n : Nat} (h : n ≤ 100000) : n ≤ sizeLine := by rw [sizeLine_eq]; omega
theorem str_app_len (y z : Str) : (y ++ z).length = y.length + z.length := by
  rw [← st_lit y, ← st_lit z, st_app, st_len, st_len, st_len, List.length_append]
theorem str_cut_len (z : Str) (lo hi : Option Int) : (cutS z lo hi).length ≤ z.length := by
  rw [← st_lit z, st_cut, st_len, st_len, List.length_take, List.length_drop]
  omega
theorem gi_sadd {m : Nat} (ha : GI j ρ (IsS n) a) (hb : GI j ρ (IsS m) b) (hz : n + m ≤ 100000) : GI j ρ (IsS (n + m)) (eBin addD a b) :=
  gi_bin ha hb fun x y M P ⟨i, e1, q1⟩ ⟨i', e2, q2⟩ k => by
    subst e1 e2
    exact v_add_str (line_big (by omega)) (k _ ⟨_, rfl, by rw [str_app_len]; omega⟩)
theorem gi_len (ha : GI j ρ (IsS n) a) (hz : n ≤ 100000) : GI j ρ (IsI 0 n) (eCall lenD (aCons a aNil)) := fun M P jk k =>
  t_call (t_ac (ha M _ jk fun d M1 m1 j1 t1 => t_an (by
    obtain ⟨z, rfl, q⟩ := t1
    exact v_len_str (line_big (by omega)) (k _ _ m1 j1 ⟨_, rfl, by omega, by omega⟩))))
theorem gi_slo {l h : Int} (ha : GI j ρ (IsS n) a) (hb : GI j ρ (IsI l h) b) (hz : n ≤ 100000) : GI j ρ (IsS n) (eSl a (some b) none) := fun M P jk k =>
  t_sl (ha M _ jk fun d M1 m1 j1 t1 => t_o1 (hb M1 _ j1 fun d2 M2 m2 j2 t2 => by
    obtain ⟨z, rfl, q⟩ := t1
    obtain ⟨i, rfl, _⟩ := t2
    exact t_o0 (v_sl_str (line_big (by omega)) (k _ _ (m1.trans m2) j2 ⟨_, rfl, by have := str_cut_len z (some i) none; omega⟩))))
theorem gi_shi {l h : Int} (ha : GI j ρ (IsS n) a) (hb : GI j ρ (IsI l h) b) (hz : n ≤ 100000) : GI j ρ (IsS n) (eSl a none (some b)) := fun M P jk k =>
  t_sl (ha M _ jk fun d M1 m1 j1 t1 => t_o0 (t_o1 (hb M1 _ j1 fun d2 M2 m2 j2 t2 => by
    obtain ⟨z, rfl, q⟩ := t1
    obtain ⟨i, rfl, _⟩ := t2
    exact v_sl_str (line_big (by omega)) (k _ _ (m1.trans m2) j2 ⟨_, rfl, by have := str_cut_len z none (some i); omega⟩))))
/-- found.extend([..]) -/
theorem ext_run {i : Nat} {p : Addr} {xs : List D} {M : Mh} {Q : PQ} (s : slot ρ i = some (.ref p)) (hp : M p = some (.lst xs)) (jk : JarOk M j) (pj : p ≠ j) (ha : GIs j ρ (GA n T) as) (hz : xs.length + n ≤ 100000)
    (k : ∀ ys M', ys.length = n → (∀ y ∈ ys, T y) → M' p = some (.lst (xs ++ ys)) → MKeep (fun a => a = j ∨ a = p) M M' → JarOk M' j → Q .non M') : eMt "list" extendD (eVar i) (aCons (eLst as) aNil) ρ M Q := by
  refine t_mt (t_var s ⟨v_ty_ref hp, t_ac (t_lst (ha M _ jk fun ys M1 m1 j1 t1 => ⟨line_big (by rw [t1.1]; omega), fun q nq => t_an ?_⟩))⟩)
  have hp1 := m1 _ _ pj hp
  have pq := ne_free hp1 nq
  refine v_extend (by rw [mup_ne pq]; exact hp1) mup_same (line_big (by rw [t1.1]; omega)) ?_
  refine k ys _ t1.1 t1.2 mup_same ((m1.mono fun _ z => .inl z).trans ((MKeep.fresh nq).trans (.put (.inr rfl)))) ?_
  obtain ⟨a, b, c, e, r⟩ := j1
  exact ⟨a, b, c, by rw [mup_ne pj.symm, mup_ne (ne_free e nq)]; exact e, r⟩
/-- found.append(e) -/
theorem app_run {i : Nat} {p : Addr} {xs : List D} {M : Mh} {Q : PQ} (s : slot ρ i = some (.ref p)) (hp : M p = some (.lst xs)) (jk : JarOk M j) (pj : p ≠ j) (he : GI j ρ T e) (hz : xs.length < 100000)
    (k : ∀ y M', T y → M' p = some (.lst (xs ++ [y])) → MKeep (fun a => a = j ∨ a = p) M M' → JarOk M' j → Q .non M') : eMt "list" appendD (eVar i) (aCons e aNil) ρ M Q := by
  refine t_mt (t_var s ⟨v_ty_ref hp, t_ac (he M _ jk fun y M1 m1 j1 t1 => t_an ?_)⟩)
  have hp1 := m1 _ _ pj hp
  refine v_append hp1 (by rw [sizeLine_eq]; omega) ?_
  refine k y _ t1 mup_same ((m1.mono fun _ z => .inl z).trans (.put (.inr rfl))) ?_
  obtain ⟨a, b, c, e, r⟩ := j1
  exact ⟨a, b, c, by rw [mup_ne pj.symm]; exact e, r⟩
end
end DL
/-! DLh: what is held of the heap, in one row: jars, and things by their places; steps that carry it along. -/
namespace DL
open PySem L2

structure Held (M : Mh) (Js : List Addr) (L : List (Addr × MO)) : Prop where
  jar : ∀ j ∈ Js, JarOk M j
  nd : (Js ++ L.map (·.1)).Nodup
  at' : ∀ e ∈ L, M e.1 = some e.2
section
variable {M M' : Mh} {Js : List Addr} {L L' : List (Addr × MO)} {p j : Addr} {o o' : MO} {Q : PQ}
theorem Held.get (H : Held M Js L) (m : (p, o) ∈ L) : M p = some o := H.at' _ m
theorem Held.free (H : Held M Js L) (n : M p = none) : p ∉ Js ++ L.map (·.1) := fun h => by
  rcases List.mem_append.mp h with h | h
  · obtain ⟨a, b, c, e, _⟩ := H.jar p h
    rw [n] at e; cases e
  · obtain ⟨e, he, rfl⟩ := List.mem_map.mp h
    rw [H.at' e he] at n; cases n
theorem Held.nil (M : Mh) : Held M [] [] := ⟨by simp, by simp, by simp⟩
theorem Held.perm (H : Held M Js L) (h : L.Perm L') : Held M Js L' :=
  ⟨H.jar, ((h.map (·.1)).append_left Js).nodup_iff.mp H.nd, fun e he => H.at' e (h.mem_iff.mpr he)⟩
theorem Held.sub (H : Held M Js L) (h : L'.Sublist L) : Held M Js L' :=
  ⟨H.jar, H.nd.sublist ((h.map (·.1)).append_left Js), fun e he => H.at' e (h.subset he)⟩
theorem Held.tail {e : Addr × MO} (H : Held M Js (e :: L)) : Held M Js L := H.sub (List.sublist_cons_self _ _)
theorem Held.tail2 {e f : Addr × MO} (H : Held M Js (e :: f :: L)) : Held M Js (e :: L) := H.sub (List.sublist_cons_self _ _ |>.cons₂ _)
theorem Held.swap {e f : Addr × MO} (H : Held M Js (e :: f :: L)) : Held M Js (f :: e :: L) := H.perm (List.Perm.swap _ _ _)
theorem Held.third {e f g : Addr × MO} (H : Held M Js (e :: f :: g :: L)) : Held M Js (g :: e :: f :: L) :=
  H.perm (((List.Perm.swap _ _ _).cons e).trans (List.Perm.swap _ _ _))
theorem Held.fourth {e f g h : Addr × MO} (H : Held M Js (e :: f :: g :: h :: L)) : Held M Js (h :: e :: f :: g :: L) :=
  H.perm ((((List.Perm.swap _ _ _).cons f).cons e).trans (((List.Perm.swap _ _ _).cons e).trans (List.Perm.swap _ _ _)))
theorem Held.rot {A : List (Addr × MO)} (H : Held M Js (A ++ L)) : Held M Js (L ++ A) := H.perm List.perm_append_comm
theorem Held.new (H : Held M Js L) (n : M p = none) : Held (mup M p o) Js ((p, o) :: L) := by
  have f := H.free n
  have ne : ∀ q, q ∈ Js ++ L.map (·.1) → q ≠ p := fun q h e => f (e ▸ h)
  refine ⟨fun j hj => ?_, ?_, fun e he => ?_⟩
  · obtain ⟨a, b, c, e, r⟩ := H.jar j hj
    exact ⟨a, b, c, by rw [mup_ne (ne j (List.mem_append_left _ hj))]; exact e, r⟩
  · rw [List.map_cons]
    exact (List.perm_middle (l₁ := Js)).nodup_iff.mpr (List.nodup_cons.mpr ⟨f, H.nd⟩)
  · rcases List.mem_cons.mp he with rfl | he
    · exact mup_same
    · rw [mup_ne (ne _ (List.mem_append_right _ (List.mem_map.mpr ⟨e, he, rfl⟩)))]
      exact H.at' e he
theorem Held.put (H : Held M Js ((p, o) :: L)) : Held (mup M p o') Js ((p, o') :: L) := by
  have nd := (List.perm_middle (l₁ := Js)).nodup_iff.mp H.nd
  have ⟨f, nd⟩ := List.nodup_cons.mp nd
  have ne : ∀ q, q ∈ Js ++ L.map (·.1) → q ≠ p := fun q h e => f (e ▸ h)
  refine ⟨fun j hj => ?_, H.nd, fun e he => ?_⟩
  · obtain ⟨a, b, c, e, r⟩ := H.jar j hj
    exact ⟨a, b, c, by rw [mup_ne (ne j (List.mem_append_left _ hj))]; exact e, r⟩
  · rcases List.mem_cons.mp he with rfl | he
    · exact mup_same
    · rw [mup_ne (ne _ (List.mem_append_right _ (List.mem_map.mpr ⟨e, he, rfl⟩)))]
      exact H.at' e (List.mem_cons_of_mem _ he)
/-- what stands at the i-th place is written -/
theorem Held.putI (H : Held M Js L) {i : Nat} (e : L[i]? = some (p, o)) : Held (mup M p o') Js (L.set i (p, o')) := by
  obtain ⟨hi, e⟩ := List.getElem?_eq_some_iff.mp e
  have h1 : L.Perm ((p, o) :: (L.take i ++ L.drop (i + 1))) := by
    have : L = L.take i ++ (p, o) :: L.drop (i + 1) := by rw [← e, List.getElem_cons_drop, List.take_append_drop]
    exact (List.Perm.of_eq this).trans List.perm_middle
  have h2 : ((p, o') :: (L.take i ++ L.drop (i + 1))).Perm (L.set i (p, o')) := by
    rw [List.set_eq_take_append_cons_drop, if_pos hi]
    exact List.perm_middle.symm
  exact ((H.perm h1).put (o' := o')).perm h2
/-- the jar at j alone changes -/
theorem Held.keep (H : Held M Js L) (hj : j ∈ Js) (m : MKeep (· = j) M M') (k : JarOk M' j) : Held M' Js L := by
  refine ⟨fun i hi => ?_, H.nd, fun e he => ?_⟩
  · by_cases h : i = j
    · rw [h]; exact k
    · exact (H.jar i hi).keep m h
  · refine m _ _ (fun h => ?_) (H.at' e he)
    have := (List.nodup_append.mp H.nd).2.2 j hj e.1 (List.mem_map.mpr ⟨e, he, rfl⟩)
    exact this h.symm
theorem Held.ext (H : Held M Js L) (m : MExt M M') : Held M' Js L := ⟨fun i hi => (H.jar i hi).keep m (fun z => z), H.nd, fun e he => m _ _ (fun z => z) (H.at' e he)⟩
/-- something new -/
theorem Held.more (H : Held M Js L) (H' : Held M' Js L) (n : M p = none) (e : M' p = some o) : Held M' Js ((p, o) :: L) := by
  refine ⟨H'.jar, ?_, fun x hx => ?_⟩
  · rw [List.map_cons]
    exact (List.perm_middle (l₁ := Js)).nodup_iff.mpr (List.nodup_cons.mpr ⟨H.free n, H.nd⟩)
  · rcases List.mem_cons.mp hx with rfl | hx
    · exact e
    · exact H'.at' x hx
theorem Held.jar' (H : Held M Js L) (hj : j ∈ Js) : JarOk M j := H.jar j hj
theorem Held.ne (H : Held M Js L) (hj : j ∈ Js) (m : (p, o) ∈ L) : p ≠ j := fun h => (List.nodup_append.mp H.nd).2.2 j hj p (List.mem_map.mpr ⟨_, m, rfl⟩) h.symm

theorem Held.addJar (H : Held M Js L) (m : MExt M M') (n : M p = none) (k : JarOk M' p) : Held M' (p :: Js) L :=
  ⟨fun i hi => by
    rcases List.mem_cons.mp hi with rfl | hi
    · exact k
    · exact (H.ext m).jar i hi, List.nodup_cons.mpr ⟨H.free n, H.nd⟩, fun e he => (H.ext m).at' e he⟩

/-! ### steps -/
theorem h_jar {ns : List Int} {i : Int} (H : Held M Js L) (hi : 0 ≤ i) (k : ∀ p M', Held M' (p :: Js) L → Q (.ref p) M') : [D.rol (ns.map D.int), D.int i].length = 2 ∧ sp_jar [.rol (ns.map D.int), .int i] M Q :=
  ⟨rfl, ns, i, rfl, hi, fun p M' m n jk => k p M' (H.addJar m n jk)⟩
/-- what a new list is asked -/
def NewL (xs : List D) (M : Mh) (Q : PQ) : Prop := xs.length ≤ sizeLine ∧ ∀ p, M p = none → Q (.ref p) (mup M p (.lst xs))
theorem t_lstN {wa : DA} {ρ : Ev} (h : wa ρ M fun xs M1 => NewL xs M1 Q) : eLst wa ρ M Q := h
theorem t_gN' {i : Nat} {d : D} {R : Ev → Mh → Prop} {ρ ρ' : Ev} (e : ρ.set i (some d) = ρ') (h : R ρ' M) : gN i d ρ M R := by
  subst e; exact h
theorem v_int_bl {b : Bool} (h : Q (.int (if b then 1 else 0)) M) : intD [.bl b] M Q := h
/-- what a new tuple is asked -/
def NewT (xs : List D) (M : Mh) (Q : PQ) : Prop := xs.length ≤ sizeLine ∧ Q (.tup xs) M
theorem t_tupN {wa : DA} {ρ : Ev} (h : wa ρ M fun xs M1 => NewT xs M1 Q) : eTup wa ρ M Q := h
theorem v_newT {xs : List D} (l : xs.length ≤ 100000) (h : Q (.tup xs) M) : NewT xs M Q := ⟨line_big l, h⟩
theorem h_new {xs : List D} (H : Held M Js L) (l : xs.length ≤ 100000) (k : ∀ p M', Held M' Js ((p, .lst xs) :: L) → Q (.ref p) M') : NewL xs M Q := ⟨line_big l, fun p n => k p _ (H.new n)⟩
theorem h_dct {ρ : Ev} (H : Held M Js L) (k : ∀ p M', Held M' Js ((p, .dk []) :: L) → Q (.ref p) M') : eDct ρ M Q := .inl fun p n => k p _ (H.new n)
theorem h_dctT {ρ : Ev} (H : Held M Js L) (k : ∀ p M', Held M' Js ((p, .dt []) :: L) → Q (.ref p) M') : eDct ρ M Q := .inr fun p n => k p _ (H.new n)
theorem h_pick {many : Int} (H : Held M Js L) (hj : j ∈ Js) (hm : 0 < many ∧ many < 1073741824) (k : ∀ (k : Int) M', 0 ≤ k → k < many → Held M' Js L → Q (.int k) M') :
    [D.ref j, D.int many].length = 2 ∧ sp_pick [.ref j, .int many] M Q := c_pick (H.jar j hj) hm fun k' o k0 k1 j1 => k k' _ k0 k1 (H.keep hj (.put rfl) j1)
theorem h_app {xs : List D} {y : D} (H : Held M Js ((p, .lst xs) :: L)) (l : xs.length < 100000) (k : ∀ M', Held M' Js ((p, .lst (xs ++ [y])) :: L) → Q .non M') : appendD (.ref p) [y] M Q :=
  v_append (H.get List.mem_cons_self) (by rw [sizeLine_eq]; omega) (k _ H.put)
theorem h_appI {xs : List D} {y : D} (i : Nat) (H : Held M Js L) (e : L[i]? = some (p, .lst xs)) (l : xs.length < 100000) (k : ∀ M', Held M' Js (L.set i (p, .lst (xs ++ [y]))) → Q .non M') : appendD (.ref p) [y] M Q :=
  v_append (H.get (List.mem_of_getElem? e)) (by rw [sizeLine_eq]; omega) (k _ (H.putI e))
theorem h_extI {xs ys : List D} {q : Addr} (i : Nat) (H : Held M Js L) (e : L[i]? = some (p, .lst xs)) (m : (q, .lst ys) ∈ L) (l : xs.length + ys.length ≤ 100000) (k : ∀ M', Held M' Js (L.set i (p, .lst (xs ++ ys))) → Q .non M') : extendD (.ref p) [.ref q] M Q :=
  v_extend (H.get (List.mem_of_getElem? e)) (H.get m) (line_big l) (k _ (H.putI e))
theorem h_setI {xs : List D} {d : D} {n : Int} {m : Nat} {S : Mh → Prop} (i : Nat) (H : Held M Js L) (e : L[i]? = some (p, .lst xs)) (e2 : ixN xs.length n = some m) (k : ∀ M', Held M' Js (L.set i (p, .lst (xs.set m d))) → S M') : setD (.ref p) (.int n) d M S :=
  v_set (H.get (List.mem_of_getElem? e)) e2 (k _ (H.putI e))
theorem h_dputI {kvs : MO} {y d : D} {S : Mh → Prop} (i : Nat) (H : Held M Js L) (e : L[i]? = some (p, kvs)) (e1 : dictD (.ref p) M = some kvs) (l : dSize kvs < 100000) (e2 : dPut kvs y d = some o') (k : ∀ M', Held M' Js (L.set i (p, o')) → S M') : setD (.ref p) y d M S :=
  v_set_dict e1 (by rw [sizeLine_eq]; omega) e2 (k _ (H.putI e))
theorem h_popI {xs : List D} {d : D} (i : Nat) (H : Held M Js L) (e : L[i]? = some (p, .lst xs)) (e2 : xs[xs.length - 1]? = some d) (k : ∀ M', Held M' Js (L.set i (p, .lst xs.dropLast)) → Q d M') : popD (.ref p) [] M Q := by
  show (match M p with | some (.lst ds) => _ | _ => False)
  rw [H.get (List.mem_of_getElem? e)]
  have h : atI xs (-1) = some d ∨ True := .inr trivial
  have := k _ (H.putI e)
  first | exact ⟨_, e2, this⟩ | (simp only [e2]; exact this) | (dsimp only; rw [e2]; exact this)
theorem h_sl {xs : List D} {lo hi : Option Int} (H : Held M Js L) (m : (p, .lst xs) ∈ L) (k : ∀ q M', Held M' Js ((q, .lst (cutD xs lo hi)) :: L) → Q (.ref q) M') : slD (.ref p) lo hi M Q := v_sl_ref (H.get m) fun q n => k q _ (H.new n)
theorem h_add {xs ys : List D} {q : Addr} (H : Held M Js L) (m : (p, .lst xs) ∈ L) (m2 : (q, .lst ys) ∈ L) (l : xs.length + ys.length ≤ 100000) (k : ∀ u M', Held M' Js ((u, .lst (xs ++ ys)) :: L) → Q (.ref u) M') : addD (.ref p) (.ref q) M Q :=
  ⟨xs, ys, H.get m, H.get m2, line_big l, fun u n => k u _ (H.new n)⟩
theorem h_listT {xs : List D} (H : Held M Js L) (k : ∀ q M', Held M' Js ((q, .lst xs) :: L) → Q (.ref q) M') : listD [.tup xs] M Q := v_list_tup fun q n => k q _ (H.new n)
theorem h_listL {xs : List D} (H : Held M Js L) (m : (p, .lst xs) ∈ L) (k : ∀ q M', Held M' Js ((q, .lst xs) :: L) → Q (.ref q) M') : listD [.ref p] M Q := v_list_ref (H.get m) fun q n => k q _ (H.new n)
theorem h_sorted {xs : List D} (H : Held M Js L) (m : (p, .lst xs) ∈ L) (sk : SortK xs) (k : ∀ ys q M', ys.Perm xs → ys.Pairwise (fun a b => ¬ (eD b < eD a)) → Held M' Js ((q, .lst ys) :: L) → Q (.ref q) M') : sortedD [.ref p] M Q :=
  v_sorted (H.get m) sk fun ys q h1 h2 n => k ys q _ h1 h2 (H.new n)
theorem h_keys (H : Held M Js L) (e : dictD (.ref p) M = some o) (k : ∀ q M', Held M' Js ((q, .lst (dKeys o)) :: L) → Q (.ref q) M') : keysLD (.ref p) M Q := v_keys e fun q n => k q _ (H.new n)
theorem h_gi {ρ : Ev} {T : D → Prop} {e : DT} (H : Held M Js L) (hj : j ∈ Js) (g : GI j ρ T e) (k : ∀ d M', T d → Held M' Js L → Q d M') : e ρ M Q := g M Q (H.jar j hj) fun d M' m jk t => k d M' t (H.keep hj m jk)

/-- xs[k], of a list of things -/
theorem h_ixm {α : Type} {zs : List α} {f : α → D} {i : Int} (H : Held M Js L) (m : (p, .lst (zs.map f)) ∈ L) (h0 : 0 ≤ i) (h1 : i < zs.length) (k : ∀ z, z ∈ zs → zs[i.toNat]? = some z → Q (f z) M) : ixD (.ref p) (.int i) M Q := by
  have hn : i.toNat < zs.length := by omega
  have e := List.getElem?_eq_getElem hn
  exact v_ix_ref (H.get m) (atI_get? h0 (by rw [List.getElem?_map, e]; rfl)) (k _ (List.getElem_mem hn) e)
theorem h_dput {kvs : List (Key × D)} {y d : D} {c : Key} {S : Mh → Prop} (i : Nat) (H : Held M Js L) (e : L[i]? = some (p, .dk kvs)) (ec : keyD y = some c) (l : kvs.length < 100000) (k : ∀ M', Held M' Js (L.set i (p, .dk (putD kvs c d))) → S M') : setD (.ref p) y d M S :=
  h_dputI i H e (dict_dk (H.get (List.mem_of_getElem? e))) l (by show (keyD y).map _ = _; rw [ec]; rfl) k
theorem h_in {kvs : List (Key × D)} {y : D} {c : Key} {R : Bool → Prop} (H : Held M Js L) (m : (p, .dk kvs) ∈ L) (ec : keyD y = some c) (h : R (valD kvs c).isSome) : inD y (.ref p) M R :=
  v_in_dict (dict_dk (H.get m)) (by show (keyD y).map _ = _; rw [ec]; rfl) h
theorem h_nin {kvs : List (Key × D)} {y : D} {c : Key} {R : Bool → Prop} (H : Held M Js L) (m : (p, .dk kvs) ∈ L) (ec : keyD y = some c) (h : R (!(valD kvs c).isSome)) : ninD y (.ref p) M R :=
  v_nin_dict (dict_dk (H.get m)) (by show (keyD y).map _ = _; rw [ec]; rfl) h
theorem h_ixd {kvs : List (Key × D)} {y d : D} {c : Key} (H : Held M Js L) (m : (p, .dk kvs) ∈ L) (ec : keyD y = some c) (ev : valD kvs c = some d) (h : Q d M) : ixD (.ref p) y M Q :=
  v_ix_dict (dict_dk (H.get m)) (by show (keyD y).map _ = _; rw [ec, ← ev]; rfl) h
/-- {k: v} -/
def NewD (p : Addr) (x y : D) (M : Mh) (Q : PQ) : Prop := M p = some (.dk []) ∧ match keyD x with
  | some k => Q (.ref p) (mup M p (.dk [(k, y)]))
  | none => False
theorem t_d1H {ρ : Ev} {a e : DT} (H : Held M Js L) (h : ∀ p M', Held M' Js ((p, .dk []) :: L) → a ρ M' fun x M1 => e ρ M1 fun y M2 => NewD p x y M2 Q) : eD1 a e ρ M Q := t_d1 fun p np => h p _ (H.new np)
theorem h_newD {x y : D} {c : Key} (H : Held M Js ((p, .dk []) :: L)) (ec : keyD x = some c) (k : ∀ M', Held M' Js ((p, .dk [(c, y)]) :: L) → Q (.ref p) M') : NewD p x y M Q := by
  refine ⟨H.get List.mem_cons_self, ?_⟩
  rw [ec]
  exact k _ H.put

/-! ### comprehensions -/
section
variable {t : Tg} {tt : DB} {te : DT} {chk : Mh → Prop} {ρ : Ev} {items : List D}
/-- with things that come along: E of them -/
theorem h_lcE (I : Nat → List D → List (Addr × MO) → Prop) (H : Held M Js L) (hz : items.length < 100000) (h0 : I 0 [] [])
    (hc : ∀ M', Held M' Js L → chk M')
    (step : ∀ (R : PQ) (i : Nat) (d : D) (acc : List D) (E : List (Addr × MO)) (p : Addr) (M : Mh), items[i]? = some d → I i acc E → Held M Js ((p, .lst acc) :: (E ++ L)) →
      (∀ y E' M', I (i + 1) (acc ++ [y]) E' → Held M' Js ((p, .lst acc) :: (E' ++ L)) → R y M') → ∃ ρ1, tgD t d ρ = some ρ1 ∧ te ρ1 M R)
    (fin : ∀ p acc E M, acc.length = items.length → I items.length acc E → Held M Js ((p, .lst acc) :: (E ++ L)) → Q (.ref p) M) :
    ∀ p, M p = none → lcLoop p chk t bYes te ρ Q items (mup M p (.lst [])) := fun p np => by
  have hL : ∀ {M' acc E}, Held M' Js ((p, .lst acc) :: (E ++ L)) → Held M' Js L := fun h => h.tail.sub (List.sublist_append_right _ _)
  refine lc_each (fun i acc M' => ∃ E, I i acc E ∧ Held M' Js ((p, .lst acc) :: (E ++ L))) (by rw [sizeLine_eq]; omega) mup_same ⟨[], h0, H.new np⟩ (fun R i d acc M' hd hl hI hp hR => ?_) (fun acc M' hl hI hp => ?_)
  · obtain ⟨E, hI, H1⟩ := hI
    exact ⟨hc _ (hL H1), step R i d acc E p M' hd hI H1 fun y E' M2 h2 H2 => hR y M2 (H2.get List.mem_cons_self) ⟨E', h2, H2.put⟩⟩
  · obtain ⟨E, hI, H1⟩ := hI
    exact ⟨hc _ (hL H1), fin p acc E M' hl hI H1⟩
theorem h_lc (I : Nat → List D → Prop) (H : Held M Js L) (hz : items.length < 100000) (h0 : I 0 [])
    (hc : ∀ M', Held M' Js L → chk M')
    (step : ∀ (R : PQ) (i : Nat) (d : D) (acc : List D) (p : Addr) (M : Mh), items[i]? = some d → I i acc → Held M Js ((p, .lst acc) :: L) →
      (∀ y M', I (i + 1) (acc ++ [y]) → Held M' Js ((p, .lst acc) :: L) → R y M') → ∃ ρ1, tgD t d ρ = some ρ1 ∧ te ρ1 M R)
    (fin : ∀ p acc M, acc.length = items.length → I items.length acc → Held M Js ((p, .lst acc) :: L) → Q (.ref p) M) :
    ∀ p, M p = none → lcLoop p chk t bYes te ρ Q items (mup M p (.lst [])) :=
  h_lcE (fun i acc E => E = [] ∧ I i acc) H hz ⟨rfl, h0⟩ hc (fun R i d acc E p M' hd hI H1 k => by
    obtain ⟨rfl, hI⟩ := hI
    exact step R i d acc p M' hd hI H1 fun y M2 h2 H2 => k y [] M2 ⟨rfl, h2⟩ H2) fun p acc E M' hl hI H1 => by
    obtain ⟨rfl, hI⟩ := hI
    exact fin p acc M' hl hI H1
/-- with a test -/
theorem h_lcT (I : Nat → List D → Prop) (H : Held M Js L) (hz : items.length < 100000) (h0 : I 0 [])
    (hc : ∀ M', Held M' Js L → chk M')
    (step : ∀ (R : PQ) (S : Mh → Prop) (i : Nat) (d : D) (acc : List D) (p : Addr) (M : Mh), items[i]? = some d → I i acc → Held M Js ((p, .lst acc) :: L) →
      (∀ y M', I (i + 1) (acc ++ [y]) → Held M' Js ((p, .lst acc) :: L) → R y M') → (∀ M', I (i + 1) acc → Held M' Js ((p, .lst acc) :: L) → S M') →
      ∃ ρ1, tgD t d ρ = some ρ1 ∧ tt ρ1 M fun k M1 => if k = true then te ρ1 M1 R else S M1)
    (fin : ∀ p acc M, acc.length ≤ items.length → I items.length acc → Held M Js ((p, .lst acc) :: L) → Q (.ref p) M) :
    ∀ p, M p = none → lcLoop p chk t tt te ρ Q items (mup M p (.lst [])) := fun p np => by
  refine lc_eachT (fun i acc M' => I i acc ∧ Held M' Js ((p, .lst acc) :: L)) (by rw [sizeLine_eq]; omega) mup_same ⟨h0, H.new np⟩ (fun R S i d acc M' hd hl hI hp hR hS => ?_) (fun acc M' hl hI hp => ?_)
  · obtain ⟨hI, H1⟩ := hI
    exact ⟨hc _ H1.tail, step R S i d acc p M' hd hI H1 (fun y M2 h2 H2 => hR y M2 (H2.get List.mem_cons_self) ⟨h2, H2.put⟩) fun M2 h2 H2 => hS M2 (H2.get List.mem_cons_self) ⟨h2, H2⟩⟩
  · obtain ⟨hI, H1⟩ := hI
    exact ⟨hc _ H1.tail, fin p acc M' hl hI H1⟩
end
end
end DL
/-! K01b: the bodies of the defs, printed by gen.py -/
namespace K01
open PySem DL

abbrev g_FIGURES : D := (.str "0123456789")
abbrev g_LETTERS : D := (.str "abcdefghijklmnopqrstuvwxyz")
abbrev g_RESERVED : D := (.ktp [(.str "talk"), (.str "roles"), (.str "to"), (.str "on"), (.str "round"), (.str "again"), (.str "stop"), (.str "machine"), (.str "say"), (.str "hear"), (.str "end")])
abbrev g_GREATEST : D := (.int 999999)
/-- slots: 0 thing -/
def b_is_number : DS :=
  (sSeq (sRet (eAnd (eIsi "int" (eVar 0)) (eNot (eIsi "bool" (eVar 0)))))
  sNil)
/-- slots: 0 thing 1 sign -/
def b_is_name : DS :=
  (sSeq (sIf (bNot (bTru (eIsi "str" (eVar 0))))
   (sSeq (sRet (eC (.bl false)))
   sNil)
   sNil)
  (sSeq (sIf (bOr (bCmp ltD (eCall lenD (aCons (eVar 0) aNil)) (eC (.int 1))) (bCmp gtD (eCall lenD (aCons (eVar 0) aNil)) (eC (.int 8))))
   (sSeq (sRet (eC (.bl false)))
   sNil)
   sNil)
  (sSeq (sIf (bCmp ninD (eBin ixD (eVar 0) (eC (.int 0))) (eC g_LETTERS))
   (sSeq (sRet (eC (.bl false)))
   sNil)
   sNil)
  (sSeq (sFor (iSeq (eVar 0)) (gN 1)
   (sSeq (sIf (bAnd (bCmp ninD (eVar 1) (eC g_LETTERS)) (bCmp ninD (eVar 1) (eC g_FIGURES)))
    (sSeq (sRet (eC (.bl false)))
    sNil)
    sNil)
   sNil))
  (sSeq (sRet (eC (.bl true)))
  sNil)))))
/-- slots: 0 thing -/
def b_is_label (c_is_name : List D → Mh → PQ → Prop) : DS :=
  (sSeq (sRet (eAnd (eFn 1 c_is_name (aCons (eVar 0) aNil)) (eCmp ninD (eVar 0) (eC g_RESERVED))))
  sNil)
/-- slots: 0 lo 1 hi -/
def b_is_span (c_is_number : List D → Mh → PQ → Prop) : DS :=
  (sSeq (sIf (bOr (bNot (bTru (eFn 1 c_is_number (aCons (eVar 0) aNil)))) (bNot (bTru (eFn 1 c_is_number (aCons (eVar 1) aNil)))))
   (sSeq (sRet (eC (.bl false)))
   sNil)
   sNil)
  (sSeq (sRet (eAnd (eCmp leD (eC (.int 0)) (eVar 0)) (eAnd (eCmp leD (eVar 0) (eVar 1)) (eCmp leD (eVar 1) (eC g_GREATEST)))))
  sNil))
/-- slots: 0 many 1 move -/
def b_is_move (c_is_number : List D → Mh → PQ → Prop) (c_is_span : List D → Mh → PQ → Prop) (c_is_label : List D → Mh → PQ → Prop) : DS :=
  (sSeq (sIf (bOr (bNot (bTru (eIsi "tuple" (eVar 1)))) (bCmp neD (eCall lenD (aCons (eVar 1) aNil)) (eC (.int 4))))
   (sSeq (sRet (eC (.bl false)))
   sNil)
   sNil)
  (sSeq (sIf (bOr (bNot (bTru (eFn 1 c_is_label (aCons (eBin ixD (eVar 1) (eC (.int 0))) aNil)))) (bNot (bTru (eFn 2 c_is_span (aCons (eBin ixD (eVar 1) (eC (.int 1))) (aCons (eBin ixD (eVar 1) (eC (.int 2))) aNil))))))
   (sSeq (sRet (eC (.bl false)))
   sNil)
   sNil)
  (sSeq (sIf (bNot (bTru (eFn 1 c_is_number (aCons (eBin ixD (eVar 1) (eC (.int 3))) aNil))))
   (sSeq (sRet (eC (.bl false)))
   sNil)
   sNil)
  (sSeq (sRet (eAnd (eCmp leD (eC (.int 0)) (eBin ixD (eVar 1) (eC (.int 3)))) (eCmp ltD (eBin ixD (eVar 1) (eC (.int 3))) (eVar 0))))
  sNil))))
/-- slots: 0 many 1 moves 2 move 3 at 4 before 5 behind -/
def b_is_moves (c_is_move : List D → Mh → PQ → Prop) : DS :=
  (sSeq (sIf (bOr (bNot (bTru (eIsi "tuple" (eVar 1)))) (bCmp eqD (eCall lenD (aCons (eVar 1) aNil)) (eC (.int 0))))
   (sSeq (sRet (eC (.bl false)))
   sNil)
   sNil)
  (sSeq (sFor (iSeq (eVar 1)) (gN 2)
   (sSeq (sIf (bNot (bTru (eFn 2 c_is_move (aCons (eVar 0) (aCons (eVar 2) aNil)))))
    (sSeq (sRet (eC (.bl false)))
    sNil)
    sNil)
   sNil))
  (sSeq (sFor (iRg2 (aCons (eC (.int 1)) (aCons (eCall lenD (aCons (eVar 1) aNil)) aNil))) (gN 3)
   (sSeq (sAsg (eBin ixD (eVar 1) (eBin subD (eVar 3) (eC (.int 1)))) (gN 4))
   (sSeq (sAsg (eBin ixD (eVar 1) (eVar 3)) (gN 5))
   (sSeq (sIf (bCmp ltD (eBin ixD (eVar 5) (eC (.int 0))) (eBin ixD (eVar 4) (eC (.int 0))))
    (sSeq (sRet (eC (.bl false)))
    sNil)
    sNil)
   (sSeq (sIf (bAnd (bCmp eqD (eBin ixD (eVar 5) (eC (.int 0))) (eBin ixD (eVar 4) (eC (.int 0)))) (bCmp leD (eBin ixD (eVar 5) (eC (.int 1))) (eBin ixD (eVar 4) (eC (.int 2)))))
    (sSeq (sRet (eC (.bl false)))
    sNil)
    sNil)
   sNil)))))
  (sSeq (sRet (eC (.bl true)))
  sNil))))
/-- slots: 0 script 1 place -/
def b__law_cell : DS :=
  (sSeq (sIf (bCmp ltD (eVar 1) (eCall lenD (aCons (eVar 0) aNil)))
   (sSeq (sRet (eBin ixD (eVar 0) (eVar 1)))
   sNil)
   sNil)
  (sSeq (sRet (eBin addD (eBin addD (eBin mulD (eBin modD (eCall intD (aCons (eCall sumD (aCons (eSl (eVar 0) none (some (eC (.int 1)))) aNil)) aNil)) (eC (.int 1000003))) (eC (.int 7919))) (eBin mulD (eVar 1) (eC (.int 104729)))) (eC (.int 12345))))
  sNil))
/-- slots: 0 script 1 place 2 cell 3 number -/
def b__law_jar (c__law_cell : List D → Mh → PQ → Prop) : DS :=
  (sSeq (sAsg (eFn 2 c__law_cell (aCons (eVar 0) (aCons (eVar 1) aNil))) (gN 2))
  (sSeq (sAsg (eVar 2) (gN 3))
  (sSeq (sIf (bCmp ltD (eVar 2) (eC (.int 0)))
   (sSeq (sAsg (eBin subD (eC (.int 1)) (eBin mulD (eC (.int 3)) (eVar 2))) (gN 3))
   sNil)
   sNil)
  (sSeq (sIf (bCmp geD (eVar 3) (eBin powD (eC (.int 10)) (eC (.int 18))))
   (sSeq (sRet (eLst (aCons (eVar 3) (aCons (eC (.int 1)) (aCons (eVar 1) aNil)))))
   sNil)
   sNil)
  (sSeq (sRet (eLst (aCons (eBin addD (eBin modD (eCall intD (aCons (eVar 3) aNil)) (eC (.int 2147483646))) (eC (.int 1))) (aCons (eC (.int 0)) (aCons (eVar 1) aNil)))))
  sNil)))))
/-- slots: 0 jar 1 many 2 found -/
def b__law_pick : DS :=
  (sSeq (sIf (bAnd (bCmp eqD (eBin ixD (eVar 0) (eC (.int 1))) (eC (.int 1))) (bCmp gtD (eBin ixD (eVar 0) (eC (.int 0))) (eC (.int 0))))
   (sSeq (sAsg (eBin modD (eCall intD (aCons (eBin ixD (eVar 0) (eC (.int 0))) aNil)) (eVar 1)) (gN 2))
   (sSeq (sAsg (eBin divD (eBin ixD (eVar 0) (eC (.int 0))) (eVar 1)) (gS (eVar 0) (eC (.int 0))))
   (sSeq (sRet (eVar 2))
   sNil)))
   sNil)
  (sSeq (sIf (bCmp eqD (eBin ixD (eVar 0) (eC (.int 1))) (eC (.int 1)))
   (sSeq (sAsg (eC (.int 0)) (gS (eVar 0) (eC (.int 1))))
   (sSeq (sAsg (eBin addD (eC (.int 1234567)) (eBin mulD (eBin ixD (eVar 0) (eC (.int 2))) (eC (.int 7907)))) (gS (eVar 0) (eC (.int 0))))
   sNil))
   sNil)
  (sSeq (sAsg (eBin addD (eBin ixD (eVar 0) (eC (.int 2))) (eC (.int 1))) (gS (eVar 0) (eC (.int 2))))
  (sSeq (sAsg (eBin modD (eCall intD (aCons (eBin addD (eBin mulD (eBin ixD (eVar 0) (eC (.int 0))) (eC (.int 48271))) (eBin mulD (eBin ixD (eVar 0) (eC (.int 2))) (eC (.int 69621)))) aNil)) (eC (.int 2147483647))) (gS (eVar 0) (eC (.int 0))))
  (sSeq (sRet (eBin modD (eCall intD (aCons (eBin divD (eBin ixD (eVar 0) (eC (.int 0))) (eC (.int 977))) aNil)) (eVar 1)))
  sNil)))))
/-- slots: 0 jar 1 menu -/
def b__law_odd (c__law_pick : List D → Mh → PQ → Prop) : DS :=
  (sSeq (sAsg (eLst (aCons (eC .non) (aCons (eC (.bl true)) (aCons (eC (.bl false)) (aCons (eC (.int 0)) (aCons (eC (.int 1)) (aCons (eBin subD (eC (.int 0)) (eC (.int 1))) (aCons (eC (.int 1000000)) (aCons (eC (.str "")) (aCons (eC (.str "a")) (aCons (eC (.str "say")) (aCons (eC (.str "end")) (aCons (eTup aNil) (aCons (eTup (aCons (eC (.int 0)) aNil)) (aCons (eTup (aCons (eC (.str "end")) aNil)) (aCons (eTup (aCons (eC (.int 0)) (aCons (eC (.int 0)) aNil))) (aCons (eTup (aCons (eC (.str "a")) (aCons (eC (.int 0)) (aCons (eC (.int 0)) (aCons (eC (.int 0)) aNil))))) aNil))))))))))))))))) (gN 1))
  (sSeq (sRet (eBin ixD (eVar 1) (eFn 2 c__law_pick (aCons (eVar 0) (aCons (eCall lenD (aCons (eVar 1) aNil)) aNil)))))
  sNil))
/-- slots: 0 jar 1 thing 2 trail 3 now 4 count 5 at 6 way 7 fresh 8 row -/
def b__law_spoilt (c__law_pick : List D → Mh → PQ → Prop) (c__law_odd : List D → Mh → PQ → Prop) : DS :=
  (sSeq (sAsg (eLst aNil) (gN 2))
  (sSeq (sAsg (eVar 1) (gN 3))
  (sSeq (sFor (iRg1 (aCons (eC (.int 8)) aNil)) (gN 4)
   (sSeq (sIf (bOr (bNot (bTru (eIsi "tuple" (eVar 3)))) (bOr (bCmp eqD (eCall lenD (aCons (eVar 3) aNil)) (eC (.int 0))) (bCmp eqD (eFn 2 c__law_pick (aCons (eVar 0) (aCons (eC (.int 5)) aNil))) (eC (.int 0)))))
    (sSeq sBrk
    sNil)
    sNil)
   (sSeq (sAsg (eFn 2 c__law_pick (aCons (eVar 0) (aCons (eCall lenD (aCons (eVar 3) aNil)) aNil))) (gN 5))
   (sSeq (sExp (eMt "list" appendD (eVar 2) (aCons (eTup (aCons (eVar 3) (aCons (eVar 5) aNil))) aNil)))
   (sSeq (sAsg (eBin ixD (eVar 3) (eVar 5)) (gN 3))
   sNil)))))
  (sSeq (sAsg (eFn 2 c__law_pick (aCons (eVar 0) (aCons (eC (.int 4)) aNil))) (gN 6))
  (sSeq (sAsg (eFn 1 c__law_odd (aCons (eVar 0) aNil)) (gN 7))
  (sSeq (sIf (bAnd (bCmp eqD (eVar 6) (eC (.int 3))) (bAnd (bTru (eIsi "int" (eVar 3))) (bNot (bTru (eIsi "bool" (eVar 3))))))
   (sSeq (sAsg (eBin subD (eBin addD (eVar 3) (eC (.int 1))) (eBin mulD (eC (.int 2)) (eFn 2 c__law_pick (aCons (eVar 0) (aCons (eC (.int 2)) aNil))))) (gN 7))
   sNil)
   sNil)
  (sSeq (sFor (iRg1 (aCons (eCall lenD (aCons (eVar 2) aNil)) aNil)) (gN 4)
   (sSeq (sAsg (eBin ixD (eVar 2) (eBin subD (eBin subD (eCall lenD (aCons (eVar 2) aNil)) (eC (.int 1))) (eVar 4))) (gT 2 (gsC (gN 8) (gsC (gN 5) gsN))))
   (sSeq (sIf (bAnd (bCmp eqD (eVar 4) (eC (.int 0))) (bCmp eqD (eVar 6) (eC (.int 1))))
    (sSeq (sAsg (eBin addD (eSl (eVar 8) none (some (eVar 5))) (eSl (eVar 8) (some (eBin addD (eVar 5) (eC (.int 1)))) none)) (gN 7))
    sNil)
    (sSeq (sIf (bAnd (bCmp eqD (eVar 4) (eC (.int 0))) (bCmp eqD (eVar 6) (eC (.int 2))))
     (sSeq (sAsg (eBin addD (eBin addD (eSl (eVar 8) none (some (eVar 5))) (eTup (aCons (eBin ixD (eVar 8) (eVar 5)) aNil))) (eSl (eVar 8) (some (eVar 5)) none)) (gN 7))
     sNil)
     (sSeq (sAsg (eBin addD (eBin addD (eSl (eVar 8) none (some (eVar 5))) (eTup (aCons (eVar 7) aNil))) (eSl (eVar 8) (some (eBin addD (eVar 5) (eC (.int 1)))) none)) (gN 7))
     sNil))
    sNil))
   sNil)))
  (sSeq (sRet (eVar 7))
  sNil))))))))
/-- slots: 0 thing -/
def b__law_is_number : DS :=
  (sSeq (sRet (eAnd (eIsi "int" (eVar 0)) (eNot (eIsi "bool" (eVar 0)))))
  sNil)
/-- slots: 0 thing 1 letters 2 sign -/
def b__law_is_name : DS :=
  (sSeq (sIf (bOr (bNot (bTru (eIsi "str" (eVar 0)))) (bOr (bCmp ltD (eCall lenD (aCons (eVar 0) aNil)) (eC (.int 1))) (bCmp gtD (eCall lenD (aCons (eVar 0) aNil)) (eC (.int 8)))))
   (sSeq (sRet (eC (.bl false)))
   sNil)
   sNil)
  (sSeq (sAsg (eC (.str "abcdefghijklmnopqrstuvwxyz")) (gN 1))
  (sSeq (sIf (bCmp ninD (eBin ixD (eVar 0) (eC (.int 0))) (eVar 1))
   (sSeq (sRet (eC (.bl false)))
   sNil)
   sNil)
  (sSeq (sRet (eCmp eqD (eCall lenD (aCons (eLC (iSeq (eVar 0)) (.nm 2) (bCmp ninD (eVar 2) (eBin addD (eVar 1) (eC (.str "0123456789")))) (eVar 2) [2]) aNil)) (eC (.int 0))))
  sNil))))
/-- slots: 0 thing 1 words -/
def b__law_is_label (c__law_is_name : List D → Mh → PQ → Prop) : DS :=
  (sSeq (sAsg (eLst (aCons (eC (.str "talk")) (aCons (eC (.str "roles")) (aCons (eC (.str "to")) (aCons (eC (.str "on")) (aCons (eC (.str "round")) (aCons (eC (.str "again")) (aCons (eC (.str "stop")) (aCons (eC (.str "machine")) (aCons (eC (.str "say")) (aCons (eC (.str "hear")) (aCons (eC (.str "end")) aNil)))))))))))) (gN 1))
  (sSeq (sRet (eAnd (eFn 1 c__law_is_name (aCons (eVar 0) aNil)) (eCmp ninD (eVar 0) (eVar 1))))
  sNil))
/-- slots: 0 thing 1 many 2 part -/
def b__law_is_move (c__law_is_number : List D → Mh → PQ → Prop) (c__law_is_label : List D → Mh → PQ → Prop) : DS :=
  (sSeq (sIf (bOr (bNot (bTru (eIsi "tuple" (eVar 0)))) (bOr (bCmp neD (eCall lenD (aCons (eVar 0) aNil)) (eC (.int 4))) (bNot (bTru (eFn 1 c__law_is_label (aCons (eBin ixD (eVar 0) (eC (.int 0))) aNil))))))
   (sSeq (sRet (eC (.bl false)))
   sNil)
   sNil)
  (sSeq (sIf (bCmp gtD (eCall lenD (aCons (eLC (iSeq (eSl (eVar 0) (some (eC (.int 1))) none)) (.nm 2) (bNot (bTru (eFn 1 c__law_is_number (aCons (eVar 2) aNil)))) (eVar 2) [2]) aNil)) (eC (.int 0)))
   (sSeq (sRet (eC (.bl false)))
   sNil)
   sNil)
  (sSeq (sRet (eAnd (eCmp leD (eC (.int 0)) (eBin ixD (eVar 0) (eC (.int 1)))) (eAnd (eCmp leD (eBin ixD (eVar 0) (eC (.int 1))) (eBin ixD (eVar 0) (eC (.int 2)))) (eAnd (eCmp leD (eBin ixD (eVar 0) (eC (.int 2))) (eC (.int 999999))) (eAnd (eCmp leD (eC (.int 0)) (eBin ixD (eVar 0) (eC (.int 3)))) (eCmp ltD (eBin ixD (eVar 0) (eC (.int 3))) (eVar 1)))))))
  sNil)))
/-- slots: 0 thing 1 many 2 move 3 at -/
def b__law_is_moves (c__law_is_move : List D → Mh → PQ → Prop) : DS :=
  (sSeq (sIf (bOr (bNot (bTru (eIsi "tuple" (eVar 0)))) (bCmp eqD (eCall lenD (aCons (eVar 0) aNil)) (eC (.int 0))))
   (sSeq (sRet (eC (.bl false)))
   sNil)
   sNil)
  (sSeq (sIf (bCmp gtD (eCall lenD (aCons (eLC (iSeq (eVar 0)) (.nm 2) (bNot (bTru (eFn 2 c__law_is_move (aCons (eVar 2) (aCons (eVar 1) aNil))))) (eVar 2) [2]) aNil)) (eC (.int 0)))
   (sSeq (sRet (eC (.bl false)))
   sNil)
   sNil)
  (sSeq (sFor (iRg2 (aCons (eC (.int 1)) (aCons (eCall lenD (aCons (eVar 0) aNil)) aNil))) (gN 3)
   (sSeq (sIf (bCmp ltD (eBin ixD (eBin ixD (eVar 0) (eVar 3)) (eC (.int 0))) (eBin ixD (eBin ixD (eVar 0) (eBin subD (eVar 3) (eC (.int 1)))) (eC (.int 0))))
    (sSeq (sRet (eC (.bl false)))
    sNil)
    sNil)
   (sSeq (sIf (bAnd (bCmp eqD (eBin ixD (eBin ixD (eVar 0) (eVar 3)) (eC (.int 0))) (eBin ixD (eBin ixD (eVar 0) (eBin subD (eVar 3) (eC (.int 1)))) (eC (.int 0)))) (bCmp leD (eBin ixD (eBin ixD (eVar 0) (eVar 3)) (eC (.int 1))) (eBin ixD (eBin ixD (eVar 0) (eBin subD (eVar 3) (eC (.int 1)))) (eC (.int 2)))))
    (sSeq (sRet (eC (.bl false)))
    sNil)
    sNil)
   sNil)))
  (sSeq (sRet (eC (.bl true)))
  sNil))))
/-- slots: 0 first -/
def b__law_signs : DS :=
  (sSeq (sAsg (eC (.str " !\"#$&'()*+,-./0123456789:;<=>?@ABCDEFGHIJKLMNOPQRSTUVWXYZ[\\]^_`")) (gN 0))
  (sSeq (sRet (eBin addD (eVar 0) (eC (.str "abcdefghijklmnopqrstuvwxyz{|}~\n"))))
  sNil))
/-- slots: 0 jar 1 many 2 way 3 small -/
def b__law_number (c__law_pick : List D → Mh → PQ → Prop) : DS :=
  (sSeq (sAsg (eFn 2 c__law_pick (aCons (eVar 0) (aCons (eC (.int 12)) aNil))) (gN 2))
  (sSeq (sIf (bCmp eqD (eVar 2) (eC (.int 0)))
   (sSeq (sRet (eBin subD (eVar 1) (eC (.int 1))))
   sNil)
   sNil)
  (sSeq (sIf (bCmp eqD (eVar 2) (eC (.int 1)))
   (sSeq (sRet (eFn 2 c__law_pick (aCons (eVar 0) (aCons (eVar 1) aNil))))
   sNil)
   sNil)
  (sSeq (sAsg (eBin ixD (eLst (aCons (eC (.int 1)) (aCons (eC (.int 1)) (aCons (eC (.int 2)) (aCons (eC (.int 3)) (aCons (eC (.int 5)) (aCons (eC (.int 9)) (aCons (eC (.int 2)) (aCons (eC (.int 1)) (aCons (eC (.int 4)) (aCons (eC (.int 12)) aNil))))))))))) (eBin subD (eVar 2) (eC (.int 2)))) (gN 3))
  (sSeq (sRet (eFn 2 c__law_pick (aCons (eVar 0) (aCons (eCall minD (aCons (eVar 1) (aCons (eVar 3) aNil))) aNil))))
  sNil)))))
/-- slots: 0 jar 1 pool 2 size 3 turn -/
def b__law_word (c__law_pick : List D → Mh → PQ → Prop) (c__law_signs : List D → Mh → PQ → Prop) : DS :=
  (sSeq (sAsg (eC (.str "abcdefghijklmnopqrstuvwxyz0123456789")) (gN 1))
  (sSeq (sIf (bCmp eqD (eFn 2 c__law_pick (aCons (eVar 0) (aCons (eC (.int 4)) aNil))) (eC (.int 0)))
   (sSeq (sAsg (eFn 0 c__law_signs aNil) (gN 1))
   sNil)
   sNil)
  (sSeq (sAsg (eBin ixD (eLst (aCons (eC (.int 0)) (aCons (eC (.int 1)) (aCons (eC (.int 1)) (aCons (eC (.int 2)) (aCons (eC (.int 3)) (aCons (eC (.int 5)) (aCons (eC (.int 7)) (aCons (eC (.int 8)) (aCons (eC (.int 8)) (aCons (eC (.int 9)) (aCons (eC (.int 12)) (aCons (eC (.int 60)) aNil))))))))))))) (eFn 2 c__law_pick (aCons (eVar 0) (aCons (eC (.int 12)) aNil)))) (gN 2))
  (sSeq (sRet (eMt "str" joinD (eC (.str "")) (aCons (eLC (iRg1 (aCons (eVar 2) aNil)) (.nm 3) bYes (eBin ixD (eVar 1) (eFn 2 c__law_pick (aCons (eVar 0) (aCons (eCall lenD (aCons (eVar 1) aNil)) aNil)))) [3]) aNil)))
  sNil))))
/-- slots: 0 jar 1 word 2 signs 3 at 4 sign -/
def b__law_changed_word (c__law_pick : List D → Mh → PQ → Prop) (c__law_signs : List D → Mh → PQ → Prop) : DS :=
  (sSeq (sAsg (eFn 0 c__law_signs aNil) (gN 2))
  (sSeq (sAsg (eFn 2 c__law_pick (aCons (eVar 0) (aCons (eBin addD (eCall lenD (aCons (eVar 1) aNil)) (eC (.int 1))) aNil))) (gN 3))
  (sSeq (sAsg (eBin ixD (eVar 2) (eFn 2 c__law_pick (aCons (eVar 0) (aCons (eCall lenD (aCons (eVar 2) aNil)) aNil)))) (gN 4))
  (sSeq (sRet (eBin addD (eBin addD (eSl (eVar 1) none (some (eVar 3))) (eBin mulD (eVar 4) (eFn 2 c__law_pick (aCons (eVar 0) (aCons (eC (.int 2)) aNil))))) (eSl (eVar 1) (some (eBin addD (eVar 3) (eFn 2 c__law_pick (aCons (eVar 0) (aCons (eC (.int 2)) aNil))))) none)))
  sNil))))
/-- slots: 0 word -/
def b__law_kept_label (c__law_is_label : List D → Mh → PQ → Prop) : DS :=
  (sSeq (sIf (bTru (eFn 1 c__law_is_label (aCons (eVar 0) aNil)))
   (sSeq (sRet (eVar 0))
   sNil)
   sNil)
  (sSeq (sRet (eBin addD (eVar 0) (eC (.str "0"))))
  sNil))
/-- slots: 0 jar 1 small 2 word 3 turn -/
def b__law_free_label (c__law_kept_label : List D → Mh → PQ → Prop) (c__law_pick : List D → Mh → PQ → Prop) : DS :=
  (sSeq (sAsg (eC (.str "abcdefghijklmnopqrstuvwxyz0123456789")) (gN 1))
  (sSeq (sAsg (eBin ixD (eVar 1) (eFn 2 c__law_pick (aCons (eVar 0) (aCons (eC (.int 26)) aNil)))) (gN 2))
  (sSeq (sFor (iRg1 (aCons (eBin ixD (eLst (aCons (eC (.int 0)) (aCons (eC (.int 1)) (aCons (eC (.int 1)) (aCons (eC (.int 2)) (aCons (eC (.int 3)) (aCons (eC (.int 7)) (aCons (eFn 2 c__law_pick (aCons (eVar 0) (aCons (eC (.int 8)) aNil))) aNil)))))))) (eFn 2 c__law_pick (aCons (eVar 0) (aCons (eC (.int 7)) aNil)))) aNil)) (gN 3)
   (sSeq (sAsg (eBin addD (eVar 2) (eBin ixD (eVar 1) (eFn 2 c__law_pick (aCons (eVar 0) (aCons (eC (.int 36)) aNil))))) (gN 2))
   sNil))
  (sSeq (sRet (eFn 1 c__law_kept_label (aCons (eVar 2) aNil)))
  sNil))))
/-- slots: 0 jar 1 small 2 found 3 turn 4 word -/
def b__law_labels (c__law_pick : List D → Mh → PQ → Prop) (c__law_kept_label : List D → Mh → PQ → Prop) (c__law_free_label : List D → Mh → PQ → Prop) : DS :=
  (sSeq (sAsg (eC (.str "abcdefghijklmnopqrstuvwxyz0123456789")) (gN 1))
  (sSeq (sAsg (eLst aNil) (gN 2))
  (sSeq (sFor (iRg1 (aCons (eBin addD (eC (.int 1)) (eFn 2 c__law_pick (aCons (eVar 0) (aCons (eC (.int 4)) aNil)))) aNil)) (gN 3)
   (sSeq (sAsg (eFn 1 c__law_free_label (aCons (eVar 0) aNil)) (gN 4))
   (sSeq (sIf (bAnd (bCmp gtD (eCall lenD (aCons (eVar 2) aNil)) (eC (.int 0))) (bAnd (bCmp ltD (eCall lenD (aCons (eBin ixD (eVar 2) (eC (.int 0))) aNil)) (eC (.int 8))) (bCmp eqD (eFn 2 c__law_pick (aCons (eVar 0) (aCons (eC (.int 3)) aNil))) (eC (.int 0)))))
    (sSeq (sAsg (eFn 1 c__law_kept_label (aCons (eBin addD (eBin ixD (eVar 2) (eC (.int 0))) (eBin ixD (eVar 1) (eFn 2 c__law_pick (aCons (eVar 0) (aCons (eC (.int 36)) aNil))))) aNil)) (gN 4))
    sNil)
    sNil)
   (sSeq (sIf (bCmp ninD (eVar 4) (eVar 2))
    (sSeq (sExp (eMt "list" appendD (eVar 2) (aCons (eVar 4) aNil)))
    sNil)
    sNil)
   sNil))))
  (sSeq (sRet (eCall sortedD (aCons (eVar 2) aNil)))
  sNil))))
/-- slots: 0 jar 1 label 2 many 3 count 4 found 5 at 6 turn 7 high -/
def b__law_strips (c__law_number : List D → Mh → PQ → Prop) : DS :=
  (sSeq (sAsg (eLst aNil) (gN 4))
  (sSeq (sAsg (eFn 2 c__law_number (aCons (eVar 0) (aCons (eC (.int 1000000)) aNil))) (gN 5))
  (sSeq (sFor (iRg1 (aCons (eVar 3) aNil)) (gN 6)
   (sSeq (sIf (bCmp gtD (eVar 5) (eC (.int 999999)))
    (sSeq sBrk
    sNil)
    sNil)
   (sSeq (sAsg (eBin addD (eVar 5) (eFn 2 c__law_number (aCons (eVar 0) (aCons (eBin subD (eC (.int 1000000)) (eVar 5)) aNil)))) (gN 7))
   (sSeq (sExp (eMt "list" appendD (eVar 4) (aCons (eTup (aCons (eVar 1) (aCons (eVar 5) (aCons (eVar 7) (aCons (eFn 2 c__law_number (aCons (eVar 0) (aCons (eVar 2) aNil))) aNil))))) aNil)))
   (sSeq (sAsg (eBin addD (eBin addD (eVar 7) (eC (.int 1))) (eFn 2 c__law_number (aCons (eVar 0) (aCons (eC (.int 1000000)) aNil)))) (gN 5))
   sNil)))))
  (sSeq (sRet (eVar 4))
  sNil))))
/-- slots: 0 jar 1 labels 2 many 3 found 4 limit 5 label -/
def b__law_free_moves (c__law_strips : List D → Mh → PQ → Prop) (c__law_pick : List D → Mh → PQ → Prop) : DS :=
  (sSeq (sAsg (eLst aNil) (gN 3))
  (sSeq (sAsg (eBin ixD (eLst (aCons (eC (.int 1)) (aCons (eC (.int 1)) (aCons (eC (.int 2)) (aCons (eC (.int 3)) (aCons (eC (.int 4)) (aCons (eC (.int 9)) aNil))))))) (eFn 2 c__law_pick (aCons (eVar 0) (aCons (eC (.int 6)) aNil)))) (gN 4))
  (sSeq (sFor (iSeq (eVar 1)) (gN 5)
   (sSeq (sExp (eMt "list" extendD (eVar 3) (aCons (eFn 4 c__law_strips (aCons (eVar 0) (aCons (eVar 5) (aCons (eVar 2) (aCons (eBin addD (eC (.int 1)) (eFn 2 c__law_pick (aCons (eVar 0) (aCons (eVar 4) aNil)))) aNil))))) aNil)))
   sNil))
  (sSeq (sRet (eCall tupleD (aCons (eVar 3) aNil)))
  sNil))))
/-- slots: 0 jar 1 found 2 word 3 turn 4 odd -/
def b__law_words (c__law_changed_word : List D → Mh → PQ → Prop) (c__law_free_label : List D → Mh → PQ → Prop) (c__law_word : List D → Mh → PQ → Prop) : DS :=
  (sSeq (sAsg (eLst (aCons (eC (.str "")) (aCons (eC (.str "a")) (aCons (eC (.str "z9")) (aCons (eC (.str "9")) (aCons (eC (.str "9a")) (aCons (eC (.str "A")) (aCons (eC (.str "aB")) (aCons (eC (.str "a b")) (aCons (eC (.str "a_b")) (aCons (eC (.str "a\n")) (aCons (eC (.str "\na")) (aCons (eC (.str " a")) (aCons (eC (.str "a-b")) (aCons (eC (.str "abcdefgh")) (aCons (eC (.str "abcdefghi")) aNil)))))))))))))))) (gN 1))
  (sSeq (sExp (eMt "list" extendD (eVar 1) (aCons (eLst (aCons (eC (.str "a1234567")) (aCons (eC (.str "a12345678")) (aCons (eC (.str "zzzzzzzz")) (aCons (eC (.str "zzzzzzzzz")) (aCons (eC (.str "1abcdefg")) (aCons (eC (.str "abcdefgH")) (aCons (eC (.str "abcdefg ")) (aCons (eC (.str "00000000")) aNil))))))))) aNil)))
  (sSeq (sFor (iSeq (eLst (aCons (eC (.str "talk")) (aCons (eC (.str "roles")) (aCons (eC (.str "to")) (aCons (eC (.str "on")) (aCons (eC (.str "round")) (aCons (eC (.str "again")) (aCons (eC (.str "stop")) (aCons (eC (.str "machine")) (aCons (eC (.str "say")) (aCons (eC (.str "hear")) (aCons (eC (.str "end")) aNil))))))))))))) (gN 2)
   (sSeq (sExp (eMt "list" extendD (eVar 1) (aCons (eLst (aCons (eVar 2) (aCons (eBin addD (eVar 2) (eC (.str "s"))) (aCons (eSl (eVar 2) (some (eC (.int 1))) none) (aCons (eBin addD (eC (.str "a")) (eVar 2)) (aCons (eBin addD (eVar 2) (eC (.str "0"))) (aCons (eSl (eVar 2) none (some (eBin subD (eCall lenD (aCons (eVar 2) aNil)) (eC (.int 1))))) aNil))))))) aNil)))
   sNil))
  (sSeq (sFor (iRg1 (aCons (eC (.int 12)) aNil)) (gN 3)
   (sSeq (sAsg (eFn 1 c__law_word (aCons (eVar 0) aNil)) (gN 2))
   (sSeq (sExp (eMt "list" extendD (eVar 1) (aCons (eLst (aCons (eVar 2) (aCons (eFn 2 c__law_changed_word (aCons (eVar 0) (aCons (eVar 2) aNil))) aNil))) aNil)))
   sNil)))
  (sSeq (sFor (iRg1 (aCons (eC (.int 4)) aNil)) (gN 3)
   (sSeq (sAsg (eFn 1 c__law_free_label (aCons (eVar 0) aNil)) (gN 2))
   (sSeq (sExp (eMt "list" extendD (eVar 1) (aCons (eLst (aCons (eVar 2) (aCons (eFn 2 c__law_changed_word (aCons (eVar 0) (aCons (eVar 2) aNil))) aNil))) aNil)))
   sNil)))
  (sSeq (sAsg (eLst (aCons (eC .non) (aCons (eC (.bl true)) (aCons (eC (.bl false)) (aCons (eC (.int 0)) (aCons (eC (.int 1)) (aCons (eBin subD (eC (.int 0)) (eC (.int 1))) (aCons (eC (.int 1000000)) (aCons (eTup aNil) (aCons (eTup (aCons (eC (.str "a")) aNil)) (aCons (eTup (aCons (eC .non) aNil)) (aCons (eTup (aCons (eC (.str "a")) (aCons (eC (.int 0)) (aCons (eC (.int 0)) (aCons (eC (.int 0)) aNil))))) (aCons (eTup (aCons (eTup (aCons (eC (.str "a")) (aCons (eC (.int 0)) (aCons (eC (.int 0)) (aCons (eC (.int 0)) aNil))))) aNil)) aNil))))))))))))) (gN 4))
  (sSeq (sRet (eBin addD (eVar 1) (eVar 4)))
  sNil)))))))
/-- slots: 0 jar 1 moves 2 many 3 way 4 at 5 label 6 low 7 high 8 goal 9 words 10 wide 11 menu -/
def b__law_bent (c__law_changed_word : List D → Mh → PQ → Prop) (c__law_pick : List D → Mh → PQ → Prop) : DS :=
  (sSeq (sAsg (eFn 2 c__law_pick (aCons (eVar 0) (aCons (eCall lenD (aCons (eVar 1) aNil)) aNil))) (gN 4))
  (sSeq (sAsg (eBin ixD (eVar 1) (eVar 4)) (gT 4 (gsC (gN 5) (gsC (gN 6) (gsC (gN 7) (gsC (gN 8) gsN))))))
  (sSeq (sAsg (eLst (aCons (eC (.str "talk")) (aCons (eC (.str "roles")) (aCons (eC (.str "to")) (aCons (eC (.str "on")) (aCons (eC (.str "round")) (aCons (eC (.str "again")) (aCons (eC (.str "stop")) (aCons (eC (.str "machine")) (aCons (eC (.str "say")) (aCons (eC (.str "hear")) (aCons (eC (.str "end")) aNil)))))))))))) (gN 9))
  (sSeq (sAsg (eBin addD (eVar 5) (eC (.str "aaaaaaaa"))) (gN 10))
  (sSeq (sAsg (eLst (aCons (eLst (aCons (eTup (aCons (eVar 5) (aCons (eVar 6) (aCons (eVar 7) (aCons (eVar 2) aNil))))) aNil)) (aCons (eLst (aCons (eTup (aCons (eVar 5) (aCons (eVar 6) (aCons (eVar 7) (aCons (eBin subD (eVar 2) (eC (.int 1))) aNil))))) aNil)) (aCons (eLst (aCons (eTup (aCons (eVar 5) (aCons (eVar 6) (aCons (eVar 7) (aCons (eBin subD (eC (.int 0)) (eC (.int 1))) aNil))))) aNil)) (aCons (eLst aNil) (aCons (eLst (aCons (eBin ixD (eVar 1) (eVar 4)) (aCons (eBin ixD (eVar 1) (eVar 4)) aNil))) (aCons (eLst (aCons (eBin ixD (eVar 1) (eVar 4)) (aCons (eTup (aCons (eVar 5) (aCons (eVar 7) (aCons (eVar 7) (aCons (eVar 8) aNil))))) aNil))) (aCons (eLst (aCons (eBin ixD (eVar 1) (eVar 4)) (aCons (eTup (aCons (eVar 5) (aCons (eBin addD (eVar 7) (eC (.int 1))) (aCons (eBin addD (eVar 7) (eC (.int 1))) (aCons (eVar 8) aNil))))) aNil))) (aCons (eLst (aCons (eTup (aCons (eVar 5) (aCons (eBin addD (eVar 7) (eC (.int 1))) (aCons (eVar 7) (aCons (eVar 8) aNil))))) aNil)) (aCons (eLst (aCons (eTup (aCons (eVar 5) (aCons (eVar 7) (aCons (eVar 7) (aCons (eVar 8) aNil))))) aNil)) (aCons (eLst (aCons (eTup (aCons (eVar 5) (aCons (eVar 6) (aCons (eBin addD (eVar 7) (eC (.int 1))) (aCons (eVar 8) aNil))))) aNil)) (aCons (eLst (aCons (eTup (aCons (eVar 5) (aCons (eVar 6) (aCons (eC (.int 999999)) (aCons (eVar 8) aNil))))) aNil)) (aCons (eLst (aCons (eTup (aCons (eVar 5) (aCons (eVar 6) (aCons (eC (.int 1000000)) (aCons (eVar 8) aNil))))) aNil)) (aCons (eLst (aCons (eTup (aCons (eVar 5) (aCons (eBin subD (eC (.int 0)) (eC (.int 1))) (aCons (eVar 7) (aCons (eVar 8) aNil))))) aNil)) (aCons (eLst (aCons (eTup (aCons (eVar 5) (aCons (eC (.int 0)) (aCons (eVar 7) (aCons (eVar 8) aNil))))) aNil)) (aCons (eLst (aCons (eTup (aCons (eBin ixD (eVar 9) (eFn 2 c__law_pick (aCons (eVar 0) (aCons (eC (.int 11)) aNil)))) (aCons (eVar 6) (aCons (eVar 7) (aCons (eVar 8) aNil))))) aNil)) (aCons (eLst (aCons (eTup (aCons (eFn 2 c__law_changed_word (aCons (eVar 0) (aCons (eVar 5) aNil))) (aCons (eVar 6) (aCons (eVar 7) (aCons (eVar 8) aNil))))) aNil)) (aCons (eLst (aCons (eTup (aCons (eSl (eVar 10) none (some (eC (.int 8)))) (aCons (eVar 6) (aCons (eVar 7) (aCons (eVar 8) aNil))))) aNil)) (aCons (eLst (aCons (eTup (aCons (eSl (eVar 10) none (some (eC (.int 9)))) (aCons (eVar 6) (aCons (eVar 7) (aCons (eVar 8) aNil))))) aNil)) (aCons (eLst (aCons (eTup (aCons (eC (.str "")) (aCons (eVar 6) (aCons (eVar 7) (aCons (eVar 8) aNil))))) aNil)) (aCons (eLst (aCons (eTup (aCons (eVar 5) (aCons (eVar 6) (aCons (eVar 7) aNil)))) aNil)) (aCons (eLst (aCons (eTup (aCons (eVar 5) (aCons (eVar 6) (aCons (eVar 7) (aCons (eVar 8) (aCons (eVar 8) aNil)))))) aNil)) (aCons (eLst (aCons (eTup (aCons (eVar 5) (aCons (eVar 6) (aCons (eVar 7) (aCons (eC (.bl true)) aNil))))) aNil)) (aCons (eLst (aCons (eTup (aCons (eVar 5) (aCons (eVar 6) (aCons (eC (.bl true)) (aCons (eVar 8) aNil))))) aNil)) (aCons (eLst (aCons (eTup (aCons (eVar 5) (aCons (eC (.bl false)) (aCons (eVar 7) (aCons (eVar 8) aNil))))) aNil)) (aCons (eLst (aCons (eTup (aCons (eVar 5) (aCons (eVar 6) (aCons (eVar 7) (aCons (eC .non) aNil))))) aNil)) (aCons (eLst (aCons (eTup (aCons (eVar 5) (aCons (eVar 6) (aCons (eC .non) (aCons (eVar 8) aNil))))) aNil)) (aCons (eLst (aCons (eTup (aCons (eVar 5) (aCons (eC .non) (aCons (eVar 7) (aCons (eVar 8) aNil))))) aNil)) (aCons (eLst (aCons (eTup (aCons (eVar 5) (aCons (eCall strD (aCons (eVar 6) aNil)) (aCons (eVar 7) (aCons (eVar 8) aNil))))) aNil)) (aCons (eLst (aCons (eTup (aCons (eC .non) (aCons (eVar 6) (aCons (eVar 7) (aCons (eVar 8) aNil))))) aNil)) (aCons (eLst (aCons (eTup (aCons (eVar 8) (aCons (eVar 6) (aCons (eVar 7) (aCons (eVar 8) aNil))))) aNil)) (aCons (eLst (aCons (eC .non) aNil)) (aCons (eLst (aCons (eVar 5) aNil)) (aCons (eLst (aCons (eTup aNil) aNil)) (aCons (eLst (aCons (eTup (aCons (eBin ixD (eVar 1) (eVar 4)) aNil)) aNil)) aNil))))))))))))))))))))))))))))))))))) (gN 11))
  (sSeq (sRet (eBin addD (eBin addD (eSl (eVar 1) none (some (eVar 4))) (eCall tupleD (aCons (eBin ixD (eVar 11) (eVar 3)) aNil))) (eSl (eVar 1) (some (eBin addD (eVar 4) (eC (.int 1)))) none)))
  sNil))))))
/-- slots: 0 jar 1 moves 2 many 3 found 4 way 5 turn 6 last 7 at 8 greatest 9 move 10 thing -/
def b__law_things (c__law_pick : List D → Mh → PQ → Prop) (c__law_spoilt : List D → Mh → PQ → Prop) (c__law_bent : List D → Mh → PQ → Prop) : DS :=
  (sSeq (sAsg (eLst (aCons (eTup (aCons (eVar 2) (aCons (eVar 1) aNil))) aNil)) (gN 3))
  (sSeq (sFor (iRg1 (aCons (eC (.int 34)) aNil)) (gN 4)
   (sSeq (sExp (eMt "list" appendD (eVar 3) (aCons (eTup (aCons (eVar 2) (aCons (eFn 4 c__law_bent (aCons (eVar 0) (aCons (eVar 1) (aCons (eVar 2) (aCons (eVar 4) aNil))))) aNil))) aNil)))
   sNil))
  (sSeq (sFor (iRg1 (aCons (eC (.int 4)) aNil)) (gN 5)
   (sSeq (sExp (eMt "list" appendD (eVar 3) (aCons (eTup (aCons (eVar 2) (aCons (eFn 2 c__law_spoilt (aCons (eVar 0) (aCons (eVar 1) aNil))) aNil))) aNil)))
   sNil))
  (sSeq (sAsg (eBin subD (eCall lenD (aCons (eVar 1) aNil)) (eC (.int 1))) (gN 6))
  (sSeq (sAsg (eFn 2 c__law_pick (aCons (eVar 0) (aCons (eCall lenD (aCons (eVar 1) aNil)) aNil))) (gN 7))
  (sSeq (sExp (eMt "list" appendD (eVar 3) (aCons (eTup (aCons (eVar 2) (aCons (eBin addD (eSl (eVar 1) none (some (eVar 6))) (eTup (aCons (eTup (aCons (eBin ixD (eBin ixD (eVar 1) (eVar 6)) (eC (.int 0))) (aCons (eBin ixD (eBin ixD (eVar 1) (eVar 6)) (eC (.int 1))) (aCons (eC (.int 999999)) (aCons (eBin ixD (eBin ixD (eVar 1) (eVar 6)) (eC (.int 3))) aNil))))) aNil))) aNil))) aNil)))
  (sSeq (sExp (eMt "list" appendD (eVar 3) (aCons (eTup (aCons (eVar 2) (aCons (eBin addD (eSl (eVar 1) none (some (eVar 6))) (eTup (aCons (eTup (aCons (eBin ixD (eBin ixD (eVar 1) (eVar 6)) (eC (.int 0))) (aCons (eBin ixD (eBin ixD (eVar 1) (eVar 6)) (eC (.int 1))) (aCons (eC (.int 1000000)) (aCons (eBin ixD (eBin ixD (eVar 1) (eVar 6)) (eC (.int 3))) aNil))))) aNil))) aNil))) aNil)))
  (sSeq (sExp (eMt "list" appendD (eVar 3) (aCons (eTup (aCons (eVar 2) (aCons (eBin addD (eVar 1) (eTup (aCons (eTup (aCons (eC (.str "a")) (aCons (eC (.int 0)) (aCons (eC (.int 0)) (aCons (eC (.int 0)) aNil))))) aNil))) aNil))) aNil)))
  (sSeq (sExp (eMt "list" appendD (eVar 3) (aCons (eTup (aCons (eVar 2) (aCons (eBin addD (eBin addD (eBin addD (eSl (eVar 1) none (some (eVar 7))) (eSl (eVar 1) (some (eBin addD (eVar 7) (eC (.int 1)))) (some (eBin addD (eVar 7) (eC (.int 2)))))) (eSl (eVar 1) (some (eVar 7)) (some (eBin addD (eVar 7) (eC (.int 1)))))) (eSl (eVar 1) (some (eBin addD (eVar 7) (eC (.int 2)))) none)) aNil))) aNil)))
  (sSeq (sExp (eMt "list" appendD (eVar 3) (aCons (eTup (aCons (eVar 2) (aCons (eCall tupleD (aCons (eRv (eVar 1)) aNil)) aNil))) aNil)))
  (sSeq (sAsg (eCall maxD (aCons (eLC (iSeq (eVar 1)) (.nm 9) bYes (eBin ixD (eVar 9) (eC (.int 3))) [9]) aNil)) (gN 8))
  (sSeq (sExp (eMt "list" extendD (eVar 3) (aCons (eLst (aCons (eTup (aCons (eBin addD (eVar 8) (eC (.int 1))) (aCons (eVar 1) aNil))) (aCons (eTup (aCons (eCall maxD (aCons (eC (.int 1)) (aCons (eVar 8) aNil))) (aCons (eVar 1) aNil))) (aCons (eTup (aCons (eBin addD (eVar 2) (eC (.int 5))) (aCons (eVar 1) aNil))) aNil)))) aNil)))
  (sSeq (sFor (iSeq (eLst (aCons (eTup aNil) (aCons (eC .non) (aCons (eC (.str "a")) (aCons (eC (.str "")) (aCons (eC (.int 0)) (aCons (eC (.int 1)) (aCons (eC (.bl true)) (aCons (eC (.bl false)) (aCons (eBin ixD (eVar 1) (eC (.int 0))) (aCons (eTup (aCons (eVar 1) aNil)) (aCons (eTup (aCons (eBin ixD (eVar 1) (eC (.int 0))) aNil)) (aCons (eSl (eBin ixD (eVar 1) (eC (.int 0))) none (some (eC (.int 3)))) aNil)))))))))))))) (gN 10)
   (sSeq (sExp (eMt "list" appendD (eVar 3) (aCons (eTup (aCons (eVar 2) (aCons (eVar 10) aNil))) aNil)))
   sNil))
  (sSeq (sRet (eVar 3))
  sNil))))))))))))))
/-- slots: 0 things 1 thing 2 answer -/
def b__law_names_agree (c__law_is_label : List D → Mh → PQ → Prop) (c_is_label : List D → Mh → PQ → Prop) (c__law_is_name : List D → Mh → PQ → Prop) (c_is_name : List D → Mh → PQ → Prop) : DS :=
  (sSeq (sFor (iSeq (eVar 0)) (gN 1)
   (sSeq (sAsg (eFn 1 c_is_name (aCons (eVar 1) aNil)) (gN 2))
   (sSeq (sIf (bOr (bNot (bTru (eIsi "bool" (eVar 2)))) (bCmp neD (eVar 2) (eFn 1 c__law_is_name (aCons (eVar 1) aNil))))
    (sSeq (sRet (eC (.bl false)))
    sNil)
    sNil)
   (sSeq (sAsg (eFn 1 c_is_label (aCons (eVar 1) aNil)) (gN 2))
   (sSeq (sIf (bOr (bNot (bTru (eIsi "bool" (eVar 2)))) (bCmp neD (eVar 2) (eFn 1 c__law_is_label (aCons (eVar 1) aNil))))
    (sSeq (sRet (eC (.bl false)))
    sNil)
    sNil)
   sNil)))))
  (sSeq (sRet (eC (.bl true)))
  sNil))
/-- slots: 0 things 1 many 2 thing 3 answer -/
def b__law_moves_agree (c__law_is_moves : List D → Mh → PQ → Prop) (c_is_moves : List D → Mh → PQ → Prop) : DS :=
  (sSeq (sFor (iSeq (eVar 0)) (gT 2 (gsC (gN 1) (gsC (gN 2) gsN)))
   (sSeq (sAsg (eFn 2 c_is_moves (aCons (eVar 1) (aCons (eVar 2) aNil))) (gN 3))
   (sSeq (sIf (bOr (bNot (bTru (eIsi "bool" (eVar 3)))) (bCmp neD (eVar 3) (eFn 2 c__law_is_moves (aCons (eVar 2) (aCons (eVar 1) aNil)))))
    (sSeq (sRet (eC (.bl false)))
    sNil)
    sNil)
   sNil)))
  (sSeq (sRet (eC (.bl true)))
  sNil))
/-- slots: 0 script 1 words 2 jar 3 many 4 moves 5 things -/
def b_law (c__law_names_agree : List D → Mh → PQ → Prop) (c__law_moves_agree : List D → Mh → PQ → Prop) (c__law_things : List D → Mh → PQ → Prop) (c__law_jar : List D → Mh → PQ → Prop) (c__law_free_moves : List D → Mh → PQ → Prop) (c__law_labels : List D → Mh → PQ → Prop) (c__law_pick : List D → Mh → PQ → Prop) (c__law_words : List D → Mh → PQ → Prop) : DS :=
  (sSeq (sAsg (eFn 1 c__law_words (aCons (eFn 2 c__law_jar (aCons (eVar 0) (aCons (eC (.int 0)) aNil))) aNil)) (gN 1))
  (sSeq (sAsg (eFn 2 c__law_jar (aCons (eVar 0) (aCons (eC (.int 1)) aNil))) (gN 2))
  (sSeq (sAsg (eBin ixD (eLst (aCons (eC (.int 1)) (aCons (eC (.int 2)) (aCons (eC (.int 3)) (aCons (eBin addD (eC (.int 1)) (eFn 2 c__law_pick (aCons (eVar 2) (aCons (eC (.int 61)) aNil)))) (aCons (eBin addD (eC (.int 1)) (eFn 2 c__law_pick (aCons (eVar 2) (aCons (eC (.int 1000000)) aNil)))) aNil)))))) (eFn 2 c__law_pick (aCons (eVar 2) (aCons (eC (.int 5)) aNil)))) (gN 3))
  (sSeq (sAsg (eFn 3 c__law_free_moves (aCons (eVar 2) (aCons (eFn 1 c__law_labels (aCons (eVar 2) aNil)) (aCons (eVar 3) aNil)))) (gN 4))
  (sSeq (sAsg (eFn 3 c__law_things (aCons (eFn 2 c__law_jar (aCons (eVar 0) (aCons (eC (.int 2)) aNil))) (aCons (eVar 4) (aCons (eVar 3) aNil)))) (gN 5))
  (sSeq (sIf (bOr (bNot (bTru (eFn 1 c__law_names_agree (aCons (eVar 1) aNil)))) (bNot (bTru (eFn 1 c__law_moves_agree (aCons (eVar 5) aNil)))))
   (sSeq (sRet (eC (.bl false)))
   sNil)
   sNil)
  (sSeq (sRet (eAnd (eFn 1 c__law_moves_agree (aCons (eRv (eVar 5)) aNil)) (eFn 1 c__law_names_agree (aCons (eRv (eVar 1)) aNil))))
  sNil)))))))
end K01
/-! K01m: what a number, a name, a label, a move, a row of moves is, of any data. -/
namespace K01
open PySem DL L2
abbrev LET : Str := "abcdefghijklmnopqrstuvwxyz"
abbrev FIG : Str := "0123456789"
abbrev RES : List D := [.str "talk", .str "roles", .str "to", .str "on", .str "round", .str "again", .str "stop", .str "machine", .str "say", .str "hear", .str "end"]
def letB (c : Nat) : Bool := decide (c ∈ LET.cps.toList)
def figB (c : Nat) : Bool := decide (c ∈ FIG.cps.toList)
def sgnB (c : Nat) : Bool := letB c || figB c
def nameL : List Nat → Bool
  | [] => false
  | c :: r => decide ((c :: r).length ≤ 8) && letB c && (c :: r).all sgnB
theorem nameL_cons (c : Nat) (r : List Nat) : nameL (c :: r) = (decide ((c :: r).length ≤ 8) && letB c && (c :: r).all sgnB) := rfl
theorem atI_zero {α : Type} (c : α) (r : List α) : atI (c :: r) 0 = some c := by
  obtain ⟨d, h1, h2, h3⟩ := atI_mem (ds := c :: r) (k := 0) (by decide) (by rw [List.length_cons]; omega)
  rw [h1, ← h3]; rfl
def numB : D → Bool
  | .int _ => true
  | _ => false
def nameB : D → Bool
  | .str z => nameL z.cps.toList
  | _ => false
def labB (d : D) : Bool := nameB d && !memD d RES
def intB (p : Int → Bool) : D → Bool
  | .int i => p i
  | _ => false
def spanB (a b : D) : Bool := match a, b with
  | .int i, .int j => decide (0 ≤ i) && decide (i ≤ j) && decide (j ≤ 999999)
  | _, _ => false
def moveB (many : Int) : D → Bool
  | .tup [a, b, c, d] => labB a && spanB b c && intB (fun i => decide (0 ≤ i) && decide (i < many)) d
  | _ => false
/-- what two moves in a row must be -/
def okPair (a b : D) : Bool := match a, b with
  | .tup (.str x :: _ :: .int h :: _), .tup (.str y :: .int l :: _) => !decide (y.cps.toList < x.cps.toList) && !((y == x) && decide (l ≤ h))
  | _, _ => false
def rowB : List D → Bool
  | a :: b :: r => okPair a b && rowB (b :: r)
  | _ => true
def movesB (many : Int) : D → Bool
  | .tup ds => !ds.isEmpty && ds.all (moveB many) && rowB ds
  | _ => false
theorem numB_true {d : D} (h : numB d = true) : ∃ i, d = .int i := by cases d <;> first | (cases h; done) | exact ⟨_, rfl⟩
theorem nameB_true {d : D} (h : nameB d = true) : ∃ z, d = .str z := by cases d <;> first | (cases h; done) | exact ⟨_, rfl⟩
theorem labB_true {d : D} (h : labB d = true) : ∃ z, d = .str z := by
  unfold labB at h
  rw [Bool.and_eq_true] at h
  exact nameB_true h.1
theorem moveB_true {many : Int} {d : D} (h : moveB many d = true) : ∃ x l h' g, d = .tup [.str x, .int l, .int h', .int g] := by
  unfold moveB at h
  split at h
  · rename_i a b c e
    simp only [Bool.and_eq_true] at h
    obtain ⟨⟨h1, h2⟩, h3⟩ := h
    obtain ⟨z, rfl⟩ := labB_true h1
    cases b <;> cases c <;> first | (cases h2; done) | skip
    cases e <;> first | (cases h3; done) | skip
    exact ⟨_, _, _, _, rfl⟩
  · cases h
/-- small data: no references, texts and tuples of at most n -/
def good (n : Nat) : D → Prop
  | .non => True
  | .bl _ => True
  | .int _ => True
  | .str z => z.length ≤ n
  | .tup ds => ds.length ≤ n ∧ goods n ds
  | _ => False
where goods (n : Nat) : List D → Prop
  | [] => True
  | d :: r => good n d ∧ goods n r
theorem goods_iff {n : Nat} : ∀ {ds : List D}, good.goods n ds ↔ ∀ d ∈ ds, good n d
  | [] => by simp [good.goods]
  | d :: r => by simp [good.goods, goods_iff (ds := r)]
theorem good_tup {n : Nat} {ds : List D} : good n (.tup ds) ↔ ds.length ≤ n ∧ ∀ d ∈ ds, good n d := by
  rw [good, goods_iff]
theorem rowB_iff : ∀ {ds : List D}, rowB ds = true ↔ ∀ (i : Nat) (a b : D), ds[i]? = some a → ds[i + 1]? = some b → okPair a b = true
  | [] => by simp [rowB]
  | [a] => by simp [rowB]
  | a :: b :: r => by
    rw [rowB, Bool.and_eq_true, rowB_iff (ds := b :: r)]
    constructor
    · rintro ⟨h1, h2⟩ i x y e1 e2
      cases i with
      | zero =>
        cases e1
        cases e2
        exact h1
      | succ i => exact h2 i x y e1 e2
    · intro h
      exact ⟨h 0 a b rfl rfl, fun i x y e1 e2 => h (i + 1) x y e1 e2⟩
end K01
/-! K01p: what each def of k01 does. -/
namespace K01
open PySem DL L2
-- what the heap holds at a place
local macro_rules | `(tactic| walk_at "h") => `(tactic| first
  | assumption
  | exact mup_same
  | (refine (mup_ne ?_).trans ?_ <;> first | assumption | (apply Ne.symm; assumption) | walk_at "h"))
-- small facts of numbers
local macro_rules | `(tactic| walk_at "n") => `(tactic| first
  | assumption
  | omega
  | decide
  | (exact CMul.r (by decide))
  | (exact CMul.l (by decide))
  | (refine ⟨?_, ?_⟩ <;> first | assumption | omega | decide))
-- lengths
local macro_rules | `(tactic| walk_at "l") => `(tactic| first
  | assumption
  | (rw [sizeLine_eq]; first | omega | decide | (simp; done) | (simp; omega) | decide +kernel))
-- one step
local macro_rules | `(tactic| walk_at "e1") => `(tactic| first
  | with_reducible refine t_nil ?_
  | ((with_reducible refine' t_var ?s ?_); (case s => first | assumption | exact rfl))
  | with_reducible refine t_c ?_
  | with_reducible refine t_bin ?_
  | with_reducible refine t_if ?_
  | with_reducible refine t_asg ?_
  | with_reducible refine t_gN ?_
  | with_reducible refine t_ret ?_
  | with_reducible refine t_exp ?_
  | with_reducible refine t_bcmp ?_
  | with_reducible refine t_band ?_
  | with_reducible refine t_bor ?_
  | with_reducible refine t_bnot ?_
  | with_reducible refine t_btru ?_
  | with_reducible refine t_byes ?_
  | with_reducible refine t_an ?_
  | with_reducible refine t_ac ?_
  | with_reducible refine t_fn ?_
  | with_reducible refine t_call ?_
  | with_reducible refine t_cmp ?_
  | with_reducible refine t_and ?_
  | with_reducible refine t_or ?_
  | with_reducible refine t_not ?_
  | with_reducible refine t_ife ?_
  | with_reducible refine t_tup ?_
  | with_reducible refine t_lst ?_
  | with_reducible refine t_isi ?_
  | with_reducible refine t_sl ?_
  | with_reducible refine t_o0 ?_
  | with_reducible refine t_o1 ?_
  | with_reducible refine t_un ?_
  | with_reducible refine t_mt ?_
  | with_reducible refine t_gS ?_
  | with_reducible refine t_gsC ?_
  | with_reducible refine t_gsN ?_
  | ((with_reducible refine t_gT ?s ?_); (case s => first | assumption | exact rfl))
  | with_reducible refine t_retN ?_
  | with_reducible refine t_brk ?_
  | with_reducible refine t_cnt ?_
  | ((with_reducible refine' t_aug ?s ?_); (case s => first | assumption | exact rfl))
  | with_reducible refine t_for ?_
  | with_reducible refine t_seqi ?_
  | with_reducible refine t_rg1 ?_
  | with_reducible refine t_rg2 ?_
  | with_reducible refine t_lc ?_
  | with_reducible refine v_tru_bl ?_
  | with_reducible refine v_tru_int ?_
  | with_reducible refine v_tru_non ?_
  | with_reducible refine v_tru_tup ?_
  | with_reducible refine v_add_int ?_
  | ((with_reducible refine v_add_str ?l ?_); (case l => walk_at "l"))
  | ((with_reducible refine v_add_tup ?l ?_); (case l => walk_at "l"))
  | with_reducible refine v_iadd_int ?_
  | with_reducible refine v_sub ?_
  | ((with_reducible refine v_mul ?c ?_); (case c => walk_at "n"))
  | ((with_reducible refine v_div ?c ?_); (case c => walk_at "n"))
  | ((with_reducible refine v_mod ?c ?_); (case c => walk_at "n"))
  | ((with_reducible refine v_pow ?c ?_); (case c => exact ⟨by decide, by decide, by decide⟩))
  | with_reducible refine v_neg ?_
  | with_reducible exact trivial
  | with_reducible refine v_eq_int ?_
  | with_reducible refine v_eq_str ?_
  | with_reducible refine v_eq_bl ?_
  | with_reducible refine v_ne_int ?_
  | with_reducible refine v_ne_str ?_
  | with_reducible refine v_ne_bl ?_
  | with_reducible refine v_lt ?_
  | with_reducible refine v_lt_str ?_
  | with_reducible refine t_ks ?_
  | with_reducible refine t_rv ?_
  | with_reducible refine v_seq_ktp ?_
  | ((with_reducible refine' v_extend ?e ?f ?l ?_); (case e => walk_at "h"); (case f => walk_at "h"); (case l => walk_at "l"))
  | with_reducible refine v_le ?_
  | with_reducible refine v_gt ?_
  | with_reducible refine v_ge ?_
  | with_reducible refine v_isi_non ?_
  | with_reducible refine v_isi_bl ?_
  | with_reducible refine v_isi_int ?_
  | with_reducible refine v_isi_str ?_
  | with_reducible refine v_isi_tup ?_
  | with_reducible refine v_in_str ?_
  | with_reducible refine v_nin_str ?_
  | with_reducible refine v_len_tup ?_
  | with_reducible refine v_len_rol ?_
  | ((with_reducible refine v_len_str ?l ?_); (case l => walk_at "l"))
  | ((with_reducible refine' v_len_ref ?e ?_); (case e => walk_at "h"))
  | with_reducible refine v_int_int ?_
  | with_reducible refine v_max ?_
  | with_reducible refine v_min ?_
  | with_reducible refine v_tuple_tup ?_
  | ((with_reducible refine' v_tuple_ref ?e ?_); (case e => walk_at "h"))
  | ((with_reducible refine' v_ix_ref ?e ?f ?_); (case e => walk_at "h"); (case f => first | assumption | exact rfl))
  | ((with_reducible refine' v_ix_tup ?f ?_); (case f => first | assumption | exact rfl))
  | ((with_reducible refine' v_set ?e ?f ?_); (case e => walk_at "h"); (case f => first | assumption | exact rfl))
  | ((with_reducible refine v_sl_str ?l ?_); (case l => walk_at "l"))
  | with_reducible refine v_sl_tup ?_
  | with_reducible refine v_seq_tup ?_
  | with_reducible refine v_seq_str ?_
  | with_reducible refine v_seq_rol ?_
  | ((with_reducible refine' v_seq_ref ?e ?_); (case e => walk_at "h"))
  | ((with_reducible refine' ⟨v_ty_ref ?e, ?_⟩); (case e => walk_at "h"))
  | ((with_reducible refine' v_append ?e ?l ?_); (case e => walk_at "h"); (case l => walk_at "l")))
local macro_rules | `(tactic| walk_at "d1") => `(tactic| first | with_reducible refine t_seq ?_ | walk_at "e1")
local macro_rules | `(tactic| walk_at "d") => `(tactic| repeat walk_at "d1")
-- one statement
local macro_rules | `(tactic| walk_at "e") => `(tactic| ((repeat walk_at "e1"); try (with_reducible show sSeq _ _ _ _ _)))
local macro_rules | `(tactic| walk_at "s") => `(tactic| ((with_reducible refine t_seq ?_); walk_at "e"))
/-! ### numbers, names, labels -/
abbrev N0 (P : PQ) : De := { nx := fun _ M' => P .non M', rt := P }
/-- a test of one thing: the answer, and the heap as it was -/
abbrev ask (n : Nat) (f : D → Bool) : DSp := fun ds M P => ∃ d, ds = [d] ∧ good n d ∧ P (.bl (f d)) M
/-- .. the heap grown -/
abbrev askX (n : Nat) (f : D → Bool) : DSp := fun ds M P => ∃ d, ds = [d] ∧ good n d ∧ ∀ M', MExt M M' → P (.bl (f d)) M'
def sp_is_number : DSp := ask 1000 numB
def sp_l_is_number : DSp := ask 1000 numB
theorem ok_is_number (ds : List D) (M : Mh) (P : PQ) (h : sp_is_number ds M P) : b_is_number { nx := fun _ M' => P .non M', rt := P } (startD 1 ds) M := by
  obtain ⟨d, rfl, g, k⟩ := h
  unfold b_is_number
  cases d <;> first | exact False.elim g | skip
  all_goals (walk_at "d"; first | exact k | skip)
  all_goals (refine t_ite (fun e => ?_) (fun e => ?_) <;> first | (cases e; done) | skip)
  all_goals (try walk_at "d")
  all_goals first | exact k | skip
theorem ok_l_is_number (ds : List D) (M : Mh) (P : PQ) (h : sp_l_is_number ds M P) : b__law_is_number { nx := fun _ M' => P .non M', rt := P } (startD 1 ds) M := ok_is_number ds M P h
theorem in_let (c : Nat) : strIn ⟨#[c]⟩ LET = letB c := strIn_one
theorem in_fig (c : Nat) : strIn ⟨#[c]⟩ FIG = figB c := strIn_one
theorem in_both (c : Nat) : strIn ⟨#[c]⟩ (LET ++ FIG) = sgnB c := by
  rw [strIn_one]
  have e : (LET ++ FIG).cps.toList = LET.cps.toList ++ FIG.cps.toList := by decide +kernel
  rw [e]
  unfold sgnB letB figB
  simp only [List.mem_append, Bool.decide_or]
def sp_is_name : DSp := ask 1000 nameB
theorem ok_is_name (ds : List D) (M : Mh) (P : PQ) (h : sp_is_name ds M P) : b_is_name { nx := fun _ M' => P .non M', rt := P } (startD 2 ds) M := by
  obtain ⟨d, rfl, g, k⟩ := h
  unfold b_is_name
  cases d <;> first | exact False.elim g | skip
  all_goals (walk_at "d"; refine t_ite (fun e => ?_) (fun e => ?_) <;> first | (cases e; done) | skip)
  all_goals (walk_at "d")
  all_goals first | exact k | skip
  rename_i z
  have gz : z.length ≤ 1000 := g
  have hl : z.length = z.cps.toList.length := by simp [Str.length]
  have k : P (.bl (nameL z.cps.toList)) M := k
  walk_at "e"
  refine t_ite (fun e1 => ?_) (fun e1 => ?_)
  · have e1 : (z.length : Int) < 1 := of_decide_eq_true e1
    refine t_ite (fun _ => ?_) (fun z => by cases z)
    walk_at "d"
    cases q : z.cps.toList with
    | nil => rw [q] at k; exact k
    | cons c r => rw [q, List.length_cons] at hl; omega
  have e1 : ¬ (z.length : Int) < 1 := of_decide_eq_false e1
  walk_at "e"
  refine t_ite (fun e2 => ?_) (fun e2 => ?_)
  · have e2 : 8 < (z.length : Int) := of_decide_eq_true e2
    walk_at "d"
    cases q : z.cps.toList with
    | nil => rw [q] at hl; simp at hl; omega
    | cons c r =>
      have : nameL z.cps.toList = false := by
        rw [q]
        rw [nameL_cons]
        rw [q] at hl
        rw [decide_eq_false (by omega)]; rfl
      rw [this] at k; exact k
  have e2 : ¬ 8 < (z.length : Int) := of_decide_eq_false e2
  walk_at "e"
  walk_at "s"
  obtain ⟨c, r, q⟩ : ∃ c r, z.cps.toList = c :: r := by
    cases q : z.cps.toList with
    | nil => rw [q] at hl; simp at hl; omega
    | cons c r => exact ⟨c, r, rfl⟩
  have k : P (.bl (letB c && (c :: r).all sgnB)) M := by
    have : nameL z.cps.toList = (letB c && (c :: r).all sgnB) := by
      rw [q]
      rw [nameL_cons]
      rw [q] at hl
      rw [decide_eq_true (by omega), Bool.true_and]
    rw [this] at k; exact k
  refine v_ix_str (c := c) (by walk_at "l") (by rw [q]; exact atI_zero c r) ?_
  walk_at "e"
  rw [in_let]
  refine t_ite (fun e3 => ?_) (fun e3 => ?_)
  · have e3 : letB c = false := by simpa using e3
    rw [e3] at k
    walk_at "d"
    exact k
  have e3 : letB c = true := by simpa using e3
  rw [e3, Bool.true_and] at k
  walk_at "e"
  walk_at "s"
  refine for_each (fun i ρ M' => M' = M ∧ slot ρ 0 = some (.str z) ∧ ρ.length = 2 ∧ ((c :: r).take i).all sgnB = true) ⟨rfl, rfl, rfl, rfl⟩ (fun N i d ρ M' hd hI hN => ?_) (fun ρ M' hI => ?_)
  · obtain ⟨rfl, s0, s1, hi⟩ := hI
    refine ⟨trivial, ?_⟩
    rw [q, List.getElem?_map] at hd
    obtain ⟨x, hx, rfl⟩ := Option.map_eq_some_iff.mp hd
    have ht : ((c :: r).take (i + 1)).all sgnB = sgnB x := by
      rw [List.take_add_one, hx, List.all_append, hi]; simp
    match ρ, s1 with
    | [a, b], _ =>
    cases s0
    walk_at "d"
    rw [in_let]
    have fin : sgnB x = true → N [some (.str z), some (.str ⟨#[x]⟩)] M' := fun h => hN _ _ ⟨rfl, rfl, rfl, by rw [ht]; exact h⟩
    refine t_ite (fun e4 => ?_) (fun e4 => ?_)
    · walk_at "e"
      rw [in_fig]
      refine t_ite (fun e5 => ?_) (fun e5 => ?_)
      · walk_at "d"
        have : (c :: r).all sgnB = false := by
          refine List.all_eq_false.mpr ⟨x, List.mem_of_getElem? hx, ?_⟩
          unfold sgnB
          simp at e4 e5
          simp [e4, e5]
        rw [this] at k
        exact k
      · walk_at "e"
        refine fin ?_
        unfold sgnB
        simp at e5
        simp [e5]
    · refine t_if0 rfl ?_
      walk_at "e"
      refine fin ?_
      unfold sgnB
      simp at e4
      simp [e4]
  · obtain ⟨rfl, s0, s1, hi⟩ := hI
    refine ⟨trivial, ?_⟩
    walk_at "d"
    have hn : (List.map (fun c => D.str ⟨#[c]⟩) z.cps.toList).length = (c :: r).length := by rw [q, List.length_map]
    rw [hn, List.take_length] at hi
    rw [hi] at k
    exact k
def sp_l_is_name : DSp := askX 1000 nameB
theorem ok_l_is_name (ds : List D) (M : Mh) (P : PQ) (h : sp_l_is_name ds M P) : b__law_is_name { nx := fun _ M' => P .non M', rt := P } (startD 3 ds) M := by
  obtain ⟨d, rfl, g, k⟩ := h
  unfold b__law_is_name
  cases d <;> first | exact False.elim g | skip
  all_goals (walk_at "d"; refine t_ite (fun e => ?_) (fun e => ?_) <;> first | (cases e; done) | skip)
  all_goals (walk_at "d")
  all_goals first | (refine t_if1 rfl ?_; walk_at "d"; exact k _ .refl) | skip
  rename_i z
  have gz : z.length ≤ 1000 := g
  have hl : z.length = z.cps.toList.length := by simp [Str.length]
  have k : ∀ M', MExt M M' → P (.bl (nameL z.cps.toList)) M' := k
  walk_at "e"
  refine t_ite (fun e1 => ?_) (fun e1 => ?_)
  · have e1 : (z.length : Int) < 1 := of_decide_eq_true e1
    refine t_if1 rfl ?_
    walk_at "d"
    cases q : z.cps.toList with
    | nil => rw [q] at k; exact k _ .refl
    | cons c r => rw [q, List.length_cons] at hl; omega
  have e1 : ¬ (z.length : Int) < 1 := of_decide_eq_false e1
  walk_at "e"
  refine t_ite (fun e2 => ?_) (fun e2 => ?_)
  · have e2 : 8 < (z.length : Int) := of_decide_eq_true e2
    walk_at "d"
    cases q : z.cps.toList with
    | nil => rw [q] at hl; simp at hl; omega
    | cons c r =>
      have : nameL z.cps.toList = false := by
        rw [q]
        rw [nameL_cons]
        rw [q] at hl
        rw [decide_eq_false (by omega)]; rfl
      rw [this] at k; exact k _ .refl
  have e2 : ¬ 8 < (z.length : Int) := of_decide_eq_false e2
  walk_at "e"
  walk_at "d"
  obtain ⟨c, r, q⟩ : ∃ c r, z.cps.toList = c :: r := by
    cases q : z.cps.toList with
    | nil => rw [q] at hl; simp at hl; omega
    | cons c r => exact ⟨c, r, rfl⟩
  have k : ∀ M', MExt M M' → P (.bl (letB c && (c :: r).all sgnB)) M' := by
    have : nameL z.cps.toList = (letB c && (c :: r).all sgnB) := by
      rw [q]
      rw [nameL_cons]
      rw [q] at hl
      rw [decide_eq_true (by omega), Bool.true_and]
    rw [this] at k; exact k
  refine v_ix_str (c := c) (by walk_at "l") (by rw [q]; exact atI_zero c r) ?_
  walk_at "e"
  rw [in_let]
  refine t_ite (fun e3 => ?_) (fun e3 => ?_)
  · have e3 : letB c = false := by simpa using e3
    rw [e3] at k
    walk_at "d"
    exact k _ .refl
  have e3 : letB c = true := by simpa using e3
  rw [e3] at k
  walk_at "d"
  intro p np
  refine lc_eachT (fun i acc M' => MKeep (· = p) M M' ∧ (acc = [] ↔ ((c :: r).take i).all sgnB = true)) (by rw [List.length_map, ← hl, sizeLine_eq]; omega) mup_same ⟨.put rfl, by simp⟩ (fun R S i d acc M' hd ha hI hp hR hS => ?_) (fun acc M' ha hI hp => ?_)
  · obtain ⟨x1, hi⟩ := hI
    refine ⟨trivial, ?_⟩
    rw [q, List.getElem?_map] at hd
    obtain ⟨x, hx, rfl⟩ := Option.map_eq_some_iff.mp hd
    have ht : ((c :: r).take (i + 1)).all sgnB = (((c :: r).take i).all sgnB && sgnB x) := by
      rw [List.take_add_one, hx, List.all_append]; simp
    refine ⟨_, rfl, ?_⟩
    walk_at "d"
    rw [in_both]
    refine t_ite (fun e4 => ?_) (fun e4 => ?_)
    · walk_at "d"
      refine hR _ _ hp ⟨x1.trans (.put rfl), ?_⟩
      rw [ht]
      simp at e4
      simp [e4]
    · refine hS _ hp ⟨x1, ?_⟩
      rw [ht]
      simp at e4
      rw [e4, Bool.and_true]
      exact hi
  · obtain ⟨x1, hi⟩ := hI
    refine ⟨trivial, ?_⟩
    have hn : (List.map (fun c => D.str ⟨#[c]⟩) z.cps.toList).length = (c :: r).length := by rw [q, List.length_map]
    rw [hn, List.take_length] at hi
    walk_at "d"
    have x2 : MExt M M' := fun a o _ h => x1 a o (ne_free h np) h
    have e5 : ((acc.length : Int) == 0) = (true && (c :: r).all sgnB) := by
      rw [Bool.true_and, Bool.eq_iff_iff, ← hi]
      cases acc <;> simp
      omega
    rw [e5]
    exact k _ x2

/-! ### labels, spans, moves -/
theorem res_flat (z : Str) : inOk (.str z) RES := .inl ⟨rfl, by decide⟩
def sp_is_label : DSp := ask 1000 labB
theorem ok_is_label (ds : List D) (M : Mh) (P : PQ) (h : sp_is_label ds M P) : b_is_label sp_is_name { nx := fun _ M' => P .non M', rt := P } (startD 1 ds) M := by
  obtain ⟨d, rfl, g, k⟩ := h
  unfold b_is_label
  walk_at "d"
  refine ⟨rfl, d, rfl, g, ?_⟩
  walk_at "e"
  unfold labB at k
  refine t_ite (fun e => ?_) (fun e => ?_)
  · obtain ⟨z, rfl⟩ := nameB_true e
    rw [e] at k
    walk_at "e"
    exact v_nin_ktp (res_flat z) k
  · rw [e] at k ⊢
    exact k
def sp_l_is_label : DSp := askX 1000 labB
theorem ok_l_is_label (ds : List D) (M : Mh) (P : PQ) (h : sp_l_is_label ds M P) : b__law_is_label sp_l_is_name { nx := fun _ M' => P .non M', rt := P } (startD 2 ds) M := by
  obtain ⟨d, rfl, g, k⟩ := h
  unfold b__law_is_label
  walk_at "d"
  refine ⟨by walk_at "l", fun p np => ?_⟩
  walk_at "d"
  refine ⟨rfl, d, rfl, g, fun M' x1 => ?_⟩
  walk_at "e"
  unfold labB at k
  have x2 : MExt M M' := (MKeep.fresh np).trans x1
  refine t_ite (fun e => ?_) (fun e => ?_)
  · obtain ⟨z, rfl⟩ := nameB_true e
    rw [e] at k
    walk_at "e"
    exact v_nin_ref (x1 _ _ (fun z => z) mup_same) (res_flat z) (k _ x2)
  · rw [e] at k ⊢
    exact k _ x2
def sp_is_span : DSp := fun ds M P => ∃ a b, ds = [a, b] ∧ good 1000 a ∧ good 1000 b ∧ P (.bl (spanB a b)) M
theorem ok_is_span (ds : List D) (M : Mh) (P : PQ) (h : sp_is_span ds M P) : b_is_span sp_is_number { nx := fun _ M' => P .non M', rt := P } (startD 2 ds) M := by
  obtain ⟨a, b, rfl, ga, gb, k⟩ := h
  unfold b_is_span
  walk_at "d"
  refine ⟨rfl, a, rfl, ga, ?_⟩
  walk_at "e"
  have kf : (numB a = false ∨ numB b = false) → P (.bl false) M := fun h => by
    have : spanB a b = false := by
      cases a <;> cases b <;> first | rfl | (rcases h with h | h <;> cases h)
    rw [this] at k; exact k
  refine t_ite (fun e => ?_) (fun e => ?_)
  · refine t_if1 rfl ?_
    walk_at "d"
    exact kf (.inl (by simpa using e))
  walk_at "e"
  refine ⟨rfl, b, rfl, gb, ?_⟩
  walk_at "e"
  refine t_ite (fun e2 => ?_) (fun e2 => ?_)
  · walk_at "d"
    exact kf (.inr (by simpa using e2))
  obtain ⟨i, rfl⟩ := numB_true (d := a) (by simpa using e)
  obtain ⟨j, rfl⟩ := numB_true (d := b) (by simpa using e2)
  have k : P (.bl (decide (0 ≤ i) && decide (i ≤ j) && decide (j ≤ 999999))) M := k
  walk_at "d"
  refine t_ite (fun e3 => ?_) (fun e3 => ?_)
  · rw [e3, Bool.true_and] at k
    walk_at "e"
    refine t_ite (fun e4 => ?_) (fun e4 => ?_)
    · rw [e4, Bool.true_and] at k
      walk_at "e"
      exact k
    · rw [e4] at k ⊢
      exact k
  · rw [e3] at k ⊢
    exact k
theorem four {ds : List D} (h : ds.length = 4) : ∃ a b c d, ds = [a, b, c, d] := by
  match ds, h with
  | [a, b, c, d], _ => exact ⟨_, _, _, _, rfl⟩
def sp_is_move : DSp := fun ds M P => ∃ many d, ds = [.int many, d] ∧ good 1000 d ∧ P (.bl (moveB many d)) M
theorem moveB_not {many : Int} {ds : List D} (h : ds.length ≠ 4) : moveB many (.tup ds) = false := by
  unfold moveB
  split
  · rename_i e
    cases e
    exact absurd rfl h
  · rfl
theorem ok_is_move (ds : List D) (M : Mh) (P : PQ) (h : sp_is_move ds M P) : b_is_move sp_is_number sp_is_span sp_is_label { nx := fun _ M' => P .non M', rt := P } (startD 2 ds) M := by
  obtain ⟨many, d, rfl, g, k⟩ := h
  unfold b_is_move
  cases d <;> first | exact False.elim g | skip
  all_goals (walk_at "d"; refine t_ite (fun e => ?_) (fun e => ?_) <;> first | (cases e; done) | skip)
  all_goals first | (refine t_if1 rfl ?_; walk_at "d"; exact k) | skip
  rename_i ds
  walk_at "e"
  refine t_ite (fun e => ?_) (fun e => ?_)
  · walk_at "d"
    rw [moveB_not (by
      intro z
      rw [z] at e
      cases e)] at k
    exact k
  have e : ds.length = 4 := by
    simp at e
    omega
  obtain ⟨a, b, c, d, rfl⟩ := four e
  obtain ⟨_, gs⟩ := good_tup.mp g
  have ga := gs a (by simp)
  have gb := gs b (by simp)
  have gc := gs c (by simp)
  have gd := gs d (by simp)
  have k : P (.bl (labB a && spanB b c && intB (fun i => decide (0 ≤ i) && decide (i < many)) d)) M := k
  walk_at "d"
  refine ⟨rfl, a, rfl, ga, ?_⟩
  walk_at "e"
  refine t_ite (fun e1 => ?_) (fun e1 => ?_)
  · refine t_if1 rfl ?_
    walk_at "d"
    have e1 : labB a = false := by simpa using e1
    rw [e1] at k
    exact k
  have e1 : labB a = true := by simpa using e1
  rw [e1, Bool.true_and] at k
  walk_at "e"
  refine ⟨rfl, b, c, rfl, gb, gc, ?_⟩
  walk_at "e"
  refine t_ite (fun e2 => ?_) (fun e2 => ?_)
  · walk_at "d"
    have e2 : spanB b c = false := by simpa using e2
    rw [e2] at k
    exact k
  have e2 : spanB b c = true := by simpa using e2
  rw [e2, Bool.true_and] at k
  walk_at "d"
  refine ⟨rfl, d, rfl, gd, ?_⟩
  walk_at "e"
  refine t_ite (fun e3 => ?_) (fun e3 => ?_)
  · walk_at "d"
    have e3 : numB d = false := by simpa using e3
    have : intB (fun i => decide (0 ≤ i) && decide (i < many)) d = false := by
      cases d <;> first | rfl | cases e3
    rw [this] at k
    exact k
  obtain ⟨i, rfl⟩ := numB_true (d := d) (by simpa using e3)
  have k : P (.bl (decide (0 ≤ i) && decide (i < many))) M := k
  walk_at "d"
  refine t_ite (fun e4 => ?_) (fun e4 => ?_)
  · rw [e4, Bool.true_and] at k
    walk_at "e"
    exact k
  · rw [e4] at k ⊢
    exact k
def sp_l_is_move : DSp := fun ds M P => ∃ many d, ds = [d, .int many] ∧ good 1000 d ∧ ∀ M', MExt M M' → P (.bl (moveB many d)) M'
theorem ok_l_is_move (ds : List D) (M : Mh) (P : PQ) (h : sp_l_is_move ds M P) : b__law_is_move sp_l_is_number sp_l_is_label { nx := fun _ M' => P .non M', rt := P } (startD 3 ds) M := by
  obtain ⟨many, d, rfl, g, k⟩ := h
  unfold b__law_is_move
  cases d <;> first | exact False.elim g | skip
  all_goals (walk_at "d"; refine t_ite (fun e => ?_) (fun e => ?_) <;> first | (cases e; done) | skip)
  all_goals first | (refine t_if1 rfl ?_; walk_at "d"; exact k _ .refl) | skip
  rename_i ds
  walk_at "e"
  refine t_ite (fun e => ?_) (fun e => ?_)
  · refine t_if1 rfl ?_
    walk_at "d"
    rw [moveB_not (by
      intro z
      rw [z] at e
      cases e)] at k
    exact k _ .refl
  have e : ds.length = 4 := by
    simp at e
    omega
  obtain ⟨a, b, c, d, rfl⟩ := four e
  obtain ⟨_, gs⟩ := good_tup.mp g
  have ga := gs a (by simp)
  have gb := gs b (by simp)
  have gc := gs c (by simp)
  have gd := gs d (by simp)
  have k : ∀ M', MExt M M' → P (.bl (labB a && spanB b c && intB (fun i => decide (0 ≤ i) && decide (i < many)) d)) M' := k
  walk_at "e"
  refine ⟨rfl, a, rfl, ga, fun M1 x1 => ?_⟩
  walk_at "e"
  refine t_ite (fun e1 => ?_) (fun e1 => ?_)
  · walk_at "d"
    have e1 : labB a = false := by simpa using e1
    rw [e1] at k
    exact k _ x1
  have e1 : labB a = true := by simpa using e1
  rw [e1] at k
  walk_at "d"
  intro p np
  refine lc_eachT (fun i acc M' => MKeep (· = p) M1 M' ∧ (acc = [] ↔ ([b, c, d].take i).all numB = true)) (by show 3 < sizeLine; rw [sizeLine_eq]; decide) mup_same ⟨.put rfl, by simp⟩ (fun R S i y acc M' hd ha hI hp hR hS => ?_) (fun acc M' ha hI hp => ?_)
  · obtain ⟨x2, hi⟩ := hI
    refine ⟨trivial, _, rfl, ?_⟩
    have hd : [b, c, d][i]? = some y := hd
    have ht : ([b, c, d].take (i + 1)).all numB = (([b, c, d].take i).all numB && numB y) := by
      rw [List.take_add_one, hd, List.all_append]; simp
    have gy : good 1000 y := gs y (by
      have := List.mem_of_getElem? hd
      exact List.mem_cons_of_mem _ this)
    walk_at "d"
    refine ⟨rfl, y, rfl, gy, ?_⟩
    walk_at "e"
    refine t_ite (fun e4 => ?_) (fun e4 => ?_)
    · walk_at "d"
      refine hR _ _ hp ⟨x2.trans (.put rfl), ?_⟩
      rw [ht]
      simp at e4
      simp [e4]
    · refine hS _ hp ⟨x2, ?_⟩
      rw [ht]
      simp at e4
      rw [e4, Bool.and_true]
      exact hi
  obtain ⟨x2, hi⟩ := hI
  refine ⟨trivial, ?_⟩
  have x3 : MExt M M' := fun a o n h => x2 a o (ne_free (x1 a o n h) np) (x1 a o n h)
  have hi : acc = [] ↔ (numB b && (numB c && numB d)) = true := by
    have : (List.take (cutD [a, b, c, d] (some 1) none).length [b, c, d]).all numB = (numB b && (numB c && numB d)) := by
      show ([b, c, d].take 3).all numB = _
      simp
    rw [← this]; exact hi
  walk_at "e"
  refine t_ite (fun e2 => ?_) (fun e2 => ?_)
  · walk_at "d"
    have hn : (numB b && (numB c && numB d)) = false := by
      rw [← Bool.not_eq_true, ← hi]
      intro z
      subst z
      cases e2
    have : (spanB b c && intB (fun i => decide (0 ≤ i) && decide (i < many)) d) = false := by
      cases b <;> first | rfl | skip
      cases c <;> first | rfl | skip
      cases d <;> first | (rw [show intB _ _ = false from rfl]; exact Bool.and_false _) | cases hn
    rw [Bool.and_assoc, this] at k
    exact k _ x3
  have e3 : acc = [] := by
    cases acc with
    | nil => rfl
    | cons y r =>
      have := of_decide_eq_false e2
      rw [List.length_cons] at this
      omega
  have hn := hi.mp e3
  simp only [Bool.and_eq_true] at hn
  obtain ⟨n1, n2, n3⟩ := hn
  obtain ⟨x, rfl⟩ := numB_true n1
  obtain ⟨y, rfl⟩ := numB_true n2
  obtain ⟨i, rfl⟩ := numB_true n3
  have k := k _ x3
  have k : P (.bl (true && (decide (0 ≤ x) && decide (x ≤ y) && decide (y ≤ 999999)) && (decide (0 ≤ i) && decide (i < many)))) M' := k
  rw [Bool.true_and] at k
  walk_at "d"
  refine t_ite (fun e4 => ?_) (fun e4 => by rw [e4] at k ⊢; exact k)
  rw [e4, Bool.true_and] at k
  walk_at "e"
  refine t_ite (fun e5 => ?_) (fun e5 => by rw [e5] at k ⊢; exact k)
  rw [e5, Bool.true_and] at k
  walk_at "e"
  refine t_ite (fun e6 => ?_) (fun e6 => by rw [e6] at k ⊢; exact k)
  rw [e6, Bool.true_and] at k
  walk_at "e"
  refine t_ite (fun e7 => ?_) (fun e7 => by rw [e7] at k ⊢; exact k)
  rw [e7, Bool.true_and] at k
  walk_at "e"
  exact k

/-! ### rows of moves -/
theorem rng_get {lo : Int} {n i : Nat} {d : D} (h : (rngI lo n)[i]? = some d) : d = .int (lo + (i : Int)) ∧ i < n := by
  unfold rngI at h
  rw [List.getElem?_map] at h
  obtain ⟨k, hk, rfl⟩ := Option.map_eq_some_iff.mp h
  have h1 : i < n := by
    have := (List.getElem?_eq_some_iff.mp hk).1
    simpa using this
  rw [List.getElem?_range h1] at hk
  cases hk
  exact ⟨rfl, h1⟩
theorem rng_len {lo : Int} {n : Nat} : (rngI lo n).length = n := by simp [rngI]
def sp_is_moves : DSp := fun ds M P => ∃ many d, ds = [.int many, d] ∧ good 1000 d ∧ P (.bl (movesB many d)) M
theorem ok_is_moves (ds : List D) (M : Mh) (P : PQ) (h : sp_is_moves ds M P) : b_is_moves sp_is_move { nx := fun _ M' => P .non M', rt := P } (startD 6 ds) M := by
  obtain ⟨many, d, rfl, g, k⟩ := h
  unfold b_is_moves
  cases d <;> first | exact False.elim g | skip
  all_goals (walk_at "d"; refine t_ite (fun e => ?_) (fun e => ?_) <;> first | (cases e; done) | skip)
  all_goals first | (refine t_if1 rfl ?_; walk_at "d"; exact k) | skip
  rename_i ds
  obtain ⟨hl, gs⟩ := good_tup.mp g
  have k : P (.bl (!ds.isEmpty && ds.all (moveB many) && rowB ds)) M := k
  walk_at "e"
  refine t_ite (fun e => ?_) (fun e => ?_)
  · walk_at "d"
    have : ds = [] := by
      cases ds with
      | nil => rfl
      | cons a r => simp at e; omega
    subst this
    exact k
  have e0 : (!ds.isEmpty) = true := by
    cases ds with
    | nil => simp at e
    | cons a r => rfl
  rw [e0, Bool.true_and] at k
  walk_at "e"
  walk_at "s"
  refine for_each (fun i ρ M' => M' = M ∧ slot ρ 0 = some (.int many) ∧ slot ρ 1 = some (.tup ds) ∧ ρ.length = 6 ∧ (ds.take i).all (moveB many) = true) ⟨rfl, rfl, rfl, rfl, rfl⟩ (fun N i d ρ M' hd hI hN => ?_) (fun ρ M' hI => ?_)
  · obtain ⟨rfl, s0, s1, s2, hi⟩ := hI
    refine ⟨trivial, ?_⟩
    have ht : (ds.take (i + 1)).all (moveB many) = moveB many d := by
      rw [List.take_add_one, hd, List.all_append, hi]; simp
    match ρ, s2 with
    | [_, _, _, _, _, _], _ =>
    cases s0
    cases s1
    walk_at "d"
    refine ⟨rfl, many, d, rfl, gs d (List.mem_of_getElem? hd), ?_⟩
    walk_at "e"
    refine t_ite (fun e1 => ?_) (fun e1 => ?_)
    · walk_at "d"
      have e1 : moveB many d = false := by simpa using e1
      have : ds.all (moveB many) = false := List.all_eq_false.mpr ⟨d, List.mem_of_getElem? hd, by simp [e1]⟩
      rw [this] at k
      exact k
    · walk_at "e"
      exact hN _ _ ⟨rfl, rfl, rfl, rfl, by rw [ht]; simpa using e1⟩
  obtain ⟨rfl, s0, s1, s2, hi⟩ := hI
  refine ⟨trivial, ?_⟩
  rw [List.take_length] at hi
  rw [hi, Bool.true_and] at k
  have hm : ∀ x ∈ ds, moveB many x = true := List.all_eq_true.mp hi
  match ρ, s2 with
  | [_, _, _, _, _, _], _ =>
  cases s0
  cases s1
  walk_at "e"
  walk_at "s"
  refine ⟨by omega, ?_⟩
  refine for_each (fun i ρ M2 => M2 = M' ∧ slot ρ 1 = some (.tup ds) ∧ ρ.length = 6 ∧ ∀ (j : Nat) (a b : D), j < i → ds[j]? = some a → ds[j + 1]? = some b → okPair a b = true) ⟨rfl, rfl, rfl, fun j _ _ h => absurd h (Nat.not_lt_zero _)⟩ (fun N i d ρ M2 hd hI hN => ?_) (fun ρ M2 hI => ?_)
  · obtain ⟨rfl, s1, s2, hi⟩ := hI
    refine ⟨trivial, ?_⟩
    obtain ⟨rfl, hlt⟩ := rng_get hd
    have hlt : i + 1 < ds.length := by omega
    match ρ, s2 with
    | [w0, _, w2, _, _, _], _ =>
    cases s1
    have ga : ds[i]? = some ds[i] := List.getElem?_eq_getElem (by omega)
    have gb : ds[i + 1]? = some ds[i + 1] := List.getElem?_eq_getElem hlt
    obtain ⟨x, l, h, gg, ea⟩ := moveB_true (hm _ (List.getElem_mem (by omega : i < ds.length)))
    obtain ⟨y, l2, h2, gg2, eb⟩ := moveB_true (hm _ (List.getElem_mem hlt))
    rw [ea] at ga
    rw [eb] at gb
    have a1 : atI ds ((1 + (i : Int)) - 1) = some (.tup [.str x, .int l, .int h, .int gg]) := atI_get? (by omega) (by rw [show ((1 + (i : Int)) - 1).toNat = i by omega]; exact ga)
    have b1 : atI ds (1 + (i : Int)) = some (.tup [.str y, .int l2, .int h2, .int gg2]) := atI_get? (by omega) (by rw [show (1 + (i : Int)).toNat = i + 1 by omega]; exact gb)
    have fin : okPair (.tup [.str x, .int l, .int h, .int gg]) (.tup [.str y, .int l2, .int h2, .int gg2]) = true → N [w0, some (.tup ds), w2, some (.int (1 + (i : Int))), some (.tup [.str x, .int l, .int h, .int gg]), some (.tup [.str y, .int l2, .int h2, .int gg2])] M2 := fun ok => hN _ _ ⟨rfl, rfl, rfl, fun j a b hj e1 e2 => by
      by_cases hji : j < i
      · exact hi j a b hji e1 e2
      · have : j = i := by omega
        subst this
        rw [ga] at e1
        rw [gb] at e2
        cases e1
        cases e2
        exact ok⟩
    have bad : okPair (.tup [.str x, .int l, .int h, .int gg]) (.tup [.str y, .int l2, .int h2, .int gg2]) = false → P (.bl false) M2 := fun no => by
      have : rowB ds = false := by
        rw [← Bool.not_eq_true, rowB_iff]
        intro z
        rw [z i _ _ ga gb] at no
        cases no
      rw [this] at k
      exact k
    have okE : okPair (.tup [.str x, .int l, .int h, .int gg]) (.tup [.str y, .int l2, .int h2, .int gg2]) = (!decide (y.cps.toList < x.cps.toList) && !((y == x) && decide (l2 ≤ h))) := rfl
    rw [okE] at fin bad
    walk_at "e"
    walk_at "s"
    walk_at "s"
    walk_at "s"
    refine t_ite (fun e1 => ?_) (fun e1 => ?_)
    · walk_at "d"
      refine bad ?_
      rw [e1]; rfl
    rw [e1, Bool.not_false, Bool.true_and] at fin bad
    walk_at "d"
    refine t_ite (fun e2 => ?_) (fun e2 => ?_)
    · rw [e2, Bool.true_and] at fin bad
      walk_at "d"
      refine t_ite (fun e3 => ?_) (fun e3 => ?_)
      · walk_at "d"
        refine bad ?_
        rw [e3]; rfl
      · walk_at "e"
        refine fin ?_
        rw [e3]; rfl
    · refine t_if0 rfl ?_
      walk_at "e"
      refine fin ?_
      rw [e2]; rfl
  obtain ⟨rfl, s1, s2, hi⟩ := hI
  refine ⟨trivial, ?_⟩
  walk_at "d"
  have : rowB ds = true := rowB_iff.mpr fun i a b e1 e2 => hi i a b (by
    rw [rng_len]
    have := (List.getElem?_eq_some_iff.mp e2).1
    omega) e1 e2
  rw [this] at k
  exact k

def sp_l_is_moves : DSp := fun ds M P => ∃ many d, ds = [d, .int many] ∧ good 1000 d ∧ ∀ M', MExt M M' → P (.bl (movesB many d)) M'
theorem ok_l_is_moves (ds : List D) (M : Mh) (P : PQ) (h : sp_l_is_moves ds M P) : b__law_is_moves sp_l_is_move { nx := fun _ M' => P .non M', rt := P } (startD 4 ds) M := by
  obtain ⟨many, d, rfl, g, k⟩ := h
  unfold b__law_is_moves
  cases d <;> first | exact False.elim g | skip
  all_goals (walk_at "d"; refine t_ite (fun e => ?_) (fun e => ?_) <;> first | (cases e; done) | skip)
  all_goals first | (refine t_if1 rfl ?_; walk_at "d"; exact k _ .refl) | skip
  rename_i ds
  obtain ⟨hl, gs⟩ := good_tup.mp g
  have k : ∀ M', MExt M M' → P (.bl (!ds.isEmpty && ds.all (moveB many) && rowB ds)) M' := k
  walk_at "e"
  refine t_ite (fun e => ?_) (fun e => ?_)
  · walk_at "d"
    have : ds = [] := by
      cases ds with
      | nil => rfl
      | cons a r => simp at e; omega
    subst this
    exact k _ .refl
  have e0 : (!ds.isEmpty) = true := by
    cases ds with
    | nil => simp at e
    | cons a r => rfl
  rw [e0] at k
  walk_at "d"
  intro p np
  refine lc_eachT (fun i acc M' => MKeep (· = p) M M' ∧ (acc = [] ↔ (ds.take i).all (moveB many) = true)) (by rw [sizeLine_eq]; omega) mup_same ⟨.put rfl, by simp⟩ (fun R S i y acc M' hd ha hI hp hR hS => ?_) (fun acc M' ha hI hp => ?_)
  · obtain ⟨x2, hi⟩ := hI
    refine ⟨trivial, _, rfl, ?_⟩
    have ht : (ds.take (i + 1)).all (moveB many) = ((ds.take i).all (moveB many) && moveB many y) := by
      rw [List.take_add_one, hd, List.all_append]; simp
    walk_at "d"
    refine ⟨rfl, many, y, rfl, gs y (List.mem_of_getElem? hd), fun M2 x3 => ?_⟩
    walk_at "e"
    have hp2 := x3 _ _ (fun z => z) hp
    have x4 : MKeep (· = p) M M2 := x2.trans (x3.mono fun _ z => z.elim)
    refine t_ite (fun e4 => ?_) (fun e4 => ?_)
    · walk_at "d"
      refine hR _ _ hp2 ⟨x4.trans (.put rfl), ?_⟩
      rw [ht]
      simp at e4
      simp [e4]
    · refine hS _ hp2 ⟨x4, ?_⟩
      rw [ht]
      simp at e4
      rw [e4, Bool.and_true]
      exact hi
  obtain ⟨x2, hi⟩ := hI
  refine ⟨trivial, ?_⟩
  rw [List.take_length] at hi
  have x3 : MExt M M' := fun a o n h => x2 a o (ne_free h np) h
  walk_at "e"
  refine t_ite (fun e2 => ?_) (fun e2 => ?_)
  · walk_at "d"
    have hn : ds.all (moveB many) = false := by
      rw [← Bool.not_eq_true, ← hi]
      intro z
      subst z
      cases e2
    rw [hn] at k
    exact k _ x3
  have e3 : acc = [] := by
    cases acc with
    | nil => rfl
    | cons y r =>
      have := of_decide_eq_false e2
      rw [List.length_cons] at this
      omega
  have hm := hi.mp e3
  have k := k _ x3
  rw [hm, Bool.true_and, Bool.true_and] at k
  have hm : ∀ x ∈ ds, moveB many x = true := List.all_eq_true.mp hm
  walk_at "e"
  walk_at "s"
  refine ⟨by omega, ?_⟩
  refine for_each (fun i ρ M2 => M2 = M' ∧ slot ρ 0 = some (.tup ds) ∧ ρ.length = 4 ∧ ∀ (j : Nat) (a b : D), j < i → ds[j]? = some a → ds[j + 1]? = some b → okPair a b = true) ⟨rfl, rfl, rfl, fun j _ _ h => absurd h (Nat.not_lt_zero _)⟩ (fun N i d ρ M2 hd hI hN => ?_) (fun ρ M2 hI => ?_)
  · obtain ⟨rfl, s1, s2, hi⟩ := hI
    refine ⟨trivial, ?_⟩
    obtain ⟨rfl, hlt⟩ := rng_get hd
    have hlt : i + 1 < ds.length := by omega
    match ρ, s2 with
    | [_, w1, w2, _], _ =>
    cases s1
    have ga : ds[i]? = some ds[i] := List.getElem?_eq_getElem (by omega)
    have gb : ds[i + 1]? = some ds[i + 1] := List.getElem?_eq_getElem hlt
    obtain ⟨x, l, h, gg, ea⟩ := moveB_true (hm _ (List.getElem_mem (by omega : i < ds.length)))
    obtain ⟨y, l2, h2, gg2, eb⟩ := moveB_true (hm _ (List.getElem_mem hlt))
    rw [ea] at ga
    rw [eb] at gb
    have a1 : atI ds ((1 + (i : Int)) - 1) = some (.tup [.str x, .int l, .int h, .int gg]) := atI_get? (by omega) (by rw [show ((1 + (i : Int)) - 1).toNat = i by omega]; exact ga)
    have b1 : atI ds (1 + (i : Int)) = some (.tup [.str y, .int l2, .int h2, .int gg2]) := atI_get? (by omega) (by rw [show (1 + (i : Int)).toNat = i + 1 by omega]; exact gb)
    have fin : (!decide (y.cps.toList < x.cps.toList) && !((y == x) && decide (l2 ≤ h))) = true → N [some (.tup ds), w1, w2, some (.int (1 + (i : Int)))] M2 := fun ok => hN _ _ ⟨rfl, rfl, rfl, fun j a b hj e1 e2 => by
      by_cases hji : j < i
      · exact hi j a b hji e1 e2
      · have : j = i := by omega
        subst this
        rw [ga] at e1
        rw [gb] at e2
        cases e1
        cases e2
        exact ok⟩
    have bad : (!decide (y.cps.toList < x.cps.toList) && !((y == x) && decide (l2 ≤ h))) = false → P (.bl false) M2 := fun no => by
      have : rowB ds = false := by
        rw [← Bool.not_eq_true, rowB_iff]
        intro z
        have z : (!decide (y.cps.toList < x.cps.toList) && !((y == x) && decide (l2 ≤ h))) = true := z i _ _ ga gb
        rw [z] at no
        cases no
      rw [this] at k
      exact k
    walk_at "e"
    walk_at "s"
    refine t_ite (fun e1 => ?_) (fun e1 => ?_)
    · walk_at "d"
      refine bad ?_
      rw [e1]; rfl
    rw [e1, Bool.not_false, Bool.true_and] at fin bad
    walk_at "d"
    refine t_ite (fun e2 => ?_) (fun e2 => ?_)
    · rw [e2, Bool.true_and] at fin bad
      walk_at "d"
      refine t_ite (fun e3 => ?_) (fun e3 => ?_)
      · walk_at "d"
        refine bad ?_
        rw [e3]; rfl
      · walk_at "e"
        refine fin ?_
        rw [e3]; rfl
    · refine t_if0 rfl ?_
      walk_at "e"
      refine fin ?_
      rw [e2]; rfl
  obtain ⟨rfl, s1, s2, hi⟩ := hI
  refine ⟨trivial, ?_⟩
  walk_at "d"
  have : rowB ds = true := rowB_iff.mpr fun i a b e1 e2 => hi i a b (by
    rw [rng_len]
    have := (List.getElem?_eq_some_iff.mp e2).1
    omega) e1 e2
  rw [this] at k
  exact k
/-! ### they agree -/
def sp_names_agree : DSp := fun ds M P => ∃ p xs, ds = [.ref p] ∧ M p = some (.lst xs) ∧ (∀ x ∈ xs, good 1000 x) ∧ ∀ M', MExt M M' → P (.bl true) M'
theorem ok_names_agree (ds : List D) (M : Mh) (P : PQ) (h : sp_names_agree ds M P) : b__law_names_agree sp_l_is_label sp_is_label sp_l_is_name sp_is_name { nx := fun _ M' => P .non M', rt := P } (startD 3 ds) M := by
  obtain ⟨p, xs, rfl, hp, gs, k⟩ := h
  unfold b__law_names_agree
  walk_at "d"
  refine for_each (fun i ρ M2 => MExt M M2 ∧ ρ.length = 3) ⟨.refl, rfl⟩ (fun N i d ρ M2 hd hI hN => ?_) (fun ρ M2 hI => ?_)
  · obtain ⟨x1, s⟩ := hI
    refine ⟨x1 _ _ (fun z => z) hp, ?_⟩
    have gd := gs d (List.mem_of_getElem? hd)
    match ρ, s with
    | [w0, w1, w2], _ =>
    walk_at "e"
    walk_at "s"
    refine ⟨rfl, d, rfl, gd, ?_⟩
    walk_at "e"
    walk_at "s"
    refine t_if0 rfl ?_
    walk_at "e"
    refine ⟨rfl, d, rfl, gd, fun M3 x2 => ?_⟩
    walk_at "e"
    refine t_if0 (by simp) ?_
    walk_at "e"
    walk_at "s"
    refine ⟨rfl, d, rfl, gd, ?_⟩
    walk_at "e"
    walk_at "s"
    refine t_if0 rfl ?_
    walk_at "e"
    refine ⟨rfl, d, rfl, gd, fun M4 x3 => ?_⟩
    walk_at "e"
    refine t_if0 (by simp) ?_
    walk_at "e"
    exact hN _ _ ⟨x1.trans (x2.trans x3), rfl⟩
  · obtain ⟨x1, s⟩ := hI
    refine ⟨x1 _ _ (fun z => z) hp, ?_⟩
    walk_at "d"
    exact k _ x1
def sp_moves_agree : DSp := fun ds M P => ∃ p xs, ds = [.ref p] ∧ M p = some (.lst xs) ∧ (∀ x ∈ xs, ∃ n t, x = .tup [.int n, t] ∧ good 1000 t) ∧ ∀ M', MExt M M' → P (.bl true) M'
theorem ok_moves_agree (ds : List D) (M : Mh) (P : PQ) (h : sp_moves_agree ds M P) : b__law_moves_agree sp_l_is_moves sp_is_moves { nx := fun _ M' => P .non M', rt := P } (startD 4 ds) M := by
  obtain ⟨p, xs, rfl, hp, gs, k⟩ := h
  unfold b__law_moves_agree
  walk_at "d"
  refine for_each (fun i ρ M2 => MExt M M2 ∧ ρ.length = 4) ⟨.refl, rfl⟩ (fun N i d ρ M2 hd hI hN => ?_) (fun ρ M2 hI => ?_)
  · obtain ⟨x1, s⟩ := hI
    refine ⟨x1 _ _ (fun z => z) hp, ?_⟩
    obtain ⟨n, d, rfl, gd⟩ := gs d (List.mem_of_getElem? hd)
    match ρ, s with
    | [w0, w1, w2, w3], _ =>
    walk_at "e"
    walk_at "s"
    refine ⟨rfl, n, d, rfl, gd, ?_⟩
    walk_at "e"
    walk_at "s"
    refine t_if0 rfl ?_
    walk_at "e"
    refine ⟨rfl, n, d, rfl, gd, fun M3 x2 => ?_⟩
    walk_at "e"
    refine t_if0 (by simp) ?_
    walk_at "e"
    exact hN _ _ ⟨x1.trans x2, rfl⟩
  · obtain ⟨x1, s⟩ := hI
    refine ⟨x1 _ _ (fun z => z) hp, ?_⟩
    walk_at "d"
    exact k _ x1
end K01
/-! K01q: what the law draws. -/
namespace K01
open PySem DL L2
-- what the heap holds at a place
local macro_rules | `(tactic| walk_at "h") => `(tactic| first
  | assumption
  | exact mup_same
  | (refine (mup_ne ?_).trans ?_ <;> first | assumption | (apply Ne.symm; assumption) | walk_at "h"))
-- small facts of numbers
local macro_rules | `(tactic| walk_at "n") => `(tactic| first
  | assumption
  | omega
  | decide
  | (exact CMul.r (by decide))
  | (exact CMul.l (by decide))
  | (refine ⟨?_, ?_⟩ <;> first | assumption | omega | decide))
-- lengths
local macro_rules | `(tactic| walk_at "l") => `(tactic| first
  | assumption
  | (rw [sizeLine_eq]; first | omega | decide | (simp; done) | (simp; omega) | decide +kernel))
-- one step
local macro_rules | `(tactic| walk_at "e1") => `(tactic| first
  | with_reducible refine t_nil ?_
  | ((with_reducible refine' t_var ?s ?_); (case s => first | assumption | exact rfl))
  | with_reducible refine t_c ?_
  | with_reducible refine t_bin ?_
  | with_reducible refine t_if ?_
  | with_reducible refine t_asg ?_
  | with_reducible refine t_gN ?_
  | with_reducible refine t_ret ?_
  | with_reducible refine t_exp ?_
  | with_reducible refine t_bcmp ?_
  | with_reducible refine t_band ?_
  | with_reducible refine t_bor ?_
  | with_reducible refine t_bnot ?_
  | with_reducible refine t_btru ?_
  | with_reducible refine t_byes ?_
  | with_reducible refine t_an ?_
  | with_reducible refine t_ac ?_
  | with_reducible refine t_fn ?_
  | with_reducible refine t_call ?_
  | with_reducible refine t_cmp ?_
  | with_reducible refine t_and ?_
  | with_reducible refine t_or ?_
  | with_reducible refine t_not ?_
  | with_reducible refine t_ife ?_
  | with_reducible refine t_tup ?_
  | with_reducible refine t_lst ?_
  | with_reducible refine t_isi ?_
  | with_reducible refine t_sl ?_
  | with_reducible refine t_o0 ?_
  | with_reducible refine t_o1 ?_
  | with_reducible refine t_un ?_
  | with_reducible refine t_mt ?_
  | with_reducible refine t_gS ?_
  | with_reducible refine t_gsC ?_
  | with_reducible refine t_gsN ?_
  | ((with_reducible refine t_gT ?s ?_); (case s => first | assumption | exact rfl))
  | with_reducible refine t_retN ?_
  | with_reducible refine t_brk ?_
  | with_reducible refine t_cnt ?_
  | ((with_reducible refine' t_aug ?s ?_); (case s => first | assumption | exact rfl))
  | with_reducible refine t_for ?_
  | with_reducible refine t_seqi ?_
  | with_reducible refine t_rg1 ?_
  | with_reducible refine t_rg2 ?_
  | with_reducible refine t_lc ?_
  | with_reducible refine v_tru_bl ?_
  | with_reducible refine v_tru_int ?_
  | with_reducible refine v_tru_non ?_
  | with_reducible refine v_tru_tup ?_
  | with_reducible refine v_add_int ?_
  | ((with_reducible refine v_add_str ?l ?_); (case l => walk_at "l"))
  | ((with_reducible refine v_add_tup ?l ?_); (case l => walk_at "l"))
  | with_reducible refine v_iadd_int ?_
  | with_reducible refine v_sub ?_
  | ((with_reducible refine v_mul ?c ?_); (case c => walk_at "n"))
  | ((with_reducible refine v_div ?c ?_); (case c => walk_at "n"))
  | ((with_reducible refine v_mod ?c ?_); (case c => walk_at "n"))
  | ((with_reducible refine v_pow ?c ?_); (case c => exact ⟨by decide, by decide, by decide⟩))
  | with_reducible refine v_neg ?_
  | with_reducible exact trivial
  | with_reducible refine v_eq_int ?_
  | with_reducible refine v_eq_str ?_
  | with_reducible refine v_eq_bl ?_
  | with_reducible refine v_ne_int ?_
  | with_reducible refine v_ne_str ?_
  | with_reducible refine v_ne_bl ?_
  | with_reducible refine v_lt ?_
  | with_reducible refine v_lt_str ?_
  | with_reducible refine t_ks ?_
  | with_reducible refine t_rv ?_
  | with_reducible refine v_seq_ktp ?_
  | ((with_reducible refine' v_extend ?e ?f ?l ?_); (case e => walk_at "h"); (case f => walk_at "h"); (case l => walk_at "l"))
  | with_reducible refine v_le ?_
  | with_reducible refine v_gt ?_
  | with_reducible refine v_ge ?_
  | with_reducible refine v_isi_non ?_
  | with_reducible refine v_isi_bl ?_
  | with_reducible refine v_isi_int ?_
  | with_reducible refine v_isi_str ?_
  | with_reducible refine v_isi_tup ?_
  | with_reducible refine v_in_str ?_
  | with_reducible refine v_nin_str ?_
  | with_reducible refine v_len_tup ?_
  | with_reducible refine v_len_rol ?_
  | ((with_reducible refine v_len_str ?l ?_); (case l => walk_at "l"))
  | ((with_reducible refine' v_len_ref ?e ?_); (case e => walk_at "h"))
  | with_reducible refine v_int_int ?_
  | with_reducible refine v_max ?_
  | with_reducible refine v_min ?_
  | with_reducible refine v_tuple_tup ?_
  | ((with_reducible refine' v_tuple_ref ?e ?_); (case e => walk_at "h"))
  | ((with_reducible refine' v_ix_ref ?e ?f ?_); (case e => walk_at "h"); (case f => first | assumption | exact rfl))
  | ((with_reducible refine' v_ix_tup ?f ?_); (case f => first | assumption | exact rfl))
  | ((with_reducible refine' v_set ?e ?f ?_); (case e => walk_at "h"); (case f => first | assumption | exact rfl))
  | ((with_reducible refine v_sl_str ?l ?_); (case l => walk_at "l"))
  | with_reducible refine v_sl_tup ?_
  | with_reducible refine v_seq_tup ?_
  | with_reducible refine v_seq_str ?_
  | with_reducible refine v_seq_rol ?_
  | ((with_reducible refine' v_seq_ref ?e ?_); (case e => walk_at "h"))
  | ((with_reducible refine' ⟨v_ty_ref ?e, ?_⟩); (case e => walk_at "h"))
  | ((with_reducible refine' v_append ?e ?l ?_); (case e => walk_at "h"); (case l => walk_at "l")))
local macro_rules | `(tactic| walk_at "d1") => `(tactic| first | with_reducible refine t_seq ?_ | walk_at "e1")
local macro_rules | `(tactic| walk_at "d") => `(tactic| repeat walk_at "d1")
-- one statement
local macro_rules | `(tactic| walk_at "e") => `(tactic| ((repeat walk_at "e1"); try (with_reducible show sSeq _ _ _ _ _)))
local macro_rules | `(tactic| walk_at "s") => `(tactic| ((with_reducible refine t_seq ?_); walk_at "e"))
-- a drawn thing's small facts
local macro_rules | `(tactic| walk_at "gi") => `(tactic| first
  | exact gi_c trivial
  | exact gi_c ⟨_, rfl, by decide, by decide⟩
  | exact gi_c (show _ ≤ _ by decide)
  | exact gi_c (show _ ≤ _ by decide +kernel)
  | exact gi_v rfl trivial)
local macro_rules | `(tactic| walk_at "ga") => `(tactic| ((repeat (first | exact ga_nil | refine ga_cons2 ?_ ?_)); all_goals (try walk_at "gi")))
theorem good_str {n : Nat} {z : Str} (h : z.length ≤ n) : good n (.str z) := h
mutual
theorem good_mono {m n : Nat} (h : m ≤ n) : ∀ {d : D}, good m d → good n d
  | .non, _ => trivial
  | .bl _, _ => trivial
  | .int _, _ => trivial
  | .str z, q => Nat.le_trans (show z.length ≤ m from q) h
  | .tup ds, q => ⟨Nat.le_trans q.1 h, goods_mono h q.2⟩
  | .ktp _, q => q
  | .rol _, q => q
  | .ref _, q => q
theorem goods_mono {m n : Nat} (h : m ≤ n) : ∀ {ds : List D}, good.goods m ds → good.goods n ds
  | [], _ => trivial
  | _ :: _, q => ⟨good_mono h q.1, goods_mono h q.2⟩
end
theorem size_1000 {n : Nat} (h : n ≤ 100000) : n ≤ sizeLine := by rw [sizeLine_eq]; omega
def sp_signs : DSp := fun ds M P => ds = [] ∧ ∀ z : Str, 0 < z.length ∧ z.length ≤ 100 → P (.str z) M
theorem ok_signs (ds : List D) (M : Mh) (P : PQ) (h : sp_signs ds M P) : b__law_signs { nx := fun _ M' => P .non M', rt := P } (startD 1 ds) M := by
  obtain ⟨rfl, k⟩ := h
  unfold b__law_signs
  walk_at "d"
  exact k _ (by decide +kernel)
/-- what is drawn from the jar: something of T -/
abbrev draws (j : Addr) (T : D → Prop) (M : Mh) (P : PQ) : Prop := ∀ d M', MKeep (· = j) M M' → JarOk M' j → T d → P d M'
def sp_odd : DSp := fun ds M P => ∃ j, ds = [.ref j] ∧ JarOk M j ∧ draws j (good 4) M P
theorem ok_odd (ds : List D) (M : Mh) (P : PQ) (h : sp_odd ds M P) : b__law_odd sp_pick { nx := fun _ M' => P .non M', rt := P } (startD 2 ds) M := by
  obtain ⟨j, rfl, hj, k⟩ := h
  unfold b__law_odd
  refine t_seq (t_asg (t_lst ?_))
  have nt : GI j (startD 2 [.ref j]) (fun d => d = .int 0) (eC (.int 0)) := gi_c rfl
  have tup : ∀ (as : DA) (n : Nat), n ≤ 4 → GIs j (startD 2 [.ref j]) (GA n (good 4)) as → GI j (startD 2 [.ref j]) (good 4) (eTup as) := fun as n hn ha => gi_tup ha fun xs ⟨l, h⟩ => ⟨size_1000 (by omega), good_tup.mpr ⟨by omega, h⟩⟩
  refine (show GIs j (startD 2 [.ref j]) (GA 16 (good 4)) _ from ?_) _ _ hj fun xs M1 m1 j1 t1 => ⟨size_1000 (by rw [t1.1]; decide), fun p np => ?_⟩
  · walk_at "ga"
    · refine tup _ 4 (by decide) ?_
      walk_at "ga"
    · refine tup _ 2 (by decide) ?_
      walk_at "ga"
    · refine tup _ 1 (by decide) ?_
      walk_at "ga"
    · refine tup _ 1 (by decide) ?_
      walk_at "ga"
    · exact tup _ 0 (by decide) ga_nil
  have jp := j1.ne np
  walk_at "e"
  walk_at "d"
  rw [t1.1]
  refine c_pick (j1.keep (.fresh (S := fun _ => False) np) (fun z => z)) (by decide) fun i o i0 i1 j2 => ?_
  obtain ⟨d, h1, h2, _⟩ := atI_mem (ds := xs) i0 (by rw [t1.1]; omega)
  refine v_ix_ref (by rw [mup_ne jp.symm]; exact mup_same) h1 ?_
  exact k d _ (m1.trans ((MKeep.fresh np).trans (.put rfl))) j2 (t1.2 d h2)
def sp_number : DSp := fun ds M P => ∃ j many, ds = [.ref j, .int many] ∧ JarOk M j ∧ 0 < many ∧ many < 1073741824 ∧ draws j (IsI 0 (many - 1)) M P
theorem ok_number (ds : List D) (M : Mh) (P : PQ) (h : sp_number ds M P) : b__law_number sp_pick { nx := fun _ M' => P .non M', rt := P } (startD 4 ds) M := by
  obtain ⟨j, many, rfl, hj, h0, h1, k⟩ := h
  unfold b__law_number
  walk_at "s"
  refine c_pick hj (by decide) fun way o1 w0 w1 j1 => ?_
  walk_at "e"
  walk_at "s"
  refine t_ite (fun e => ?_) (fun e => ?_)
  · walk_at "d"
    exact k _ _ (.put rfl) j1 ⟨_, rfl, by omega, by omega⟩
  walk_at "e"
  walk_at "s"
  refine t_ite (fun e2 => ?_) (fun e2 => ?_)
  · walk_at "d"
    refine c_pick j1 ⟨h0, h1⟩ fun x o2 x0 x1 j2 => ?_
    exact k _ _ (keepj.trans keepj) j2 ⟨_, rfl, by omega, by omega⟩
  have e : way ≠ 0 := by simpa using e
  have e2 : way ≠ 1 := by simpa using e2
  walk_at "e"
  refine t_seq (t_asg ?_)
  refine (gi_menu (n := 10) (T := IsI 1 12) (h := 9) ?_ ?_ (by decide) (size_1000 (by decide))).run j1 fun d M2 m2 j2 t2 => ?_
  · walk_at "ga"
  · exact (gi_sub (l1 := 2) (h1 := 11) (l2 := 2) (h2 := 2) (gi_v rfl ⟨_, rfl, by omega, by omega⟩) (gi_c ⟨_, rfl, by decide, by decide⟩)).mono fun d ⟨i, e, q1, q2⟩ => ⟨i, e, by omega, by omega⟩
  obtain ⟨s, rfl, s0, s1⟩ := t2
  walk_at "d"
  refine c_pick j2 (by split <;> omega) fun x o3 x0 x1 j3 => ?_
  exact k _ _ (keepj.trans (m2.trans keepj)) j3 ⟨_, rfl, by omega, by split at x1 <;> omega⟩
def sp_word : DSp := fun ds M P => ∃ j, ds = [.ref j] ∧ JarOk M j ∧ ∀ (z : Str) M', z.length ≤ 60 → MKeep (· = j) M M' → JarOk M' j → P (.str z) M'
theorem ok_word (ds : List D) (M : Mh) (P : PQ) (h : sp_word ds M P) : b__law_word sp_pick sp_signs { nx := fun _ M' => P .non M', rt := P } (startD 4 ds) M := by
  obtain ⟨j, rfl, hj, k⟩ := h
  unfold b__law_word
  walk_at "s"
  refine t_cut (fun ρ M' => MKeep (· = j) M M' ∧ JarOk M' j ∧ ∃ (pool : Str) (w2 w3 : Option D), ρ = [some (.ref j), some (.str pool), w2, w3] ∧ 0 < pool.length ∧ pool.length ≤ 1000) (fun N hN => ?_) ?_
  · walk_at "d"
    refine c_pick hj (by decide) fun i o1 i0 i1 j1 => ?_
    walk_at "e"
    refine t_ite (fun e => ?_) (fun e => ?_)
    · walk_at "d"
      refine ⟨rfl, rfl, fun z hz => ?_⟩
      walk_at "d"
      exact hN _ _ ⟨.put rfl, j1, z, _, _, rfl, by omega, by omega⟩
    · walk_at "d"
      exact hN _ _ ⟨.put rfl, j1, _, _, _, rfl, by decide +kernel, by decide +kernel⟩
  rintro ρ M1 ⟨m1, j1, pool, w2, w3, rfl, p0, p1⟩
  refine t_seq (t_asg ?_)
  refine (gi_menu (n := 12) (T := IsI 0 60) (h := 11) ?_ ?_ (by decide) (size_1000 (by decide))).run j1 fun d M2 m2 j2 t2 => ?_
  · walk_at "ga"
  · exact gi_pick (m := 12) (h := 12) rfl (gi_c ⟨_, rfl, by decide, by decide⟩) (by decide) (by decide)
  obtain ⟨s, rfl, s0, s1⟩ := t2
  walk_at "d"
  refine ⟨rfl, ?_⟩
  walk_at "e"
  refine ⟨by omega, fun p np => ?_⟩
  have jp := j2.ne np
  refine lc_each (fun i acc M' => MKeep (fun a => a = j ∨ a = p) M2 M' ∧ JarOk M' j ∧ ∃ ys : List Str, acc = ys.map D.str ∧ ∀ y ∈ ys, y.length = 1) (by rw [rng_len, sizeLine_eq]; omega) mup_same ⟨.put (.inr rfl), j2.keep (.fresh (S := fun _ => False) np) (fun z => z), [], rfl, by simp⟩
    (fun R i d acc M' hd ha hI hp hR => ?_) (fun acc M' ha hI hp => ?_)
  · obtain ⟨m3, j3, ys, rfl, hy⟩ := hI
    refine ⟨trivial, _, rfl, ?_⟩
    walk_at "d"
    refine c_pick j3 (by omega) fun c o4 c0 c1 j4 => ?_
    have hpl : pool.cps.toList.length = pool.length := by simp [Str.length]
    obtain ⟨x, h1, h2, _⟩ := atI_mem (ds := pool.cps.toList) c0 (by rw [hpl]; exact c1)
    refine v_ix_str (size_1000 (by omega)) h1 ?_
    refine hR _ _ (by rw [mup_ne jp.symm]; exact hp) ⟨m3.trans ((MKeep.put (.inl rfl)).trans (.put (.inr rfl))), ?_, ys ++ [⟨#[x]⟩], by simp, fun y q => ?_⟩
    · obtain ⟨a, b, c, e, r⟩ := j4
      exact ⟨a, b, c, by rw [mup_ne jp]; exact e, r⟩
    · rcases List.mem_append.mp q with q | q
      · exact hy y q
      · rw [List.mem_singleton.mp q]; rfl
  · obtain ⟨m3, j3, ys, rfl, hy⟩ := hI
    refine ⟨trivial, ?_⟩
    have hl : ys.length ≤ 60 := by
      rw [List.length_map, rng_len] at ha
      omega
    have h1 : ∀ ys : List Str, (∀ y ∈ ys, y.length = 1) → (ys.map (·.length)).sum = ys.length := fun ys => by
      induction ys with
      | nil => simp
      | cons y r ih =>
        intro h
        rw [List.map_cons, List.sum_cons, List.length_cons, ih fun x hx => h x (List.mem_cons_of_mem _ hx), h y List.mem_cons_self]
        omega
    have h2 : ∀ ys : List Str, (∀ y ∈ ys, y.length = 1) → (ys.flatMap lit).length = ys.length := fun ys => by
      induction ys with
      | nil => simp
      | cons y r ih =>
        intro h
        have := h y List.mem_cons_self
        rw [← lit_len] at this
        rw [List.flatMap_cons, List.length_append, List.length_cons, ih fun x hx => h x (List.mem_cons_of_mem _ hx), this]
        omega
    refine v_join (items_ref hp) (strsOf_map ys) (by rw [h1 ys hy]; show ys.length + ys.length * 0 ≤ _; omega) ?_
    refine k _ _ ?_ ?_ j3
    · rw [← lit_len, join_empty, h2 ys hy]; exact hl
    · intro a o na h
      have hap : a ≠ p := ne_free (m2 a o na (m1 a o na h)) np
      exact m3 a o (fun z => by rcases z with z | z; exact na z; exact hap z) (m2 a o na (m1 a o na h))
end K01
/-! K01r: words, labels, moves that the law draws. -/
namespace K01
open PySem DL L2
-- what the heap holds at a place
local macro_rules | `(tactic| walk_at "h") => `(tactic| first
  | assumption
  | exact mup_same
  | (refine (mup_ne ?_).trans ?_ <;> first | assumption | (apply Ne.symm; assumption) | walk_at "h"))
-- small facts of numbers
local macro_rules | `(tactic| walk_at "n") => `(tactic| first
  | assumption
  | omega
  | decide
  | (exact CMul.r (by decide))
  | (exact CMul.l (by decide))
  | (refine ⟨?_, ?_⟩ <;> first | assumption | omega | decide))
-- lengths
local macro_rules | `(tactic| walk_at "l") => `(tactic| first
  | assumption
  | (rw [sizeLine_eq]; first | omega | decide | (simp; done) | (simp; omega) | decide +kernel))
-- one step
local macro_rules | `(tactic| walk_at "e1") => `(tactic| first
  | with_reducible refine t_nil ?_
  | ((with_reducible refine' t_var ?s ?_); (case s => first | assumption | exact rfl))
  | with_reducible refine t_c ?_
  | with_reducible refine t_bin ?_
  | with_reducible refine t_if ?_
  | with_reducible refine t_asg ?_
  | with_reducible refine t_gN ?_
  | with_reducible refine t_ret ?_
  | with_reducible refine t_exp ?_
  | with_reducible refine t_bcmp ?_
  | with_reducible refine t_band ?_
  | with_reducible refine t_bor ?_
  | with_reducible refine t_bnot ?_
  | with_reducible refine t_btru ?_
  | with_reducible refine t_byes ?_
  | with_reducible refine t_an ?_
  | with_reducible refine t_ac ?_
  | with_reducible refine t_fn ?_
  | with_reducible refine t_call ?_
  | with_reducible refine t_cmp ?_
  | with_reducible refine t_and ?_
  | with_reducible refine t_or ?_
  | with_reducible refine t_not ?_
  | with_reducible refine t_ife ?_
  | with_reducible refine t_tup ?_
  | with_reducible refine t_lst ?_
  | with_reducible refine t_isi ?_
  | with_reducible refine t_sl ?_
  | with_reducible refine t_o0 ?_
  | with_reducible refine t_o1 ?_
  | with_reducible refine t_un ?_
  | with_reducible refine t_mt ?_
  | with_reducible refine t_gS ?_
  | with_reducible refine t_gsC ?_
  | with_reducible refine t_gsN ?_
  | ((with_reducible refine t_gT ?s ?_); (case s => first | assumption | exact rfl))
  | with_reducible refine t_retN ?_
  | with_reducible refine t_brk ?_
  | with_reducible refine t_cnt ?_
  | ((with_reducible refine' t_aug ?s ?_); (case s => first | assumption | exact rfl))
  | with_reducible refine t_for ?_
  | with_reducible refine t_seqi ?_
  | with_reducible refine t_rg1 ?_
  | with_reducible refine t_rg2 ?_
  | with_reducible refine t_lc ?_
  | with_reducible refine v_tru_bl ?_
  | with_reducible refine v_tru_int ?_
  | with_reducible refine v_tru_non ?_
  | with_reducible refine v_tru_tup ?_
  | with_reducible refine v_add_int ?_
  | ((with_reducible refine v_add_str ?l ?_); (case l => walk_at "l"))
  | ((with_reducible refine v_add_tup ?l ?_); (case l => walk_at "l"))
  | with_reducible refine v_iadd_int ?_
  | with_reducible refine v_sub ?_
  | ((with_reducible refine v_mul ?c ?_); (case c => walk_at "n"))
  | ((with_reducible refine v_div ?c ?_); (case c => walk_at "n"))
  | ((with_reducible refine v_mod ?c ?_); (case c => walk_at "n"))
  | ((with_reducible refine v_pow ?c ?_); (case c => exact ⟨by decide, by decide, by decide⟩))
  | with_reducible refine v_neg ?_
  | with_reducible exact trivial
  | with_reducible refine v_eq_int ?_
  | with_reducible refine v_eq_str ?_
  | with_reducible refine v_eq_bl ?_
  | with_reducible refine v_ne_int ?_
  | with_reducible refine v_ne_str ?_
  | with_reducible refine v_ne_bl ?_
  | with_reducible refine v_lt ?_
  | with_reducible refine v_lt_str ?_
  | with_reducible refine t_ks ?_
  | with_reducible refine t_rv ?_
  | with_reducible refine v_seq_ktp ?_
  | ((with_reducible refine' v_extend ?e ?f ?l ?_); (case e => walk_at "h"); (case f => walk_at "h"); (case l => walk_at "l"))
  | with_reducible refine v_le ?_
  | with_reducible refine v_gt ?_
  | with_reducible refine v_ge ?_
  | with_reducible refine v_isi_non ?_
  | with_reducible refine v_isi_bl ?_
  | with_reducible refine v_isi_int ?_
  | with_reducible refine v_isi_str ?_
  | with_reducible refine v_isi_tup ?_
  | with_reducible refine v_in_str ?_
  | with_reducible refine v_nin_str ?_
  | with_reducible refine v_len_tup ?_
  | with_reducible refine v_len_rol ?_
  | ((with_reducible refine v_len_str ?l ?_); (case l => walk_at "l"))
  | ((with_reducible refine' v_len_ref ?e ?_); (case e => walk_at "h"))
  | with_reducible refine v_int_int ?_
  | with_reducible refine v_max ?_
  | with_reducible refine v_min ?_
  | with_reducible refine v_tuple_tup ?_
  | ((with_reducible refine' v_tuple_ref ?e ?_); (case e => walk_at "h"))
  | ((with_reducible refine' v_ix_ref ?e ?f ?_); (case e => walk_at "h"); (case f => first | assumption | exact rfl))
  | ((with_reducible refine' v_ix_tup ?f ?_); (case f => first | assumption | exact rfl))
  | ((with_reducible refine' v_set ?e ?f ?_); (case e => walk_at "h"); (case f => first | assumption | exact rfl))
  | ((with_reducible refine v_sl_str ?l ?_); (case l => walk_at "l"))
  | with_reducible refine v_sl_tup ?_
  | with_reducible refine v_seq_tup ?_
  | with_reducible refine v_seq_str ?_
  | with_reducible refine v_seq_rol ?_
  | ((with_reducible refine' v_seq_ref ?e ?_); (case e => walk_at "h"))
  | ((with_reducible refine' ⟨v_ty_ref ?e, ?_⟩); (case e => walk_at "h"))
  | ((with_reducible refine' v_append ?e ?l ?_); (case e => walk_at "h"); (case l => walk_at "l")))
local macro_rules | `(tactic| walk_at "d1") => `(tactic| first | with_reducible refine t_seq ?_ | walk_at "e1")
local macro_rules | `(tactic| walk_at "d") => `(tactic| repeat walk_at "d1")
-- one statement
local macro_rules | `(tactic| walk_at "e") => `(tactic| ((repeat walk_at "e1"); try (with_reducible show sSeq _ _ _ _ _)))
local macro_rules | `(tactic| walk_at "s") => `(tactic| ((with_reducible refine t_seq ?_); walk_at "e"))
-- a drawn thing's small facts
local macro_rules | `(tactic| walk_at "gi") => `(tactic| first
  | exact gi_c trivial
  | exact gi_c ⟨_, rfl, by decide, by decide⟩
  | exact gi_c (show _ ≤ _ by decide)
  | exact gi_c (show _ ≤ _ by decide +kernel)
  | exact gi_v rfl trivial)
local macro_rules | `(tactic| walk_at "ga") => `(tactic| ((repeat (first | exact ga_nil | refine ga_cons2 ?_ ?_)); all_goals (try walk_at "gi")))
theorem cutS_len (z : Str) (lo hi : Option Int) : (cutS z lo hi).length ≤ z.length := by
  rw [← st_lit z, st_cut, st_len, st_len, List.length_take, List.length_drop]
  omega
theorem app_len (y z : Str) : (y ++ z).length = y.length + z.length := by
  rw [← st_lit y, ← st_lit z, st_app, st_len, st_len, st_len, List.length_append]
def sp_changed_word : DSp := fun ds M P => ∃ j w, ds = [.ref j, .str w] ∧ w.length ≤ 500 ∧ JarOk M j ∧ ∀ (z : Str) M', z.length ≤ 2 * w.length + 1 → MKeep (· = j) M M' → JarOk M' j → P (.str z) M'
theorem ok_changed_word (ds : List D) (M : Mh) (P : PQ) (h : sp_changed_word ds M P) : b__law_changed_word sp_pick sp_signs { nx := fun _ M' => P .non M', rt := P } (startD 5 ds) M := by
  obtain ⟨j, w, rfl, hw, hj, k⟩ := h
  unfold b__law_changed_word
  walk_at "s"
  refine ⟨rfl, rfl, fun sg hsg => ?_⟩
  walk_at "e"
  refine t_seq (t_asg (t_fn (t_ac (t_var rfl (t_ac (t_bin (t_call (t_ac (t_var rfl (t_an (v_len_str (size_1000 (by omega)) ?_)))))))))))
  walk_at "d"
  refine c_pick hj (by omega) fun at' o1 a0 a1 j1 => ?_
  walk_at "e"
  refine t_seq (t_asg (t_bin (t_var rfl (t_fn (t_ac (t_var rfl (t_ac (t_call (t_ac (t_var rfl (t_an (v_len_str (size_1000 (by omega)) ?_))))))))))))
  walk_at "d"
  refine c_pick j1 (by omega) fun c o2 c0 c1 j2 => ?_
  have hpl : sg.cps.toList.length = sg.length := by simp [Str.length]
  obtain ⟨x, h1, h2, _⟩ := atI_mem (ds := sg.cps.toList) c0 (by rw [hpl]; exact c1)
  refine v_ix_str (size_1000 (by omega)) h1 ?_
  walk_at "e"
  refine t_seq (t_ret (t_bin (t_bin (t_sl (t_var rfl (t_o0 (t_o1 (t_var rfl (v_sl_str (size_1000 (by omega)) ?_)))))))))
  walk_at "d"
  refine c_pick j2 (by decide) fun m o3 m0 m1 j3 => ?_
  have l1 := cutS_len w none (some at')
  refine ⟨⟨m0, by omega⟩, ?_⟩
  have l2 : (if m = 1 then (⟨#[x]⟩ : Str) else Str.empty).length ≤ 1 := by
    split
    · exact Nat.le_refl 1
    · exact Nat.zero_le 1
  refine v_add_str (i := cutS w none (some at')) (j := if m = 1 then ⟨#[x]⟩ else Str.empty) (size_1000 (by omega)) ?_
  refine t_sl (t_var rfl (t_o1 (t_bin (t_var rfl ?_))))
  walk_at "d"
  refine c_pick j3 (by decide) fun m' o4 m0' m1' j4 => ?_
  walk_at "d"
  have l3 := cutS_len w (some (at' + m')) none
  have l4 := app_len (cutS w none (some at')) (if m = 1 then (⟨#[x]⟩ : Str) else Str.empty)
  refine v_add_str (i := cutS w none (some at') ++ if m = 1 then ⟨#[x]⟩ else Str.empty) (j := cutS w (some (at' + m')) none) (size_1000 (by omega)) ?_
  refine k _ _ ?_ (keepj.trans (keepj.trans (keepj.trans keepj))) j4
  rw [app_len]
  omega
def sp_kept_label : DSp := fun ds M P => ∃ w, ds = [.str w] ∧ w.length ≤ 500 ∧ ∀ (z : Str) M', z.length ≤ w.length + 1 → MExt M M' → P (.str z) M'
theorem ok_kept_label (ds : List D) (M : Mh) (P : PQ) (h : sp_kept_label ds M P) : b__law_kept_label sp_l_is_label { nx := fun _ M' => P .non M', rt := P } (startD 1 ds) M := by
  obtain ⟨w, rfl, hw, k⟩ := h
  unfold b__law_kept_label
  walk_at "s"
  refine ⟨rfl, .str w, rfl, show w.length ≤ 1000 by omega, fun M1 x1 => ?_⟩
  walk_at "e"
  refine t_ite (fun e => ?_) (fun e => ?_)
  · walk_at "d"
    exact k _ _ (by omega) x1
  · walk_at "e"
    have l0 : (("0" : String) : Str).length = 1 := by decide +kernel
    refine t_seq (t_ret (t_bin (t_var rfl (t_c (v_add_str (size_1000 (by omega)) ?_)))))
    exact k _ _ (by rw [app_len]; omega) x1
def sp_free_label : DSp := fun ds M P => ∃ j, ds = [.ref j] ∧ JarOk M j ∧ ∀ (z : Str) M', z.length ≤ 10 → MKeep (· = j) M M' → JarOk M' j → P (.str z) M'
theorem ok_free_label (ds : List D) (M : Mh) (P : PQ) (h : sp_free_label ds M P) : b__law_free_label sp_kept_label sp_pick { nx := fun _ M' => P .non M', rt := P } (startD 4 ds) M := by
  obtain ⟨j, rfl, hj, k⟩ := h
  have sm : (("abcdefghijklmnopqrstuvwxyz0123456789" : String) : Str).cps.toList.length = 36 := by decide +kernel
  have sm2 : (("abcdefghijklmnopqrstuvwxyz0123456789" : String) : Str).length = 36 := by decide +kernel
  unfold b__law_free_label
  walk_at "s"
  walk_at "s"
  refine c_pick hj (by decide) fun c o1 c0 c1 j1 => ?_
  obtain ⟨x, h1, h2, _⟩ := atI_mem (ds := (("abcdefghijklmnopqrstuvwxyz0123456789" : String) : Str).cps.toList) c0 (by rw [sm]; omega)
  refine v_ix_str (size_1000 (by omega)) h1 ?_
  walk_at "e"
  refine t_seq (t_for (t_rg1 (t_ac ?_)))
  refine (gi_menu (n := 7) (T := IsI 0 7) (h := 6) ?_ ?_ (by decide) (size_1000 (by decide))).run j1 fun d M2 m2 j2 t2 => ?_
  · walk_at "ga"
    exact gi_pick (m := 8) (h := 8) rfl (gi_c ⟨_, rfl, by decide, by decide⟩) (by decide) (by decide)
  · exact gi_pick (m := 7) (h := 7) rfl (gi_c ⟨_, rfl, by decide, by decide⟩) (by decide) (by decide)
  obtain ⟨s, rfl, s0, s1⟩ := t2
  refine t_an ⟨by omega, ?_⟩
  refine for_each (fun i ρ M' => MKeep (· = j) M M' ∧ JarOk M' j ∧ ∃ (w : Str) (w3 : Option D), ρ = [some (.ref j), some (.str "abcdefghijklmnopqrstuvwxyz0123456789"), some (.str w), w3] ∧ w.length = 1 + i) ⟨keepj.trans m2, j2, _, _, rfl, rfl⟩ (fun N i d ρ M' hd hI hN => ?_) (fun ρ M' hI => ?_)
  · obtain ⟨m3, j3, w, w3, rfl, hw⟩ := hI
    obtain ⟨rfl, hlt⟩ := rng_get hd
    refine ⟨trivial, ?_⟩
    walk_at "d"
    refine c_pick j3 (by decide) fun c o4 c0 c1 j4 => ?_
    obtain ⟨y, h1, h2, _⟩ := atI_mem (ds := (("abcdefghijklmnopqrstuvwxyz0123456789" : String) : Str).cps.toList) c0 (by rw [sm]; omega)
    refine v_ix_str (size_1000 (by omega)) h1 ?_
    have ly : (⟨#[y]⟩ : Str).length = 1 := rfl
    refine v_add_str (size_1000 (by omega)) ?_
    walk_at "d"
    exact hN _ _ ⟨m3.trans keepj, j4, _, _, rfl, by rw [app_len, hw, ly]; omega⟩
  · obtain ⟨m3, j3, w, w3, rfl, hw⟩ := hI
    refine ⟨trivial, ?_⟩
    rw [rng_len] at hw
    walk_at "d"
    refine ⟨rfl, w, rfl, by omega, fun z M4 hz x4 => ?_⟩
    exact k z _ (by omega) (m3.trans (x4.mono fun _ q => q.elim)) (j3.keep x4 (fun q => q))
/-- a list that is new, and what it holds -/
def sp_labels : DSp := fun ds M P => ∃ j, ds = [.ref j] ∧ JarOk M j ∧ ∀ (p : Addr) (zs : List Str) M', 0 < zs.length → zs.length ≤ 4 → (∀ z ∈ zs, z.length ≤ 12) → M' p = some (.lst (zs.map D.str)) → p ≠ j → MKeep (· = j) M M' → JarOk M' j → P (.ref p) M'
theorem ok_labels (ds : List D) (M : Mh) (P : PQ) (h : sp_labels ds M P) : b__law_labels sp_pick sp_kept_label sp_free_label { nx := fun _ M' => P .non M', rt := P } (startD 5 ds) M := by
  obtain ⟨j, rfl, hj, k⟩ := h
  have sm : (("abcdefghijklmnopqrstuvwxyz0123456789" : String) : Str).cps.toList.length = 36 := by decide +kernel
  have sm2 : (("abcdefghijklmnopqrstuvwxyz0123456789" : String) : Str).length = 36 := by decide +kernel
  unfold b__law_labels
  walk_at "s"
  walk_at "s"
  refine ⟨by walk_at "l", fun p np => ?_⟩
  have jp := hj.ne np
  have hj1 := hj.keep (.fresh (S := fun _ => False) (o := .lst []) np) (fun z => z)
  walk_at "e"
  walk_at "s"
  refine c_pick hj1 (by decide) fun c o1 c0 c1 j1 => ?_
  walk_at "e"
  refine ⟨by omega, ?_⟩
  have fl : ∀ zs : List Str, (zs.map D.str).all flatD = true := fun zs => by
    induction zs with
    | nil => rfl
    | cons z r ih => rw [List.map_cons, List.all_cons, ih]; rfl
  refine for_each (fun i ρ M' => MKeep (fun a => a = j ∨ a = p) M M' ∧ JarOk M' j ∧ ∃ (zs : List Str) (w3 w4 : Option D), ρ = [some (.ref j), some (.str "abcdefghijklmnopqrstuvwxyz0123456789"), some (.ref p), w3, w4] ∧ M' p = some (.lst (zs.map D.str)) ∧ zs.length ≤ i ∧ (0 < i → 0 < zs.length) ∧ ∀ z ∈ zs, z.length ≤ 12)
    ⟨(MKeep.fresh np).trans (.put (.inl rfl)), j1, [], _, _, rfl, by rw [mup_ne jp.symm]; exact mup_same, Nat.le_refl _, fun h => absurd h (by decide), by simp⟩ (fun N i d ρ M' hd hI hN => ?_) (fun ρ M' hI => ?_)
  · obtain ⟨m3, j3, zs, w3, w4, rfl, hp, h1, h2, h3⟩ := hI
    obtain ⟨rfl, hlt⟩ := rng_get hd
    refine ⟨trivial, ?_⟩
    walk_at "e"
    walk_at "s"
    refine ⟨rfl, j, rfl, j3, fun z M4 hz x4 j4 => ?_⟩
    have hp4 := x4 _ _ (fun q => jp q.symm) hp
    have m4 : MKeep (fun a => a = j ∨ a = p) M M4 := m3.trans (x4.mono fun _ q => .inl q)
    walk_at "e"
    -- the word, kept or made longer
    refine t_cut (fun ρ' M' => MKeep (fun a => a = j ∨ a = p) M M' ∧ JarOk M' j ∧ ∃ (w : Str), ρ' = [some (.ref j), some (.str "abcdefghijklmnopqrstuvwxyz0123456789"), some (.ref p), some (.int (0 + (i : Int))), some (.str w)] ∧ M' p = some (.lst (zs.map D.str)) ∧ w.length ≤ 12) (fun N2 hN2 => ?_) ?_
    · have same : N2 [some (.ref j), some (.str "abcdefghijklmnopqrstuvwxyz0123456789"), some (.ref p), some (.int (0 + (i : Int))), some (.str z)] M4 := hN2 _ _ ⟨m4, j4, z, rfl, hp4, by omega⟩
      walk_at "e"
      refine t_ite (fun e => ?_) (fun e => ?_)
      · cases zs with
        | nil => cases e
        | cons y r =>
          have hy := h3 y List.mem_cons_self
          have g0 : atI ((y :: r).map D.str) 0 = some (.str y) := atI_zero _ _
          walk_at "e"
          refine t_ite (fun e2 => ?_) (fun e2 => ?_)
          · have e2 : (y.length : Int) < 8 := of_decide_eq_true e2
            walk_at "e"
            refine c_pick j4 (by decide) fun c o5 c0 c1 j5 => ?_
            have hp5 : (mup M4 j o5) p = some (.lst ((y :: r).map D.str)) := by rw [mup_ne jp.symm]; exact hp4
            walk_at "e"
            refine t_ite (fun e3 => ?_) (fun e3 => ?_)
            · walk_at "e"
              walk_at "s"
              refine c_pick j5 (by decide) fun c o6 c0 c1 j6 => ?_
              obtain ⟨u, q1, q2, _⟩ := atI_mem (ds := (("abcdefghijklmnopqrstuvwxyz0123456789" : String) : Str).cps.toList) c0 (by rw [sm]; omega)
              refine v_ix_str (size_1000 (by omega)) q1 ?_
              have lu : (⟨#[u]⟩ : Str).length = 1 := rfl
              refine v_add_str (size_1000 (by omega)) ?_
              walk_at "d"
              have l5 := app_len y ⟨#[u]⟩
              refine ⟨rfl, _, rfl, by omega, fun z7 M7 hz7 x7 => ?_⟩
              walk_at "d"
              have hp6 : (mup (mup M4 j o5) j o6) p = some (.lst ((y :: r).map D.str)) := by rw [mup_ne jp.symm]; exact hp5
              exact hN2 _ _ ⟨m4.trans ((MKeep.put (.inl rfl)).trans ((MKeep.put (.inl rfl)).trans (x7.mono fun _ q => q.elim))), j6.keep x7 (fun q => q), z7, rfl, x7 _ _ (fun q => q) hp6, by omega⟩
            · walk_at "e"
              exact hN2 _ _ ⟨m4.trans (.put (.inl rfl)), j5, z, rfl, hp5, by omega⟩
          · refine t_if0 rfl ?_
            walk_at "e"
            exact same
      · refine t_if0 rfl ?_
        walk_at "e"
        exact same
    rintro ρ' M8 ⟨m8, j8, w, rfl, hp8, hw⟩
    walk_at "d"
    refine v_nin_ref hp8 (.inl ⟨rfl, fl zs⟩) ?_
    refine t_ite (fun e => ?_) (fun e => ?_)
    · walk_at "e"
      refine t_seq (t_exp (t_mt (t_var rfl ⟨v_ty_ref hp8, t_ac (t_var rfl (t_an (v_append hp8 (by rw [List.length_map, sizeLine_eq]; omega) ?_)))⟩)))
      walk_at "e"
      refine hN _ _ ⟨m8.trans (.put (.inr rfl)), ?_, zs ++ [w], _, _, rfl, by rw [mup_same, List.map_append]; rfl, by rw [List.length_append]; simp; omega, fun _ => by rw [List.length_append]; simp, fun y hy => ?_⟩
      · obtain ⟨a, b, c, q, r⟩ := j8
        exact ⟨a, b, c, by rw [mup_ne jp]; exact q, r⟩
      · rcases List.mem_append.mp hy with hy | hy
        · exact h3 y hy
        · rw [List.mem_singleton.mp hy]; exact hw
    · walk_at "e"
      refine hN _ _ ⟨m8, j8, zs, _, _, rfl, hp8, by omega, fun _ => ?_, h3⟩
      cases zs with
      | nil => simp [memD] at e
      | cons y r => simp
  · obtain ⟨m3, j3, zs, w3, w4, rfl, hp, h1, h2, h3⟩ := hI
    refine ⟨trivial, ?_⟩
    rw [rng_len] at h1 h2
    walk_at "e"
    refine t_seq (t_ret (t_call (t_ac (t_var rfl (t_an (v_sorted hp (.inr (.inl fun d hd => ?_)) fun ys q hys _ nq => ?_))))))
    · obtain ⟨z, _, rfl⟩ := List.mem_map.mp hd
      exact ⟨z, rfl⟩
    obtain ⟨zs', p1, rfl⟩ := perm_map_inv hys zs rfl
    have jq := j3.ne nq
    have l1 := p1.length_eq
    refine k q zs' _ (by omega) (by omega) (fun z hz => h3 z (p1.mem_iff.mp hz)) mup_same jq.symm (fun a o na h => ?_) (j3.keep (.fresh (S := fun _ => False) nq) fun z => z)
    have hap : a ≠ p := ne_free h np
    have := m3 a o (fun z => by rcases z with z | z; exact na z; exact hap z) h
    rw [mup_ne (ne_free this nq)]; exact this
end K01
/-! K01s: moves and things that the law draws. -/
namespace K01
open PySem DL L2
-- what the heap holds at a place
local macro_rules | `(tactic| walk_at "h") => `(tactic| first
  | assumption
  | exact mup_same
  | (refine (mup_ne ?_).trans ?_ <;> first | assumption | (apply Ne.symm; assumption) | walk_at "h"))
-- small facts of numbers
local macro_rules | `(tactic| walk_at "n") => `(tactic| first
  | assumption
  | omega
  | decide
  | (exact CMul.r (by decide))
  | (exact CMul.l (by decide))
  | (refine ⟨?_, ?_⟩ <;> first | assumption | omega | decide))
-- lengths
local macro_rules | `(tactic| walk_at "l") => `(tactic| first
  | assumption
  | (rw [sizeLine_eq]; first | omega | decide | (simp; done) | (simp; omega) | decide +kernel))
-- one step
local macro_rules | `(tactic| walk_at "e1") => `(tactic| first
  | with_reducible refine t_nil ?_
  | ((with_reducible refine' t_var ?s ?_); (case s => first | assumption | exact rfl))
  | with_reducible refine t_c ?_
  | with_reducible refine t_bin ?_
  | with_reducible refine t_if ?_
  | with_reducible refine t_asg ?_
  | with_reducible refine t_gN ?_
  | with_reducible refine t_ret ?_
  | with_reducible refine t_exp ?_
  | with_reducible refine t_bcmp ?_
  | with_reducible refine t_band ?_
  | with_reducible refine t_bor ?_
  | with_reducible refine t_bnot ?_
  | with_reducible refine t_btru ?_
  | with_reducible refine t_byes ?_
  | with_reducible refine t_an ?_
  | with_reducible refine t_ac ?_
  | with_reducible refine t_fn ?_
  | with_reducible refine t_call ?_
  | with_reducible refine t_cmp ?_
  | with_reducible refine t_and ?_
  | with_reducible refine t_or ?_
  | with_reducible refine t_not ?_
  | with_reducible refine t_ife ?_
  | with_reducible refine t_tup ?_
  | with_reducible refine t_lst ?_
  | with_reducible refine t_isi ?_
  | with_reducible refine t_sl ?_
  | with_reducible refine t_o0 ?_
  | with_reducible refine t_o1 ?_
  | with_reducible refine t_un ?_
  | with_reducible refine t_mt ?_
  | with_reducible refine t_gS ?_
  | with_reducible refine t_gsC ?_
  | with_reducible refine t_gsN ?_
  | ((with_reducible refine t_gT ?s ?_); (case s => first | assumption | exact rfl))
  | with_reducible refine t_retN ?_
  | with_reducible refine t_brk ?_
  | with_reducible refine t_cnt ?_
  | ((with_reducible refine' t_aug ?s ?_); (case s => first | assumption | exact rfl))
  | with_reducible refine t_for ?_
  | with_reducible refine t_seqi ?_
  | with_reducible refine t_rg1 ?_
  | with_reducible refine t_rg2 ?_
  | with_reducible refine t_lc ?_
  | with_reducible refine v_tru_bl ?_
  | with_reducible refine v_tru_int ?_
  | with_reducible refine v_tru_non ?_
  | with_reducible refine v_tru_tup ?_
  | with_reducible refine v_add_int ?_
  | ((with_reducible refine v_add_str ?l ?_); (case l => walk_at "l"))
  | ((with_reducible refine v_add_tup ?l ?_); (case l => walk_at "l"))
  | with_reducible refine v_iadd_int ?_
  | with_reducible refine v_sub ?_
  | ((with_reducible refine v_mul ?c ?_); (case c => walk_at "n"))
  | ((with_reducible refine v_div ?c ?_); (case c => walk_at "n"))
  | ((with_reducible refine v_mod ?c ?_); (case c => walk_at "n"))
  | ((with_reducible refine v_pow ?c ?_); (case c => exact ⟨by decide, by decide, by decide⟩))
  | with_reducible refine v_neg ?_
  | with_reducible exact trivial
  | with_reducible refine v_eq_int ?_
  | with_reducible refine v_eq_str ?_
  | with_reducible refine v_eq_bl ?_
  | with_reducible refine v_ne_int ?_
  | with_reducible refine v_ne_str ?_
  | with_reducible refine v_ne_bl ?_
  | with_reducible refine v_lt ?_
  | with_reducible refine v_lt_str ?_
  | with_reducible refine t_ks ?_
  | with_reducible refine t_rv ?_
  | with_reducible refine v_seq_ktp ?_
  | ((with_reducible refine' v_extend ?e ?f ?l ?_); (case e => walk_at "h"); (case f => walk_at "h"); (case l => walk_at "l"))
  | with_reducible refine v_le ?_
  | with_reducible refine v_gt ?_
  | with_reducible refine v_ge ?_
  | with_reducible refine v_isi_non ?_
  | with_reducible refine v_isi_bl ?_
  | with_reducible refine v_isi_int ?_
  | with_reducible refine v_isi_str ?_
  | with_reducible refine v_isi_tup ?_
  | with_reducible refine v_in_str ?_
  | with_reducible refine v_nin_str ?_
  | with_reducible refine v_len_tup ?_
  | with_reducible refine v_len_rol ?_
  | ((with_reducible refine v_len_str ?l ?_); (case l => walk_at "l"))
  | ((with_reducible refine' v_len_ref ?e ?_); (case e => walk_at "h"))
  | with_reducible refine v_int_int ?_
  | with_reducible refine v_max ?_
  | with_reducible refine v_min ?_
  | with_reducible refine v_tuple_tup ?_
  | ((with_reducible refine' v_tuple_ref ?e ?_); (case e => walk_at "h"))
  | ((with_reducible refine' v_ix_ref ?e ?f ?_); (case e => walk_at "h"); (case f => first | assumption | exact rfl))
  | ((with_reducible refine' v_ix_tup ?f ?_); (case f => first | assumption | exact rfl))
  | ((with_reducible refine' v_set ?e ?f ?_); (case e => walk_at "h"); (case f => first | assumption | exact rfl))
  | ((with_reducible refine v_sl_str ?l ?_); (case l => walk_at "l"))
  | with_reducible refine v_sl_tup ?_
  | with_reducible refine v_seq_tup ?_
  | with_reducible refine v_seq_str ?_
  | with_reducible refine v_seq_rol ?_
  | ((with_reducible refine' v_seq_ref ?e ?_); (case e => walk_at "h"))
  | ((with_reducible refine' ⟨v_ty_ref ?e, ?_⟩); (case e => walk_at "h"))
  | ((with_reducible refine' v_append ?e ?l ?_); (case e => walk_at "h"); (case l => walk_at "l")))
local macro_rules | `(tactic| walk_at "d1") => `(tactic| first | with_reducible refine t_seq ?_ | walk_at "e1")
local macro_rules | `(tactic| walk_at "d") => `(tactic| repeat walk_at "d1")
-- one statement
local macro_rules | `(tactic| walk_at "e") => `(tactic| ((repeat walk_at "e1"); try (with_reducible show sSeq _ _ _ _ _)))
local macro_rules | `(tactic| walk_at "s") => `(tactic| ((with_reducible refine t_seq ?_); walk_at "e"))
-- a drawn thing's small facts
local macro_rules | `(tactic| walk_at "gi") => `(tactic| first
  | exact gi_c trivial
  | exact gi_c ⟨_, rfl, by decide, by decide⟩
  | exact gi_c (show _ ≤ _ by decide)
  | exact gi_c (show _ ≤ _ by decide +kernel)
  | exact gi_v rfl trivial)
local macro_rules | `(tactic| walk_at "ga") => `(tactic| ((repeat (first | exact ga_nil | refine ga_cons2 ?_ ?_)); all_goals (try walk_at "gi")))
/-- a drawn move -/
def Mv (d : D) : Prop := ∃ z l h g, d = .tup [.str z, .int l, .int h, .int g] ∧ z.length ≤ 12 ∧ 0 ≤ l ∧ l ≤ 999999
theorem Mv.good {d : D} (h : Mv d) : good 12 d := by
  obtain ⟨z, l, h, g, rfl, q, _, _⟩ := h
  refine good_tup.mpr ⟨by show 4 ≤ 12; decide, fun d hd => ?_⟩
  simp only [List.mem_cons, List.not_mem_nil, or_false] at hd
  rcases hd with rfl | rfl | rfl | rfl
  · exact q
  · trivial
  · trivial
  · trivial
def sp_strips : DSp := fun ds M P => ∃ j z many count, ds = [.ref j, .str z, .int many, .int count] ∧ z.length ≤ 12 ∧ JarOk M j ∧ 0 < many ∧ many < 1073741824 ∧ 1 ≤ count ∧ count ≤ 9 ∧
  ∀ (p : Addr) (xs : List D) M', 0 < xs.length → xs.length ≤ 9 → (∀ x ∈ xs, Mv x) → M' p = some (.lst xs) → p ≠ j → M p = none → MKeep (· = j) M M' → JarOk M' j → P (.ref p) M'
theorem ok_strips (ds : List D) (M : Mh) (P : PQ) (h : sp_strips ds M P) : b__law_strips sp_number { nx := fun _ M' => P .non M', rt := P } (startD 8 ds) M := by
  obtain ⟨j, z, many, count, rfl, hz, hj, h0, h1, c0, c1, k⟩ := h
  unfold b__law_strips
  walk_at "s"
  refine ⟨by walk_at "l", fun p np => ?_⟩
  have jp := hj.ne np
  have hj1 := hj.keep (.fresh (S := fun _ => False) (o := .lst []) np) (fun z => z)
  walk_at "e"
  walk_at "s"
  refine ⟨rfl, j, 1000000, rfl, hj1, by decide, by decide, fun d M1 m1 j1 t1 => ?_⟩
  obtain ⟨a, rfl, a0, a1⟩ := t1
  walk_at "e"
  refine t_cut (fun ρ M' => MKeep (fun b => b = j ∨ b = p) M M' ∧ JarOk M' j ∧ ∃ (xs : List D) (w5 w6 w7 : Option D), ρ = [some (.ref j), some (.str z), some (.int many), some (.int count), some (.ref p), w5, w6, w7] ∧ M' p = some (.lst xs) ∧ 0 < xs.length ∧ xs.length ≤ 9 ∧ ∀ x ∈ xs, Mv x) (fun N0 hN0 => ?_) ?_
  · walk_at "e"
    refine ⟨by omega, ?_⟩
    refine for_each (fun i ρ M' => MKeep (fun b => b = j ∨ b = p) M M' ∧ JarOk M' j ∧ ∃ (xs : List D) (a : Int) (w6 w7 : Option D), ρ = [some (.ref j), some (.str z), some (.int many), some (.int count), some (.ref p), some (.int a), w6, w7] ∧ M' p = some (.lst xs) ∧ xs.length = i ∧ 0 ≤ a ∧ (i = 0 → a ≤ 999999) ∧ ∀ x ∈ xs, Mv x)
      ⟨(MKeep.fresh np).trans (m1.mono fun _ q => .inl q), j1, [], a, _, _, rfl, m1 _ _ (fun q => jp q.symm) mup_same, rfl, a0, fun _ => by omega, by simp⟩ (fun N i d ρ M' hd hI hN => ?_) (fun ρ M' hI => ?_)
    · obtain ⟨m3, j3, xs, a, w6, w7, rfl, hp, hl, a0, a1, hx⟩ := hI
      obtain ⟨rfl, hlt⟩ := rng_get hd
      refine ⟨trivial, ?_⟩
      walk_at "e"
      walk_at "s"
      refine t_ite (fun e => ?_) (fun e => ?_)
      · have e : 999999 < a := of_decide_eq_true e
        walk_at "d"
        refine hN0 _ _ ⟨m3, j3, xs, _, _, _, rfl, hp, ?_, by omega, hx⟩
        rcases Nat.eq_zero_or_pos i with z | z
        · have := a1 z; omega
        · omega
      have e : ¬ 999999 < a := of_decide_eq_false e
      walk_at "e"
      walk_at "s"
      refine ⟨rfl, j, 1000000 - a, rfl, j3, by omega, by omega, fun d M4 m4 j4 t4 => ?_⟩
      obtain ⟨b, rfl, b0, b1⟩ := t4
      walk_at "e"
      have hp4 := m4 _ _ (fun q => jp q.symm) hp
      refine t_seq (t_exp (t_mt (t_var rfl ⟨v_ty_ref hp4, t_ac (t_tup (t_ac (t_var rfl (t_ac (t_var rfl (t_ac (t_var rfl (t_ac (t_fn (t_ac (t_var rfl (t_ac (t_var rfl (t_an ⟨rfl, j, many, rfl, j4, h0, h1, fun d M5 m5 j5 t5 => ?_⟩))))))))))))))⟩)))
      obtain ⟨g, rfl, g0, g1⟩ := t5
      have hp5 := m5 _ _ (fun q => jp q.symm) hp4
      refine t_an ⟨size_1000 (show 4 ≤ 100000 by decide), t_an (v_append hp5 (by rw [sizeLine_eq]; omega) ?_)⟩
      have j6 : JarOk (mup M5 p (.lst (xs ++ [.tup [.str z, .int a, .int (a + b), .int g]]))) j := by
        obtain ⟨a, b, c, q, r⟩ := j5
        exact ⟨a, b, c, by rw [mup_ne jp]; exact q, r⟩
      walk_at "e"
      walk_at "s"
      refine ⟨rfl, j, 1000000, rfl, j6, by decide, by decide, fun d M7 m7 j7 t7 => ?_⟩
      obtain ⟨c, rfl, q0, q1⟩ := t7
      walk_at "d"
      refine hN _ _ ⟨m3.trans ((m4.mono fun _ q => .inl q).trans ((m5.mono fun _ q => .inl q).trans ((MKeep.put (.inr rfl)).trans (m7.mono fun _ q => .inl q)))), j7, _, _, _, _, rfl, m7 _ _ (fun q => jp q.symm) mup_same, by rw [List.length_append, hl]; rfl, by omega, fun h => absurd h (by omega), fun x hx' => ?_⟩
      rcases List.mem_append.mp hx' with h | h
      · exact hx x h
      · rw [List.mem_singleton.mp h]; exact ⟨_, _, _, _, rfl, hz, by omega, by omega⟩
    · obtain ⟨m3, j3, xs, a, w6, w7, rfl, hp, hl, a0, a1, hx⟩ := hI
      refine ⟨trivial, ?_⟩
      rw [rng_len] at hl
      exact hN0 _ _ ⟨m3, j3, xs, _, _, _, rfl, hp, by omega, by omega, hx⟩
  rintro ρ M' ⟨m3, j3, xs, w5, w6, w7, rfl, hp, l0, l1, hx⟩
  walk_at "d"
  refine k p xs M' l0 l1 hx hp jp.symm np (fun a o na h => ?_) j3
  have hap : a ≠ p := ne_free h np
  exact m3 a o (fun z => by rcases z with z | z; exact na z; exact hap z) h
def sp_free_moves : DSp := fun ds M P => ∃ j p, ∃ zs : List Str, ∃ many, ds = [.ref j, .ref p, .int many] ∧ M p = some (.lst (zs.map D.str)) ∧ p ≠ j ∧ 0 < zs.length ∧ zs.length ≤ 4 ∧ (∀ z ∈ zs, z.length ≤ 12) ∧ JarOk M j ∧ 0 < many ∧ many < 1073741824 ∧
  ∀ (xs : List D) M', 0 < xs.length → xs.length ≤ 36 → (∀ x ∈ xs, Mv x) → MKeep (· = j) M M' → JarOk M' j → P (.tup xs) M'
theorem ok_free_moves (ds : List D) (M : Mh) (P : PQ) (h : sp_free_moves ds M P) : b__law_free_moves sp_strips sp_pick { nx := fun _ M' => P .non M', rt := P } (startD 6 ds) M := by
  obtain ⟨j, p, zs, many, rfl, hp, pj, l0, l1, hz, hj, h0, h1, k⟩ := h
  unfold b__law_free_moves
  walk_at "s"
  refine ⟨by walk_at "l", fun q nq => ?_⟩
  have jq := hj.ne nq
  have pq := ne_free hp nq
  have hj1 := hj.keep (.fresh (S := fun _ => False) (o := .lst []) nq) (fun z => z)
  walk_at "e"
  refine t_seq (t_asg ?_)
  refine (gi_menu (n := 6) (T := IsI 1 9) (h := 5) ?_ ?_ (by decide) (size_1000 (by decide))).run hj1 fun d M2 m2 j2 t2 => ?_
  · walk_at "ga"
  · exact gi_pick (m := 6) (h := 6) rfl (gi_c ⟨_, rfl, by decide, by decide⟩) (by decide) (by decide)
  obtain ⟨lim, rfl, s0, s1⟩ := t2
  walk_at "e"
  have hp2 : M2 p = some (.lst (zs.map D.str)) := m2 _ _ pj (by rw [mup_ne pq]; exact hp)
  have hq2 : M2 q = some (.lst []) := m2 _ _ (fun z => jq z.symm) mup_same
  refine t_seq (t_for (t_seqi (t_var rfl (v_seq_ref hp2 ?_))))
  refine for_each (fun i ρ M' => MKeep (fun b => b = j ∨ b = q) M M' ∧ JarOk M' j ∧ ∃ (xs : List D) (w5 : Option D), ρ = [some (.ref j), some (.ref p), some (.int many), some (.ref q), some (.int lim), w5] ∧ M' q = some (.lst xs) ∧ i ≤ xs.length ∧ xs.length ≤ 9 * i ∧ ∀ x ∈ xs, Mv x)
    ⟨(MKeep.fresh nq).trans (m2.mono fun _ q => .inl q), j2, [], _, rfl, hq2, Nat.le_refl _, Nat.zero_le _, by simp⟩ (fun N i d ρ M' hd hI hN => ?_) (fun ρ M' hI => ?_)
  · obtain ⟨m3, j3, xs, w5, rfl, hq, h2, h3, hx⟩ := hI
    have hp3 := m3 _ _ (fun z => by rcases z with z | z; exact pj z; exact pq z) hp
    refine ⟨hp3, ?_⟩
    rw [List.getElem?_map] at hd
    obtain ⟨z, hzi, rfl⟩ := Option.map_eq_some_iff.mp hd
    have hil := (List.getElem?_eq_some_iff.mp hzi).1
    walk_at "d"
    refine c_pick j3 (by omega) fun c o4 c0 c1 j4 => ?_
    walk_at "d"
    refine ⟨rfl, j, z, many, 1 + c, rfl, hz z (List.mem_of_getElem? hzi), j4, h0, h1, by omega, by omega, fun r ys M5 y0 y1 hy hr rj nr m5 j5 => ?_⟩
    have hq4 : (mup M' j o4) q = some (.lst xs) := by rw [mup_ne jq.symm]; exact hq
    have hq5 := m5 _ _ (fun z => jq z.symm) hq4
    refine t_an (v_extend hq5 hr (by rw [sizeLine_eq]; omega) ?_)
    walk_at "e"
    refine hN _ _ ⟨m3.trans ((MKeep.put (.inl rfl)).trans ((m5.mono fun _ q => .inl q).trans (.put (.inr rfl)))), ?_, xs ++ ys, _, rfl, mup_same, by rw [List.length_append]; omega, by rw [List.length_append]; omega, fun x hx' => ?_⟩
    · obtain ⟨a, b, c, e, r⟩ := j5
      exact ⟨a, b, c, by rw [mup_ne jq]; exact e, r⟩
    · rcases List.mem_append.mp hx' with h | h
      · exact hx x h
      · exact hy x h
  · obtain ⟨m3, j3, xs, w5, rfl, hq, h2, h3, hx⟩ := hI
    have hp3 := m3 _ _ (fun z => by rcases z with z | z; exact pj z; exact pq z) hp
    refine ⟨hp3, ?_⟩
    rw [List.length_map] at h2 h3
    walk_at "d"
    refine k xs M' (by omega) (by omega) hx (fun a o na h => ?_) j3
    have hap : a ≠ q := ne_free h nq
    exact m3 a o (fun z => by rcases z with z | z; exact na z; exact hap z) h
end K01
/-! K01u: words, and what is spoilt. -/
namespace K01
open PySem DL L2
-- what the heap holds at a place
local macro_rules | `(tactic| walk_at "h") => `(tactic| first
  | assumption
  | exact mup_same
  | (refine (mup_ne ?_).trans ?_ <;> first | assumption | (apply Ne.symm; assumption) | walk_at "h"))
-- small facts of numbers
local macro_rules | `(tactic| walk_at "n") => `(tactic| first
  | assumption
  | omega
  | decide
  | (exact CMul.r (by decide))
  | (exact CMul.l (by decide))
  | (refine ⟨?_, ?_⟩ <;> first | assumption | omega | decide))
-- lengths
local macro_rules | `(tactic| walk_at "l") => `(tactic| first
  | assumption
  | (rw [sizeLine_eq]; first | omega | decide | (simp; done) | (simp; omega) | decide +kernel))
-- one step
local macro_rules | `(tactic| walk_at "e1") => `(tactic| first
  | with_reducible refine t_nil ?_
  | ((with_reducible refine' t_var ?s ?_); (case s => first | assumption | exact rfl))
  | with_reducible refine t_c ?_
  | with_reducible refine t_bin ?_
  | with_reducible refine t_if ?_
  | with_reducible refine t_asg ?_
  | with_reducible refine t_gN ?_
  | with_reducible refine t_ret ?_
  | with_reducible refine t_exp ?_
  | with_reducible refine t_bcmp ?_
  | with_reducible refine t_band ?_
  | with_reducible refine t_bor ?_
  | with_reducible refine t_bnot ?_
  | with_reducible refine t_btru ?_
  | with_reducible refine t_byes ?_
  | with_reducible refine t_an ?_
  | with_reducible refine t_ac ?_
  | with_reducible refine t_fn ?_
  | with_reducible refine t_call ?_
  | with_reducible refine t_cmp ?_
  | with_reducible refine t_and ?_
  | with_reducible refine t_or ?_
  | with_reducible refine t_not ?_
  | with_reducible refine t_ife ?_
  | with_reducible refine t_tup ?_
  | with_reducible refine t_lst ?_
  | with_reducible refine t_isi ?_
  | with_reducible refine t_sl ?_
  | with_reducible refine t_o0 ?_
  | with_reducible refine t_o1 ?_
  | with_reducible refine t_un ?_
  | with_reducible refine t_mt ?_
  | with_reducible refine t_gS ?_
  | with_reducible refine t_gsC ?_
  | with_reducible refine t_gsN ?_
  | ((with_reducible refine t_gT ?s ?_); (case s => first | assumption | exact rfl))
  | with_reducible refine t_retN ?_
  | with_reducible refine t_brk ?_
  | with_reducible refine t_cnt ?_
  | ((with_reducible refine' t_aug ?s ?_); (case s => first | assumption | exact rfl))
  | with_reducible refine t_for ?_
  | with_reducible refine t_seqi ?_
  | with_reducible refine t_rg1 ?_
  | with_reducible refine t_rg2 ?_
  | with_reducible refine t_lc ?_
  | with_reducible refine v_tru_bl ?_
  | with_reducible refine v_tru_int ?_
  | with_reducible refine v_tru_non ?_
  | with_reducible refine v_tru_tup ?_
  | with_reducible refine v_add_int ?_
  | ((with_reducible refine v_add_str ?l ?_); (case l => walk_at "l"))
  | ((with_reducible refine v_add_tup ?l ?_); (case l => walk_at "l"))
  | with_reducible refine v_iadd_int ?_
  | with_reducible refine v_sub ?_
  | ((with_reducible refine v_mul ?c ?_); (case c => walk_at "n"))
  | ((with_reducible refine v_div ?c ?_); (case c => walk_at "n"))
  | ((with_reducible refine v_mod ?c ?_); (case c => walk_at "n"))
  | ((with_reducible refine v_pow ?c ?_); (case c => exact ⟨by decide, by decide, by decide⟩))
  | with_reducible refine v_neg ?_
  | with_reducible exact trivial
  | with_reducible refine v_eq_int ?_
  | with_reducible refine v_eq_str ?_
  | with_reducible refine v_eq_bl ?_
  | with_reducible refine v_ne_int ?_
  | with_reducible refine v_ne_str ?_
  | with_reducible refine v_ne_bl ?_
  | with_reducible refine v_lt ?_
  | with_reducible refine v_lt_str ?_
  | with_reducible refine t_ks ?_
  | with_reducible refine t_rv ?_
  | with_reducible refine v_seq_ktp ?_
  | ((with_reducible refine' v_extend ?e ?f ?l ?_); (case e => walk_at "h"); (case f => walk_at "h"); (case l => walk_at "l"))
  | with_reducible refine v_le ?_
  | with_reducible refine v_gt ?_
  | with_reducible refine v_ge ?_
  | with_reducible refine v_isi_non ?_
  | with_reducible refine v_isi_bl ?_
  | with_reducible refine v_isi_int ?_
  | with_reducible refine v_isi_str ?_
  | with_reducible refine v_isi_tup ?_
  | with_reducible refine v_in_str ?_
  | with_reducible refine v_nin_str ?_
  | with_reducible refine v_len_tup ?_
  | with_reducible refine v_len_rol ?_
  | ((with_reducible refine v_len_str ?l ?_); (case l => walk_at "l"))
  | ((with_reducible refine' v_len_ref ?e ?_); (case e => walk_at "h"))
  | with_reducible refine v_int_int ?_
  | with_reducible refine v_max ?_
  | with_reducible refine v_min ?_
  | with_reducible refine v_tuple_tup ?_
  | ((with_reducible refine' v_tuple_ref ?e ?_); (case e => walk_at "h"))
  | ((with_reducible refine' v_ix_ref ?e ?f ?_); (case e => walk_at "h"); (case f => first | assumption | exact rfl))
  | ((with_reducible refine' v_ix_tup ?f ?_); (case f => first | assumption | exact rfl))
  | ((with_reducible refine' v_set ?e ?f ?_); (case e => walk_at "h"); (case f => first | assumption | exact rfl))
  | ((with_reducible refine v_sl_str ?l ?_); (case l => walk_at "l"))
  | with_reducible refine v_sl_tup ?_
  | with_reducible refine v_seq_tup ?_
  | with_reducible refine v_seq_str ?_
  | with_reducible refine v_seq_rol ?_
  | ((with_reducible refine' v_seq_ref ?e ?_); (case e => walk_at "h"))
  | ((with_reducible refine' ⟨v_ty_ref ?e, ?_⟩); (case e => walk_at "h"))
  | ((with_reducible refine' v_append ?e ?l ?_); (case e => walk_at "h"); (case l => walk_at "l")))
local macro_rules | `(tactic| walk_at "d1") => `(tactic| first | with_reducible refine t_seq ?_ | walk_at "e1")
local macro_rules | `(tactic| walk_at "d") => `(tactic| repeat walk_at "d1")
-- one statement
local macro_rules | `(tactic| walk_at "e") => `(tactic| ((repeat walk_at "e1"); try (with_reducible show sSeq _ _ _ _ _)))
local macro_rules | `(tactic| walk_at "s") => `(tactic| ((with_reducible refine t_seq ?_); walk_at "e"))
-- a drawn thing's small facts
local macro_rules | `(tactic| walk_at "gi") => `(tactic| first
  | exact gi_c trivial
  | exact gi_c ⟨_, rfl, by decide, by decide⟩
  | exact gi_c (show _ ≤ _ by decide)
  | exact gi_c (show _ ≤ _ by decide +kernel)
  | exact gi_v rfl trivial)
local macro_rules | `(tactic| walk_at "ga") => `(tactic| ((repeat (first | exact ga_nil | refine ga_cons2 ?_ ?_)); all_goals (try walk_at "gi")))
theorem isS_good {n m : Nat} (h : n ≤ m) {d : D} (q : IsS n d) : good m d := by
  obtain ⟨z, rfl, l⟩ := q
  exact Nat.le_trans l h
theorem gi_tupg {j : Addr} {ρ : Ev} {n m : Nat} {as : DA} (hn : n ≤ m) (hm : m ≤ 100000) (ha : GIs j ρ (GA n (good m)) as) : GI j ρ (good m) (eTup as) :=
  gi_tup ha fun xs ⟨l, h⟩ => ⟨size_1000 (by omega), good_tup.mpr ⟨by omega, h⟩⟩
def sp_words : DSp := fun ds M P => ∃ j, ds = [.ref j] ∧ JarOk M j ∧ ∀ (p : Addr) (xs : List D) M', (∀ x ∈ xs, good 1000 x) → M' p = some (.lst xs) → p ≠ j → MKeep (· = j) M M' → JarOk M' j → P (.ref p) M'
theorem gi_changed {j : Addr} {ρ : Ev} {i n : Nat} {e : DT} (s : slot ρ i = some (.ref j)) (he : GI j ρ (IsS n) e) (hn : n ≤ 500) : GI j ρ (IsS (2 * n + 1)) (eFn 2 sp_changed_word (aCons (eVar i) (aCons e aNil))) := fun M P jk k => by
  refine t_fn (t_ac (t_var s (t_ac (he M _ jk fun d M1 m1 j1 t1 => t_an ?_))))
  obtain ⟨w, rfl, q⟩ := t1
  exact ⟨rfl, j, w, rfl, by omega, j1, fun z M' hz m2 j2 => k _ _ (m1.trans m2) j2 ⟨z, rfl, by omega⟩⟩
theorem keep_two {M M' : Mh} {j p : Addr} (np : M p = none) (m : MKeep (fun a => a = j ∨ a = p) M M') : MKeep (· = j) M M' := fun a o na h => by
  have hap : a ≠ p := ne_free h np
  exact m a o (fun z => by rcases z with z | z; exact na z; exact hap z) h
theorem ok_words (ds : List D) (M : Mh) (P : PQ) (h : sp_words ds M P) : b__law_words sp_changed_word sp_free_label sp_word { nx := fun _ M' => P .non M', rt := P } (startD 5 ds) M := by
  obtain ⟨j, rfl, hj, k⟩ := h
  unfold b__law_words
  have l_s : (("s" : String) : Str).length = 1 := by decide +kernel
  have l_a : (("a" : String) : Str).length = 1 := by decide +kernel
  have l_0 : (("0" : String) : Str).length = 1 := by decide +kernel
  refine t_seq (t_asg (t_lst ?_))
  refine (show GIs j (startD 5 [.ref j]) (GA 15 (good 20)) _ from ?_) _ _ hj fun xs M1 m1 j1 t1 => ⟨size_1000 (by rw [t1.1]; decide), fun p np => ?_⟩
  · walk_at "ga"
  have pj : p ≠ j := (j1.ne np).symm
  have np0 : M p = none := by
    cases q : M p with
    | none => rfl
    | some o => rw [m1 _ _ pj q] at np; cases np
  have m2 : MKeep (fun a => a = j ∨ a = p) M (mup M1 p (.lst xs)) := (m1.mono fun _ z => .inl z).trans (.put (.inr rfl))
  have j2 : JarOk (mup M1 p (.lst xs)) j := j1.keep (.fresh (S := fun _ => False) np) (fun z => z)
  have h2 : (mup M1 p (.lst xs)) p = some (.lst xs) := mup_same
  have x2 : xs.length ≤ 15 ∧ ∀ x ∈ xs, good 1000 x := ⟨Nat.le_of_eq t1.1, fun x hx => good_mono (by decide) (t1.2 x hx)⟩
  generalize mup M1 p (.lst xs) = M2 at m2 j2 h2
  walk_at "e"
  refine t_seq (t_exp (ext_run (n := 8) (T := good 20) rfl h2 j2 pj ?_ (by omega) fun ys M3 y0 y1 h3 m3 j3 => ?_))
  · walk_at "ga"
  have x3 : (xs ++ ys).length ≤ 23 ∧ ∀ x ∈ xs ++ ys, good 1000 x := ⟨by rw [List.length_append]; omega, fun x hx => by
    rcases List.mem_append.mp hx with h | h
    · exact x2.2 x h
    · exact good_mono (by decide) (y1 x h)⟩
  have m3 := m2.trans m3
  generalize xs ++ ys = xs at h3 x3
  clear x2 h2 j2 t1 y1 y0 m2
  walk_at "e"
  -- the reserved words, near ones
  refine t_cut (fun ρ M' => MKeep (fun a => a = j ∨ a = p) M M' ∧ JarOk M' j ∧ ∃ (xs : List D) (w2 w3 w4 : Option D), ρ = [some (.ref j), some (.ref p), w2, w3, w4] ∧ M' p = some (.lst xs) ∧ xs.length ≤ 100 ∧ ∀ x ∈ xs, good 1000 x) (fun N0 hN0 => ?_) ?_
  · refine t_for (t_seqi (t_lst ?_))
    refine (show GIs j _ (GA 11 (IsS 7)) _ from ?_) _ _ j3 fun ws M4 m4 j4 t4 => ⟨size_1000 (by rw [t4.1]; decide), fun q nq => v_seq_ref mup_same ?_⟩
    · walk_at "ga"
      all_goals exact gi_c ⟨_, rfl, by decide +kernel⟩
    have jq := j4.ne nq
    have hp4 := m4 _ _ pj h3
    have pq := ne_free hp4 nq
    refine for_each (fun i ρ M' => MKeep (fun a => a = j ∨ a = p) M M' ∧ JarOk M' j ∧ M' q = some (.lst ws) ∧ ∃ (xs : List D) (w2 w3 w4 : Option D), ρ = [some (.ref j), some (.ref p), w2, w3, w4] ∧ M' p = some (.lst xs) ∧ xs.length ≤ 23 + 6 * i ∧ ∀ x ∈ xs, good 1000 x)
      ⟨m3.trans ((m4.mono fun _ z => .inl z).trans (.fresh nq)), j4.keep (.fresh (S := fun _ => False) nq) (fun z => z), mup_same, xs, _, _, _, rfl, by rw [mup_ne pq]; exact hp4, x3.1, x3.2⟩ (fun N i d ρ M' hd hI hN => ?_) (fun ρ M' hI => ?_)
    · obtain ⟨m5, j5, hq, xs, w2, w3, w4, rfl, hp, l5, x5⟩ := hI
      have hi : i < 11 := by rw [← t4.1]; exact (List.getElem?_eq_some_iff.mp hd).1
      obtain ⟨w, rfl, hw⟩ := t4.2 d (List.mem_of_getElem? hd)
      refine ⟨hq, ?_⟩
      walk_at "e"
      have gv : GI j [some (.ref j), some (.ref p), some (.str w), w3, w4] (IsS 7) (eVar 2) := gi_v rfl ⟨_, rfl, hw⟩
      refine t_seq (t_exp (ext_run (n := 6) (T := IsS 100) rfl hp j5 pj ?_ (by omega) fun ys M6 y0 y1 h6 m6 j6 => ?_))
      · refine ga_cons (gv.mono fun d ⟨z, e, q⟩ => ⟨z, e, by omega⟩) ?_
        refine ga_cons ((gi_sadd gv (gi_c (T := IsS 1) ⟨_, rfl, by omega⟩) (by decide)).mono fun d ⟨z, e, q⟩ => ⟨z, e, by omega⟩) ?_
        refine ga_cons ((gi_slo (l := 1) (h := 1) gv (gi_c ⟨_, rfl, by decide, by decide⟩) (by decide)).mono fun d ⟨z, e, q⟩ => ⟨z, e, by omega⟩) ?_
        refine ga_cons ((gi_sadd (gi_c (T := IsS 1) ⟨_, rfl, by omega⟩) gv (by decide)).mono fun d ⟨z, e, q⟩ => ⟨z, e, by omega⟩) ?_
        refine ga_cons ((gi_sadd gv (gi_c (T := IsS 1) ⟨_, rfl, by omega⟩) (by decide)).mono fun d ⟨z, e, q⟩ => ⟨z, e, by omega⟩) ?_
        refine ga_cons ((gi_shi gv (gi_sub (l2 := 1) (h2 := 1) (gi_len gv (by decide)) (gi_c ⟨_, rfl, by decide, by decide⟩)) (by decide)).mono fun d ⟨z, e, q⟩ => ⟨z, e, by omega⟩) ga_nil
      walk_at "e"
      refine hN _ _ ⟨m5.trans m6, j6, m6 _ _ (fun z => by rcases z with z | z; exact jq z.symm; exact pq z.symm) hq, _, _, _, _, rfl, h6, by rw [List.length_append]; omega, fun x hx => ?_⟩
      rcases List.mem_append.mp hx with h | h
      · exact x5 x h
      · exact isS_good (by decide) (y1 x h)
    · obtain ⟨m5, j5, hq, xs, w2, w3, w4, rfl, hp, l5, x5⟩ := hI
      refine ⟨hq, hN0 _ _ ⟨m5, j5, xs, _, _, _, rfl, hp, by rw [t4.1] at l5; omega, x5⟩⟩
  rintro ρ M7 ⟨m7, j7, xs7, w2, w3, w4, rfl, h7, l7, x7⟩
  refine t_cut (fun ρ M' => MKeep (fun a => a = j ∨ a = p) M M' ∧ JarOk M' j ∧ ∃ (xs : List D) (w2 w3 w4 : Option D), ρ = [some (.ref j), some (.ref p), w2, w3, w4] ∧ M' p = some (.lst xs) ∧ xs.length ≤ 200 ∧ ∀ x ∈ xs, good 1000 x) (fun N0 hN0 => ?_) ?_
  · walk_at "e"
    refine ⟨by decide, ?_⟩
    refine for_each (fun i ρ M' => MKeep (fun a => a = j ∨ a = p) M M' ∧ JarOk M' j ∧ ∃ (xs : List D) (w2 w3 w4 : Option D), ρ = [some (.ref j), some (.ref p), w2, w3, w4] ∧ M' p = some (.lst xs) ∧ xs.length ≤ 100 + 2 * i ∧ ∀ x ∈ xs, good 1000 x)
      ⟨m7, j7, xs7, _, _, _, rfl, h7, l7, x7⟩ (fun N i d ρ M' hd hI hN => ?_) (fun ρ M' hI => ?_)
    · obtain ⟨m5, j5, xs, w2, w3, w4, rfl, hp, l5, x5⟩ := hI
      obtain ⟨rfl, hi⟩ := rng_get hd
      have hi : i < 12 := hi
      refine ⟨trivial, ?_⟩
      walk_at "e"
      walk_at "s"
      refine ⟨rfl, j, rfl, j5, fun w M8 hw m8 j8 => ?_⟩
      walk_at "e"
      have h8 := m8 _ _ pj hp
      have gv : GI j [some (.ref j), some (.ref p), some (.str w), some (.int (0 + (i : Int))), w4] (IsS 60) (eVar 2) := gi_v rfl ⟨_, rfl, hw⟩
      refine t_seq (t_exp (ext_run (n := 2) (T := IsS 200) rfl h8 j8 pj ?_ (by omega) fun ys M6 y0 y1 h6 m6 j6 => ?_))
      · refine ga_cons (gv.mono fun d ⟨z, e, q⟩ => ⟨z, e, by omega⟩) ?_
        exact ga_cons ((gi_changed rfl gv (by decide)).mono fun d ⟨z, e, q⟩ => ⟨z, e, by omega⟩) ga_nil
      walk_at "e"
      refine hN _ _ ⟨m5.trans ((m8.mono fun _ z => .inl z).trans m6), j6, _, _, _, _, rfl, h6, by rw [List.length_append]; omega, fun x hx => ?_⟩
      rcases List.mem_append.mp hx with h | h
      · exact x5 x h
      · exact isS_good (by decide) (y1 x h)
    · obtain ⟨m5, j5, xs, w2, w3, w4, rfl, hp, l5, x5⟩ := hI
      refine ⟨trivial, hN0 _ _ ⟨m5, j5, xs, _, _, _, rfl, hp, by rw [rng_len] at l5; omega, x5⟩⟩
  rintro ρ M9 ⟨m9, j9, xs9, w2, w3, w4, rfl, h9, l9, x9⟩
  refine t_cut (fun ρ M' => MKeep (fun a => a = j ∨ a = p) M M' ∧ JarOk M' j ∧ ∃ (xs : List D) (w2 w3 w4 : Option D), ρ = [some (.ref j), some (.ref p), w2, w3, w4] ∧ M' p = some (.lst xs) ∧ xs.length ≤ 300 ∧ ∀ x ∈ xs, good 1000 x) (fun N0 hN0 => ?_) ?_
  · walk_at "e"
    refine ⟨by decide, ?_⟩
    refine for_each (fun i ρ M' => MKeep (fun a => a = j ∨ a = p) M M' ∧ JarOk M' j ∧ ∃ (xs : List D) (w2 w3 w4 : Option D), ρ = [some (.ref j), some (.ref p), w2, w3, w4] ∧ M' p = some (.lst xs) ∧ xs.length ≤ 200 + 2 * i ∧ ∀ x ∈ xs, good 1000 x)
      ⟨m9, j9, xs9, _, _, _, rfl, h9, l9, x9⟩ (fun N i d ρ M' hd hI hN => ?_) (fun ρ M' hI => ?_)
    · obtain ⟨m5, j5, xs, w2, w3, w4, rfl, hp, l5, x5⟩ := hI
      obtain ⟨rfl, hi⟩ := rng_get hd
      have hi : i < 4 := hi
      refine ⟨trivial, ?_⟩
      walk_at "e"
      walk_at "s"
      refine ⟨rfl, j, rfl, j5, fun w M8 hw m8 j8 => ?_⟩
      walk_at "e"
      have h8 := m8 _ _ pj hp
      have gv : GI j [some (.ref j), some (.ref p), some (.str w), some (.int (0 + (i : Int))), w4] (IsS 60) (eVar 2) := gi_v rfl ⟨_, rfl, by omega⟩
      refine t_seq (t_exp (ext_run (n := 2) (T := IsS 200) rfl h8 j8 pj ?_ (by omega) fun ys M6 y0 y1 h6 m6 j6 => ?_))
      · refine ga_cons (gv.mono fun d ⟨z, e, q⟩ => ⟨z, e, by omega⟩) ?_
        exact ga_cons ((gi_changed rfl gv (by decide)).mono fun d ⟨z, e, q⟩ => ⟨z, e, by omega⟩) ga_nil
      walk_at "e"
      refine hN _ _ ⟨m5.trans ((m8.mono fun _ z => .inl z).trans m6), j6, _, _, _, _, rfl, h6, by rw [List.length_append]; omega, fun x hx => ?_⟩
      rcases List.mem_append.mp hx with h | h
      · exact x5 x h
      · exact isS_good (by decide) (y1 x h)
    · obtain ⟨m5, j5, xs, w2, w3, w4, rfl, hp, l5, x5⟩ := hI
      refine ⟨trivial, hN0 _ _ ⟨m5, j5, xs, _, _, _, rfl, hp, by rw [rng_len] at l5; omega, x5⟩⟩
  rintro ρ M10 ⟨m10, j10, xs10, w2, w3, w4, rfl, h10, l10, x10⟩
  refine t_seq (t_asg (t_lst ?_))
  refine (show GIs j _ (GA 12 (good 20)) _ from ?_) _ _ j10 fun ys M11 m11 j11 t11 => ⟨size_1000 (by rw [t11.1]; decide), fun q nq => ?_⟩
  · walk_at "ga"
    · refine gi_tupg (n := 1) (by decide) (by decide) (ga_cons (gi_tupg (n := 4) (by decide) (by decide) ?_) ga_nil)
      walk_at "ga"
    · refine gi_tupg (n := 4) (by decide) (by decide) ?_
      walk_at "ga"
    · refine gi_tupg (n := 1) (by decide) (by decide) ?_
      walk_at "ga"
    · refine gi_tupg (n := 1) (by decide) (by decide) ?_
      walk_at "ga"
    · exact gi_tupg (n := 0) (by decide) (by decide) ga_nil
  have h11 := m11 _ _ pj h10
  have pq := ne_free h11 nq
  walk_at "e"
  refine t_seq (t_ret (t_bin (t_var rfl (t_var rfl ?_))))
  refine ⟨xs10, ys, by rw [mup_ne pq]; exact h11, mup_same, size_1000 (by rw [t11.1]; omega), fun r nr => ?_⟩
  have j12 : JarOk (mup M11 q (.lst ys)) j := j11.keep (.fresh (S := fun _ => False) nq) (fun z => z)
  refine k r (xs10 ++ ys) _ (fun x hx => ?_) mup_same (j12.ne nr).symm ?_ (j12.keep (.fresh (S := fun _ => False) nr) (fun z => z))
  · rcases List.mem_append.mp hx with h | h
    · exact x10 x h
    · exact good_mono (by decide) (t11.2 x h)
  · exact (keep_two np0 m10).trans (m11.trans ((MKeep.fresh nq).trans (.fresh nr)))
theorem cutD_len (ds : List D) (lo hi : Option Int) : (cutD ds lo hi).length ≤ ds.length := by
  unfold cutD
  rw [List.length_take, List.length_drop]
  omega
theorem cutD_mem {ds : List D} {lo hi : Option Int} {x : D} (h : x ∈ cutD ds lo hi) : x ∈ ds := List.mem_of_mem_drop (List.mem_of_mem_take h)
/-! ### spoilt -/
def Trl (d : D) : Prop := ∃ rs a, d = .tup [.tup rs, .int a] ∧ good 100 (.tup rs) ∧ 0 ≤ a ∧ a < rs.length
def sp_spoilt : DSp := fun ds M P => ∃ j d, ds = [.ref j, d] ∧ good 100 d ∧ JarOk M j ∧ draws j (good 101) M P
theorem ok_spoilt (ds : List D) (M : Mh) (P : PQ) (h : sp_spoilt ds M P) : b__law_spoilt sp_pick sp_odd { nx := fun _ M' => P .non M', rt := P } (startD 9 ds) M := by
  obtain ⟨j, d0, rfl, g0, hj, k⟩ := h
  unfold b__law_spoilt
  walk_at "s"
  refine ⟨by walk_at "l", fun p np => ?_⟩
  have pj : p ≠ j := (hj.ne np).symm
  have hj1 := hj.keep (.fresh (S := fun _ => False) (o := .lst []) np) (fun z => z)
  walk_at "e"
  walk_at "s"
  refine t_cut (fun ρ M' => MKeep (fun a => a = j ∨ a = p) M M' ∧ JarOk M' j ∧ ∃ (ts : List D) (now : D) (w4 w5 : Option D), ρ = [some (.ref j), some d0, some (.ref p), some now, w4, w5, none, none, none] ∧ M' p = some (.lst ts) ∧ ts.length ≤ 8 ∧ (∀ x ∈ ts, Trl x) ∧ good 100 now) (fun N0 hN0 => ?_) ?_
  · walk_at "e"
    refine ⟨by decide, ?_⟩
    refine for_each (fun i ρ M' => MKeep (fun a => a = j ∨ a = p) M M' ∧ JarOk M' j ∧ ∃ (ts : List D) (now : D) (w4 w5 : Option D), ρ = [some (.ref j), some d0, some (.ref p), some now, w4, w5, none, none, none] ∧ M' p = some (.lst ts) ∧ ts.length = i ∧ (∀ x ∈ ts, Trl x) ∧ good 100 now)
      ⟨.trans (.fresh np) .refl, hj1, [], d0, _, _, rfl, mup_same, rfl, by simp, g0⟩ (fun N i d ρ M' hd hI hN => ?_) (fun ρ M' hI => ?_)
    · obtain ⟨m3, j3, ts, now, w4, w5, rfl, hp, hl, ht, gn⟩ := hI
      obtain ⟨rfl, hi⟩ := rng_get hd
      have hi : i < 8 := hi
      refine ⟨trivial, ?_⟩
      have out : N0 [some (.ref j), some d0, some (.ref p), some now, some (.int (0 + (i : Int))), w5, none, none, none] M' := hN0 _ _ ⟨m3, j3, ts, now, _, _, rfl, hp, by omega, ht, gn⟩
      cases now <;> first | exact False.elim gn | skip
      all_goals (walk_at "e"; walk_at "s"; refine t_ite (fun e => ?_) (fun e => ?_) <;> first | (cases e; done) | skip)
      all_goals first | (refine t_if1 rfl ?_; walk_at "d"; exact out) | skip
      rename_i rs
      obtain ⟨rl, rg⟩ := good_tup.mp gn
      walk_at "e"
      refine t_ite (fun e => ?_) (fun e => ?_)
      · refine t_if1 rfl ?_
        walk_at "d"
        exact out
      walk_at "e"
      have r0 : 0 < rs.length := by
        cases rs with
        | nil => simp at e
        | cons a r => simp
      refine c_pick j3 (by decide) fun c o1 c0 c1 j4 => ?_
      have hp4 : (mup M' j o1) p = some (.lst ts) := by rw [mup_ne pj]; exact hp
      have m4 := m3.trans (MKeep.put (M := M') (o := o1) (.inl rfl))
      walk_at "e"
      refine t_ite (fun e2 => ?_) (fun e2 => ?_)
      · walk_at "d"
        exact hN0 _ _ ⟨m4, j4, ts, _, _, _, rfl, hp4, by omega, ht, gn⟩
      walk_at "e"
      walk_at "s"
      refine c_pick j4 (by omega) fun at' o2 a0 a1 j5 => ?_
      walk_at "e"
      have hp5 : (mup (mup M' j o1) j o2) p = some (.lst ts) := by rw [mup_ne pj]; exact hp4
      have m5 := m4.trans (MKeep.put (M := mup M' j o1) (o := o2) (.inl rfl))
      generalize mup (mup M' j o1) j o2 = M5 at hp5 m5 j5
      refine t_seq (t_exp (app_run (T := Trl) rfl hp5 j5 pj ?_ (by omega) fun y M6 hy h6 m6 j6 => ?_))
      · refine gi_tup (U := (· = [.tup rs, .int at'])) (gis_cons (A := (· = .tup rs)) (U := (· = [.int at'])) (gi_v rfl rfl) (gis_cons (A := (· = .int at')) (U := (· = [])) (gi_v rfl rfl) gis_nil fun x xs e1 e2 => by subst e1 e2; rfl) fun x xs e1 e2 => by subst e1 e2; rfl) fun xs e => ?_
        subst e
        exact ⟨size_1000 (show 2 ≤ 100000 by decide), rs, at', rfl, gn, a0, a1⟩
      obtain ⟨d, h1, h2, _⟩ := atI_mem (ds := rs) a0 a1
      walk_at "d"
      refine hN _ _ ⟨m5.trans m6, j6, _, d, _, _, rfl, h6, by rw [List.length_append, hl]; rfl, fun x hx => ?_, rg d h2⟩
      rcases List.mem_append.mp hx with h | h
      · exact ht x h
      · rw [List.mem_singleton.mp h]; exact hy
    · obtain ⟨m3, j3, ts, now, w4, w5, rfl, hp, hl, ht, gn⟩ := hI
      exact ⟨trivial, hN0 _ _ ⟨m3, j3, ts, now, _, _, rfl, hp, by rw [rng_len] at hl; exact Nat.le_of_eq hl, ht, gn⟩⟩
  rintro ρ M1 ⟨m1, j1, ts, now, w4, w5, rfl, hp, hl, ht, gn⟩
  walk_at "s"
  refine c_pick j1 (by decide) fun way o2 a0 a1 j2 => ?_
  have hp2 : (mup M1 j o2) p = some (.lst ts) := by rw [mup_ne pj]; exact hp
  have m2 := m1.trans (MKeep.put (M := M1) (o := o2) (.inl rfl))
  generalize mup M1 j o2 = M2 at hp2 m2 j2
  walk_at "e"
  walk_at "s"
  refine ⟨rfl, j, rfl, j2, fun od M3 m3 j3 god => ?_⟩
  have hp3 := m3 _ _ pj hp2
  have m3 := m2.trans (m3.mono fun _ z => .inl z)
  walk_at "e"
  refine t_cut (fun ρ M' => MKeep (fun a => a = j ∨ a = p) M M' ∧ JarOk M' j ∧ ∃ (fresh : D), ρ = [some (.ref j), some d0, some (.ref p), some now, w4, w5, some (.int way), some fresh, none] ∧ M' p = some (.lst ts) ∧ good 101 fresh) (fun N0 hN0 => ?_) ?_
  · have out : N0 [some (.ref j), some d0, some (.ref p), some now, w4, w5, some (.int way), some od, none] M3 := hN0 _ _ ⟨m3, j3, od, rfl, hp3, good_mono (by decide) god⟩
    walk_at "e"
    refine t_ite (fun e => ?_) (fun e => ?_)
    · cases now <;> first | exact False.elim gn | skip
      all_goals (walk_at "e"; refine t_ite (fun e => ?_) (fun e => ?_) <;> first | (cases e; done) | skip)
      all_goals first | (refine t_if0 rfl ?_; walk_at "e"; exact out) | skip
      · walk_at "e"
        refine t_if0 rfl ?_
        walk_at "e"
        exact out
      · walk_at "e"
        refine t_if1 rfl ?_
        walk_at "d"
        refine c_pick j3 (by decide) fun c o4 c0 c1 j4 => ?_
        walk_at "d"
        exact hN0 _ _ ⟨m3.trans (.put (.inl rfl)), j4, _, rfl, by rw [mup_ne pj]; exact hp3, trivial⟩
    · refine t_if0 rfl ?_
      walk_at "e"
      exact out
  rintro ρ M4 ⟨m4, j4, fr, rfl, hp4, gf⟩
  refine t_cut (fun ρ M' => M' = M4 ∧ ∃ (fresh : D) (w4 w5 w8 : Option D), ρ = [some (.ref j), some d0, some (.ref p), some now, w4, w5, some (.int way), some fresh, w8] ∧ good 101 fresh) (fun N0 hN0 => ?_) ?_
  · walk_at "e"
    refine ⟨by omega, ?_⟩
    refine for_each (fun i ρ M' => M' = M4 ∧ ∃ (fresh : D) (w4 w5 w8 : Option D), ρ = [some (.ref j), some d0, some (.ref p), some now, w4, w5, some (.int way), some fresh, w8] ∧ good 101 fresh) ⟨rfl, fr, _, _, _, rfl, gf⟩ (fun N i d ρ M' hd hI hN => ?_) (fun ρ M' hI => ?_)
    · obtain ⟨rfl, fresh, w4, w5, w8, rfl, gf⟩ := hI
      obtain ⟨rfl, hi⟩ := rng_get hd
      have hi : i < ts.length := by omega
      refine ⟨trivial, ?_⟩
      obtain ⟨y, h1, h2, _⟩ := atI_mem (ds := ts) (k := (ts.length : Int) - 1 - (0 + (i : Int))) (by omega) (by omega)
      obtain ⟨rs, at', rfl, gr, b0, b1⟩ := ht y h2
      obtain ⟨rl, rg⟩ := good_tup.mp gr
      obtain ⟨z, g1, g2, _⟩ := atI_mem (ds := rs) b0 b1
      have c1 := cutD_len rs none (some at')
      have c2 := cutD_len rs (some (at' + 1)) none
      have c3 := cutD_len rs (some at') none
      have e1 : (cutD rs none (some at')).length = at'.toNat := by
        obtain ⟨n, rfl⟩ := Int.eq_ofNat_of_zero_le b0
        unfold cutD
        rw [HT.sIx_none, HT.sIx_nat]
        simp
        omega
      have e2 : (cutD rs (some (at' + 1)) none).length + at'.toNat + 1 ≤ rs.length := by
        obtain ⟨n, rfl⟩ := Int.eq_ofNat_of_zero_le b0
        unfold cutD
        rw [HT.sIx_none, show ((n : Int) + 1) = ((n + 1 : Nat) : Int) by omega, HT.sIx_nat]
        simp
        omega
      have fin : ∀ zs : List D, zs.length ≤ 101 → (∀ x ∈ zs, good 101 x) → N [some (.ref j), some d0, some (.ref p), some now, some (.int (0 + (i : Int))), some (.int at'), some (.int way), some (.tup zs), some (.tup rs)] M' := fun zs l h => hN _ _ ⟨rfl, _, _, _, _, rfl, good_tup.mpr ⟨l, h⟩⟩
      have inr : ∀ {lo hi} x, x ∈ cutD rs lo hi → good 101 x := fun x hx => good_mono (by decide) (rg x (cutD_mem hx))
      walk_at "e"
      walk_at "s"
      walk_at "s"
      refine t_ite (fun q1 => ?_) (fun q1 => ?_)
      · walk_at "e"
        refine t_ite (fun q2 => ?_) (fun q2 => ?_)
        · walk_at "d"
          refine fin _ (by simp only [List.length_append]; omega) fun x hx => ?_
          rcases List.mem_append.mp hx with hx | hx <;> exact inr x hx
        · walk_at "s"
          refine t_if1 q1 ?_
          walk_at "e"
          refine t_ite (fun q3 => ?_) (fun q3 => ?_)
          · walk_at "d"
            refine ⟨size_1000 (show 1 ≤ 100000 by decide), ?_⟩
            walk_at "d"
            have e4 : (cutD rs (some at') none).length + at'.toNat ≤ rs.length := by
              obtain ⟨n, rfl⟩ := Int.eq_ofNat_of_zero_le b0
              unfold cutD
              rw [HT.sIx_none, HT.sIx_nat]
              simp
              omega
            refine fin _ ?_ fun x hx => ?_
            · simp only [List.length_append, List.length_singleton]; omega
            rcases List.mem_append.mp hx with hx | hx
            · rcases List.mem_append.mp hx with hx | hx
              · exact inr x hx
              · rw [List.mem_singleton.mp hx]; exact good_mono (by decide) (rg z g2)
            · exact inr x hx
          · walk_at "d"
            refine ⟨size_1000 (show 1 ≤ 100000 by decide), ?_⟩
            walk_at "d"
            refine fin _ ?_ fun x hx => ?_
            · simp only [List.length_append, List.length_singleton]; omega
            rcases List.mem_append.mp hx with hx | hx
            · rcases List.mem_append.mp hx with hx | hx
              · exact inr x hx
              · rw [List.mem_singleton.mp hx]; exact gf
            · exact inr x hx
      · refine t_if0 rfl ?_
        walk_at "e"
        walk_at "s"
        refine t_if0 q1 ?_
        refine t_if0 rfl ?_
        walk_at "d"
        refine ⟨size_1000 (show 1 ≤ 100000 by decide), ?_⟩
        walk_at "d"
        refine fin _ ?_ fun x hx => ?_
        · simp only [List.length_append, List.length_singleton]; omega
        rcases List.mem_append.mp hx with hx | hx
        · rcases List.mem_append.mp hx with hx | hx
          · exact inr x hx
          · rw [List.mem_singleton.mp hx]; exact gf
        · exact inr x hx
    · obtain ⟨rfl, fresh, w4, w5, w8, rfl, gf⟩ := hI
      exact ⟨trivial, hN0 _ _ ⟨rfl, fresh, _, _, _, rfl, gf⟩⟩
  rintro ρ M5 ⟨rfl, fresh, w4, w5, w8, rfl, gf⟩
  walk_at "d"
  exact k _ _ (keep_two np m4) j4 gf
end K01
/-! LXb: bodies of helpers that the laws of machines have, as gen.py prints them. -/
namespace LX
open PySem DL
/-- slots: 0 jar 1 index 2 letters 3 word 4 count 5 at -/
def b_name (c_pick : List D → Mh → PQ → Prop) : DS :=
  (sSeq (sAsg (eC (.str "abcdefghijklmnopqrstuvwxyz")) (gN 2))
  (sSeq (sAsg (eBin ixD (eVar 2) (eFn 2 c_pick (aCons (eVar 0) (aCons (eC (.int 26)) aNil)))) (gN 3))
  (sSeq (sFor (iRg1 (aCons (eBin ixD (eLst (aCons (eC (.int 0)) (aCons (eC (.int 0)) (aCons (eC (.int 1)) (aCons (eC (.int 2)) (aCons (eC (.int 6)) aNil)))))) (eFn 2 c_pick (aCons (eVar 0) (aCons (eC (.int 5)) aNil)))) aNil)) (gN 4)
   (sSeq (sAsg (eBin addD (eVar 3) (eBin ixD (eVar 2) (eFn 2 c_pick (aCons (eVar 0) (aCons (eC (.int 26)) aNil))))) (gN 3))
   sNil))
  (sSeq (sAsg (eBin addD (eC (.int 1)) (eFn 2 c_pick (aCons (eVar 0) (aCons (eCall lenD (aCons (eVar 3) aNil)) aNil)))) (gN 5))
  (sSeq (sRet (eBin addD (eBin addD (eSl (eVar 3) none (some (eVar 5))) (eCall strD (aCons (eVar 1) aNil))) (eSl (eVar 3) (some (eVar 5)) none)))
  sNil)))))
/-- slots: 0 jar 1 many 2 index -/
def b_names (c_name : List D → Mh → PQ → Prop) : DS :=
  (sSeq (sRet (eLC (iRg1 (aCons (eVar 1) aNil)) (.nm 2) bYes (eFn 2 c_name (aCons (eVar 0) (aCons (eVar 2) aNil))) [2]))
  sNil)
/-- slots: 0 jar 1 way 2 value 3 low -/
def b_span (c_pick : List D → Mh → PQ → Prop) : DS :=
  (sSeq (sAsg (eFn 2 c_pick (aCons (eVar 0) (aCons (eC (.int 6)) aNil))) (gN 1))
  (sSeq (sIf (bCmp ltD (eVar 1) (eC (.int 2)))
   (sSeq (sRet (eTup (aCons (eC (.int 0)) (aCons (eC (.int 0)) aNil))))
   sNil)
   sNil)
  (sSeq (sIf (bCmp eqD (eVar 1) (eC (.int 2)))
   (sSeq (sAsg (eFn 2 c_pick (aCons (eVar 0) (aCons (eC (.int 12)) aNil))) (gN 2))
   (sSeq (sRet (eTup (aCons (eVar 2) (aCons (eVar 2) aNil))))
   sNil))
   sNil)
  (sSeq (sIf (bCmp eqD (eVar 1) (eC (.int 3)))
   (sSeq (sRet (eTup (aCons (eFn 2 c_pick (aCons (eVar 0) (aCons (eC (.int 1000)) aNil))) (aCons (eBin subD (eC (.int 999999)) (eFn 2 c_pick (aCons (eVar 0) (aCons (eC (.int 3)) aNil)))) aNil))))
   sNil)
   sNil)
  (sSeq (sAsg (eFn 2 c_pick (aCons (eVar 0) (aCons (eC (.int 6)) aNil))) (gN 3))
  (sSeq (sRet (eTup (aCons (eVar 3) (aCons (eBin addD (eVar 3) (eFn 2 c_pick (aCons (eVar 0) (aCons (eC (.int 9)) aNil)))) aNil))))
  sNil))))))
/-- slots: 0 jar 1 labels 2 count 3 goals 4 found 5 used 6 index 7 label 8 again 9 word 10 span 11 low 12 high -/
def b_moves (c_pick : List D → Mh → PQ → Prop) (c_span : List D → Mh → PQ → Prop) : DS :=
  (sSeq (sAsg (eLst aNil) (gN 4))
  (sSeq (sAsg (eLst aNil) (gN 5))
  (sSeq (sFor (iRg1 (aCons (eVar 2) aNil)) (gN 6)
   (sSeq (sAsg (eBin ixD (eVar 1) (eBin modD (eCall intD (aCons (eVar 6) aNil)) (eCall lenD (aCons (eVar 1) aNil)))) (gN 7))
   (sSeq (sAsg (eCall lenD (aCons (eLC (iSeq (eVar 5)) (.nm 9) (bCmp eqD (eVar 9) (eVar 7)) (eVar 9) [9]) aNil)) (gN 8))
   (sSeq (sExp (eMt "list" appendD (eVar 5) (aCons (eVar 7) aNil)))
   (sSeq (sAsg (eFn 1 c_span (aCons (eVar 0) aNil)) (gN 10))
   (sSeq (sAsg (eBin addD (eBin mulD (eVar 8) (eC (.int 1000))) (eBin modD (eCall intD (aCons (eBin ixD (eVar 10) (eC (.int 0))) aNil)) (eC (.int 1000)))) (gN 11))
   (sSeq (sAsg (eBin addD (eBin mulD (eVar 8) (eC (.int 1000))) (eC (.int 999))) (gN 12))
   (sSeq (sIf (bCmp ltD (eBin subD (eBin ixD (eVar 10) (eC (.int 1))) (eBin ixD (eVar 10) (eC (.int 0)))) (eBin subD (eC (.int 999)) (eBin modD (eCall intD (aCons (eBin ixD (eVar 10) (eC (.int 0))) aNil)) (eC (.int 1000)))))
    (sSeq (sAsg (eBin addD (eVar 11) (eBin subD (eBin ixD (eVar 10) (eC (.int 1))) (eBin ixD (eVar 10) (eC (.int 0))))) (gN 12))
    sNil)
    sNil)
   (sSeq (sIf (bAnd (bCmp eqD (eVar 8) (eC (.int 0))) (bAnd (bCmp leD (eVar 2) (eCall lenD (aCons (eVar 1) aNil))) (bCmp gtD (eBin ixD (eVar 10) (eC (.int 1))) (eC (.int 900000)))))
    (sSeq (sAsg (eBin ixD (eVar 10) (eC (.int 1))) (gN 12))
    sNil)
    sNil)
   (sSeq (sExp (eMt "list" appendD (eVar 4) (aCons (eTup (aCons (eVar 7) (aCons (eVar 11) (aCons (eVar 12) (aCons (eBin ixD (eVar 3) (eFn 2 c_pick (aCons (eVar 0) (aCons (eCall lenD (aCons (eVar 3) aNil)) aNil)))) aNil))))) aNil)))
   sNil))))))))))
  (sSeq (sRet (eCall sortedD (aCons (eVar 4) aNil)))
  sNil))))
/-- slots: 0 jar 1 partners 2 labels 3 many 4 found 5 at 6 kind 7 count 8 goals 9 moves 10 move -/
def b_machine (c_pick : List D → Mh → PQ → Prop) (c_moves : List D → Mh → PQ → Prop) : DS :=
  (sSeq (sAsg (eLst aNil) (gN 4))
  (sSeq (sFor (iRg1 (aCons (eBin subD (eVar 3) (eC (.int 1))) aNil)) (gN 5)
   (sSeq (sAsg (eBin ixD (eLst (aCons (eC (.str "say")) (aCons (eC (.str "hear")) aNil))) (eFn 2 c_pick (aCons (eVar 0) (aCons (eC (.int 2)) aNil)))) (gN 6))
   (sSeq (sAsg (eBin addD (eC (.int 1)) (eBin ixD (eLst (aCons (eC (.int 0)) (aCons (eC (.int 0)) (aCons (eC (.int 1)) (aCons (eC (.int 1)) (aCons (eC (.int 2)) aNil)))))) (eFn 2 c_pick (aCons (eVar 0) (aCons (eC (.int 5)) aNil))))) (gN 7))
   (sSeq (sAsg (eLst (aCons (eBin addD (eVar 5) (eC (.int 1))) (aCons (eFn 2 c_pick (aCons (eVar 0) (aCons (eVar 3) aNil))) (aCons (eFn 2 c_pick (aCons (eVar 0) (aCons (eVar 3) aNil))) aNil)))) (gN 8))
   (sSeq (sAsg (eLC (iSeq (eFn 4 c_moves (aCons (eVar 0) (aCons (eVar 2) (aCons (eVar 7) (aCons (eVar 8) aNil)))))) (.nm 10) bYes (eCall listD (aCons (eVar 10) aNil)) [10]) (gN 9))
   (sSeq (sAsg (eBin addD (eVar 5) (eC (.int 1))) (gS (eBin ixD (eVar 9) (eFn 2 c_pick (aCons (eVar 0) (aCons (eCall lenD (aCons (eVar 9) aNil)) aNil)))) (eC (.int 3))))
   (sSeq (sExp (eMt "list" appendD (eVar 4) (aCons (eTup (aCons (eVar 6) (aCons (eBin ixD (eVar 1) (eFn 2 c_pick (aCons (eVar 0) (aCons (eCall lenD (aCons (eVar 1) aNil)) aNil)))) (aCons (eCall tupleD (aCons (eLC (iSeq (eVar 9)) (.nm 10) bYes (eCall tupleD (aCons (eVar 10) aNil)) [10]) aNil)) aNil)))) aNil)))
   sNil)))))))
  (sSeq (sExp (eMt "list" appendD (eVar 4) (aCons (eTup (aCons (eC (.str "end")) aNil)) aNil)))
  (sSeq (sRet (eCall tupleD (aCons (eVar 4) aNil)))
  sNil))))
/-- slots: 0 jar 1 names 2 found -/
def b_edged (c_pick : List D → Mh → PQ → Prop) : DS :=
  (sSeq (sAsg (eCall listD (aCons (eVar 1) aNil)) (gN 2))
  (sSeq (sAsg (eBin ixD (eLst (aCons (eC (.str "a")) (aCons (eC (.str "z")) (aCons (eC (.str "machines")) (aCons (eC (.str "a2345678")) aNil))))) (eFn 2 c_pick (aCons (eVar 0) (aCons (eC (.int 4)) aNil)))) (gS (eVar 2) (eFn 2 c_pick (aCons (eVar 0) (aCons (eCall lenD (aCons (eVar 2) aNil)) aNil)))))
  (sSeq (sRet (eVar 2))
  sNil)))
end LX
/-! LXg: names, moves and machines that the laws draw. -/
namespace LX
open PySem DL L2
-- what the heap holds at a place
local macro_rules | `(tactic| walk_at "h") => `(tactic| first
  | assumption
  | exact mup_same
  | (refine (mup_ne ?_).trans ?_ <;> first | assumption | (apply Ne.symm; assumption) | walk_at "h"))
-- small facts of numbers
local macro_rules | `(tactic| walk_at "n") => `(tactic| first
  | assumption
  | omega
  | decide
  | (exact CMul.r (by decide))
  | (exact CMul.l (by decide))
  | (refine ⟨?_, ?_⟩ <;> first | assumption | omega | decide))
-- lengths
local macro_rules | `(tactic| walk_at "l") => `(tactic| first
  | assumption
  | (rw [sizeLine_eq]; first | omega | decide | (simp; done) | (simp; omega) | decide +kernel))
-- one step
local macro_rules | `(tactic| walk_at "e1") => `(tactic| first
  | with_reducible refine t_nil ?_
  | ((with_reducible refine' t_var ?s ?_); (case s => first | assumption | exact rfl))
  | with_reducible refine t_c ?_
  | with_reducible refine t_bin ?_
  | with_reducible refine t_if ?_
  | with_reducible refine t_asg ?_
  | with_reducible refine t_gN ?_
  | with_reducible refine t_ret ?_
  | with_reducible refine t_exp ?_
  | with_reducible refine t_bcmp ?_
  | with_reducible refine t_band ?_
  | with_reducible refine t_bor ?_
  | with_reducible refine t_bnot ?_
  | with_reducible refine t_btru ?_
  | with_reducible refine t_byes ?_
  | with_reducible refine t_an ?_
  | with_reducible refine t_ac ?_
  | with_reducible refine t_fn ?_
  | with_reducible refine t_call ?_
  | with_reducible refine t_cmp ?_
  | with_reducible refine t_and ?_
  | with_reducible refine t_or ?_
  | with_reducible refine t_not ?_
  | with_reducible refine t_ife ?_
  | with_reducible refine t_tup ?_
  | with_reducible refine t_lst ?_
  | with_reducible refine t_isi ?_
  | with_reducible refine t_sl ?_
  | with_reducible refine t_o0 ?_
  | with_reducible refine t_o1 ?_
  | with_reducible refine t_un ?_
  | with_reducible refine t_mt ?_
  | with_reducible refine t_gS ?_
  | with_reducible refine t_gsC ?_
  | with_reducible refine t_gsN ?_
  | ((with_reducible refine t_gT ?s ?_); (case s => first | assumption | exact rfl))
  | with_reducible refine t_retN ?_
  | with_reducible refine t_brk ?_
  | with_reducible refine t_cnt ?_
  | ((with_reducible refine' t_aug ?s ?_); (case s => first | assumption | exact rfl))
  | with_reducible refine t_for ?_
  | with_reducible refine t_seqi ?_
  | with_reducible refine t_rg1 ?_
  | with_reducible refine t_rg2 ?_
  | with_reducible refine t_lc ?_
  | with_reducible refine v_tru_bl ?_
  | with_reducible refine v_tru_int ?_
  | with_reducible refine v_tru_non ?_
  | with_reducible refine v_tru_tup ?_
  | with_reducible refine v_add_int ?_
  | ((with_reducible refine v_add_str ?l ?_); (case l => walk_at "l"))
  | ((with_reducible refine v_add_tup ?l ?_); (case l => walk_at "l"))
  | with_reducible refine v_iadd_int ?_
  | with_reducible refine v_sub ?_
  | ((with_reducible refine v_mul ?c ?_); (case c => walk_at "n"))
  | ((with_reducible refine v_div ?c ?_); (case c => walk_at "n"))
  | ((with_reducible refine v_mod ?c ?_); (case c => walk_at "n"))
  | ((with_reducible refine v_pow ?c ?_); (case c => exact ⟨by decide, by decide, by decide⟩))
  | with_reducible refine v_neg ?_
  | with_reducible exact trivial
  | with_reducible refine v_eq_int ?_
  | with_reducible refine v_eq_str ?_
  | with_reducible refine v_eq_bl ?_
  | with_reducible refine v_ne_int ?_
  | with_reducible refine v_ne_str ?_
  | with_reducible refine v_ne_bl ?_
  | with_reducible refine v_lt ?_
  | with_reducible refine v_lt_str ?_
  | with_reducible refine t_ks ?_
  | with_reducible refine t_rv ?_
  | with_reducible refine v_seq_ktp ?_
  | ((with_reducible refine' v_extend ?e ?f ?l ?_); (case e => walk_at "h"); (case f => walk_at "h"); (case l => walk_at "l"))
  | with_reducible refine v_le ?_
  | with_reducible refine v_gt ?_
  | with_reducible refine v_ge ?_
  | with_reducible refine v_isi_non ?_
  | with_reducible refine v_isi_bl ?_
  | with_reducible refine v_isi_int ?_
  | with_reducible refine v_isi_str ?_
  | with_reducible refine v_isi_tup ?_
  | with_reducible refine v_in_str ?_
  | with_reducible refine v_nin_str ?_
  | with_reducible refine v_len_tup ?_
  | with_reducible refine v_len_rol ?_
  | ((with_reducible refine v_len_str ?l ?_); (case l => walk_at "l"))
  | ((with_reducible refine' v_len_ref ?e ?_); (case e => walk_at "h"))
  | with_reducible refine v_int_int ?_
  | with_reducible refine v_max ?_
  | with_reducible refine v_min ?_
  | with_reducible refine v_tuple_tup ?_
  | ((with_reducible refine' v_tuple_ref ?e ?_); (case e => walk_at "h"))
  | ((with_reducible refine' v_ix_ref ?e ?f ?_); (case e => walk_at "h"); (case f => first | assumption | exact rfl))
  | ((with_reducible refine' v_ix_tup ?f ?_); (case f => first | assumption | exact rfl))
  | ((with_reducible refine' v_set ?e ?f ?_); (case e => walk_at "h"); (case f => first | assumption | exact rfl))
  | ((with_reducible refine v_sl_str ?l ?_); (case l => walk_at "l"))
  | with_reducible refine v_sl_tup ?_
  | with_reducible refine v_seq_tup ?_
  | with_reducible refine v_seq_str ?_
  | with_reducible refine v_seq_rol ?_
  | ((with_reducible refine' v_seq_ref ?e ?_); (case e => walk_at "h"))
  | ((with_reducible refine' ⟨v_ty_ref ?e, ?_⟩); (case e => walk_at "h"))
  | ((with_reducible refine' v_append ?e ?l ?_); (case e => walk_at "h"); (case l => walk_at "l")))
local macro_rules | `(tactic| walk_at "d1") => `(tactic| first | with_reducible refine t_seq ?_ | walk_at "e1")
local macro_rules | `(tactic| walk_at "d") => `(tactic| repeat walk_at "d1")
-- one statement
local macro_rules | `(tactic| walk_at "e") => `(tactic| ((repeat walk_at "e1"); try (with_reducible show sSeq _ _ _ _ _)))
local macro_rules | `(tactic| walk_at "s") => `(tactic| ((with_reducible refine t_seq ?_); walk_at "e"))
-- a drawn thing's small facts
local macro_rules | `(tactic| walk_at "gi") => `(tactic| first
  | exact gi_c trivial
  | exact gi_c ⟨_, rfl, by decide, by decide⟩
  | exact gi_c (show _ ≤ _ by decide)
  | exact gi_c (show _ ≤ _ by decide +kernel)
  | exact gi_v rfl trivial)
local macro_rules | `(tactic| walk_at "ga") => `(tactic| ((repeat (first | exact ga_nil | refine ga_cons2 ?_ ?_)); all_goals (try walk_at "gi")))
abbrev draws (j : Addr) (T : D → Prop) (M : Mh) (P : PQ) : Prop := ∀ d M', MKeep (· = j) M M' → JarOk M' j → T d → P d M'
theorem sz {n : Nat} (h : n ≤ 100000) : n ≤ sizeLine := by rw [sizeLine_eq]; omega
theorem keep_two {M M' : Mh} {j p : Addr} (np : M p = none) (m : MKeep (fun a => a = j ∨ a = p) M M') : MKeep (· = j) M M' := fun a o na h => by
  have hap : a ≠ p := ne_free h np
  exact m a o (fun z => by rcases z with z | z; exact na z; exact hap z) h
theorem jar_put {M : Mh} {j p : Addr} {o : MO} (h : JarOk M j) (n : j ≠ p) : JarOk (mup M p o) j := by
  obtain ⟨a, b, c, q, r⟩ := h
  exact ⟨a, b, c, by rw [mup_ne n]; exact q, r⟩
theorem jar_fresh {M : Mh} {j p : Addr} {o : MO} (h : JarOk M j) (n : M p = none) : JarOk (mup M p o) j := jar_put h (h.ne n)
theorem rget {lo : Int} {n i : Nat} {d : D} (h : (rngI lo n)[i]? = some d) : d = .int (lo + (i : Int)) ∧ i < n := ⟨(DL.rng_get h).2, (DL.rng_get h).1⟩
theorem rlen {lo : Int} {n : Nat} : (rngI lo n).length = n := by simp [rngI]
theorem take_snoc {α : Type} {ms : List α} {i : Nat} {m : α} (e : ms[i]? = some m) : ms.take (i + 1) = ms.take i ++ [m] := by
  rw [List.take_add_one, e]; rfl
theorem str_small {x : Int} (h0 : 0 ≤ x) (h1 : x ≤ 999999) : (x.natAbs.log2 < 1920) ∧ (PySem.Str.ofString (toString x)).length ≤ 10 := by
  constructor
  · have : x.natAbs < 2 ^ 1920 := Nat.lt_of_lt_of_le (show x.natAbs < 2 ^ 20 by omega) (Nat.pow_le_pow_right (by decide) (by decide))
    by_cases z : x.natAbs = 0
    · rw [z]; decide
    · exact (Nat.log2_lt z).mpr this
  · exact PySem.W.KT.len_num h0 (by omega)
/-- small signs alone -/
def SmS (z : Str) : Prop := ∀ c ∈ z.cps.toList, c < 128
theorem lit_app (y z : Str) : (y ++ z).cps.toList = y.cps.toList ++ z.cps.toList := by
  have h := st_app (lit y) (lit z)
  rw [st_lit, st_lit] at h
  rw [h, st_cps]; rfl
theorem SmS.app {y z : Str} (h : SmS y) (k : SmS z) : SmS (y ++ z) := fun c hc => by
  rw [lit_app] at hc
  rcases List.mem_append.mp hc with hc | hc
  · exact h c hc
  · exact k c hc
theorem SmS.cut {z : Str} (h : SmS z) (lo hi : Option Int) : SmS (cutS z lo hi) := fun c hc => by
  rw [← st_lit z, st_cut, st_cps] at hc
  exact h c (List.mem_of_mem_drop (List.mem_of_mem_take hc))
theorem SmS.num {x : Int} (h0 : 0 ≤ x) (h1 : x ≤ 9) : SmS (PySem.Str.ofString (toString x)) := by
  have : x = 0 ∨ x = 1 ∨ x = 2 ∨ x = 3 ∨ x = 4 ∨ x = 5 ∨ x = 6 ∨ x = 7 ∨ x = 8 ∨ x = 9 := by omega
  unfold SmS
  rcases this with rfl | rfl | rfl | rfl | rfl | rfl | rfl | rfl | rfl | rfl <;> decide +kernel
abbrev L26 : Str := "abcdefghijklmnopqrstuvwxyz"
def sp_name : DSp := fun ds M P => ∃ j i, ds = [.ref j, .int i] ∧ JarOk M j ∧ 0 ≤ i ∧ i ≤ 9 ∧ ∀ (z : Str) M', z.length ≤ 40 → SmS z → MKeep (· = j) M M' → JarOk M' j → P (.str z) M'
theorem L26_sm {x : Nat} (h : x ∈ L26.cps.toList) : x < 128 := by
  have a : L26.cps.toList.all (fun c => decide (c < 128)) = true := by decide +kernel
  exact of_decide_eq_true (List.all_eq_true.mp a x h)
theorem SmS.one {x : Nat} (h : x ∈ L26.cps.toList) : SmS (⟨#[x]⟩ : Str) := fun c hc => by
  have : c = x := by simpa using hc
  rw [this]; exact L26_sm h
theorem ok_name (ds : List D) (M : Mh) (P : PQ) (h : sp_name ds M P) : b_name sp_pick { nx := fun _ M' => P .non M', rt := P } (startD 6 ds) M := by
  obtain ⟨j, ix, rfl, hj, h0, h1, k⟩ := h
  have sm : L26.cps.toList.length = 26 := by decide +kernel
  have sm2 : ((("abcdefghijklmnopqrstuvwxyz" : String) : Str)).length = 26 := by decide +kernel
  have sm3 : L26.length = 26 := sm2
  unfold b_name
  walk_at "s"
  walk_at "s"
  refine c_pick hj (by decide) fun c o1 c0 c1 j1 => ?_
  obtain ⟨x, g1, g2, g3⟩ := atI_mem (ds := L26.cps.toList) c0 (by rw [sm]; omega)
  refine v_ix_str (sz (by omega)) g1 ?_
  walk_at "e"
  refine t_seq (t_for (t_rg1 (t_ac ?_)))
  refine (gi_menu (n := 5) (T := IsI 0 6) (h := 4) ?_ ?_ (by decide) (sz (by decide))).run j1 fun d M2 m2 j2 t2 => ?_
  · walk_at "ga"
  · exact gi_pick (m := 5) (h := 5) rfl (gi_c ⟨_, rfl, by decide, by decide⟩) (by decide) (by decide)
  obtain ⟨s, rfl, s0, s1⟩ := t2
  refine t_an ⟨by omega, ?_⟩
  refine for_each (fun i ρ M' => MKeep (· = j) M M' ∧ JarOk M' j ∧ ∃ (w : Str) (w4 : Option D), ρ = [some (.ref j), some (.int ix), some (.str L26), some (.str w), w4, none] ∧ w.length = 1 + i ∧ SmS w) ⟨keepj.trans m2, j2, _, _, rfl, rfl, SmS.one g2⟩ (fun N i d ρ M' hd hI hN => ?_) (fun ρ M' hI => ?_)
  · obtain ⟨m3, j3, w, w4, rfl, hw, hs⟩ := hI
    obtain ⟨rfl, hlt⟩ := rget hd
    refine ⟨trivial, ?_⟩
    walk_at "d"
    refine c_pick j3 (by decide) fun c o4 c0 c1 j4 => ?_
    obtain ⟨y, g1, g2, _⟩ := atI_mem (ds := L26.cps.toList) c0 (by rw [sm]; omega)
    refine v_ix_str (sz (by omega)) g1 ?_
    have ly : (⟨#[y]⟩ : Str).length = 1 := rfl
    refine v_add_str (sz (by omega)) ?_
    walk_at "d"
    exact hN _ _ ⟨m3.trans keepj, j4, _, _, rfl, by rw [str_app_len, hw, ly]; omega, hs.app (SmS.one g2)⟩
  · obtain ⟨m3, j3, w, w4, rfl, hw, hs⟩ := hI
    rw [rlen] at hw
    refine ⟨trivial, ?_⟩
    walk_at "e"
    walk_at "s"
    refine c_pick j3 (by omega) fun c o4 c0 c1 j4 => ?_
    walk_at "e"
    have l1 := str_cut_len w none (some (1 + c))
    have l2 := str_cut_len w (some (1 + c)) none
    obtain ⟨q1, q2⟩ := str_small h0 (show ix ≤ 999999 by omega)
    walk_at "d"
    refine ⟨q1, ?_⟩
    have e1 := str_app_len (cutS w none (some (1 + c))) (PySem.Str.ofString (toString ix))
    refine v_add_str (sz (by omega)) ?_
    walk_at "d"
    refine k _ _ ?_ (((hs.cut _ _).app (SmS.num h0 h1)).app (hs.cut _ _)) (m3.trans keepj) j4
    rw [str_app_len]
    omega
def sp_names : DSp := fun ds M P => ∃ j i, ds = [.ref j, .int i] ∧ JarOk M j ∧ 0 ≤ i ∧ i ≤ 10 ∧ ∀ (p : Addr) (zs : List Str) M', zs.length = i.toNat → (∀ z ∈ zs, z.length ≤ 40) → (∀ z ∈ zs, SmS z) → M' p = some (.lst (zs.map D.str)) → p ≠ j → M p = none → MKeep (· = j) M M' → JarOk M' j → P (.ref p) M'
theorem ok_names (ds : List D) (M : Mh) (P : PQ) (h : sp_names ds M P) : b_names sp_name { nx := fun _ M' => P .non M', rt := P } (startD 3 ds) M := by
  obtain ⟨j, n, rfl, hj, h0, h1, k⟩ := h
  unfold b_names
  walk_at "d"
  refine ⟨by omega, fun p np => ?_⟩
  have jp := hj.ne np
  refine lc_each (fun i acc M' => MKeep (fun a => a = j ∨ a = p) M M' ∧ JarOk M' j ∧ ∃ zs : List Str, acc = zs.map D.str ∧ (∀ z ∈ zs, z.length ≤ 40) ∧ ∀ z ∈ zs, SmS z) (by rw [rlen, sizeLine_eq]; omega) mup_same ⟨.put (.inr rfl), jar_fresh hj np, [], rfl, by simp, by simp⟩ (fun R i d acc M' hd hi hI hp hR => ?_) (fun acc M' ha hI hp => ?_)
  · obtain ⟨m1, j1, zs, rfl, hz, hs⟩ := hI
    obtain ⟨rfl, hlt⟩ := rget hd
    refine ⟨trivial, _, rfl, ?_⟩
    walk_at "e"
    refine ⟨rfl, j, _, rfl, j1, by omega, by omega, fun z M2 lz sz m2 j2 => ?_⟩
    refine hR _ _ (m2 _ _ jp.symm hp) ⟨(m1.trans (m2.mono fun _ z => .inl z)).trans (.put (.inr rfl)), jar_put j2 jp, zs ++ [z], by rw [List.map_append]; rfl, fun y hy => ?_, fun y hy => ?_⟩
    · rcases List.mem_append.mp hy with hy | hy
      · exact hz y hy
      · rw [List.mem_singleton.mp hy]; exact lz
    · rcases List.mem_append.mp hy with hy | hy
      · exact hs y hy
      · rw [List.mem_singleton.mp hy]; exact sz
  · obtain ⟨m1, j1, zs, rfl, hz, hs⟩ := hI
    rw [List.length_map, rlen] at ha
    exact ⟨trivial, k p zs M' ha hz hs hp jp.symm np (keep_two np m1) j1⟩
def Span (d : D) : Prop := ∃ a b, d = .tup [.int a, .int b] ∧ 0 ≤ a ∧ a ≤ b ∧ b ≤ 999999
def sp_span : DSp := fun ds M P => ∃ j, ds = [.ref j] ∧ JarOk M j ∧ draws j Span M P
theorem ok_span (ds : List D) (M : Mh) (P : PQ) (h : sp_span ds M P) : b_span sp_pick { nx := fun _ M' => P .non M', rt := P } (startD 4 ds) M := by
  obtain ⟨j, rfl, hj, k⟩ := h
  unfold b_span
  walk_at "s"
  refine c_pick hj (by decide) fun way o1 c0 c1 j1 => ?_
  walk_at "e"
  walk_at "s"
  refine t_ite (fun e => ?_) (fun e => ?_)
  · walk_at "d"
    refine ⟨sz (show 2 ≤ 100000 by decide), ?_⟩
    exact k _ _ keepj j1 ⟨_, _, rfl, by omega, by omega, by omega⟩
  walk_at "e"
  walk_at "s"
  refine t_ite (fun e => ?_) (fun e => ?_)
  · walk_at "d"
    refine c_pick j1 (by decide) fun v o2 c0 c1 j2 => ?_
    walk_at "d"
    refine ⟨sz (show 2 ≤ 100000 by decide), ?_⟩
    exact k _ _ (keepj.trans keepj) j2 ⟨_, _, rfl, by omega, by omega, by omega⟩
  walk_at "e"
  walk_at "s"
  refine t_ite (fun e => ?_) (fun e => ?_)
  · walk_at "d"
    refine c_pick j1 (by decide) fun v o2 c0 c1 j2 => ?_
    walk_at "d"
    refine c_pick j2 (by decide) fun v o3 c0 c1 j3 => ?_
    walk_at "d"
    refine ⟨sz (show 2 ≤ 100000 by decide), ?_⟩
    exact k _ _ (keepj.trans (keepj.trans keepj)) j3 ⟨_, _, rfl, by omega, by omega, by omega⟩
  walk_at "d"
  refine c_pick j1 (by decide) fun v o2 c0 c1 j2 => ?_
  walk_at "d"
  refine c_pick j2 (by decide) fun v o3 c0 c1 j3 => ?_
  walk_at "d"
  refine ⟨sz (show 2 ≤ 100000 by decide), ?_⟩
  exact k _ _ (keepj.trans (keepj.trans keepj)) j3 ⟨_, _, rfl, by omega, by omega, by omega⟩

/-! ### moves -/
structure Mo where
  z : Str
  l : Int
  h : Int
  g : Int
structure Mo.sp (m : Mo) : Prop where
  l0 : 0 ≤ m.l
  lh : m.l ≤ m.h
  h1 : m.h ≤ 999999
def Mo.r (m : Mo) : List D := [.str m.z, .int m.l, .int m.h, .int m.g]
def Mo.d (m : Mo) : D := .tup [.str m.z, .int m.l, .int m.h, .int m.g]
def sp_moves : DSp := fun ds M P => ∃ (j lb gl : Addr) (zs : List Str) (gs : List Int) (count : Nat), ds = [.ref j, .ref lb, .int count, .ref gl] ∧ M lb = some (.lst (zs.map D.str)) ∧ M gl = some (.lst (gs.map D.int)) ∧ lb ≠ j ∧ gl ≠ j ∧ 0 < zs.length ∧ zs.length ≤ 1000 ∧ 0 < gs.length ∧ gs.length ≤ 1000 ∧ count ≤ 100 ∧ JarOk M j ∧
  ∀ (p : Addr) (ms : List Mo) M', ms.length = count → (∀ m ∈ ms, m.z ∈ zs ∧ m.g ∈ gs ∧ m.sp) → M' p = some (.lst (ms.map Mo.d)) → p ≠ j → M p = none → MKeep (· = j) M M' → JarOk M' j → P (.ref p) M'
theorem ok_moves (ds : List D) (M : Mh) (P : PQ) (h : sp_moves ds M P) : b_moves sp_pick sp_span { nx := fun _ M' => P .non M', rt := P } (startD 13 ds) M := by
  obtain ⟨j, lb, gl, zs, gs, count, rfl, hlb, hgl, lbj, glj, z0, z1, g0, g1, hc, hj, k⟩ := h
  unfold b_moves
  walk_at "s"
  refine ⟨by walk_at "l", fun p np => ?_⟩
  have jp := hj.ne np
  walk_at "e"
  walk_at "s"
  refine ⟨by walk_at "l", fun u nu => ?_⟩
  have pu : p ≠ u := ne_free mup_same nu
  have ju : j ≠ u := (jar_fresh hj np).ne nu
  have nu0 : M u = none := by rw [mup_ne pu.symm] at nu; exact nu
  have lbp : lb ≠ p := ne_free hlb np
  have lbu : lb ≠ u := ne_free hlb nu0
  have glp : gl ≠ p := ne_free hgl np
  have glu : gl ≠ u := ne_free hgl nu0
  walk_at "e"
  walk_at "s"
  refine ⟨by omega, ?_⟩
  refine for_each (fun i ρ M' => MKeep (fun a => a = j ∨ a = p ∨ a = u) M M' ∧ JarOk M' j ∧ ∃ (ms : List Mo) (us : List Str) (w6 w7 w8 w9 w10 w11 w12 : Option D), ρ = [some (.ref j), some (.ref lb), some (.int count), some (.ref gl), some (.ref p), some (.ref u), w6, w7, w8, w9, w10, w11, w12] ∧ M' p = some (.lst (ms.map Mo.d)) ∧ M' u = some (.lst (us.map D.str)) ∧ ms.length = i ∧ us.length = i ∧ ∀ m ∈ ms, m.z ∈ zs ∧ m.g ∈ gs ∧ m.sp)
    ⟨MKeep.trans (.put (.inr (.inl rfl))) (.put (.inr (.inr rfl))), jar_fresh (jar_fresh hj np) nu, [], [], _, _, _, _, _, _, _, rfl, by rw [mup_ne pu]; exact mup_same, mup_same, rfl, rfl, by simp⟩ (fun N i d ρ M1 hd hI hN => ?_) (fun ρ M1 hI => ?_)
  · obtain ⟨m1, j1, ms, us, w6, w7, w8, w9, w10, w11, w12, rfl, hp, hu, lm, lu, hm⟩ := hI
    obtain ⟨rfl, hlt⟩ := rget hd
    have hlb1 := m1 _ _ (fun z => by rcases z with z | z | z; exact lbj z; exact lbp z; exact lbu z) hlb
    have hgl1 := m1 _ _ (fun z => by rcases z with z | z | z; exact glj z; exact glp z; exact glu z) hgl
    refine ⟨trivial, ?_⟩
    have c0 : (0 : Int) ≤ (0 + (i : Int)) % ((zs.map D.str).length : Int) := Int.emod_nonneg _ (by rw [List.length_map]; omega)
    have c1 : (0 + (i : Int)) % ((zs.map D.str).length : Int) < zs.length := by
      rw [List.length_map]
      exact Int.emod_lt_of_pos _ (by omega)
    obtain ⟨z, hz, ez⟩ := atI_map (zs := zs) (f := D.str) c0 c1
    have hzl : (0 : Int) < ((zs.map D.str).length : Int) := by rw [List.length_map]; omega
    walk_at "e"
    walk_at "s"
    refine t_seq ?_
    walk_at "e"
    intro q nq
    have pq : p ≠ q := ne_free hp nq
    have uq : u ≠ q := ne_free hu nq
    refine lc_eachT (fun i acc M' => MKeep (· = q) M1 M') (by rw [List.length_map, lu, sizeLine_eq]; omega) mup_same (.put rfl) (fun R S c y acc M2 hd ha hI hq hR hS => ?_) (fun acc M2 ha hI hq => ?_)
    · rw [List.getElem?_map] at hd
      obtain ⟨o, ho, rfl⟩ := Option.map_eq_some_iff.mp hd
      refine ⟨hI _ _ uq hu, _, rfl, ?_⟩
      walk_at "e"
      refine t_ite (fun e1 => ?_) (fun e1 => ?_)
      · walk_at "e"
        exact hR _ _ hq (hI.trans (.put rfl))
      · exact hS _ hq hI
    have x2 : MExt M1 M2 := fun a o _ h => hI a o (ne_free h nq) h
    have hp2 := x2 _ _ (fun z => z) hp
    have hu2 := x2 _ _ (fun z => z) hu
    have hlb2 := x2 _ _ (fun z => z) hlb1
    have hgl2 := x2 _ _ (fun z => z) hgl1
    have j2 := j1.keep x2 (fun z => z)
    have m2 := m1.trans (x2.mono fun _ z => z.elim)
    have lu2 : (us.map D.str).length ≤ 100 := by rw [List.length_map]; omega
    have lm2 : (ms.map Mo.d).length ≤ 100 := by rw [List.length_map]; omega
    have hacc : acc.length ≤ 100 := by rw [List.length_map] at ha; omega
    clear x2 hI hp hu hlb1 hgl1 j1 m1
    refine ⟨hu2, ?_⟩
    walk_at "e"
    walk_at "s"
    have hp3 : (mup M2 u (.lst (us.map D.str ++ [.str z]))) p = some (.lst (ms.map Mo.d)) := by rw [mup_ne pu]; exact hp2
    have hu3 : (mup M2 u (.lst (us.map D.str ++ [.str z]))) u = some (.lst ((us ++ [z]).map D.str)) := by rw [mup_same, List.map_append]; rfl
    have hlb3 : (mup M2 u (.lst (us.map D.str ++ [.str z]))) lb = some (.lst (zs.map D.str)) := by rw [mup_ne lbu]; exact hlb2
    have hgl3 : (mup M2 u (.lst (us.map D.str ++ [.str z]))) gl = some (.lst (gs.map D.int)) := by rw [mup_ne glu]; exact hgl2
    have j3 : JarOk (mup M2 u (.lst (us.map D.str ++ [.str z]))) j := jar_put j2 ju
    have m3 : MKeep (fun a => a = j ∨ a = p ∨ a = u) M (mup M2 u (.lst (us.map D.str ++ [.str z]))) := m2.trans (.put (.inr (.inr rfl)))
    generalize mup M2 u (.lst (us.map D.str ++ [.str z])) = M3 at hp3 hu3 hlb3 hgl3 j3 m3
    walk_at "s"
    refine ⟨rfl, j, rfl, j3, fun d M4 m4 j4 hsp => ?_⟩
    obtain ⟨a, b, rfl, sa, sb, sc⟩ := hsp
    have am0 : 0 ≤ a % 1000 := Int.emod_nonneg _ (by decide)
    have am1 : a % 1000 < 1000 := Int.emod_lt_of_pos _ (by decide)
    have am2 : a % 1000 ≤ a := by omega
    have hp4 := m4 _ _ jp.symm hp3
    have hu4 := m4 _ _ ju.symm hu3
    have hlb4 := m4 _ _ lbj hlb3
    have hgl4 := m4 _ _ glj hgl3
    have m4 := m3.trans (m4.mono fun _ z => .inl z)
    walk_at "e"
    walk_at "s"
    walk_at "s"
    refine t_cut (fun ρ M' => M' = M4 ∧ ∃ hi : Int, ((acc.length : Int) * 1000 + a % 1000 ≤ hi ∧ hi ≤ 999999) ∧ ρ = [some (.ref j), some (.ref lb), some (.int count), some (.ref gl), some (.ref p), some (.ref u), some (.int (0 + (i : Int))), some (.str z), some (.int acc.length), w9, some (.tup [.int a, .int b]), some (.int ((acc.length : Int) * 1000 + a % 1000)), some (.int hi)]) (fun N2 hN2 => ?_) ?_
    · walk_at "e"
      refine t_ite (fun e => ?_) (fun e => ?_)
      · have e := of_decide_eq_true e
        walk_at "d"
        exact hN2 _ _ ⟨rfl, _, ⟨by omega, by omega⟩, rfl⟩
      · walk_at "d"
        exact hN2 _ _ ⟨rfl, _, ⟨by omega, by omega⟩, rfl⟩
    rintro ρ M5 ⟨rfl, hi, hhi, rfl⟩
    refine t_cut (fun ρ M' => M' = M5 ∧ ∃ hi : Int, ((acc.length : Int) * 1000 + a % 1000 ≤ hi ∧ hi ≤ 999999) ∧ ρ = [some (.ref j), some (.ref lb), some (.int count), some (.ref gl), some (.ref p), some (.ref u), some (.int (0 + (i : Int))), some (.str z), some (.int acc.length), w9, some (.tup [.int a, .int b]), some (.int ((acc.length : Int) * 1000 + a % 1000)), some (.int hi)]) (fun N2 hN2 => ?_) ?_
    · have out := hN2 _ _ ⟨rfl, hi, hhi, rfl⟩
      walk_at "e"
      refine t_ite (fun e0 => ?_) (fun e => ?_)
      · have e0 : (acc.length : Int) = 0 := beq_iff_eq.mp e0
        walk_at "e"
        refine t_ite (fun e => ?_) (fun e => ?_)
        · walk_at "e"
          refine t_ite (fun e => ?_) (fun e => ?_)
          · walk_at "d"
            exact hN2 _ _ ⟨rfl, _, ⟨by omega, by omega⟩, rfl⟩
          · walk_at "d"
            exact out
        · refine t_if0 rfl ?_
          walk_at "d"
          exact out
      · refine t_if0 rfl ?_
        walk_at "d"
        exact out
    clear hi hhi
    rintro ρ M6 ⟨rfl, hi, hhi, rfl⟩
    walk_at "d"
    refine c_pick j4 (by rw [List.length_map]; omega) fun c o c0 c1 j7 => ?_
    rw [List.length_map] at c1
    obtain ⟨g, hg, eg⟩ := atI_map (zs := gs) (f := D.int) c0 c1
    have hp7 : (mup M6 j o) p = some (.lst (ms.map Mo.d)) := by rw [mup_ne jp.symm]; exact hp4
    have hu7 : (mup M6 j o) u = some (.lst ((us ++ [z]).map D.str)) := by rw [mup_ne ju.symm]; exact hu4
    have hgl7 : (mup M6 j o) gl = some (.lst (gs.map D.int)) := by rw [mup_ne glj]; exact hgl4
    refine v_ix_ref hgl7 eg ?_
    walk_at "d"
    refine ⟨sz (show 4 ≤ 100000 by decide), ?_⟩
    walk_at "d"
    refine hN _ _ ⟨(m4.trans (.put (.inl rfl))).trans (.put (.inr (.inl rfl))), jar_put j7 jp, ms ++ [⟨z, _, hi, g⟩], us ++ [z], _, _, _, _, _, _, _, rfl, by rw [mup_same, List.map_append]; rfl, by rw [mup_ne pu.symm]; exact hu7, by rw [List.length_append, lm]; rfl, by rw [List.length_append, lu]; rfl, fun m hm' => ?_⟩
    rcases List.mem_append.mp hm' with h | h
    · exact hm m h
    · rw [List.mem_singleton.mp h]; exact ⟨hz, hg, ⟨by show 0 ≤ (acc.length : Int) * 1000 + a % 1000; omega, hhi.1, hhi.2⟩⟩
  · obtain ⟨m1, j1, ms, us, w6, w7, w8, w9, w10, w11, w12, rfl, hp, hu, lm, lu, hm⟩ := hI
    rw [rlen] at lm
    refine ⟨trivial, ?_⟩
    walk_at "e"
    refine t_seq (t_ret (t_call (t_ac (t_var rfl (t_an (v_sorted hp (.inr (.inr ⟨.str, [.int, .int, .int], fun d hd => ?_⟩)) fun ys q hys _ nq => ?_))))))
    · obtain ⟨m, _, rfl⟩ := List.mem_map.mp hd
      exact ⟨_, rfl, .cons ⟨_, rfl⟩ (.cons ⟨_, rfl⟩ (.cons ⟨_, rfl⟩ (.cons ⟨_, rfl⟩ .nil)))⟩
    obtain ⟨ms', p1, rfl⟩ := perm_map_inv hys ms rfl
    have jq := j1.ne nq
    have x1 : MKeep (· = j) M M1 := fun a o na h => m1 a o (fun z => by
      rcases z with z | z | z
      · exact na z
      · exact ne_free h np z
      · exact ne_free h nu0 z) h
    refine k q ms' _ (by rw [p1.length_eq]; omega) (fun m h => hm m (p1.mem_iff.mp h)) mup_same jq.symm (x1.none nq jq.symm) (x1.trans (.fresh nq)) (jar_fresh j1 nq)

/-! ### machines -/
structure Sd where
  kind : Str
  who : Str
  ms : List Mo
def stD : Option Sd → D
  | none => .tup [.str "end"]
  | some s => .tup [.str s.kind, .str s.who, .tup (s.ms.map Mo.d)]
structure Sd.ok (ps zs : List Str) (many : Int) (s : Sd) : Prop where
  kind : s.kind = "say" ∨ s.kind = "hear"
  who : s.who ∈ ps
  ne : s.ms ≠ []
  len : s.ms.length ≤ 3
  ms : ∀ m ∈ s.ms, m.z ∈ zs ∧ (0 ≤ m.g ∧ m.g < many) ∧ m.sp
def MachOk (ps zs : List Str) (many : Int) (sts : List (Option Sd)) : Prop := ∀ o ∈ sts, ∀ s, o = some s → s.ok ps zs many
def sp_machine : DSp := fun ds M P => ∃ (j pa lb : Addr) (ps zs : List Str) (many : Nat), ds = [.ref j, .ref pa, .ref lb, .int many] ∧ M pa = some (.lst (ps.map D.str)) ∧ M lb = some (.lst (zs.map D.str)) ∧ pa ≠ j ∧ lb ≠ j ∧ 0 < ps.length ∧ ps.length ≤ 1000 ∧ 0 < zs.length ∧ zs.length ≤ 1000 ∧ 1 ≤ many ∧ many ≤ 1000 ∧ JarOk M j ∧
  ∀ (sts : List (Option Sd)) M', sts.length = many → MachOk ps zs many sts → MKeep (· = j) M M' → JarOk M' j → P (.tup (sts.map stD)) M'
theorem ok_machine (ds : List D) (M : Mh) (P : PQ) (h : sp_machine ds M P) : b_machine sp_pick sp_moves { nx := fun _ M' => P .non M', rt := P } (startD 11 ds) M := by
  obtain ⟨j, pa, lb, ps, zs, many, rfl, hpa, hlb, paj, lbj, p0, p1, z0, z1, n0, n1, hj, k⟩ := h
  unfold b_machine
  walk_at "s"
  refine ⟨by walk_at "l", fun p np => ?_⟩
  have jp := hj.ne np
  have pap := ne_free hpa np
  have lbp := ne_free hlb np
  walk_at "e"
  walk_at "s"
  refine ⟨by omega, ?_⟩
  refine for_each (fun i ρ M' => MKeep (fun a => a = j ∨ a = p) M M' ∧ JarOk M' j ∧ ∃ (sts : List (Option Sd)) (w5 w6 w7 w8 w9 w10 : Option D), ρ = [some (.ref j), some (.ref pa), some (.ref lb), some (.int many), some (.ref p), w5, w6, w7, w8, w9, w10] ∧ M' p = some (.lst (sts.map stD)) ∧ sts.length = i ∧ MachOk ps zs many sts)
    ⟨.put (.inr rfl), jar_fresh hj np, [], _, _, _, _, _, _, rfl, mup_same, rfl, fun o ho => by simp at ho⟩ (fun N i d ρ M1 hd hI hN => ?_) (fun ρ M1 hI => ?_)
  · obtain ⟨m1, j1, sts, w5, w6, w7, w8, w9, w10, rfl, hp, lm, hm⟩ := hI
    obtain ⟨rfl, hlt⟩ := rget hd
    have hpa1 := m1 _ _ (fun z => by rcases z with z | z; exact paj z; exact pap z) hpa
    have hlb1 := m1 _ _ (fun z => by rcases z with z | z; exact lbj z; exact lbp z) hlb
    refine ⟨trivial, ?_⟩
    walk_at "e"
    refine t_seq (t_asg ?_)
    refine (gi_menu (n := 2) (T := fun d => ∃ z : Str, d = .str z ∧ (z = "say" ∨ z = "hear")) (h := 1) ?_ ?_ (by decide) (sz (by decide))).run j1 fun d M2 m2 j2 t2 => ?_
    · walk_at "ga"
      · exact gi_c ⟨_, rfl, .inr rfl⟩
      · exact gi_c ⟨_, rfl, .inl rfl⟩
    · exact gi_pick (m := 2) (h := 2) rfl (gi_c ⟨_, rfl, by decide, by decide⟩) (by decide) (by decide)
    obtain ⟨kind, rfl, hk⟩ := t2
    walk_at "e"
    refine t_seq (t_asg ?_)
    refine (gi_add (l1 := 1) (h1 := 1) (l2 := 0) (h2 := 2) (gi_c ⟨_, rfl, by decide, by decide⟩) (gi_menu (n := 5) (T := IsI 0 2) (h := 4) (by walk_at "ga") (gi_pick (m := 5) (h := 5) rfl (gi_c ⟨_, rfl, by decide, by decide⟩) (by decide) (by decide)) (by decide) (sz (by decide)))).run j2 fun d M3 m3 j3 t3 => ?_
    obtain ⟨cnt, rfl, c0, c1⟩ := t3
    obtain ⟨count, rfl⟩ := Int.eq_ofNat_of_zero_le (show 0 ≤ cnt by omega)
    have m3 : MKeep (fun a => a = j ∨ a = p) M1 M3 := (m2.trans m3).mono fun _ z => .inl z
    walk_at "e"
    walk_at "s"
    refine c_pick j3 (by omega) fun g1 o1 a0 a1 j4 => ?_
    walk_at "e"
    refine c_pick j4 (by omega) fun g2 o2 b0 b1 j5 => ?_
    walk_at "e"
    refine ⟨sz (show 3 ≤ 100000 by decide), fun gl ngl => ?_⟩
    have m5 : MKeep (fun a => a = j ∨ a = p) M1 (mup (mup (mup M3 j o1) j o2) gl (.lst [.int (0 + (i : Int) + 1), .int g1, .int g2])) := ((m3.trans (.put (.inl rfl))).trans (.put (.inl rfl))).trans (.fresh ngl)
    have glj := (j5.ne ngl).symm
    have j6 : JarOk (mup (mup (mup M3 j o1) j o2) gl (.lst [.int (0 + (i : Int) + 1), .int g1, .int g2])) j := jar_fresh j5 ngl
    have hgl : (mup (mup (mup M3 j o1) j o2) gl (.lst [.int (0 + (i : Int) + 1), .int g1, .int g2])) gl = some (.lst ([0 + (i : Int) + 1, g1, g2].map D.int)) := mup_same
    have hp6 : (mup (mup (mup M3 j o1) j o2) gl (.lst [.int (0 + (i : Int) + 1), .int g1, .int g2])) p = some (.lst (sts.map stD)) := by
      have h3 : M3 p = some (.lst (sts.map stD)) := (m2.trans (by assumption : MKeep (· = j) M2 M3)) _ _ jp.symm hp
      have h4 : (mup (mup M3 j o1) j o2) p = some (.lst (sts.map stD)) := by rw [mup_ne jp.symm, mup_ne jp.symm]; exact h3
      rw [mup_ne (ne_free h4 ngl)]; exact h4
    generalize mup (mup (mup M3 j o1) j o2) gl (.lst [.int (0 + (i : Int) + 1), .int g1, .int g2]) = M6 at m5 j6 hgl hp6
    have hpa6 := m5 _ _ (fun z => by rcases z with z | z; exact paj z; exact pap z) hpa1
    have hlb6 := m5 _ _ (fun z => by rcases z with z | z; exact lbj z; exact lbp z) hlb1
    have gs : ∀ g ∈ [0 + (i : Int) + 1, g1, g2], 0 ≤ g ∧ g < many := fun g hg => by
      simp only [List.mem_cons, List.not_mem_nil, or_false] at hg
      rcases hg with rfl | rfl | rfl <;> omega
    walk_at "e"
    refine t_seq ?_
    walk_at "e"
    refine ⟨rfl, j, lb, gl, zs, _, count, rfl, hlb6, hgl, lbj, glj, z0, z1, by simp, Nat.le_of_ble_eq_true rfl, by omega, j6, fun q ms M7 lq hq hq7 qj nq m7 j7 => ?_⟩
    have hp7 := m7 _ _ jp.symm hp6
    have hpa7 := m7 _ _ paj hpa6
    have qp : q ≠ p := (ne_free hp6 nq).symm
    refine v_seq_ref hq7 fun u nu => ?_
    have pu : p ≠ u := ne_free hp7 nu
    have ju : j ≠ u := j7.ne nu
    have qu : q ≠ u := ne_free hq7 nu
    -- the moves as lists
    let R7 : Mh → D → Prop := fun M' d => ∃ (r : Addr) (m : Mo), d = .ref r ∧ M' r = some (.lst m.r) ∧ r ≠ u ∧ M7 r = none ∧ m.z ∈ zs ∧ (0 ≤ m.g ∧ m.g < many) ∧ m.sp
    refine lc_each (fun c acc M' => MKeep (· = u) M7 M' ∧ acc.length = c ∧ ∀ d ∈ acc, R7 M' d) (by rw [List.length_map, sizeLine_eq]; omega) mup_same ⟨.put rfl, rfl, by simp⟩ (fun R c d acc M8 hd _ hI hu hR => ?_) (fun acc M8 la hI hu => ?_)
    · obtain ⟨m8, la, hacc⟩ := hI
      rw [List.getElem?_map] at hd
      obtain ⟨m, hm', rfl⟩ := Option.map_eq_some_iff.mp hd
      obtain ⟨e1, e2, e3⟩ := hq m (List.mem_of_getElem? hm')
      refine ⟨m8 _ _ qu hq7, _, rfl, ?_⟩
      rw [show Mo.d m = .tup m.r from rfl]
      walk_at "e"
      refine v_list_tup fun r nr => ?_
      have ur := ne_free hu nr
      have nr7 : M7 r = none := m8.none nr ur.symm
      refine hR _ _ (by rw [mup_ne ur]; exact hu) ⟨(m8.trans (.fresh nr)).trans (.put rfl), by rw [List.length_append, la]; rfl, fun x hx => ?_⟩
      rcases List.mem_append.mp hx with hx | hx
      · obtain ⟨r', m', rfl, h1, h2, h3, h4⟩ := hacc x hx
        exact ⟨r', m', rfl, by rw [mup_ne h2, mup_ne (ne_free h1 nr)]; exact h1, h2, h3, h4⟩
      · rw [List.mem_singleton.mp hx]
        exact ⟨r, m, rfl, by rw [mup_ne ur.symm]; exact mup_same, ur.symm, nr7, e1, gs _ e2, e3⟩
    obtain ⟨m8, _, hacc⟩ := hI
    rw [List.length_map, lq] at la
    refine ⟨m8 _ _ qu hq7, ?_⟩
    have hp8 := m8 _ _ pu hp7
    have hpa8 := m8 _ _ (ne_free hpa7 nu) hpa7
    have j8 := j7.keep m8 ju
    have mx : MKeep (fun a => a = j ∨ a = p) M M8 := m1.trans (m5.trans ((m7.mono fun _ z => .inl z).trans (MKeep.trans (M1 := M8) (fun a o na h => m8 a o (ne_free h nu) h) .refl)))
    walk_at "e"
    -- one of them goes on
    walk_at "s"
    refine c_pick j8 (by omega) fun c o c2 c3 j9 => ?_
    have hu9 : (mup M8 j o) u = some (.lst acc) := by rw [mup_ne ju.symm]; exact hu
    obtain ⟨d, ed, hd, _⟩ := atI_mem (ds := acc) c2 c3
    obtain ⟨r, m, rfl, h1, h2, h3, h4⟩ := hacc d hd
    have rj : r ≠ j := by
      rintro rfl
      obtain ⟨a, b, c, e, _⟩ := j7
      rw [h3] at e; cases e
    have rp : r ≠ p := by
      rintro rfl
      rw [h3] at hp7; cases hp7
    have rpa : r ≠ pa := by
      rintro rfl
      rw [h3] at hpa7; cases hpa7
    have hr9 : (mup M8 j o) r = some (.lst m.r) := by rw [mup_ne rj]; exact h1
    have es : ixN m.r.length 3 = some 3 := rfl
    refine v_ix_ref hu9 ed ?_
    walk_at "e"
    have all : ∀ d ∈ acc, ∃ (r' : Addr) (m' : Mo), d = .ref r' ∧ (mup (mup M8 j o) r (.lst (m.r.set 3 (.int (0 + (i : Int) + 1))))) r' = some (.lst m'.r) ∧ m'.z ∈ zs ∧ (0 ≤ m'.g ∧ m'.g < many) ∧ m'.sp := fun d hd => by
      obtain ⟨r', m', rfl, k1, k2, k3, k4⟩ := hacc d hd
      by_cases e : r' = r
      · subst e
        exact ⟨r', ⟨m.z, m.l, m.h, 0 + (i : Int) + 1⟩, rfl, mup_same, h4.1, ⟨by show 0 ≤ 0 + (i : Int) + 1; omega, by show 0 + (i : Int) + 1 < many; omega⟩, h4.2.2.l0, h4.2.2.lh, h4.2.2.h1⟩
      · have r'j : r' ≠ j := by
          rintro rfl
          obtain ⟨a, b, c, e, _⟩ := j7
          rw [k3] at e; cases e
        exact ⟨r', m', rfl, by rw [mup_ne e, mup_ne r'j]; exact k1, k4⟩
    have j10 : JarOk (mup (mup M8 j o) r (.lst (m.r.set 3 (.int (0 + (i : Int) + 1))))) j := jar_put j9 rj.symm
    have hp10 : (mup (mup M8 j o) r (.lst (m.r.set 3 (.int (0 + (i : Int) + 1))))) p = some (.lst (sts.map stD)) := by rw [mup_ne rp.symm, mup_ne jp.symm]; exact hp8
    have hpa10 : (mup (mup M8 j o) r (.lst (m.r.set 3 (.int (0 + (i : Int) + 1))))) pa = some (.lst (ps.map D.str)) := by rw [mup_ne rpa.symm, mup_ne paj]; exact hpa8
    have hu10 : (mup (mup M8 j o) r (.lst (m.r.set 3 (.int (0 + (i : Int) + 1))))) u = some (.lst acc) := by rw [mup_ne h2.symm]; exact hu9
    have rM : M r = none := by
      cases e : M r with
      | none => rfl
      | some o' => rw [m7 _ _ rj (m5 _ _ (fun z => by rcases z with z | z; exact rj z; exact rp z) (m1 _ _ (fun z => by rcases z with z | z; exact rj z; exact rp z) e))] at h3; cases h3
    have mx10 : MKeep (fun a => a = j ∨ a = p) M (mup (mup M8 j o) r (.lst (m.r.set 3 (.int (0 + (i : Int) + 1))))) := (mx.trans (.put (.inl rfl))).over rM
    generalize mup (mup M8 j o) r (.lst (m.r.set 3 (.int (0 + (i : Int) + 1)))) = M10 at all j10 hp10 hpa10 hu10 mx10
    walk_at "e"
    -- the standing
    walk_at "s"
    refine c_pick j10 (by rw [List.length_map]; omega) fun c o c2 c3 j11 => ?_
    rw [List.length_map] at c3
    obtain ⟨who, hwho, ewho⟩ := atI_map (zs := ps) (f := D.str) c2 c3
    have hp11 : (mup M10 j o) p = some (.lst (sts.map stD)) := by rw [mup_ne jp.symm]; exact hp10
    have hpa11 : (mup M10 j o) pa = some (.lst (ps.map D.str)) := by rw [mup_ne paj]; exact hpa10
    have hu11 : (mup M10 j o) u = some (.lst acc) := by rw [mup_ne ju.symm]; exact hu10
    have mx11 : MKeep (fun a => a = j ∨ a = p) M (mup M10 j o) := mx10.trans (.put (.inl rfl))
    have all11 : ∀ d ∈ acc, ∃ (r' : Addr) (m' : Mo), d = .ref r' ∧ (mup M10 j o) r' = some (.lst m'.r) ∧ m'.z ∈ zs ∧ (0 ≤ m'.g ∧ m'.g < many) ∧ m'.sp := fun d hd => by
      obtain ⟨r', m', rfl, k1, k2⟩ := all d hd
      refine ⟨r', m', rfl, ?_, k2⟩
      rw [mup_ne (by
        rintro rfl
        obtain ⟨a, b, c, e, _⟩ := j10
        rw [e] at k1
        cases k1)]
      exact k1
    generalize mup M10 j o = M11 at hp11 hpa11 hu11 mx11 all11 j11
    refine v_ix_ref hpa11 ewho ?_
    walk_at "e"
    intro v nv
    have pv := ne_free hp11 nv
    have uv := ne_free hu11 nv
    refine lc_each (fun c acc' M' => MKeep (· = v) M11 M' ∧ ∃ ms' : List Mo, acc' = ms'.map Mo.d ∧ ms'.length = c ∧ ∀ m ∈ ms', m.z ∈ zs ∧ (0 ≤ m.g ∧ m.g < many) ∧ m.sp) (by rw [la, sizeLine_eq]; omega) mup_same ⟨.put rfl, [], rfl, rfl, by simp⟩ (fun R c d acc' M12 hd _ hI hv hR => ?_) (fun acc' M12 lv hI hv => ?_)
    · obtain ⟨m12, ms', rfl, l', hms'⟩ := hI
      obtain ⟨r', m', rfl, k1, k2⟩ := all11 d (List.mem_of_getElem? hd)
      refine ⟨m12 _ _ uv hu11, _, rfl, ?_⟩
      walk_at "e"
      refine v_tuple_ref (m12 _ _ (ne_free k1 nv) k1) ?_
      refine hR _ _ hv ⟨m12.trans (.put rfl), ms' ++ [m'], by rw [List.map_append]; rfl, by rw [List.length_append, l']; rfl, fun x hx => ?_⟩
      rcases List.mem_append.mp hx with hx | hx
      · exact hms' x hx
      · rw [List.mem_singleton.mp hx]; exact k2
    obtain ⟨m12, ms', rfl, l', hms'⟩ := hI
    refine ⟨m12 _ _ uv hu11, ?_⟩
    have x12 : MExt M11 M12 := fun a o _ h => m12 a o (ne_free h nv) h
    have hp12 := x12 _ _ (fun z => z) hp11
    have lsts : (sts.map stD).length ≤ 1000 := by rw [List.length_map]; omega
    walk_at "e"
    refine ⟨sz (show 3 ≤ 100000 by decide), ?_⟩
    walk_at "e"
    refine hN _ _ ⟨(mx11.trans (x12.mono fun _ z => z.elim)).trans (.put (.inr rfl)), jar_put (j11.keep x12 (fun z => z)) jp, sts ++ [some ⟨kind, who, ms'⟩], _, _, _, _, _, _, rfl, by rw [mup_same, List.map_append]; rfl, by rw [List.length_append, lm]; rfl, fun o ho s hs => ?_⟩
    rcases List.mem_append.mp ho with ho | ho
    · exact hm o ho s hs
    · rw [List.mem_singleton.mp ho] at hs
      cases hs
      exact ⟨hk, hwho, fun e => by
        have e : ms' = [] := e
        rw [e] at l'
        simp at l'
        omega, by show ms'.length ≤ 3; omega, hms'⟩
  · obtain ⟨m1, j1, sts, w5, w6, w7, w8, w9, w10, rfl, hp, lm, hm⟩ := hI
    rw [rlen] at lm
    have lsts : (sts.map stD).length ≤ 1000 := by rw [List.length_map]; omega
    refine ⟨trivial, ?_⟩
    walk_at "d"
    refine ⟨sz (show 1 ≤ 100000 by decide), ?_⟩
    walk_at "d"
    have := k (sts ++ [none]) (mup M1 p (.lst (sts.map stD ++ [.tup [.str "end"]]))) (by rw [List.length_append, lm]; simp; omega) (fun o ho s hs => by
      rcases List.mem_append.mp ho with ho | ho
      · exact hm o ho s hs
      · rw [List.mem_singleton.mp ho] at hs; cases hs) (keep_two np (m1.trans (.put (.inr rfl)))) (jar_put j1 jp)
    rw [List.map_append] at this
    exact this
end LX
/-! K22m: walks through machines, in plain mathematics: over any standings whose moves lead somewhere. -/
namespace K22
open PySem DL L2
section
variable (E : Int → Int → Prop) (n : Nat)
/-- what can be come to -/
inductive Reach (a : Int) : Int → Prop
  | refl : Reach a a
  | step {b c : Int} : Reach a b → E b c → Reach a c
structure Bfs (a : Int) (i : Nat) (fs : List Int) : Prop where
  head : a ∈ fs
  reach : ∀ b ∈ fs, Reach E a b
  closed : ∀ (k : Nat) (b c : Int), k < i → fs[k]? = some b → E b c → c ∈ fs
  nd : fs.Nodup
  rng : ∀ b ∈ fs, 0 ≤ b ∧ b < n
  le : i ≤ fs.length
end
section
variable {E : Int → Int → Prop} {n : Nat} {a b c : Int} {i : Nat} {fs : List Int}
theorem nodup_len {α : Type} [DecidableEq α] : ∀ {l L : List α}, l.Nodup → (∀ x ∈ l, x ∈ L) → l.length ≤ L.length
  | [], _, _, _ => Nat.zero_le _
  | x :: r, L, hn, h => by
    have hx := h x List.mem_cons_self
    obtain ⟨n1, n2⟩ := List.nodup_cons.mp hn
    have := nodup_len (l := r) (L := L.erase x) n2 fun y hy => (List.mem_erase_of_ne (fun e : y = x => n1 (by rw [← e]; exact hy))).mpr (h y (List.mem_cons_of_mem _ hy))
    rw [List.length_erase_of_mem hx] at this
    have := List.length_pos_of_mem hx
    rw [List.length_cons]
    omega
theorem rng_len' {fs : List Int} (nd : fs.Nodup) (h : ∀ b ∈ fs, 0 ≤ b ∧ b < n) : fs.length ≤ n := by
  have := nodup_len (L := (List.range n).map fun k : Nat => (k : Int)) nd fun b hb => by
    obtain ⟨h0, h1⟩ := h b hb
    exact List.mem_map.mpr ⟨b.toNat, List.mem_range.mpr (by omega), by omega⟩
  rwa [List.length_map, List.length_range] at this
theorem Bfs.len (H : Bfs E n a i fs) : fs.length ≤ n := rng_len' H.nd H.rng
theorem Bfs.start (h0 : 0 ≤ a) (h1 : a < n) : Bfs E n a 0 [a] := ⟨by simp, fun b hb => by rw [List.mem_singleton.mp hb]; exact .refl, fun k b c h => by omega, by simp, fun b hb => by rw [List.mem_singleton.mp hb]; exact ⟨h0, h1⟩, Nat.zero_le _⟩
theorem Bfs.add (H : Bfs E n a i fs) (hb : b ∈ fs) (e : E b c) (hc : c ∉ fs) (h0 : 0 ≤ c) (h1 : c < n) : Bfs E n a i (fs ++ [c]) where
  head := List.mem_append_left _ H.head
  reach := fun x hx => by
    rcases List.mem_append.mp hx with hx | hx
    · exact H.reach x hx
    · rw [List.mem_singleton.mp hx]; exact .step (H.reach b hb) e
  closed := fun k x y hk hx hy => by
    have := H.le
    rw [List.getElem?_append_left (by omega)] at hx
    exact List.mem_append_left _ (H.closed k x y hk hx hy)
  nd := by
    rw [List.nodup_append]
    exact ⟨H.nd, by simp, fun x hx y hy => by rw [List.mem_singleton.mp hy]; exact fun e => hc (e ▸ hx)⟩
  rng := fun x hx => by
    rcases List.mem_append.mp hx with hx | hx
    · exact H.rng x hx
    · rw [List.mem_singleton.mp hx]; exact ⟨h0, h1⟩
  le := by have := H.le; rw [List.length_append]; omega
theorem Bfs.next (H : Bfs E n a i fs) (hb : fs[i]? = some b) (h : ∀ c, E b c → c ∈ fs) : Bfs E n a (i + 1) fs where
  head := H.head
  reach := H.reach
  closed := fun k x y hk hx hy => by
    by_cases e : k = i
    · subst e
      rw [hb] at hx
      cases hx
      exact h y hy
    · exact H.closed k x y (by omega) hx hy
  nd := H.nd
  rng := H.rng
  le := (List.getElem?_eq_some_iff.mp hb).1
theorem Bfs.done (H : Bfs E n a i fs) (h : fs.length ≤ i) (b : Int) : b ∈ fs ↔ Reach E a b := by
  refine ⟨H.reach b, fun r => ?_⟩
  induction r with
  | refl => exact H.head
  | step r e ih =>
    obtain ⟨k, hk, rfl⟩ := List.mem_iff_getElem.mp ih
    exact H.closed k _ _ (by omega) (List.getElem?_eq_getElem hk) e
theorem Reach.rng (hE : ∀ b c, E b c → 0 ≤ c ∧ c < n) (h0 : 0 ≤ a) (h1 : a < n) (r : Reach E a b) : 0 ≤ b ∧ b < n := by
  induction r with
  | refl => exact ⟨h0, h1⟩
  | step r e ih => exact hE _ _ e
/-! ### from which an end can be reached -/
def Ends (E : Int → Int → Prop) (F : Int → Prop) (a : Int) : Prop := ∃ b, Reach E a b ∧ F b
structure Back (E : Int → Int → Prop) (F : Int → Prop) (n : Nat) (i : Nat) (ws : List Int) : Prop where
  fin : ∀ b : Int, 0 ≤ b → b < n → F b → b ∈ ws
  ends : ∀ b ∈ ws, Ends E F b
  closed : ∀ (k : Nat) (b c : Int), k < i → ws[k]? = some b → E c b → c ∈ ws
  nd : ws.Nodup
  rng : ∀ b ∈ ws, 0 ≤ b ∧ b < n
  le : i ≤ ws.length
variable {F : Int → Prop} {ws : List Int}
theorem Back.len (H : Back E F n i ws) : ws.length ≤ n := rng_len' H.nd H.rng
theorem Back.add (H : Back E F n i ws) (hb : b ∈ ws) (e : E c b) (hc : c ∉ ws) (h0 : 0 ≤ c) (h1 : c < n) : Back E F n i (ws ++ [c]) where
  fin := fun x h0 h1 hx => List.mem_append_left _ (H.fin x h0 h1 hx)
  ends := fun x hx => by
    rcases List.mem_append.mp hx with hx | hx
    · exact H.ends x hx
    · rw [List.mem_singleton.mp hx]
      obtain ⟨y, r, hy⟩ := H.ends b hb
      refine ⟨y, ?_, hy⟩
      clear hy
      induction r with
      | refl => exact .step .refl e
      | step r e2 ih => exact .step ih e2
  closed := fun k x y hk hx hy => by
    have := H.le
    rw [List.getElem?_append_left (by omega)] at hx
    exact List.mem_append_left _ (H.closed k x y hk hx hy)
  nd := by
    rw [List.nodup_append]
    exact ⟨H.nd, by simp, fun x hx y hy => by rw [List.mem_singleton.mp hy]; exact fun e => hc (e ▸ hx)⟩
  rng := fun x hx => by
    rcases List.mem_append.mp hx with hx | hx
    · exact H.rng x hx
    · rw [List.mem_singleton.mp hx]; exact ⟨h0, h1⟩
  le := by have := H.le; rw [List.length_append]; omega
theorem Back.next (H : Back E F n i ws) (hb : ws[i]? = some b) (h : ∀ c, E c b → c ∈ ws) : Back E F n (i + 1) ws where
  fin := H.fin
  ends := H.ends
  closed := fun k x y hk hx hy => by
    by_cases e : k = i
    · subst e
      rw [hb] at hx
      cases hx
      exact h y hy
    · exact H.closed k x y (by omega) hx hy
  nd := H.nd
  rng := H.rng
  le := (List.getElem?_eq_some_iff.mp hb).1
theorem Back.done (hE : ∀ b c, E b c → 0 ≤ c ∧ c < n) (H : Back E F n i ws) (h : ws.length ≤ i) (b : Int) (h0 : 0 ≤ b) (h1 : b < n) : b ∈ ws ↔ Ends E F b := by
  refine ⟨H.ends b, ?_⟩
  rintro ⟨c, r, f⟩
  have hc := r.rng hE h0 h1
  have hm := H.fin c hc.1 hc.2 f
  clear hc f
  induction r with
  | refl => exact hm
  | step r e ih =>
    obtain ⟨k, hk, ek⟩ := List.mem_iff_getElem.mp hm
    exact ih (H.closed k _ _ (by omega) (by rw [List.getElem?_eq_getElem hk, ek]) e)
end
/-! ### sorted texts -/
def ltS (a b : Str) : Prop := a.cps.toList < b.cps.toList
theorem ltS_irr {a : Str} : ¬ ltS a a := List.lt_irrefl _
theorem ltS_trans {a b c : Str} (h : ltS a b) (k : ltS b c) : ltS a c := List.lt_trans h k
theorem ltS_tri {a b : Str} (h : ¬ ltS b a) (n : a ≠ b) : ltS a b := by
  apply Classical.byContradiction
  intro q
  exact n (str_ext (List.le_antisymm (List.not_lt.mp h) (List.not_lt.mp q)))
theorem eS_ltS {a b : Str} : eD (.str a) < eD (.str b) ↔ ltS a b := by
  have := eS_lt a.cps.toList b.cps.toList [] []
  rw [List.append_nil, List.append_nil] at this
  show eS a < eS b ↔ _
  unfold eS
  rw [this]
  unfold ltS
  by_cases e : a.cps.toList = b.cps.toList
  · rw [if_pos e, e]
    exact ⟨fun h => absurd h (List.lt_irrefl _), fun h => absurd h (List.lt_irrefl _)⟩
  · rw [if_neg e]
theorem sorted_unique : ∀ {xs ys : List Str}, xs.Pairwise ltS → ys.Pairwise ltS → (∀ z, z ∈ xs ↔ z ∈ ys) → xs = ys
  | [], [], _, _, _ => rfl
  | [], y :: s, _, _, h => absurd ((h y).mpr List.mem_cons_self) (by simp)
  | x :: r, [], _, _, h => absurd ((h x).mp List.mem_cons_self) (by simp)
  | x :: r, y :: s, hx, hy, h => by
    obtain ⟨x1, x2⟩ := List.pairwise_cons.mp hx
    obtain ⟨y1, y2⟩ := List.pairwise_cons.mp hy
    have e : x = y := by
      rcases List.mem_cons.mp ((h x).mp List.mem_cons_self) with e | e
      · exact e
      · rcases List.mem_cons.mp ((h y).mpr List.mem_cons_self) with e2 | e2
        · exact e2.symm
        · exact absurd (ltS_trans (y1 x e) (x1 y e2)) ltS_irr
    subst e
    rw [sorted_unique x2 y2 fun z => ?_]
    constructor
    · intro hz
      rcases List.mem_cons.mp ((h z).mp (List.mem_cons_of_mem _ hz)) with e | e
      · subst e; exact absurd (x1 _ hz) ltS_irr
      · exact e
    · intro hz
      rcases List.mem_cons.mp ((h z).mpr (List.mem_cons_of_mem _ hz)) with e | e
      · subst e; exact absurd (y1 _ hz) ltS_irr
      · exact e
end K22
/-! K11m: what a web is, of any data; searches through graphs, in plain mathematics. -/
namespace K11
open PySem DL L2 K01 K22
/-! ### a search that takes the last of what waits -/
structure Dfs (E : Int → Int → Prop) (n : Nat) (a : Int) (c : Nat) (ws wt : List Int) (o : Option Int) : Prop where
  head : a ∈ ws
  reach : ∀ b ∈ ws, Reach E a b
  sub : ∀ b ∈ wt, b ∈ ws
  closed : ∀ b ∈ ws, b ∉ wt → some b ≠ o → ∀ x, E b x → x ∈ ws
  nd : ws.Nodup
  ndt : wt.Nodup
  rng : ∀ b ∈ ws, 0 ≤ b ∧ b < n
  cnt : ws.length = c + wt.length
section
variable {E : Int → Int → Prop} {n c : Nat} {a b x : Int} {ws wt : List Int}
theorem Dfs.len {o : Option Int} (H : Dfs E n a c ws wt o) : ws.length ≤ n := rng_len' H.nd H.rng
theorem Dfs.start (h0 : 0 ≤ a) (h1 : a < n) : Dfs E n a 0 [a] [a] none where
  head := by simp
  reach := fun b hb => by rw [List.mem_singleton.mp hb]; exact .refl
  sub := fun b hb => hb
  closed := fun b hb nb => absurd hb nb
  nd := by simp
  ndt := by simp
  rng := fun b hb => by rw [List.mem_singleton.mp hb]; exact ⟨h0, h1⟩
  cnt := rfl
theorem last_split : ∀ {l : List Int} {b : Int}, l[l.length - 1]? = some b → l = l.dropLast ++ [b]
  | [], _, h => by simp at h
  | x :: r, b, h => by
    have e : (x :: r).getLast? = some b := by rw [List.getLast?_eq_getElem?]; exact h
    obtain ⟨ys, hy⟩ := List.getLast?_eq_some_iff.mp e
    rw [hy, List.dropLast_concat]
theorem Dfs.pop (H : Dfs E n a c ws wt none) (hb : wt[wt.length - 1]? = some b) : Dfs E n a (c + 1) ws wt.dropLast (some b) ∧ b ∈ ws := by
  have e := last_split hb
  have bm : b ∈ wt := List.mem_of_getElem? hb
  have nd2 : (wt.dropLast ++ [b]).Nodup := e ▸ H.ndt
  rw [List.nodup_append] at nd2
  refine ⟨⟨H.head, H.reach, fun y hy => H.sub y (by
    have : y ∈ wt.dropLast ++ [b] := List.mem_append_left _ hy
    rw [← e] at this
    exact this), fun y hy ny no => ?_, H.nd, nd2.1, H.rng, ?_⟩, H.sub b bm⟩
  · refine H.closed y hy (fun hw => ?_) (by simp)
    rw [e] at hw
    rcases List.mem_append.mp hw with hw | hw
    · exact ny hw
    · exact no (by rw [List.mem_singleton.mp hw])
  · have h1 := H.cnt
    have h2 := congrArg List.length e
    rw [List.length_append, List.length_singleton] at h2
    omega
theorem Dfs.add (H : Dfs E n a c ws wt (some b)) (hb : b ∈ ws) (e : E b x) (hx : x ∉ ws) (h0 : 0 ≤ x) (h1 : x < n) : Dfs E n a c (ws ++ [x]) (wt ++ [x]) (some b) where
  head := List.mem_append_left _ H.head
  reach := fun y hy => by
    rcases List.mem_append.mp hy with hy | hy
    · exact H.reach y hy
    · rw [List.mem_singleton.mp hy]; exact .step (H.reach b hb) e
  sub := fun y hy => by
    rcases List.mem_append.mp hy with hy | hy
    · exact List.mem_append_left _ (H.sub y hy)
    · exact List.mem_append_right _ hy
  closed := fun y hy ny no z ez => by
    rcases List.mem_append.mp hy with hy | hy
    · exact List.mem_append_left _ (H.closed y hy (fun q => ny (List.mem_append_left _ q)) no z ez)
    · exact absurd (List.mem_append_right _ hy) ny
  nd := by
    rw [List.nodup_append]
    exact ⟨H.nd, by simp, fun y hy z hz => by rw [List.mem_singleton.mp hz]; exact fun q => hx (q ▸ hy)⟩
  ndt := by
    rw [List.nodup_append]
    exact ⟨H.ndt, by simp, fun y hy z hz => by rw [List.mem_singleton.mp hz]; exact fun q => hx (q ▸ H.sub y hy)⟩
  rng := fun y hy => by
    rcases List.mem_append.mp hy with hy | hy
    · exact H.rng y hy
    · rw [List.mem_singleton.mp hy]; exact ⟨h0, h1⟩
  cnt := by have := H.cnt; simp only [List.length_append, List.length_singleton]; omega
theorem Dfs.shut (H : Dfs E n a c ws wt (some b)) (h : ∀ x, E b x → x ∈ ws) : Dfs E n a c ws wt none where
  head := H.head
  reach := H.reach
  sub := H.sub
  closed := fun y hy ny _ z ez => by
    by_cases e : y = b
    · subst e; exact h z ez
    · exact H.closed y hy ny (fun q => e (Option.some.inj q)) z ez
  nd := H.nd
  ndt := H.ndt
  rng := H.rng
  cnt := H.cnt
theorem Dfs.full {o : Option Int} (H : Dfs E n a c ws wt o) (h : n ≤ c) : wt = [] := by
  have h1 := H.cnt
  have h2 := H.len
  exact List.eq_nil_of_length_eq_zero (by omega)
theorem Dfs.shut' (H : Dfs E n a c ws [] none) (b : Int) (hb : b ∈ ws) (x : Int) (e : E b x) : x ∈ ws := H.closed b hb (by simp) (by simp) x e
theorem Dfs.done (H : Dfs E n a c ws [] none) (b : Int) : b ∈ ws ↔ Reach E a b := by
  refine ⟨H.reach b, fun r => ?_⟩
  induction r with
  | refl => exact H.head
  | step r e ih => exact H.shut' _ ih _ e
end
/-! ### rounds backward from the end -/
structure Rnd (E : Int → Int → Prop) (n c : Nat) (ws : List Int) : Prop where
  fin : (n : Int) ∈ ws
  ends : ∀ b ∈ ws, Ends E (· = (n : Int)) b
  nd : ws.Nodup
  rng : ∀ b ∈ ws, 0 ≤ b ∧ b < ((n + 1 : Nat) : Int)
  prog : c + 1 ≤ ws.length ∨ ∀ b ∈ ws, ∀ x, E x b → x ∈ ws
section
variable {E : Int → Int → Prop} {n c : Nat} {a b x : Int} {ws fr : List Int}
theorem Rnd.len (H : Rnd E n c ws) : ws.length ≤ n + 1 := rng_len' H.nd H.rng
theorem Rnd.start : Rnd E n 0 [(n : Int)] := ⟨by simp, fun b hb => by rw [List.mem_singleton.mp hb]; exact ⟨_, .refl, rfl⟩, by simp, fun b hb => by rw [List.mem_singleton.mp hb]; omega, .inl (Nat.le_refl _)⟩
theorem ends_step (e : E x b) (h : Ends E (· = (n : Int)) b) : Ends E (· = (n : Int)) x := by
  obtain ⟨y, r, hy⟩ := h
  refine ⟨y, ?_, hy⟩
  clear hy
  induction r with
  | refl => exact .step .refl e
  | step r e2 ih => exact .step ih e2
theorem Rnd.step (H : Rnd E n c ws) (ndf : fr.Nodup) (hf : ∀ x, x ∈ fr ↔ (0 ≤ x ∧ x < (n : Int)) ∧ x ∉ ws ∧ ∃ b ∈ ws, E x b) (hE : ∀ x b, E x b → 0 ≤ x ∧ x < (n : Int)) : Rnd E n (c + 1) (ws ++ fr) where
  fin := List.mem_append_left _ H.fin
  ends := fun y hy => by
    rcases List.mem_append.mp hy with hy | hy
    · exact H.ends y hy
    · obtain ⟨_, _, b, hb, e⟩ := (hf y).mp hy
      exact ends_step e (H.ends b hb)
  nd := by
    rw [List.nodup_append]
    exact ⟨H.nd, ndf, fun y hy z hz q => ((hf z).mp hz).2.1 (q ▸ hy)⟩
  rng := fun y hy => by
    rcases List.mem_append.mp hy with hy | hy
    · exact H.rng y hy
    · have := ((hf y).mp hy).1; omega
  prog := by
    cases fr with
    | nil =>
      right
      intro b hb x e
      rw [List.append_nil] at hb ⊢
      apply Classical.byContradiction
      intro nx
      have := (hf x).mpr ⟨hE x b e, nx, b, hb, e⟩
      cases this
    | cons y r =>
      left
      rcases H.prog with p | p
      · rw [List.length_append, List.length_cons]; omega
      · obtain ⟨_, ny, b, hb, e⟩ := (hf y).mp List.mem_cons_self
        exact absurd (p b hb y e) ny
theorem full_mem {n : Nat} (nd : ws.Nodup) (rng : ∀ b ∈ ws, 0 ≤ b ∧ b < (n : Int)) (h : n ≤ ws.length) (b : Int) (h0 : 0 ≤ b) (h1 : b < n) : b ∈ ws := by
  apply Classical.byContradiction
  intro nb
  have : (b :: ws).length ≤ n := rng_len' (List.nodup_cons.mpr ⟨nb, nd⟩) fun y hy => by
    rcases List.mem_cons.mp hy with rfl | hy
    · exact ⟨h0, h1⟩
    · exact rng y hy
  rw [List.length_cons] at this
  omega
theorem Rnd.done (H : Rnd E n n ws) (b : Int) (h0 : 0 ≤ b) (h1 : b < ((n + 1 : Nat) : Int)) : b ∈ ws ↔ Ends E (· = (n : Int)) b := by
  refine ⟨H.ends b, fun e => ?_⟩
  rcases H.prog with p | p
  · exact full_mem H.nd H.rng p b h0 h1
  · obtain ⟨y, r, hy⟩ := e
    have hm : y ∈ ws := by rw [show y = (n : Int) from hy]; exact H.fin
    clear h0 h1 hy
    induction r with
    | refl => exact hm
    | step r e ih => exact ih (p _ hm _ e)
theorem Rnd.all (H : Rnd E n n ws) : ws.length = n + 1 ↔ ∀ a : Nat, a < n → Ends E (· = (n : Int)) (a : Int) := by
  constructor
  · intro h a ha
    exact H.ends _ (full_mem H.nd H.rng (by omega) (a : Int) (by omega) (by omega))
  · intro h
    have h2 : ((List.range (n + 1)).map fun k : Nat => (k : Int)).length ≤ ws.length := nodup_len (l := (List.range (n + 1)).map fun k : Nat => (k : Int)) (by
      have : (List.range (n + 1)).Nodup := List.nodup_range
      exact List.Pairwise.map _ (fun a b (h : a ≠ b) => by omega) this) fun x hx => by
      obtain ⟨k, hk, rfl⟩ := List.mem_map.mp hx
      have hk := List.mem_range.mp hk
      rw [H.done _ (by omega) (by omega)]
      by_cases e : k = n
      · exact ⟨_, .refl, by show (k : Int) = n; rw [e]⟩
      · exact h k (by omega)
    rw [List.length_map, List.length_range] at h2
    have := H.len
    omega
end
/-! ### webs -/
structure Nd where
  s : Str
  r : Str
  ms : List LX.Mo
def ndD (x : Nd) : D := .tup [.str "letter", .str x.s, .str x.r, .tup (x.ms.map LX.Mo.d)]
def endD : D := .tup [.str "end"]
def nodesD (nds : List Nd) : D := .tup (nds.map ndD ++ [endD])
def gsOf (nds : List Nd) : List (List Int) := nds.map fun x => x.ms.map LX.Mo.g
def GE (gs : List (List Int)) (a b : Int) : Prop := 0 ≤ a ∧ ∃ l, gs[a.toNat]? = some l ∧ b ∈ l
structure GOk (n : Nat) (gs : List (List Int)) : Prop where
  len : gs.length = n
  le : n ≤ 100
  rng : ∀ l ∈ gs, ∀ b ∈ l, 0 ≤ b ∧ b < ((n + 1 : Nat) : Int)
  small : ∀ l ∈ gs, l.length ≤ 1000
theorem GOk.dst {n : Nat} {gs : List (List Int)} (h : GOk n gs) {a b : Int} (e : GE gs a b) : 0 ≤ b ∧ b < ((n + 1 : Nat) : Int) := by
  obtain ⟨_, l, hl, hb⟩ := e
  exact h.rng l (List.mem_of_getElem? hl) b hb
theorem GOk.src {n : Nat} {gs : List (List Int)} (h : GOk n gs) {a b : Int} (e : GE gs a b) : 0 ≤ a ∧ a < (n : Int) := by
  obtain ⟨h0, l, hl, hb⟩ := e
  have := (List.getElem?_eq_some_iff.mp hl).1
  have := h.len
  exact ⟨h0, by omega⟩
def JoinedA (n : Nat) (gs : List (List Int)) : Prop := ∀ a : Nat, a < n → Reach (GE gs) 0 (a : Int)
def JoinedB (n : Nat) (gs : List (List Int)) : Prop := ∀ a : Nat, a < n → Ends (GE gs) (· = (n : Int)) (a : Int)
open Classical in
noncomputable def joinB (n : Nat) (gs : List (List Int)) : Bool := decide (JoinedA n gs) && decide (JoinedB n gs)
/-- different labels -/
def goodR : List D → List D → Bool
  | _, [] => true
  | acc, d :: r => (labB d && !memD d acc) && goodR (acc ++ [d]) r
def rolesB : D → Bool
  | .tup ds => (decide (2 ≤ ds.length) && decide (ds.length ≤ 5)) && goodR [] ds
  | _ => false
def letterB (rs : List D) (many : Int) : D → Bool
  | .tup [.str k, .str a, .str b, m] => (k == "letter") && ((memD (.str a) rs && memD (.str b) rs && !(a == b)) && movesB many m)
  | _ => false
def gOf : D → List Int
  | .tup [_, _, _, .tup ms] => ms.map fun m => match m with | .tup [_, _, _, .int g] => g | _ => 0
  | _ => []
def endB : D → Bool
  | .tup [.str z] => z == "end"
  | _ => false
def lastB : List D → Bool
  | [] => false
  | d :: r => endB ((d :: r).getLast (by simp))
noncomputable def webB : D → Bool
  | .tup [r, .tup ns] => match r with
    | .tup rs => rolesB (.tup rs) && ((decide (1 ≤ ns.length) && decide (ns.length ≤ 61)) && (lastB ns && (ns.dropLast.all (letterB rs ns.length) && joinB ns.dropLast.length (ns.dropLast.map gOf))))
    | _ => false
  | _ => false
theorem gOf_nd (x : Nd) : gOf (ndD x) = x.ms.map LX.Mo.g := by
  show (x.ms.map LX.Mo.d).map (fun m => match m with | .tup [_, _, _, .int g] => g | _ => 0) = _
  rw [List.map_map]; rfl
theorem letterB_nd {rs : List D} {many : Int} {d : D} (h : letterB rs many d = true) : ∃ x : Nd, d = ndD x ∧ ∀ m ∈ x.ms, 0 ≤ m.g ∧ m.g < many := by
  unfold letterB at h
  split at h
  · rename_i k a b m
    simp only [Bool.and_eq_true] at h
    obtain ⟨h1, h2, h3⟩ := h
    have hk : k = "letter" := by simpa using h1
    subst hk
    unfold movesB at h3
    split at h3
    · rename_i ds
      simp only [Bool.and_eq_true] at h3
      have key : ∀ ds : List D, ds.all (moveB many) = true → ∃ ms : List LX.Mo, ds = ms.map LX.Mo.d ∧ ∀ m ∈ ms, 0 ≤ m.g ∧ m.g < many := by
        intro ds
        induction ds with
        | nil => intro _; exact ⟨[], rfl, by simp⟩
        | cons d r ih =>
          intro h
          rw [List.all_cons, Bool.and_eq_true] at h
          obtain ⟨ms, rfl, hm⟩ := ih h.2
          obtain ⟨x, l, h', g, rfl⟩ := moveB_true h.1
          refine ⟨⟨x, l, h', g⟩ :: ms, rfl, fun m hm' => ?_⟩
          rcases List.mem_cons.mp hm' with rfl | hm'
          · have h0 := h.1
            simp only [moveB, Bool.and_eq_true, intB, decide_eq_true_eq] at h0
            exact h0.2
          · exact hm m hm'
      obtain ⟨ms, rfl, hm⟩ := key ds h3.1.2
      exact ⟨⟨a, b, ms⟩, rfl, hm⟩
    · cases h3
  · cases h
theorem letters_nd {rs : List D} {many : Int} : ∀ {ds : List D}, ds.all (letterB rs many) = true → ∃ nds : List Nd, ds = nds.map ndD ∧ ∀ x ∈ nds, ∀ m ∈ x.ms, 0 ≤ m.g ∧ m.g < many
  | [], _ => ⟨[], rfl, by simp⟩
  | d :: r, h => by
    rw [List.all_cons, Bool.and_eq_true] at h
    obtain ⟨x, rfl, hx⟩ := letterB_nd h.1
    obtain ⟨nds, rfl, hn⟩ := letters_nd h.2
    refine ⟨x :: nds, rfl, fun y hy => ?_⟩
    rcases List.mem_cons.mp hy with rfl | hy
    · exact hx
    · exact hn y hy
end K11
/-! GRs: helpers of heaps for graphs (turned from K22). -/
namespace GR
open PySem DL L2 K22
-- what the heap holds at a place
local macro_rules | `(tactic| walk_at "h") => `(tactic| first
  | assumption
  | exact mup_same
  | (refine (mup_ne ?_).trans ?_ <;> first | assumption | (apply Ne.symm; assumption) | walk_at "h"))
-- small facts of numbers
local macro_rules | `(tactic| walk_at "n") => `(tactic| first
  | assumption
  | omega
  | decide
  | (exact CMul.r (by decide))
  | (exact CMul.l (by decide))
  | (refine ⟨?_, ?_⟩ <;> first | assumption | omega | decide))
-- lengths
local macro_rules | `(tactic| walk_at "l") => `(tactic| first
  | assumption
  | (rw [sizeLine_eq]; first | omega | decide | (simp; done) | (simp; omega) | decide +kernel))
-- one step
local macro_rules | `(tactic| walk_at "e1") => `(tactic| first
  | with_reducible refine t_nil ?_
  | ((with_reducible refine' t_var ?s ?_); (case s => first | assumption | exact rfl))
  | with_reducible refine t_c ?_
  | with_reducible refine t_bin ?_
  | with_reducible refine t_if ?_
  | with_reducible refine t_asg ?_
  | with_reducible refine t_gN ?_
  | with_reducible refine t_ret ?_
  | with_reducible refine t_exp ?_
  | with_reducible refine t_bcmp ?_
  | with_reducible refine t_band ?_
  | with_reducible refine t_bor ?_
  | with_reducible refine t_bnot ?_
  | with_reducible refine t_btru ?_
  | with_reducible refine t_byes ?_
  | with_reducible refine t_an ?_
  | with_reducible refine t_ac ?_
  | with_reducible refine t_fn ?_
  | with_reducible refine t_call ?_
  | with_reducible refine t_cmp ?_
  | with_reducible refine t_and ?_
  | with_reducible refine t_or ?_
  | with_reducible refine t_not ?_
  | with_reducible refine t_ife ?_
  | with_reducible refine t_tup ?_
  | with_reducible refine t_lst ?_
  | with_reducible refine t_isi ?_
  | with_reducible refine t_sl ?_
  | with_reducible refine t_o0 ?_
  | with_reducible refine t_o1 ?_
  | with_reducible refine t_un ?_
  | with_reducible refine t_mt ?_
  | with_reducible refine t_gS ?_
  | with_reducible refine t_gsC ?_
  | with_reducible refine t_gsN ?_
  | ((with_reducible refine t_gT ?s ?_); (case s => first | assumption | exact rfl))
  | with_reducible refine t_retN ?_
  | with_reducible refine t_brk ?_
  | with_reducible refine t_cnt ?_
  | ((with_reducible refine' t_aug ?s ?_); (case s => first | assumption | exact rfl))
  | with_reducible refine t_for ?_
  | with_reducible refine t_seqi ?_
  | with_reducible refine t_rg1 ?_
  | with_reducible refine t_rg2 ?_
  | with_reducible refine t_lc ?_
  | with_reducible refine v_tru_bl ?_
  | with_reducible refine v_tru_int ?_
  | with_reducible refine v_tru_non ?_
  | with_reducible refine v_tru_tup ?_
  | with_reducible refine v_add_int ?_
  | ((with_reducible refine v_add_str ?l ?_); (case l => walk_at "l"))
  | ((with_reducible refine v_add_tup ?l ?_); (case l => walk_at "l"))
  | with_reducible refine v_iadd_int ?_
  | with_reducible refine v_sub ?_
  | ((with_reducible refine v_mul ?c ?_); (case c => walk_at "n"))
  | ((with_reducible refine v_div ?c ?_); (case c => walk_at "n"))
  | ((with_reducible refine v_mod ?c ?_); (case c => walk_at "n"))
  | ((with_reducible refine v_pow ?c ?_); (case c => exact ⟨by decide, by decide, by decide⟩))
  | with_reducible refine v_neg ?_
  | with_reducible exact trivial
  | with_reducible refine v_eq_int ?_
  | with_reducible refine v_eq_str ?_
  | with_reducible refine v_eq_bl ?_
  | with_reducible refine v_ne_int ?_
  | with_reducible refine v_ne_str ?_
  | with_reducible refine v_ne_bl ?_
  | with_reducible refine v_lt ?_
  | with_reducible refine v_lt_str ?_
  | with_reducible refine t_ks ?_
  | with_reducible refine t_rv ?_
  | with_reducible refine v_seq_ktp ?_
  | ((with_reducible refine' v_extend ?e ?f ?l ?_); (case e => walk_at "h"); (case f => walk_at "h"); (case l => walk_at "l"))
  | with_reducible refine v_le ?_
  | with_reducible refine v_gt ?_
  | with_reducible refine v_ge ?_
  | with_reducible refine v_isi_non ?_
  | with_reducible refine v_isi_bl ?_
  | with_reducible refine v_isi_int ?_
  | with_reducible refine v_isi_str ?_
  | with_reducible refine v_isi_tup ?_
  | with_reducible refine v_in_str ?_
  | with_reducible refine v_nin_str ?_
  | with_reducible refine v_len_tup ?_
  | with_reducible refine v_len_rol ?_
  | ((with_reducible refine v_len_str ?l ?_); (case l => walk_at "l"))
  | ((with_reducible refine' v_len_ref ?e ?_); (case e => walk_at "h"))
  | with_reducible refine v_int_int ?_
  | with_reducible refine v_max ?_
  | with_reducible refine v_min ?_
  | with_reducible refine v_tuple_tup ?_
  | ((with_reducible refine' v_tuple_ref ?e ?_); (case e => walk_at "h"))
  | ((with_reducible refine' v_ix_ref ?e ?f ?_); (case e => walk_at "h"); (case f => first | assumption | exact rfl))
  | ((with_reducible refine' v_ix_tup ?f ?_); (case f => first | assumption | exact rfl))
  | ((with_reducible refine' v_set ?e ?f ?_); (case e => walk_at "h"); (case f => first | assumption | exact rfl))
  | ((with_reducible refine v_sl_str ?l ?_); (case l => walk_at "l"))
  | with_reducible refine v_sl_tup ?_
  | with_reducible refine v_seq_tup ?_
  | with_reducible refine v_seq_str ?_
  | with_reducible refine v_seq_rol ?_
  | ((with_reducible refine' v_seq_ref ?e ?_); (case e => walk_at "h"))
  | ((with_reducible refine' ⟨v_ty_ref ?e, ?_⟩); (case e => walk_at "h"))
  | ((with_reducible refine' v_append ?e ?l ?_); (case e => walk_at "h"); (case l => walk_at "l")))
local macro_rules | `(tactic| walk_at "d1") => `(tactic| first | with_reducible refine t_seq ?_ | walk_at "e1")
local macro_rules | `(tactic| walk_at "d") => `(tactic| repeat walk_at "d1")
-- one statement
local macro_rules | `(tactic| walk_at "e") => `(tactic| ((repeat walk_at "e1"); try (with_reducible show sSeq _ _ _ _ _)))
local macro_rules | `(tactic| walk_at "s") => `(tactic| ((with_reducible refine t_seq ?_); walk_at "e"))
-- a drawn thing's small facts
local macro_rules | `(tactic| walk_at "gi") => `(tactic| first
  | exact gi_c trivial
  | exact gi_c ⟨_, rfl, by decide, by decide⟩
  | exact gi_c (show _ ≤ _ by decide)
  | exact gi_c (show _ ≤ _ by decide +kernel)
  | exact gi_v rfl trivial)
local macro_rules | `(tactic| walk_at "ga") => `(tactic| ((repeat (first | exact ga_nil | refine ga_cons2 ?_ ?_)); all_goals (try walk_at "gi")))
theorem v_isn {x : D} {M : Mh} {R : Bool → Prop} (h : R (!isNon x)) : isnD x .non M R := h
theorem v_isN {x : D} {M : Mh} {R : Bool → Prop} (h : R (isNon x)) : isD x .non M R := h
theorem atI_ints {fs : List Int} {i : Nat} {b : Int} (h : fs[i]? = some b) : atI (fs.map D.int) (i : Int) = some (.int b) := atI_get? (by omega) (by rw [Int.toNat_natCast, List.getElem?_map, h]; rfl)
theorem keys_put {kvs : List (Key × D)} {fs : List Int} {c : Int} (d : D) (h : kvs.map (·.1) = fs.map Sum.inl) (n : c ∉ fs) : (putD kvs (Sum.inl c) d).map (·.1) = (fs ++ [c]).map Sum.inl := by
  rw [putD_keys, h, if_neg, List.map_append]; rfl
  intro z
  obtain ⟨x, hx, e⟩ := List.mem_map.mp z
  cases e
  exact n hx
theorem key_mem {kvs : List (Key × D)} {fs : List Int} {c : Int} (h : kvs.map (·.1) = fs.map Sum.inl) : (valD kvs (Sum.inl c)).isSome = decide (c ∈ fs) := by
  rw [← valD_any, Bool.eq_iff_iff, List.any_eq_true, decide_eq_true_eq]
  constructor
  · rintro ⟨kv, hk, e⟩
    have e := of_decide_eq_true e
    have : kv.1 ∈ kvs.map (·.1) := List.mem_map.mpr ⟨kv, hk, rfl⟩
    rw [h, e] at this
    obtain ⟨x, hx, e2⟩ := List.mem_map.mp this
    cases e2
    exact hx
  · intro hx
    have : (Sum.inl c : Key) ∈ kvs.map (·.1) := by rw [h]; exact List.mem_map.mpr ⟨c, hx, rfl⟩
    obtain ⟨kv, hk, e⟩ := List.mem_map.mp this
    exact ⟨kv, hk, decide_eq_true e⟩
theorem put_nodup {kvs : List (Key × D)} {k : Key} (d : D) (h : (kvs.map (·.1)).Nodup) : ((putD kvs k d).map (·.1)).Nodup := by
  rw [putD_keys]
  split
  · exact h
  · rename_i n
    rw [List.nodup_append]
    exact ⟨h, by simp, fun a ha b hb => by rw [List.mem_singleton.mp hb]; exact fun e => n (e ▸ ha)⟩
theorem put_mem {kvs : List (Key × D)} {k k' : Key} (d : D) : k' ∈ (putD kvs k d).map (·.1) ↔ k' ∈ kvs.map (·.1) ∨ k' = k := by
  rw [putD_keys]
  split
  · rename_i n
    exact ⟨.inl, fun h => by rcases h with h | rfl; exact h; exact n⟩
  · rw [List.mem_append, List.mem_singleton]
theorem all_map {α β : Type} {f : α → β} : ∀ {l : List β}, (∀ k ∈ l, ∃ z, k = f z) → ∃ zs : List α, l = zs.map f
  | [], _ => ⟨[], rfl⟩
  | k :: r, h => by
    obtain ⟨z, rfl⟩ := h k List.mem_cons_self
    obtain ⟨zs, rfl⟩ := all_map (l := r) fun x hx => h x (List.mem_cons_of_mem _ hx)
    exact ⟨z :: zs, rfl⟩
theorem nodup_of_map {α β : Type} {f : α → β} : ∀ {l : List α}, (l.map f).Nodup → l.Nodup
  | [], _ => by simp
  | x :: r, h => by
    rw [List.map_cons, List.nodup_cons] at h
    rw [List.nodup_cons]
    exact ⟨fun q => h.1 (List.mem_map.mpr ⟨x, q, rfl⟩), nodup_of_map h.2⟩
theorem dkeys_map (kvs : List (Key × D)) : dKeys (.dk kvs) = (kvs.map (·.1)).map kD := by
  show kvs.map (fun kv => kD kv.1) = _
  rw [List.map_map]; rfl
theorem memD_strs {w : Str} {zs : List Str} : memD (.str w) (zs.map D.str) = true ↔ w ∈ zs := by
  unfold memD
  rw [List.any_map, List.any_eq_true]
  constructor
  · rintro ⟨x, hx, e⟩
    have e : deq (.str x) (.str w) = true := e
    rw [deq_str, beq_iff_eq] at e
    rw [← e]; exact hx
  · intro h
    exact ⟨w, h, by show deq (.str w) (.str w) = true; rw [deq_str, beq_iff_eq]⟩
theorem memD_ints {w : Int} {zs : List Int} : memD (.int w) (zs.map D.int) = true ↔ w ∈ zs := by
  unfold memD
  rw [List.any_map, List.any_eq_true]
  constructor
  · rintro ⟨x, hx, e⟩
    have e : deq (.int x) (.int w) = true := e
    rw [deq_int, beq_iff_eq] at e
    rw [← e]; exact hx
  · intro h
    exact ⟨w, h, by show deq (.int w) (.int w) = true; rw [deq_int, beq_iff_eq]⟩
theorem flat_ints (zs : List Int) : (zs.map D.int).all flatD = true := by
  induction zs with
  | nil => rfl
  | cons z r ih => rw [List.map_cons, List.all_cons, ih]; rfl
theorem flat_strs (zs : List Str) : (zs.map D.str).all flatD = true := by
  induction zs with
  | nil => rfl
  | cons z r ih => rw [List.map_cons, List.all_cons, ih]; rfl
theorem t_dct_k' {ρ : Ev} {M : Mh} {Q : PQ} (h : ∀ p, M p = none → Q (.ref p) (mup M p (.dk []))) : eDct ρ M Q := .inl h
/-- the sorted rows of texts -/
theorem sorted_strs {ys : List Str} (nd : ys.Nodup) (hpw : (ys.map D.str).Pairwise fun a b => ¬ (eD b < eD a)) : ys.Pairwise ltS := by
  have a1 : ys.Pairwise fun a b => ¬ ltS b a := (List.pairwise_map.mp hpw).imp fun h q => h (eS_ltS.mpr q)
  exact (a1.and nd).imp fun ⟨x, y⟩ => ltS_tri x y
theorem nd_inj {α : Type} {l : List α} (h : l.Nodup) {i j : Nat} {x : α} (hi : l[i]? = some x) (hj : l[j]? = some x) : i = j := by
  obtain ⟨i1, i2⟩ := List.getElem?_eq_some_iff.mp hi
  obtain ⟨j1, j2⟩ := List.getElem?_eq_some_iff.mp hj
  have p := List.pairwise_iff_getElem.mp h
  rcases Nat.lt_trichotomy i j with k | k | k
  · exact absurd (i2.trans j2.symm) (p i j i1 j1 k)
  · exact k
  · exact absurd (j2.trans i2.symm) (p j i j1 i1 k)
/-- the places of the lists of comers, and what they hold -/
structure Com (M0 : Mh) (many : Nat) (c : Addr) (rs : List Addr) (f : Nat → List Int) (M' : Mh) : Prop where
  len : rs.length = many
  nd : rs.Nodup
  new : ∀ r ∈ rs, M0 r = none ∧ r ≠ c
  cnew : M0 c = none
  at' : M' c = some (.lst (rs.map D.ref))
  l : ∀ (k : Nat) r, rs[k]? = some r → M' r = some (.lst ((f k).map D.int))
theorem Com.keep {M0 M' M2 : Mh} {many : Nat} {c : Addr} {rs : List Addr} {f : Nat → List Int} (H : Com M0 many c rs f M') (x : MExt M' M2) : Com M0 many c rs f M2 :=
  ⟨H.len, H.nd, H.new, H.cnew, x _ _ (fun z => z) H.at', fun k r e => x _ _ (fun z => z) (H.l k r e)⟩
theorem Com.put {M0 M' : Mh} {many : Nat} {c : Addr} {rs : List Addr} {f : Nat → List Int} (H : Com M0 many c rs f M') {k : Nat} {r : Addr} {x : Int} (e : rs[k]? = some r) : Com M0 many c rs (fun n => if n = k then f k ++ [x] else f n) (mup M' r (.lst ((f k).map D.int ++ [.int x]))) where
  len := H.len
  nd := H.nd
  new := H.new
  cnew := H.cnew
  at' := by rw [mup_ne (H.new r (List.mem_of_getElem? e)).2.symm]; exact H.at'
  l := fun n q eq => by
    by_cases z : n = k
    · subst z
      rw [e] at eq
      cases eq
      rw [mup_same, if_pos rfl, List.map_append]; rfl
    · have : q ≠ r := by
        rintro rfl
        exact z (nd_inj H.nd eq e)
      rw [mup_ne this, if_neg z]
      exact H.l n q eq
theorem Com.other {M0 M' : Mh} {many : Nat} {c w : Addr} {rs : List Addr} {f : Nat → List Int} {o : MO} (H : Com M0 many c rs f M') (h1 : w ≠ c) (h2 : w ∉ rs) : Com M0 many c rs f (mup M' w o) :=
  ⟨H.len, H.nd, H.new, H.cnew, by rw [mup_ne h1.symm]; exact H.at', fun k r e => by rw [mup_ne (fun z : r = w => h2 (z ▸ List.mem_of_getElem? e))]; exact H.l k r e⟩
theorem Com.free {M0 M' : Mh} {many : Nat} {c w : Addr} {rs : List Addr} {f : Nat → List Int} (H : Com M0 many c rs f M') (h : M' w = none) : w ≠ c ∧ w ∉ rs := by
  refine ⟨(ne_free H.at' h).symm, fun z => ?_⟩
  obtain ⟨k, hk, e⟩ := List.mem_iff_getElem.mp z
  have := H.l k w (by rw [List.getElem?_eq_getElem hk, e])
  rw [h] at this; cases this
theorem cut_take {ds : List D} (n : Nat) : cutD ds none (some (n : Int)) = ds.take n := by
  unfold cutD
  rw [HT.sIx_nat, HT.sIx_none, List.drop_zero, Nat.sub_zero]
  by_cases h : n ≤ ds.length
  · rw [Nat.min_eq_left h]
  · rw [Nat.min_eq_right (by omega), List.take_length, List.take_of_length_le (by omega)]
theorem cut_drop {ds : List D} (n : Nat) : cutD ds (some (n : Int)) none = ds.drop n := by
  unfold cutD
  rw [HT.sIx_nat, HT.sIx_none]
  by_cases h : n ≤ ds.length
  · rw [Nat.min_eq_left h, List.take_of_length_le (by simp)]
  · rw [Nat.min_eq_right (by omega), List.drop_of_length_le (Nat.le_refl _), List.drop_of_length_le (show ds.length ≤ n by omega)]
    simp
theorem atI_map' {α : Type} {zs : List α} {f : α → D} {k : Int} (h0 : 0 ≤ k) (h1 : k < zs.length) : ∃ z, z ∈ zs ∧ zs[k.toNat]? = some z ∧ atI (zs.map f) k = some (f z) := by
  have hn : k.toNat < zs.length := by omega
  have e := List.getElem?_eq_getElem hn
  exact ⟨_, List.getElem_mem hn, e, atI_get? h0 (by rw [List.getElem?_map, e]; rfl)⟩
/-- items[pick(jar, len(items))], of a tuple -/
theorem gi_item {α : Type} {j : Addr} {ρ : Ev} {i ij : Nat} {zs : List α} {f : α → D} (sj : slot ρ ij = some (.ref j)) (s : slot ρ i = some (.tup (zs.map f))) (l0 : 0 < zs.length) (l1 : zs.length < 1073741824) :
    GI j ρ (fun d => ∃ z ∈ zs, d = f z) (eBin ixD (eVar i) (eFn 2 sp_pick (aCons (eVar ij) (aCons (eCall lenD (aCons (eVar i) aNil)) aNil)))) := fun M P jk k => by
  refine t_bin (t_var s (t_fn (t_ac (t_var sj (t_ac (t_call (t_ac (t_var s (t_an (v_len_tup (t_an ?_))))))))))) 
  refine c_pick jk (by rw [List.length_map]; omega) fun x o x0 x1 j1 => ?_
  rw [List.length_map] at x1
  obtain ⟨z, hz, _, e⟩ := atI_map' (f := f) x0 x1
  exact v_ix_tup e (k _ _ (.put rfl) j1 ⟨z, hz, rfl⟩)
/-- the same, of a list -/
theorem run_item {α : Type} {j p : Addr} {ρ : Ev} {i ij : Nat} {zs : List α} {f : α → D} {M : Mh} {P : PQ} (sj : slot ρ ij = some (.ref j)) (s : slot ρ i = some (.ref p)) (hp : M p = some (.lst (zs.map f))) (pj : p ≠ j) (l0 : 0 < zs.length) (l1 : zs.length < 1073741824) (jk : JarOk M j)
    (k : ∀ z M', z ∈ zs → MKeep (· = j) M M' → JarOk M' j → P (f z) M') :
    (eBin ixD (eVar i) (eFn 2 sp_pick (aCons (eVar ij) (aCons (eCall lenD (aCons (eVar i) aNil)) aNil)))) ρ M P := by
  refine t_bin (t_var s (t_fn (t_ac (t_var sj (t_ac (t_call (t_ac (t_var s (t_an (v_len_ref hp (t_an ?_)))))))))))
  refine c_pick jk (by rw [List.length_map]; omega) fun x o x0 x1 j1 => ?_
  rw [List.length_map] at x1
  obtain ⟨z, hz, _, e⟩ := atI_map' (f := f) x0 x1
  exact v_ix_ref (by rw [mup_ne pj]; exact hp) e (k _ _ hz (.put rfl) j1)
theorem okT_ints (ns : List Int) : okD (.tup (ns.map D.int)) = true := by
  obtain ⟨i1, i2⟩ := rol_ints ns
  unfold okD SeqAt.shaped
  simp only [pd, PyData.canLay0, PyData.depth, i1, Bool.true_and, decide_eq_true_eq]
  omega
theorem okT_strs {ps : List Str} (h : ∀ w ∈ ps, LX.SmS w) : okD (.tup (ps.map D.str)) = true := by
  have : ps.map D.str = (ps.map lit).map fun t => D.str (st t) := by
    rw [List.map_map]
    exact List.map_congr_left fun w _ => by show _ = D.str (st (lit w)); rw [st_lit]
  rw [this]
  exact okD_strs fun t ht => by
    obtain ⟨w, hw, rfl⟩ := List.mem_map.mp ht
    exact h w hw
theorem v_ne_same {x : D} {M : Mh} {R : Bool → Prop} (f : okD x = true) (h : R false) : neD x x M R := .inl ⟨.inr ⟨f, f⟩, by
  rw [deq_refl x f]; exact h⟩
end GR
/-! LXh: the laws' names, spans and moves, with things held. -/
namespace LX
open PySem DL L2 GR
section
variable {M : Mh} {Js : List Addr} {L : List (Addr × MO)} {j p q : Addr} {Q : PQ}
theorem h_name {i : Int} (H : Held M Js L) (hj : j ∈ Js) (h0 : 0 ≤ i) (h1 : i ≤ 9) (k : ∀ (z : Str) M', z.length ≤ 40 → SmS z → Held M' Js L → Q (.str z) M') : [D.ref j, D.int i].length = 2 ∧ sp_name [.ref j, .int i] M Q :=
  ⟨rfl, j, i, rfl, H.jar j hj, h0, h1, fun z M' l s m jk => k z M' l s (H.keep hj m jk)⟩
theorem h_names {i : Int} (H : Held M Js L) (hj : j ∈ Js) (h0 : 0 ≤ i) (h1 : i ≤ 10) (k : ∀ p (zs : List Str) M', zs.length = i.toNat → (∀ z ∈ zs, z.length ≤ 40) → (∀ z ∈ zs, SmS z) → Held M' Js ((p, .lst (zs.map D.str)) :: L) → Q (.ref p) M') : [D.ref j, D.int i].length = 2 ∧ sp_names [.ref j, .int i] M Q :=
  ⟨rfl, j, i, rfl, H.jar j hj, h0, h1, fun p zs M' l1 l2 s e _ n m jk => k p zs M' l1 l2 s (H.more (H.keep hj m jk) n e)⟩
theorem h_span (H : Held M Js L) (hj : j ∈ Js) (k : ∀ (a b : Int) M', 0 ≤ a → a ≤ b → b ≤ 999999 → Held M' Js L → Q (.tup [.int a, .int b]) M') : [D.ref j].length = 1 ∧ sp_span [.ref j] M Q :=
  ⟨rfl, j, rfl, H.jar j hj, fun d M' m jk ⟨a, b, e, h0, h1, h2⟩ => by subst e; exact k a b M' h0 h1 h2 (H.keep hj m jk)⟩
theorem h_moves {lb gl : Addr} {zs : List Str} {gs : List Int} {count : Nat} (H : Held M Js L) (hj : j ∈ Js) (m1 : (lb, .lst (zs.map D.str)) ∈ L) (m2 : (gl, .lst (gs.map D.int)) ∈ L) (z0 : 0 < zs.length) (z1 : zs.length ≤ 1000) (g0 : 0 < gs.length) (g1 : gs.length ≤ 1000) (hc : count ≤ 100)
    (k : ∀ p (ms : List Mo) M', ms.length = count → (∀ m ∈ ms, m.z ∈ zs ∧ m.g ∈ gs ∧ m.sp) → Held M' Js ((p, .lst (ms.map Mo.d)) :: L) → Q (.ref p) M') :
    [D.ref j, .ref lb, .int count, .ref gl].length = 4 ∧ sp_moves [.ref j, .ref lb, .int count, .ref gl] M Q :=
  ⟨rfl, j, lb, gl, zs, gs, count, rfl, H.get m1, H.get m2, H.ne hj m1, H.ne hj m2, z0, z1, g0, g1, hc, H.jar j hj, fun p ms M' l hm e _ n m jk => k p ms M' l hm (H.more (H.keep hj m jk) n e)⟩
end
end LX
/-! K11b: the bodies of the defs, printed by gen.py -/
namespace K11
open PySem DL

abbrev g_FIGURES : D := (.str "0123456789")
abbrev g_LETTERS : D := (.str "abcdefghijklmnopqrstuvwxyz")
abbrev g_RESERVED : D := (.ktp [(.str "talk"), (.str "roles"), (.str "to"), (.str "on"), (.str "round"), (.str "again"), (.str "stop"), (.str "machine"), (.str "say"), (.str "hear"), (.str "end")])
abbrev g_GREATEST : D := (.int 999999)
abbrev g_MOST_ROLES : D := (.int 5)
abbrev g_MOST_NODES : D := (.int 61)
/-- slots: 0 node 1 found 2 move -/
def b_nexts_of : DS :=
  (sSeq (sIf (bCmp eqD (eBin ixD (eVar 0) (eC (.int 0))) (eC (.str "end")))
   (sSeq (sRet (eLst aNil))
   sNil)
   sNil)
  (sSeq (sAsg eDct (gN 1))
  (sSeq (sFor (iSeq (eBin ixD (eVar 0) (eC (.int 3)))) (gN 2)
   (sSeq (sAsg (eC (.bl true)) (gS (eVar 1) (eBin ixD (eVar 2) (eC (.int 3)))))
   sNil))
  (sSeq (sRet (eKs (eVar 1)))
  sNil))))
/-- slots: 0 nodes 1 start 2 found 3 seen 4 at 5 goal -/
def b_found_from (c_nexts_of : List D → Mh → PQ → Prop) : DS :=
  (sSeq (sAsg (eLst (aCons (eVar 1) aNil)) (gN 2))
  (sSeq (sAsg (eD1 (eVar 1) (eC (.bl true))) (gN 3))
  (sSeq (sAsg (eC (.int 0)) (gN 4))
  (sSeq (sWh (bCmp ltD (eVar 4) (eCall lenD (aCons (eVar 2) aNil)))
   (sSeq (sFor (iSeq (eFn 1 c_nexts_of (aCons (eBin ixD (eVar 0) (eBin ixD (eVar 2) (eVar 4))) aNil))) (gN 5)
    (sSeq (sIf (bCmp ninD (eVar 5) (eVar 3))
     (sSeq (sAsg (eC (.bl true)) (gS (eVar 3) (eVar 5)))
     (sSeq (sExp (eMt "list" appendD (eVar 2) (aCons (eVar 5) aNil)))
     sNil))
     sNil)
    sNil))
   (sSeq (sAug 4 iaddD (eC (.int 1)))
   sNil)))
  (sSeq (sRet (eVar 2))
  sNil)))))
/-- slots: 0 nodes 1 comers 2 node 3 number 4 goal -/
def b_comers_to (c_nexts_of : List D → Mh → PQ → Prop) : DS :=
  (sSeq (sAsg (eLC (iSeq (eVar 0)) (.nm 2) bYes (eLst aNil) [2]) (gN 1))
  (sSeq (sFor (iRg1 (aCons (eCall lenD (aCons (eVar 0) aNil)) aNil)) (gN 3)
   (sSeq (sFor (iSeq (eFn 1 c_nexts_of (aCons (eBin ixD (eVar 0) (eVar 3)) aNil))) (gN 4)
    (sSeq (sExp (eMt "list" appendD (eBin ixD (eVar 1) (eVar 4)) (aCons (eVar 3) aNil)))
    sNil))
   sNil))
  (sSeq (sRet (eVar 1))
  sNil)))
/-- slots: 0 nodes 1 comers 2 left 3 node 4 end 5 waiting 6 at 7 number 8 comer -/
def b_left_of (c_comers_to : List D → Mh → PQ → Prop) : DS :=
  (sSeq (sAsg (eFn 1 c_comers_to (aCons (eVar 0) aNil)) (gN 1))
  (sSeq (sAsg (eLC (iSeq (eVar 0)) (.nm 3) bYes (eC .non) [3]) (gN 2))
  (sSeq (sAsg (eBin subD (eCall lenD (aCons (eVar 0) aNil)) (eC (.int 1))) (gN 4))
  (sSeq (sAsg (eC (.int 0)) (gS (eVar 2) (eVar 4)))
  (sSeq (sAsg (eLst (aCons (eVar 4) aNil)) (gN 5))
  (sSeq (sAsg (eC (.int 0)) (gN 6))
  (sSeq (sWh (bCmp ltD (eVar 6) (eCall lenD (aCons (eVar 5) aNil)))
   (sSeq (sAsg (eBin ixD (eVar 5) (eVar 6)) (gN 7))
   (sSeq (sAug 6 iaddD (eC (.int 1)))
   (sSeq (sFor (iSeq (eBin ixD (eVar 1) (eVar 7))) (gN 8)
    (sSeq (sIf (bCmp isD (eBin ixD (eVar 2) (eVar 8)) (eC .non))
     (sSeq (sAsg (eBin addD (eBin ixD (eVar 2) (eVar 7)) (eC (.int 1))) (gS (eVar 2) (eVar 8)))
     (sSeq (sExp (eMt "list" appendD (eVar 5) (aCons (eVar 8) aNil)))
     sNil))
     sNil)
    sNil))
   sNil))))
  (sSeq (sRet (eVar 2))
  sNil))))))))
/-- slots: 0 thing -/
def b_is_number : DS :=
  (sSeq (sRet (eAnd (eIsi "int" (eVar 0)) (eNot (eIsi "bool" (eVar 0)))))
  sNil)
/-- slots: 0 thing 1 sign -/
def b_is_name : DS :=
  (sSeq (sIf (bNot (bTru (eIsi "str" (eVar 0))))
   (sSeq (sRet (eC (.bl false)))
   sNil)
   sNil)
  (sSeq (sIf (bOr (bCmp ltD (eCall lenD (aCons (eVar 0) aNil)) (eC (.int 1))) (bCmp gtD (eCall lenD (aCons (eVar 0) aNil)) (eC (.int 8))))
   (sSeq (sRet (eC (.bl false)))
   sNil)
   sNil)
  (sSeq (sIf (bCmp ninD (eBin ixD (eVar 0) (eC (.int 0))) (eC g_LETTERS))
   (sSeq (sRet (eC (.bl false)))
   sNil)
   sNil)
  (sSeq (sFor (iSeq (eVar 0)) (gN 1)
   (sSeq (sIf (bAnd (bCmp ninD (eVar 1) (eC g_LETTERS)) (bCmp ninD (eVar 1) (eC g_FIGURES)))
    (sSeq (sRet (eC (.bl false)))
    sNil)
    sNil)
   sNil))
  (sSeq (sRet (eC (.bl true)))
  sNil)))))
/-- slots: 0 thing -/
def b_is_label (c_is_name : List D → Mh → PQ → Prop) : DS :=
  (sSeq (sRet (eAnd (eFn 1 c_is_name (aCons (eVar 0) aNil)) (eCmp ninD (eVar 0) (eC g_RESERVED))))
  sNil)
/-- slots: 0 lo 1 hi -/
def b_is_span (c_is_number : List D → Mh → PQ → Prop) : DS :=
  (sSeq (sIf (bOr (bNot (bTru (eFn 1 c_is_number (aCons (eVar 0) aNil)))) (bNot (bTru (eFn 1 c_is_number (aCons (eVar 1) aNil)))))
   (sSeq (sRet (eC (.bl false)))
   sNil)
   sNil)
  (sSeq (sRet (eAnd (eCmp leD (eC (.int 0)) (eVar 0)) (eAnd (eCmp leD (eVar 0) (eVar 1)) (eCmp leD (eVar 1) (eC g_GREATEST)))))
  sNil))
/-- slots: 0 many 1 move -/
def b_is_move (c_is_number : List D → Mh → PQ → Prop) (c_is_span : List D → Mh → PQ → Prop) (c_is_label : List D → Mh → PQ → Prop) : DS :=
  (sSeq (sIf (bOr (bNot (bTru (eIsi "tuple" (eVar 1)))) (bCmp neD (eCall lenD (aCons (eVar 1) aNil)) (eC (.int 4))))
   (sSeq (sRet (eC (.bl false)))
   sNil)
   sNil)
  (sSeq (sIf (bOr (bNot (bTru (eFn 1 c_is_label (aCons (eBin ixD (eVar 1) (eC (.int 0))) aNil)))) (bNot (bTru (eFn 2 c_is_span (aCons (eBin ixD (eVar 1) (eC (.int 1))) (aCons (eBin ixD (eVar 1) (eC (.int 2))) aNil))))))
   (sSeq (sRet (eC (.bl false)))
   sNil)
   sNil)
  (sSeq (sIf (bNot (bTru (eFn 1 c_is_number (aCons (eBin ixD (eVar 1) (eC (.int 3))) aNil))))
   (sSeq (sRet (eC (.bl false)))
   sNil)
   sNil)
  (sSeq (sRet (eAnd (eCmp leD (eC (.int 0)) (eBin ixD (eVar 1) (eC (.int 3)))) (eCmp ltD (eBin ixD (eVar 1) (eC (.int 3))) (eVar 0))))
  sNil))))
/-- slots: 0 many 1 moves 2 move 3 at 4 before 5 behind -/
def b_is_moves (c_is_move : List D → Mh → PQ → Prop) : DS :=
  (sSeq (sIf (bOr (bNot (bTru (eIsi "tuple" (eVar 1)))) (bCmp eqD (eCall lenD (aCons (eVar 1) aNil)) (eC (.int 0))))
   (sSeq (sRet (eC (.bl false)))
   sNil)
   sNil)
  (sSeq (sFor (iSeq (eVar 1)) (gN 2)
   (sSeq (sIf (bNot (bTru (eFn 2 c_is_move (aCons (eVar 0) (aCons (eVar 2) aNil)))))
    (sSeq (sRet (eC (.bl false)))
    sNil)
    sNil)
   sNil))
  (sSeq (sFor (iRg2 (aCons (eC (.int 1)) (aCons (eCall lenD (aCons (eVar 1) aNil)) aNil))) (gN 3)
   (sSeq (sAsg (eBin ixD (eVar 1) (eBin subD (eVar 3) (eC (.int 1)))) (gN 4))
   (sSeq (sAsg (eBin ixD (eVar 1) (eVar 3)) (gN 5))
   (sSeq (sIf (bCmp ltD (eBin ixD (eVar 5) (eC (.int 0))) (eBin ixD (eVar 4) (eC (.int 0))))
    (sSeq (sRet (eC (.bl false)))
    sNil)
    sNil)
   (sSeq (sIf (bAnd (bCmp eqD (eBin ixD (eVar 5) (eC (.int 0))) (eBin ixD (eVar 4) (eC (.int 0)))) (bCmp leD (eBin ixD (eVar 5) (eC (.int 1))) (eBin ixD (eVar 4) (eC (.int 2)))))
    (sSeq (sRet (eC (.bl false)))
    sNil)
    sNil)
   sNil)))))
  (sSeq (sRet (eC (.bl true)))
  sNil))))
/-- slots: 0 thing 1 at -/
def b_are_roles (c_is_label : List D → Mh → PQ → Prop) : DS :=
  (sSeq (sIf (bNot (bTru (eIsi "tuple" (eVar 0))))
   (sSeq (sRet (eC (.bl false)))
   sNil)
   sNil)
  (sSeq (sIf (bOr (bCmp ltD (eCall lenD (aCons (eVar 0) aNil)) (eC (.int 2))) (bCmp gtD (eCall lenD (aCons (eVar 0) aNil)) (eC g_MOST_ROLES)))
   (sSeq (sRet (eC (.bl false)))
   sNil)
   sNil)
  (sSeq (sFor (iRg1 (aCons (eCall lenD (aCons (eVar 0) aNil)) aNil)) (gN 1)
   (sSeq (sIf (bOr (bNot (bTru (eFn 1 c_is_label (aCons (eBin ixD (eVar 0) (eVar 1)) aNil)))) (bCmp inD (eBin ixD (eVar 0) (eVar 1)) (eSl (eVar 0) none (some (eVar 1)))))
    (sSeq (sRet (eC (.bl false)))
    sNil)
    sNil)
   sNil))
  (sSeq (sRet (eC (.bl true)))
  sNil))))
/-- slots: 0 roles 1 many 2 node 3 name -/
def b_is_letter_node (c_is_moves : List D → Mh → PQ → Prop) : DS :=
  (sSeq (sIf (bOr (bNot (bTru (eIsi "tuple" (eVar 2)))) (bOr (bCmp neD (eCall lenD (aCons (eVar 2) aNil)) (eC (.int 4))) (bNot (bTru (eIsi "str" (eBin ixD (eVar 2) (eC (.int 0))))))))
   (sSeq (sRet (eC (.bl false)))
   sNil)
   sNil)
  (sSeq (sIf (bCmp neD (eBin ixD (eVar 2) (eC (.int 0))) (eC (.str "letter")))
   (sSeq (sRet (eC (.bl false)))
   sNil)
   sNil)
  (sSeq (sFor (iSeq (eTup (aCons (eBin ixD (eVar 2) (eC (.int 1))) (aCons (eBin ixD (eVar 2) (eC (.int 2))) aNil)))) (gN 3)
   (sSeq (sIf (bOr (bNot (bTru (eIsi "str" (eVar 3)))) (bCmp ninD (eVar 3) (eVar 0)))
    (sSeq (sRet (eC (.bl false)))
    sNil)
    sNil)
   sNil))
  (sSeq (sRet (eAnd (eCmp neD (eBin ixD (eVar 2) (eC (.int 1))) (eBin ixD (eVar 2) (eC (.int 2)))) (eFn 2 c_is_moves (aCons (eVar 1) (aCons (eBin ixD (eVar 2) (eC (.int 3))) aNil)))))
  sNil))))
/-- slots: 0 thing -/
def b_is_end : DS :=
  (sSeq (sRet (eAnd (eIsi "tuple" (eVar 0)) (eAnd (eCmp eqD (eCall lenD (aCons (eVar 0) aNil)) (eC (.int 1))) (eAnd (eIsi "str" (eBin ixD (eVar 0) (eC (.int 0)))) (eCmp eqD (eBin ixD (eVar 0) (eC (.int 0))) (eC (.str "end")))))))
  sNil)
/-- slots: 0 thing 1 nodes 2 node 3 met 4 number -/
def b_is_web (c_left_of : List D → Mh → PQ → Prop) (c_found_from : List D → Mh → PQ → Prop) (c_is_letter_node : List D → Mh → PQ → Prop) (c_is_end : List D → Mh → PQ → Prop) (c_are_roles : List D → Mh → PQ → Prop) : DS :=
  (sSeq (sIf (bOr (bNot (bTru (eIsi "tuple" (eVar 0)))) (bOr (bCmp neD (eCall lenD (aCons (eVar 0) aNil)) (eC (.int 2))) (bNot (bTru (eFn 1 c_are_roles (aCons (eBin ixD (eVar 0) (eC (.int 0))) aNil))))))
   (sSeq (sRet (eC (.bl false)))
   sNil)
   sNil)
  (sSeq (sAsg (eBin ixD (eVar 0) (eC (.int 1))) (gN 1))
  (sSeq (sIf (bOr (bNot (bTru (eIsi "tuple" (eVar 1)))) (bOr (bCmp ltD (eCall lenD (aCons (eVar 1) aNil)) (eC (.int 1))) (bCmp gtD (eCall lenD (aCons (eVar 1) aNil)) (eC g_MOST_NODES))))
   (sSeq (sRet (eC (.bl false)))
   sNil)
   sNil)
  (sSeq (sIf (bNot (bTru (eFn 1 c_is_end (aCons (eBin ixD (eVar 1) (eUn negD (eC (.int 1)))) aNil))))
   (sSeq (sRet (eC (.bl false)))
   sNil)
   sNil)
  (sSeq (sFor (iSeq (eSl (eVar 1) none (some (eUn negD (eC (.int 1)))))) (gN 2)
   (sSeq (sIf (bNot (bTru (eFn 3 c_is_letter_node (aCons (eBin ixD (eVar 0) (eC (.int 0))) (aCons (eCall lenD (aCons (eVar 1) aNil)) (aCons (eVar 2) aNil))))))
    (sSeq (sRet (eC (.bl false)))
    sNil)
    sNil)
   sNil))
  (sSeq (sAsg (eFn 2 c_found_from (aCons (eVar 1) (aCons (eC (.int 0)) aNil))) (gN 3))
  (sSeq (sFor (iRg1 (aCons (eBin subD (eCall lenD (aCons (eVar 1) aNil)) (eC (.int 1))) aNil)) (gN 4)
   (sSeq (sIf (bCmp ninD (eVar 4) (eVar 3))
    (sSeq (sRet (eC (.bl false)))
    sNil)
    sNil)
   sNil))
  (sSeq (sRet (eCmp ninD (eC .non) (eFn 1 c_left_of (aCons (eVar 1) aNil))))
  sNil))))))))
/-- slots: 0 script 1 place -/
def b__law_cell : DS :=
  (sSeq (sIf (bCmp ltD (eVar 1) (eCall lenD (aCons (eVar 0) aNil)))
   (sSeq (sRet (eBin ixD (eVar 0) (eVar 1)))
   sNil)
   sNil)
  (sSeq (sRet (eBin addD (eBin addD (eBin mulD (eBin modD (eCall intD (aCons (eCall sumD (aCons (eSl (eVar 0) none (some (eC (.int 1)))) aNil)) aNil)) (eC (.int 1000003))) (eC (.int 7919))) (eBin mulD (eVar 1) (eC (.int 104729)))) (eC (.int 12345))))
  sNil))
/-- slots: 0 script 1 place 2 cell 3 number -/
def b__law_jar (c__law_cell : List D → Mh → PQ → Prop) : DS :=
  (sSeq (sAsg (eFn 2 c__law_cell (aCons (eVar 0) (aCons (eVar 1) aNil))) (gN 2))
  (sSeq (sAsg (eVar 2) (gN 3))
  (sSeq (sIf (bCmp ltD (eVar 2) (eC (.int 0)))
   (sSeq (sAsg (eBin subD (eC (.int 1)) (eBin mulD (eC (.int 3)) (eVar 2))) (gN 3))
   sNil)
   sNil)
  (sSeq (sIf (bCmp geD (eVar 3) (eBin powD (eC (.int 10)) (eC (.int 18))))
   (sSeq (sRet (eLst (aCons (eVar 3) (aCons (eC (.int 1)) (aCons (eVar 1) aNil)))))
   sNil)
   sNil)
  (sSeq (sRet (eLst (aCons (eBin addD (eBin modD (eCall intD (aCons (eVar 3) aNil)) (eC (.int 2147483646))) (eC (.int 1))) (aCons (eC (.int 0)) (aCons (eVar 1) aNil)))))
  sNil)))))
/-- slots: 0 jar 1 many 2 found -/
def b__law_pick : DS :=
  (sSeq (sIf (bAnd (bCmp eqD (eBin ixD (eVar 0) (eC (.int 1))) (eC (.int 1))) (bCmp gtD (eBin ixD (eVar 0) (eC (.int 0))) (eC (.int 0))))
   (sSeq (sAsg (eBin modD (eCall intD (aCons (eBin ixD (eVar 0) (eC (.int 0))) aNil)) (eVar 1)) (gN 2))
   (sSeq (sAsg (eBin divD (eBin ixD (eVar 0) (eC (.int 0))) (eVar 1)) (gS (eVar 0) (eC (.int 0))))
   (sSeq (sRet (eVar 2))
   sNil)))
   sNil)
  (sSeq (sIf (bCmp eqD (eBin ixD (eVar 0) (eC (.int 1))) (eC (.int 1)))
   (sSeq (sAsg (eC (.int 0)) (gS (eVar 0) (eC (.int 1))))
   (sSeq (sAsg (eBin addD (eC (.int 1234567)) (eBin mulD (eBin ixD (eVar 0) (eC (.int 2))) (eC (.int 7907)))) (gS (eVar 0) (eC (.int 0))))
   sNil))
   sNil)
  (sSeq (sAsg (eBin addD (eBin ixD (eVar 0) (eC (.int 2))) (eC (.int 1))) (gS (eVar 0) (eC (.int 2))))
  (sSeq (sAsg (eBin modD (eCall intD (aCons (eBin addD (eBin mulD (eBin ixD (eVar 0) (eC (.int 0))) (eC (.int 48271))) (eBin mulD (eBin ixD (eVar 0) (eC (.int 2))) (eC (.int 69621)))) aNil)) (eC (.int 2147483647))) (gS (eVar 0) (eC (.int 0))))
  (sSeq (sRet (eBin modD (eCall intD (aCons (eBin divD (eBin ixD (eVar 0) (eC (.int 0))) (eC (.int 977))) aNil)) (eVar 1)))
  sNil)))))
/-- slots: 0 jar 1 index 2 letters 3 word 4 count 5 at -/
def b__law_name (c__law_pick : List D → Mh → PQ → Prop) : DS :=
  (sSeq (sAsg (eC (.str "abcdefghijklmnopqrstuvwxyz")) (gN 2))
  (sSeq (sAsg (eBin ixD (eVar 2) (eFn 2 c__law_pick (aCons (eVar 0) (aCons (eC (.int 26)) aNil)))) (gN 3))
  (sSeq (sFor (iRg1 (aCons (eBin ixD (eLst (aCons (eC (.int 0)) (aCons (eC (.int 0)) (aCons (eC (.int 1)) (aCons (eC (.int 2)) (aCons (eC (.int 6)) aNil)))))) (eFn 2 c__law_pick (aCons (eVar 0) (aCons (eC (.int 5)) aNil)))) aNil)) (gN 4)
   (sSeq (sAsg (eBin addD (eVar 3) (eBin ixD (eVar 2) (eFn 2 c__law_pick (aCons (eVar 0) (aCons (eC (.int 26)) aNil))))) (gN 3))
   sNil))
  (sSeq (sAsg (eBin addD (eC (.int 1)) (eFn 2 c__law_pick (aCons (eVar 0) (aCons (eCall lenD (aCons (eVar 3) aNil)) aNil)))) (gN 5))
  (sSeq (sRet (eBin addD (eBin addD (eSl (eVar 3) none (some (eVar 5))) (eCall strD (aCons (eVar 1) aNil))) (eSl (eVar 3) (some (eVar 5)) none)))
  sNil)))))
/-- slots: 0 jar 1 many 2 index -/
def b__law_names (c__law_name : List D → Mh → PQ → Prop) : DS :=
  (sSeq (sRet (eLC (iRg1 (aCons (eVar 1) aNil)) (.nm 2) bYes (eFn 2 c__law_name (aCons (eVar 0) (aCons (eVar 2) aNil))) [2]))
  sNil)
/-- slots: 0 jar 1 way 2 value 3 low -/
def b__law_span (c__law_pick : List D → Mh → PQ → Prop) : DS :=
  (sSeq (sAsg (eFn 2 c__law_pick (aCons (eVar 0) (aCons (eC (.int 6)) aNil))) (gN 1))
  (sSeq (sIf (bCmp ltD (eVar 1) (eC (.int 2)))
   (sSeq (sRet (eTup (aCons (eC (.int 0)) (aCons (eC (.int 0)) aNil))))
   sNil)
   sNil)
  (sSeq (sIf (bCmp eqD (eVar 1) (eC (.int 2)))
   (sSeq (sAsg (eFn 2 c__law_pick (aCons (eVar 0) (aCons (eC (.int 12)) aNil))) (gN 2))
   (sSeq (sRet (eTup (aCons (eVar 2) (aCons (eVar 2) aNil))))
   sNil))
   sNil)
  (sSeq (sIf (bCmp eqD (eVar 1) (eC (.int 3)))
   (sSeq (sRet (eTup (aCons (eFn 2 c__law_pick (aCons (eVar 0) (aCons (eC (.int 1000)) aNil))) (aCons (eBin subD (eC (.int 999999)) (eFn 2 c__law_pick (aCons (eVar 0) (aCons (eC (.int 3)) aNil)))) aNil))))
   sNil)
   sNil)
  (sSeq (sAsg (eFn 2 c__law_pick (aCons (eVar 0) (aCons (eC (.int 6)) aNil))) (gN 3))
  (sSeq (sRet (eTup (aCons (eVar 3) (aCons (eBin addD (eVar 3) (eFn 2 c__law_pick (aCons (eVar 0) (aCons (eC (.int 9)) aNil)))) aNil))))
  sNil))))))
/-- slots: 0 jar 1 labels 2 count 3 goals 4 found 5 used 6 index 7 label 8 again 9 word 10 span 11 low 12 high -/
def b__law_moves (c__law_pick : List D → Mh → PQ → Prop) (c__law_span : List D → Mh → PQ → Prop) : DS :=
  (sSeq (sAsg (eLst aNil) (gN 4))
  (sSeq (sAsg (eLst aNil) (gN 5))
  (sSeq (sFor (iRg1 (aCons (eVar 2) aNil)) (gN 6)
   (sSeq (sAsg (eBin ixD (eVar 1) (eBin modD (eCall intD (aCons (eVar 6) aNil)) (eCall lenD (aCons (eVar 1) aNil)))) (gN 7))
   (sSeq (sAsg (eCall lenD (aCons (eLC (iSeq (eVar 5)) (.nm 9) (bCmp eqD (eVar 9) (eVar 7)) (eVar 9) [9]) aNil)) (gN 8))
   (sSeq (sExp (eMt "list" appendD (eVar 5) (aCons (eVar 7) aNil)))
   (sSeq (sAsg (eFn 1 c__law_span (aCons (eVar 0) aNil)) (gN 10))
   (sSeq (sAsg (eBin addD (eBin mulD (eVar 8) (eC (.int 1000))) (eBin modD (eCall intD (aCons (eBin ixD (eVar 10) (eC (.int 0))) aNil)) (eC (.int 1000)))) (gN 11))
   (sSeq (sAsg (eBin addD (eBin mulD (eVar 8) (eC (.int 1000))) (eC (.int 999))) (gN 12))
   (sSeq (sIf (bCmp ltD (eBin subD (eBin ixD (eVar 10) (eC (.int 1))) (eBin ixD (eVar 10) (eC (.int 0)))) (eBin subD (eC (.int 999)) (eBin modD (eCall intD (aCons (eBin ixD (eVar 10) (eC (.int 0))) aNil)) (eC (.int 1000)))))
    (sSeq (sAsg (eBin addD (eVar 11) (eBin subD (eBin ixD (eVar 10) (eC (.int 1))) (eBin ixD (eVar 10) (eC (.int 0))))) (gN 12))
    sNil)
    sNil)
   (sSeq (sIf (bAnd (bCmp eqD (eVar 8) (eC (.int 0))) (bAnd (bCmp leD (eVar 2) (eCall lenD (aCons (eVar 1) aNil))) (bCmp gtD (eBin ixD (eVar 10) (eC (.int 1))) (eC (.int 900000)))))
    (sSeq (sAsg (eBin ixD (eVar 10) (eC (.int 1))) (gN 12))
    sNil)
    sNil)
   (sSeq (sExp (eMt "list" appendD (eVar 4) (aCons (eTup (aCons (eVar 7) (aCons (eVar 11) (aCons (eVar 12) (aCons (eBin ixD (eVar 3) (eFn 2 c__law_pick (aCons (eVar 0) (aCons (eCall lenD (aCons (eVar 3) aNil)) aNil)))) aNil))))) aNil)))
   sNil))))))))))
  (sSeq (sRet (eCall sortedD (aCons (eVar 4) aNil)))
  sNil))))
/-- slots: 0 row 1 at 2 item -/
def b__law_put : DS :=
  (sSeq (sRet (eBin addD (eBin addD (eSl (eVar 0) none (some (eVar 1))) (eTup (aCons (eVar 2) aNil))) (eSl (eVar 0) (some (eBin addD (eVar 1) (eC (.int 1)))) none)))
  sNil)
/-- slots: 0 jar 1 menu -/
def b__law_odd (c__law_pick : List D → Mh → PQ → Prop) : DS :=
  (sSeq (sAsg (eLst (aCons (eC .non) (aCons (eC (.bl true)) (aCons (eC (.bl false)) (aCons (eC (.int 0)) (aCons (eC (.int 1)) (aCons (eBin subD (eC (.int 0)) (eC (.int 1))) (aCons (eC (.int 1000000)) (aCons (eC (.str "")) (aCons (eC (.str "a")) (aCons (eC (.str "say")) (aCons (eC (.str "end")) (aCons (eTup aNil) (aCons (eTup (aCons (eC (.int 0)) aNil)) (aCons (eTup (aCons (eC (.str "end")) aNil)) (aCons (eTup (aCons (eC (.int 0)) (aCons (eC (.int 0)) aNil))) (aCons (eTup (aCons (eC (.str "a")) (aCons (eC (.int 0)) (aCons (eC (.int 0)) (aCons (eC (.int 0)) aNil))))) aNil))))))))))))))))) (gN 1))
  (sSeq (sRet (eBin ixD (eVar 1) (eFn 2 c__law_pick (aCons (eVar 0) (aCons (eCall lenD (aCons (eVar 1) aNil)) aNil)))))
  sNil))
/-- slots: 0 jar 1 thing 2 trail 3 now 4 count 5 at 6 way 7 fresh 8 row -/
def b__law_spoilt (c__law_pick : List D → Mh → PQ → Prop) (c__law_odd : List D → Mh → PQ → Prop) : DS :=
  (sSeq (sAsg (eLst aNil) (gN 2))
  (sSeq (sAsg (eVar 1) (gN 3))
  (sSeq (sFor (iRg1 (aCons (eC (.int 8)) aNil)) (gN 4)
   (sSeq (sIf (bOr (bNot (bTru (eIsi "tuple" (eVar 3)))) (bOr (bCmp eqD (eCall lenD (aCons (eVar 3) aNil)) (eC (.int 0))) (bCmp eqD (eFn 2 c__law_pick (aCons (eVar 0) (aCons (eC (.int 5)) aNil))) (eC (.int 0)))))
    (sSeq sBrk
    sNil)
    sNil)
   (sSeq (sAsg (eFn 2 c__law_pick (aCons (eVar 0) (aCons (eCall lenD (aCons (eVar 3) aNil)) aNil))) (gN 5))
   (sSeq (sExp (eMt "list" appendD (eVar 2) (aCons (eTup (aCons (eVar 3) (aCons (eVar 5) aNil))) aNil)))
   (sSeq (sAsg (eBin ixD (eVar 3) (eVar 5)) (gN 3))
   sNil)))))
  (sSeq (sAsg (eFn 2 c__law_pick (aCons (eVar 0) (aCons (eC (.int 4)) aNil))) (gN 6))
  (sSeq (sAsg (eFn 1 c__law_odd (aCons (eVar 0) aNil)) (gN 7))
  (sSeq (sIf (bAnd (bCmp eqD (eVar 6) (eC (.int 3))) (bAnd (bTru (eIsi "int" (eVar 3))) (bNot (bTru (eIsi "bool" (eVar 3))))))
   (sSeq (sAsg (eBin subD (eBin addD (eVar 3) (eC (.int 1))) (eBin mulD (eC (.int 2)) (eFn 2 c__law_pick (aCons (eVar 0) (aCons (eC (.int 2)) aNil))))) (gN 7))
   sNil)
   sNil)
  (sSeq (sFor (iRg1 (aCons (eCall lenD (aCons (eVar 2) aNil)) aNil)) (gN 4)
   (sSeq (sAsg (eBin ixD (eVar 2) (eBin subD (eBin subD (eCall lenD (aCons (eVar 2) aNil)) (eC (.int 1))) (eVar 4))) (gT 2 (gsC (gN 8) (gsC (gN 5) gsN))))
   (sSeq (sIf (bAnd (bCmp eqD (eVar 4) (eC (.int 0))) (bCmp eqD (eVar 6) (eC (.int 1))))
    (sSeq (sAsg (eBin addD (eSl (eVar 8) none (some (eVar 5))) (eSl (eVar 8) (some (eBin addD (eVar 5) (eC (.int 1)))) none)) (gN 7))
    sNil)
    (sSeq (sIf (bAnd (bCmp eqD (eVar 4) (eC (.int 0))) (bCmp eqD (eVar 6) (eC (.int 2))))
     (sSeq (sAsg (eBin addD (eBin addD (eSl (eVar 8) none (some (eVar 5))) (eTup (aCons (eBin ixD (eVar 8) (eVar 5)) aNil))) (eSl (eVar 8) (some (eVar 5)) none)) (gN 7))
     sNil)
     (sSeq (sAsg (eBin addD (eBin addD (eSl (eVar 8) none (some (eVar 5))) (eTup (aCons (eVar 7) aNil))) (eSl (eVar 8) (some (eBin addD (eVar 5) (eC (.int 1)))) none)) (gN 7))
     sNil))
    sNil))
   sNil)))
  (sSeq (sRet (eVar 7))
  sNil))))))))
/-- slots: 0 thing -/
def b__law_is_number : DS :=
  (sSeq (sRet (eAnd (eIsi "int" (eVar 0)) (eNot (eIsi "bool" (eVar 0)))))
  sNil)
/-- slots: 0 thing 1 letters 2 sign -/
def b__law_is_name : DS :=
  (sSeq (sIf (bOr (bNot (bTru (eIsi "str" (eVar 0)))) (bOr (bCmp ltD (eCall lenD (aCons (eVar 0) aNil)) (eC (.int 1))) (bCmp gtD (eCall lenD (aCons (eVar 0) aNil)) (eC (.int 8)))))
   (sSeq (sRet (eC (.bl false)))
   sNil)
   sNil)
  (sSeq (sAsg (eC (.str "abcdefghijklmnopqrstuvwxyz")) (gN 1))
  (sSeq (sIf (bCmp ninD (eBin ixD (eVar 0) (eC (.int 0))) (eVar 1))
   (sSeq (sRet (eC (.bl false)))
   sNil)
   sNil)
  (sSeq (sRet (eCmp eqD (eCall lenD (aCons (eLC (iSeq (eVar 0)) (.nm 2) (bCmp ninD (eVar 2) (eBin addD (eVar 1) (eC (.str "0123456789")))) (eVar 2) [2]) aNil)) (eC (.int 0))))
  sNil))))
/-- slots: 0 thing 1 words -/
def b__law_is_label (c__law_is_name : List D → Mh → PQ → Prop) : DS :=
  (sSeq (sAsg (eLst (aCons (eC (.str "talk")) (aCons (eC (.str "roles")) (aCons (eC (.str "to")) (aCons (eC (.str "on")) (aCons (eC (.str "round")) (aCons (eC (.str "again")) (aCons (eC (.str "stop")) (aCons (eC (.str "machine")) (aCons (eC (.str "say")) (aCons (eC (.str "hear")) (aCons (eC (.str "end")) aNil)))))))))))) (gN 1))
  (sSeq (sRet (eAnd (eFn 1 c__law_is_name (aCons (eVar 0) aNil)) (eCmp ninD (eVar 0) (eVar 1))))
  sNil))
/-- slots: 0 thing 1 many 2 part -/
def b__law_is_move (c__law_is_number : List D → Mh → PQ → Prop) (c__law_is_label : List D → Mh → PQ → Prop) : DS :=
  (sSeq (sIf (bOr (bNot (bTru (eIsi "tuple" (eVar 0)))) (bOr (bCmp neD (eCall lenD (aCons (eVar 0) aNil)) (eC (.int 4))) (bNot (bTru (eFn 1 c__law_is_label (aCons (eBin ixD (eVar 0) (eC (.int 0))) aNil))))))
   (sSeq (sRet (eC (.bl false)))
   sNil)
   sNil)
  (sSeq (sIf (bCmp gtD (eCall lenD (aCons (eLC (iSeq (eSl (eVar 0) (some (eC (.int 1))) none)) (.nm 2) (bNot (bTru (eFn 1 c__law_is_number (aCons (eVar 2) aNil)))) (eVar 2) [2]) aNil)) (eC (.int 0)))
   (sSeq (sRet (eC (.bl false)))
   sNil)
   sNil)
  (sSeq (sRet (eAnd (eCmp leD (eC (.int 0)) (eBin ixD (eVar 0) (eC (.int 1)))) (eAnd (eCmp leD (eBin ixD (eVar 0) (eC (.int 1))) (eBin ixD (eVar 0) (eC (.int 2)))) (eAnd (eCmp leD (eBin ixD (eVar 0) (eC (.int 2))) (eC (.int 999999))) (eAnd (eCmp leD (eC (.int 0)) (eBin ixD (eVar 0) (eC (.int 3)))) (eCmp ltD (eBin ixD (eVar 0) (eC (.int 3))) (eVar 1)))))))
  sNil)))
/-- slots: 0 thing 1 many 2 move 3 at -/
def b__law_is_moves (c__law_is_move : List D → Mh → PQ → Prop) : DS :=
  (sSeq (sIf (bOr (bNot (bTru (eIsi "tuple" (eVar 0)))) (bCmp eqD (eCall lenD (aCons (eVar 0) aNil)) (eC (.int 0))))
   (sSeq (sRet (eC (.bl false)))
   sNil)
   sNil)
  (sSeq (sIf (bCmp gtD (eCall lenD (aCons (eLC (iSeq (eVar 0)) (.nm 2) (bNot (bTru (eFn 2 c__law_is_move (aCons (eVar 2) (aCons (eVar 1) aNil))))) (eVar 2) [2]) aNil)) (eC (.int 0)))
   (sSeq (sRet (eC (.bl false)))
   sNil)
   sNil)
  (sSeq (sFor (iRg2 (aCons (eC (.int 1)) (aCons (eCall lenD (aCons (eVar 0) aNil)) aNil))) (gN 3)
   (sSeq (sIf (bCmp ltD (eBin ixD (eBin ixD (eVar 0) (eVar 3)) (eC (.int 0))) (eBin ixD (eBin ixD (eVar 0) (eBin subD (eVar 3) (eC (.int 1)))) (eC (.int 0))))
    (sSeq (sRet (eC (.bl false)))
    sNil)
    sNil)
   (sSeq (sIf (bAnd (bCmp eqD (eBin ixD (eBin ixD (eVar 0) (eVar 3)) (eC (.int 0))) (eBin ixD (eBin ixD (eVar 0) (eBin subD (eVar 3) (eC (.int 1)))) (eC (.int 0)))) (bCmp leD (eBin ixD (eBin ixD (eVar 0) (eVar 3)) (eC (.int 1))) (eBin ixD (eBin ixD (eVar 0) (eBin subD (eVar 3) (eC (.int 1)))) (eC (.int 2)))))
    (sSeq (sRet (eC (.bl false)))
    sNil)
    sNil)
   sNil)))
  (sSeq (sRet (eC (.bl true)))
  sNil))))
/-- slots: 0 jar 1 names 2 one -/
def b__law_two (c__law_pick : List D → Mh → PQ → Prop) : DS :=
  (sSeq (sAsg (eFn 2 c__law_pick (aCons (eVar 0) (aCons (eCall lenD (aCons (eVar 1) aNil)) aNil))) (gN 2))
  (sSeq (sRet (eLst (aCons (eBin ixD (eVar 1) (eVar 2)) (aCons (eBin ixD (eVar 1) (eBin modD (eCall intD (aCons (eBin addD (eBin addD (eVar 2) (eC (.int 1))) (eFn 2 c__law_pick (aCons (eVar 0) (aCons (eBin subD (eCall lenD (aCons (eVar 1) aNil)) (eC (.int 1))) aNil)))) aNil)) (eCall lenD (aCons (eVar 1) aNil)))) aNil))))
  sNil))
/-- slots: 0 jar 1 moves 2 goals 3 at 4 label 5 low 6 high 7 goal 8 middle 9 drawn 10 other -/
def b__law_split_moves (c__law_pick : List D → Mh → PQ → Prop) : DS :=
  (sSeq (sAsg (eFn 2 c__law_pick (aCons (eVar 0) (aCons (eCall lenD (aCons (eVar 1) aNil)) aNil))) (gN 3))
  (sSeq (sAsg (eBin ixD (eVar 1) (eVar 3)) (gT 4 (gsC (gN 4) (gsC (gN 5) (gsC (gN 6) (gsC (gN 7) gsN))))))
  (sSeq (sIf (bCmp eqD (eVar 5) (eVar 6))
   (sSeq (sRet (eVar 1))
   sNil)
   sNil)
  (sSeq (sAsg (eBin addD (eVar 5) (eFn 2 c__law_pick (aCons (eVar 0) (aCons (eBin subD (eVar 6) (eVar 5)) aNil)))) (gN 8))
  (sSeq (sAsg (eBin ixD (eVar 2) (eFn 2 c__law_pick (aCons (eVar 0) (aCons (eCall lenD (aCons (eVar 2) aNil)) aNil)))) (gN 9))
  (sSeq (sAsg (eBin ixD (eLst (aCons (eVar 7) (aCons (eVar 9) aNil))) (eFn 2 c__law_pick (aCons (eVar 0) (aCons (eC (.int 2)) aNil)))) (gN 10))
  (sSeq (sRet (eBin addD (eBin addD (eSl (eVar 1) none (some (eVar 3))) (eLst (aCons (eTup (aCons (eVar 4) (aCons (eVar 5) (aCons (eVar 8) (aCons (eVar 7) aNil))))) (aCons (eTup (aCons (eVar 4) (aCons (eBin addD (eVar 8) (eC (.int 1))) (aCons (eVar 6) (aCons (eVar 10) aNil))))) aNil)))) (eSl (eVar 1) (some (eBin addD (eVar 3) (eC (.int 1)))) none)))
  sNil)))))))
/-- slots: 0 jar 1 names 2 labels 3 many 4 pairs 5 count 6 nodes 7 at 8 pair 9 goals 10 moves 11 again -/
def b__law_wild_nodes (c__law_pick : List D → Mh → PQ → Prop) (c__law_split_moves : List D → Mh → PQ → Prop) (c__law_moves : List D → Mh → PQ → Prop) (c__law_two : List D → Mh → PQ → Prop) : DS :=
  (sSeq (sAsg (eLC (iRg1 (aCons (eBin addD (eC (.int 1)) (eFn 2 c__law_pick (aCons (eVar 0) (aCons (eC (.int 3)) aNil)))) aNil)) (.nm 5) bYes (eFn 2 c__law_two (aCons (eVar 0) (aCons (eVar 1) aNil))) [5]) (gN 4))
  (sSeq (sAsg (eLst aNil) (gN 6))
  (sSeq (sFor (iRg1 (aCons (eVar 3) aNil)) (gN 7)
   (sSeq (sAsg (eBin ixD (eVar 4) (eFn 2 c__law_pick (aCons (eVar 0) (aCons (eCall lenD (aCons (eVar 4) aNil)) aNil)))) (gN 8))
   (sSeq (sAsg (eLst (aCons (eBin addD (eVar 7) (eC (.int 1))) (aCons (eFn 2 c__law_pick (aCons (eVar 0) (aCons (eBin addD (eVar 3) (eC (.int 1))) aNil))) (aCons (eFn 2 c__law_pick (aCons (eVar 0) (aCons (eBin addD (eVar 3) (eC (.int 1))) aNil))) aNil)))) (gN 9))
   (sSeq (sAsg (eFn 4 c__law_moves (aCons (eVar 0) (aCons (eVar 2) (aCons (eBin ixD (eLst (aCons (eC (.int 1)) (aCons (eC (.int 2)) (aCons (eC (.int 2)) (aCons (eC (.int 3)) (aCons (eC (.int 3)) (aCons (eC (.int 8)) aNil))))))) (eFn 2 c__law_pick (aCons (eVar 0) (aCons (eC (.int 6)) aNil)))) (aCons (eVar 9) aNil))))) (gN 10))
   (sSeq (sFor (iRg1 (aCons (eFn 2 c__law_pick (aCons (eVar 0) (aCons (eC (.int 3)) aNil))) aNil)) (gN 11)
    (sSeq (sAsg (eFn 3 c__law_split_moves (aCons (eVar 0) (aCons (eVar 10) (aCons (eVar 9) aNil)))) (gN 10))
    sNil))
   (sSeq (sExp (eMt "list" appendD (eVar 6) (aCons (eLst (aCons (eBin ixD (eVar 8) (eC (.int 0))) (aCons (eBin ixD (eVar 8) (eC (.int 1))) (aCons (eVar 10) aNil)))) aNil)))
   sNil))))))
  (sSeq (sRet (eVar 6))
  sNil))))
/-- slots: 0 nodes 1 first 2 seen 3 waiting 4 count 5 at 6 move -/
def b__law_found : DS :=
  (sSeq (sAsg (eD1 (eVar 1) (eC (.bl true))) (gN 2))
  (sSeq (sAsg (eLst (aCons (eVar 1) aNil)) (gN 3))
  (sSeq (sFor (iRg1 (aCons (eBin addD (eCall lenD (aCons (eVar 0) aNil)) (eC (.int 1))) aNil)) (gN 4)
   (sSeq (sIf (bCmp eqD (eCall lenD (aCons (eVar 3) aNil)) (eC (.int 0)))
    (sSeq sBrk
    sNil)
    sNil)
   (sSeq (sAsg (eMt "list" popD (eVar 3) aNil) (gN 5))
   (sSeq (sIf (bCmp ltD (eVar 5) (eCall lenD (aCons (eVar 0) aNil)))
    (sSeq (sFor (iSeq (eBin ixD (eBin ixD (eVar 0) (eVar 5)) (eC (.int 2)))) (gN 6)
     (sSeq (sIf (bCmp ninD (eBin ixD (eVar 6) (eC (.int 3))) (eVar 2))
      (sSeq (sAsg (eC (.bl true)) (gS (eVar 2) (eBin ixD (eVar 6) (eC (.int 3)))))
      (sSeq (sExp (eMt "list" appendD (eVar 3) (aCons (eBin ixD (eVar 6) (eC (.int 3))) aNil)))
      sNil))
      sNil)
     sNil))
    sNil)
    sNil)
   sNil))))
  (sSeq (sRet (eVar 2))
  sNil))))
/-- slots: 0 nodes 1 goal 2 at 3 moves 4 last -/
def b__law_mend_ends (c__law_found : List D → Mh → PQ → Prop) : DS :=
  (sSeq (sFor (iRg1 (aCons (eCall lenD (aCons (eVar 0) aNil)) aNil)) (gN 2)
   (sSeq (sIf (bCmp ninD (eCall lenD (aCons (eVar 0) aNil)) (eFn 2 c__law_found (aCons (eVar 0) (aCons (eVar 2) aNil))))
    (sSeq (sAsg (eBin ixD (eBin ixD (eVar 0) (eVar 2)) (eC (.int 2))) (gN 3))
    (sSeq (sAsg (eBin ixD (eVar 3) (eBin subD (eCall lenD (aCons (eVar 3) aNil)) (eC (.int 1)))) (gN 4))
    (sSeq (sAsg (eTup (aCons (eBin ixD (eVar 4) (eC (.int 0))) (aCons (eBin ixD (eVar 4) (eC (.int 1))) (aCons (eBin ixD (eVar 4) (eC (.int 2))) (aCons (eVar 1) aNil))))) (gS (eVar 3) (eBin subD (eCall lenD (aCons (eVar 3) aNil)) (eC (.int 1)))))
    sNil)))
    sNil)
   sNil))
  sNil)
/-- slots: 0 names 1 nodes 2 seen 3 kept 4 at 5 numbers 6 place 7 found 8 sender 9 receiver 10 moves 11 rows 12 move -/
def b__law_kept_web (c__law_found : List D → Mh → PQ → Prop) : DS :=
  (sSeq (sAsg (eFn 2 c__law_found (aCons (eVar 1) (aCons (eC (.int 0)) aNil))) (gN 2))
  (sSeq (sAsg (eLC (iRg1 (aCons (eCall lenD (aCons (eVar 1) aNil)) aNil)) (.nm 4) (bCmp inD (eVar 4) (eVar 2)) (eVar 4) [4]) (gN 3))
  (sSeq (sAsg (eD1 (eCall lenD (aCons (eVar 1) aNil)) (eCall lenD (aCons (eVar 3) aNil))) (gN 5))
  (sSeq (sFor (iRg1 (aCons (eCall lenD (aCons (eVar 3) aNil)) aNil)) (gN 6)
   (sSeq (sAsg (eVar 6) (gS (eVar 5) (eBin ixD (eVar 3) (eVar 6))))
   sNil))
  (sSeq (sAsg (eLst aNil) (gN 7))
  (sSeq (sFor (iSeq (eVar 3)) (gN 4)
   (sSeq (sAsg (eBin ixD (eVar 1) (eVar 4)) (gT 3 (gsC (gN 8) (gsC (gN 9) (gsC (gN 10) gsN)))))
   (sSeq (sAsg (eLC (iSeq (eVar 10)) (.nm 12) bYes (eTup (aCons (eBin ixD (eVar 12) (eC (.int 0))) (aCons (eBin ixD (eVar 12) (eC (.int 1))) (aCons (eBin ixD (eVar 12) (eC (.int 2))) (aCons (eBin ixD (eVar 5) (eBin ixD (eVar 12) (eC (.int 3)))) aNil))))) [12]) (gN 11))
   (sSeq (sExp (eMt "list" appendD (eVar 7) (aCons (eTup (aCons (eC (.str "letter")) (aCons (eVar 8) (aCons (eVar 9) (aCons (eCall tupleD (aCons (eCall sortedD (aCons (eVar 11) aNil)) aNil)) aNil))))) aNil)))
   sNil))))
  (sSeq (sExp (eMt "list" appendD (eVar 7) (aCons (eTup (aCons (eC (.str "end")) aNil)) aNil)))
  (sSeq (sRet (eTup (aCons (eCall tupleD (aCons (eVar 0) aNil)) (aCons (eCall tupleD (aCons (eVar 7) aNil)) aNil))))
  sNil))))))))
/-- slots: 0 jar 1 ink 2 roles 3 names 4 labels 5 many 6 nodes -/
def b__law_wild_web (c__law_kept_web : List D → Mh → PQ → Prop) (c__law_mend_ends : List D → Mh → PQ → Prop) (c__law_wild_nodes : List D → Mh → PQ → Prop) (c__law_pick : List D → Mh → PQ → Prop) (c__law_names : List D → Mh → PQ → Prop) : DS :=
  (sSeq (sAsg (eFn 2 c__law_names (aCons (eVar 1) (aCons (eVar 2) aNil))) (gN 3))
  (sSeq (sAsg (eFn 2 c__law_names (aCons (eVar 1) (aCons (eBin addD (eC (.int 1)) (eFn 2 c__law_pick (aCons (eVar 0) (aCons (eC (.int 3)) aNil)))) aNil))) (gN 4))
  (sSeq (sAsg (eBin ixD (eLst (aCons (eC (.int 0)) (aCons (eC (.int 1)) (aCons (eC (.int 2)) (aCons (eC (.int 3)) (aCons (eC (.int 4)) (aCons (eC (.int 5)) (aCons (eC (.int 6)) (aCons (eC (.int 8)) (aCons (eC (.int 20)) (aCons (eC (.int 60)) aNil))))))))))) (eFn 2 c__law_pick (aCons (eVar 0) (aCons (eBin addD (eC (.int 8)) (eBin mulD (eC (.int 2)) (eCall intD (aCons (eCmp eqD (eVar 2) (eC (.int 2))) aNil)))) aNil)))) (gN 5))
  (sSeq (sAsg (eFn 4 c__law_wild_nodes (aCons (eVar 0) (aCons (eVar 3) (aCons (eVar 4) (aCons (eVar 5) aNil))))) (gN 6))
  (sSeq (sExp (eFn 2 c__law_mend_ends (aCons (eVar 6) (aCons (eCall lenD (aCons (eVar 6) aNil)) aNil))))
  (sSeq (sRet (eFn 2 c__law_kept_web (aCons (eVar 3) (aCons (eVar 6) aNil))))
  sNil))))))
/-- slots: 0 jar 1 ink 2 roles 3 names 4 labels 5 many 6 nodes 7 at 8 hearer 9 goals 10 moves 11 again 12 parting 13 name -/
def b__law_hub_web (c__law_kept_web : List D → Mh → PQ → Prop) (c__law_mend_ends : List D → Mh → PQ → Prop) (c__law_name : List D → Mh → PQ → Prop) (c__law_pick : List D → Mh → PQ → Prop) (c__law_split_moves : List D → Mh → PQ → Prop) (c__law_moves : List D → Mh → PQ → Prop) (c__law_names : List D → Mh → PQ → Prop) : DS :=
  (sSeq (sAsg (eFn 2 c__law_names (aCons (eVar 1) (aCons (eVar 2) aNil))) (gN 3))
  (sSeq (sAsg (eFn 2 c__law_names (aCons (eVar 1) (aCons (eBin addD (eC (.int 1)) (eFn 2 c__law_pick (aCons (eVar 0) (aCons (eC (.int 2)) aNil)))) aNil))) (gN 4))
  (sSeq (sAsg (eBin addD (eC (.int 2)) (eFn 2 c__law_pick (aCons (eVar 0) (aCons (eC (.int 6)) aNil)))) (gN 5))
  (sSeq (sAsg (eLst aNil) (gN 6))
  (sSeq (sFor (iRg1 (aCons (eVar 5) aNil)) (gN 7)
   (sSeq (sAsg (eBin ixD (eVar 3) (eBin addD (eC (.int 1)) (eFn 2 c__law_pick (aCons (eVar 0) (aCons (eBin subD (eVar 2) (eC (.int 1))) aNil))))) (gN 8))
   (sSeq (sAsg (eLst (aCons (eBin addD (eVar 7) (eC (.int 1))) (aCons (eFn 2 c__law_pick (aCons (eVar 0) (aCons (eBin addD (eVar 5) (eC (.int 1))) aNil))) (aCons (eFn 2 c__law_pick (aCons (eVar 0) (aCons (eBin addD (eVar 5) (eC (.int 1))) aNil))) aNil)))) (gN 9))
   (sSeq (sAsg (eFn 4 c__law_moves (aCons (eVar 0) (aCons (eVar 4) (aCons (eBin addD (eC (.int 1)) (eFn 2 c__law_pick (aCons (eVar 0) (aCons (eC (.int 3)) aNil)))) (aCons (eVar 9) aNil))))) (gN 10))
   (sSeq (sFor (iRg1 (aCons (eFn 2 c__law_pick (aCons (eVar 0) (aCons (eC (.int 3)) aNil))) aNil)) (gN 11)
    (sSeq (sAsg (eFn 3 c__law_split_moves (aCons (eVar 0) (aCons (eVar 10) (aCons (eVar 9) aNil)))) (gN 10))
    sNil))
   (sSeq (sExp (eMt "list" appendD (eVar 6) (aCons (eLst (aCons (eBin ixD (eVar 3) (eC (.int 0))) (aCons (eVar 8) (aCons (eVar 10) aNil)))) aNil)))
   sNil))))))
  (sSeq (sAsg (eFn 2 c__law_name (aCons (eVar 1) (aCons (eC (.int 9)) aNil))) (gN 12))
  (sSeq (sFor (iSeq (eSl (eVar 3) (some (eC (.int 1))) none)) (gN 13)
   (sSeq (sExp (eMt "list" appendD (eVar 6) (aCons (eLst (aCons (eBin ixD (eVar 3) (eC (.int 0))) (aCons (eVar 13) (aCons (eLst (aCons (eTup (aCons (eVar 12) (aCons (eC (.int 0)) (aCons (eC (.int 0)) (aCons (eBin addD (eCall lenD (aCons (eVar 6) aNil)) (eC (.int 1))) aNil))))) aNil)) aNil)))) aNil)))
   sNil))
  (sSeq (sExp (eFn 2 c__law_mend_ends (aCons (eVar 6) (aCons (eVar 5) aNil))))
  (sSeq (sRet (eFn 2 c__law_kept_web (aCons (eVar 3) (aCons (eVar 6) aNil))))
  sNil)))))))))
/-- slots: 0 ink 1 many 2 names 3 label 4 nodes 5 at -/
def b__law_row_web (c__law_kept_web : List D → Mh → PQ → Prop) (c__law_name : List D → Mh → PQ → Prop) (c__law_names : List D → Mh → PQ → Prop) : DS :=
  (sSeq (sAsg (eFn 2 c__law_names (aCons (eVar 0) (aCons (eC (.int 2)) aNil))) (gN 2))
  (sSeq (sAsg (eFn 2 c__law_name (aCons (eVar 0) (aCons (eC (.int 2)) aNil))) (gN 3))
  (sSeq (sAsg (eLst aNil) (gN 4))
  (sSeq (sFor (iRg1 (aCons (eVar 1) aNil)) (gN 5)
   (sSeq (sExp (eMt "list" appendD (eVar 4) (aCons (eLst (aCons (eBin ixD (eVar 2) (eBin modD (eCall intD (aCons (eVar 5) aNil)) (eC (.int 2)))) (aCons (eBin ixD (eVar 2) (eBin subD (eC (.int 1)) (eBin modD (eCall intD (aCons (eVar 5) aNil)) (eC (.int 2))))) (aCons (eLst (aCons (eTup (aCons (eVar 3) (aCons (eVar 5) (aCons (eVar 5) (aCons (eBin addD (eVar 5) (eC (.int 1))) aNil))))) aNil)) aNil)))) aNil)))
   sNil))
  (sSeq (sRet (eFn 2 c__law_kept_web (aCons (eVar 2) (aCons (eVar 4) aNil))))
  sNil)))))
/-- slots: 0 thing 1 at -/
def b__law_are_roles (c__law_is_label : List D → Mh → PQ → Prop) : DS :=
  (sSeq (sIf (bOr (bNot (bTru (eIsi "tuple" (eVar 0)))) (bOr (bCmp ltD (eCall lenD (aCons (eVar 0) aNil)) (eC (.int 2))) (bCmp gtD (eCall lenD (aCons (eVar 0) aNil)) (eC (.int 5)))))
   (sSeq (sRet (eC (.bl false)))
   sNil)
   sNil)
  (sSeq (sFor (iRg1 (aCons (eCall lenD (aCons (eVar 0) aNil)) aNil)) (gN 1)
   (sSeq (sIf (bOr (bNot (bTru (eFn 1 c__law_is_label (aCons (eBin ixD (eVar 0) (eVar 1)) aNil)))) (bCmp inD (eBin ixD (eVar 0) (eVar 1)) (eSl (eVar 0) none (some (eVar 1)))))
    (sSeq (sRet (eC (.bl false)))
    sNil)
    sNil)
   sNil))
  (sSeq (sRet (eC (.bl true)))
  sNil)))
/-- slots: 0 roles 1 node 2 many -/
def b__law_is_letter_node (c__law_is_moves : List D → Mh → PQ → Prop) : DS :=
  (sSeq (sIf (bOr (bNot (bTru (eIsi "tuple" (eVar 1)))) (bOr (bCmp neD (eCall lenD (aCons (eVar 1) aNil)) (eC (.int 4))) (bOr (bNot (bTru (eIsi "str" (eBin ixD (eVar 1) (eC (.int 0)))))) (bCmp neD (eBin ixD (eVar 1) (eC (.int 0))) (eC (.str "letter"))))))
   (sSeq (sRet (eC (.bl false)))
   sNil)
   sNil)
  (sSeq (sIf (bOr (bNot (bTru (eIsi "str" (eBin ixD (eVar 1) (eC (.int 1)))))) (bOr (bNot (bTru (eIsi "str" (eBin ixD (eVar 1) (eC (.int 2)))))) (bCmp eqD (eBin ixD (eVar 1) (eC (.int 1))) (eBin ixD (eVar 1) (eC (.int 2))))))
   (sSeq (sRet (eC (.bl false)))
   sNil)
   sNil)
  (sSeq (sRet (eAnd (eCmp inD (eBin ixD (eVar 1) (eC (.int 1))) (eVar 0)) (eAnd (eCmp inD (eBin ixD (eVar 1) (eC (.int 2))) (eVar 0)) (eFn 2 c__law_is_moves (aCons (eBin ixD (eVar 1) (eC (.int 3))) (aCons (eVar 2) aNil))))))
  sNil)))
/-- slots: 0 goals 1 seen 2 waiting 3 count 4 at 5 goal 6 good 7 fresh -/
def b__law_all_joined : DS :=
  (sSeq (sAsg (eD1 (eC (.int 0)) (eC (.bl true))) (gN 1))
  (sSeq (sAsg (eLst (aCons (eC (.int 0)) aNil)) (gN 2))
  (sSeq (sFor (iRg1 (aCons (eBin addD (eCall lenD (aCons (eVar 0) aNil)) (eC (.int 1))) aNil)) (gN 3)
   (sSeq (sIf (bCmp eqD (eCall lenD (aCons (eVar 2) aNil)) (eC (.int 0)))
    (sSeq sBrk
    sNil)
    sNil)
   (sSeq (sAsg (eMt "list" popD (eVar 2) aNil) (gN 4))
   (sSeq (sIf (bCmp ltD (eVar 4) (eCall lenD (aCons (eVar 0) aNil)))
    (sSeq (sFor (iSeq (eBin ixD (eVar 0) (eVar 4))) (gN 5)
     (sSeq (sIf (bCmp ninD (eVar 5) (eVar 1))
      (sSeq (sAsg (eC (.bl true)) (gS (eVar 1) (eVar 5)))
      (sSeq (sExp (eMt "list" appendD (eVar 2) (aCons (eVar 5) aNil)))
      sNil))
      sNil)
     sNil))
    sNil)
    sNil)
   sNil))))
  (sSeq (sIf (bCmp gtD (eCall lenD (aCons (eLC (iRg1 (aCons (eCall lenD (aCons (eVar 0) aNil)) aNil)) (.nm 4) (bCmp ninD (eVar 4) (eVar 1)) (eVar 4) [4]) aNil)) (eC (.int 0)))
   (sSeq (sRet (eC (.bl false)))
   sNil)
   sNil)
  (sSeq (sAsg (eD1 (eCall lenD (aCons (eVar 0) aNil)) (eC (.bl true))) (gN 6))
  (sSeq (sFor (iRg1 (aCons (eCall lenD (aCons (eVar 0) aNil)) aNil)) (gN 3)
   (sSeq (sAsg (eLst aNil) (gN 7))
   (sSeq (sFor (iRg1 (aCons (eCall lenD (aCons (eVar 0) aNil)) aNil)) (gN 4)
    (sSeq (sIf (bAnd (bCmp ninD (eVar 4) (eVar 6)) (bCmp gtD (eCall lenD (aCons (eLC (iSeq (eBin ixD (eVar 0) (eVar 4))) (.nm 5) (bCmp inD (eVar 5) (eVar 6)) (eVar 5) [5]) aNil)) (eC (.int 0))))
     (sSeq (sExp (eMt "list" appendD (eVar 7) (aCons (eVar 4) aNil)))
     sNil)
     sNil)
    sNil))
   (sSeq (sFor (iSeq (eVar 7)) (gN 4)
    (sSeq (sAsg (eC (.bl true)) (gS (eVar 6) (eVar 4)))
    sNil))
   sNil))))
  (sSeq (sRet (eCmp eqD (eCall lenD (aCons (eVar 6) aNil)) (eBin addD (eCall lenD (aCons (eVar 0) aNil)) (eC (.int 1)))))
  sNil)))))))
/-- slots: 0 thing 1 nodes 2 many 3 last 4 goals 5 node 6 move -/
def b__law_is_web (c__law_all_joined : List D → Mh → PQ → Prop) (c__law_is_letter_node : List D → Mh → PQ → Prop) (c__law_are_roles : List D → Mh → PQ → Prop) : DS :=
  (sSeq (sIf (bOr (bNot (bTru (eIsi "tuple" (eVar 0)))) (bOr (bCmp neD (eCall lenD (aCons (eVar 0) aNil)) (eC (.int 2))) (bNot (bTru (eFn 1 c__law_are_roles (aCons (eBin ixD (eVar 0) (eC (.int 0))) aNil))))))
   (sSeq (sRet (eC (.bl false)))
   sNil)
   sNil)
  (sSeq (sAsg (eBin ixD (eVar 0) (eC (.int 1))) (gN 1))
  (sSeq (sIf (bOr (bNot (bTru (eIsi "tuple" (eVar 1)))) (bOr (bCmp ltD (eCall lenD (aCons (eVar 1) aNil)) (eC (.int 1))) (bCmp gtD (eCall lenD (aCons (eVar 1) aNil)) (eC (.int 61)))))
   (sSeq (sRet (eC (.bl false)))
   sNil)
   sNil)
  (sSeq (sAsg (eCall lenD (aCons (eVar 1) aNil)) (gN 2))
  (sSeq (sAsg (eBin ixD (eVar 1) (eBin subD (eVar 2) (eC (.int 1)))) (gN 3))
  (sSeq (sIf (bOr (bNot (bTru (eIsi "tuple" (eVar 3)))) (bOr (bCmp neD (eCall lenD (aCons (eVar 3) aNil)) (eC (.int 1))) (bOr (bNot (bTru (eIsi "str" (eBin ixD (eVar 3) (eC (.int 0)))))) (bCmp neD (eBin ixD (eVar 3) (eC (.int 0))) (eC (.str "end"))))))
   (sSeq (sRet (eC (.bl false)))
   sNil)
   sNil)
  (sSeq (sAsg (eLst aNil) (gN 4))
  (sSeq (sFor (iSeq (eSl (eVar 1) none (some (eBin subD (eVar 2) (eC (.int 1)))))) (gN 5)
   (sSeq (sIf (bNot (bTru (eFn 3 c__law_is_letter_node (aCons (eBin ixD (eVar 0) (eC (.int 0))) (aCons (eVar 5) (aCons (eVar 2) aNil))))))
    (sSeq (sRet (eC (.bl false)))
    sNil)
    sNil)
   (sSeq (sExp (eMt "list" appendD (eVar 4) (aCons (eLC (iSeq (eBin ixD (eVar 5) (eC (.int 3)))) (.nm 6) bYes (eBin ixD (eVar 6) (eC (.int 3))) [6]) aNil)))
   sNil)))
  (sSeq (sRet (eFn 1 c__law_all_joined (aCons (eVar 4) aNil)))
  sNil)))))))))
/-- slots: 0 thing 1 answer -/
def b__law_judged (c__law_is_web : List D → Mh → PQ → Prop) (c_is_web : List D → Mh → PQ → Prop) : DS :=
  (sSeq (sAsg (eFn 1 c_is_web (aCons (eVar 0) aNil)) (gN 1))
  (sSeq (sRet (eAnd (eIsi "bool" (eVar 1)) (eCmp eqD (eVar 1) (eFn 1 c__law_is_web (aCons (eVar 0) aNil)))))
  sNil))
/-- slots: 0 jar 1 web -/
def b__law_letter_at (c__law_pick : List D → Mh → PQ → Prop) : DS :=
  (sSeq (sRet (eFn 2 c__law_pick (aCons (eVar 0) (aCons (eCall maxD (aCons (eC (.int 1)) (aCons (eBin subD (eCall lenD (aCons (eBin ixD (eVar 1) (eC (.int 1))) aNil)) (eC (.int 1))) aNil))) aNil))))
  sNil)
/-- slots: 0 jar 1 web 2 whole 3 at 4 node 5 goal 6 place 7 moves 8 index 9 move -/
def b__law_other_next (c__law_put : List D → Mh → PQ → Prop) (c__law_pick : List D → Mh → PQ → Prop) (c__law_letter_at : List D → Mh → PQ → Prop) : DS :=
  (sSeq (sAsg (eFn 2 c__law_letter_at (aCons (eVar 0) (aCons (eVar 1) aNil))) (gN 3))
  (sSeq (sAsg (eBin ixD (eBin ixD (eVar 1) (eC (.int 1))) (eVar 3)) (gN 4))
  (sSeq (sIf (bCmp eqD (eBin ixD (eVar 4) (eC (.int 0))) (eC (.str "end")))
   (sSeq (sRet (eVar 1))
   sNil)
   sNil)
  (sSeq (sAsg (eBin ixD (eLst (aCons (eVar 3) (aCons (eFn 2 c__law_pick (aCons (eVar 0) (aCons (eCall lenD (aCons (eBin ixD (eVar 1) (eC (.int 1))) aNil)) aNil))) (aCons (eBin subD (eFn 2 c__law_pick (aCons (eVar 0) (aCons (eBin addD (eCall lenD (aCons (eBin ixD (eVar 1) (eC (.int 1))) aNil)) (eC (.int 2))) aNil))) (eC (.int 1))) aNil)))) (eFn 2 c__law_pick (aCons (eVar 0) (aCons (eC (.int 3)) aNil)))) (gN 5))
  (sSeq (sAsg (eFn 2 c__law_pick (aCons (eVar 0) (aCons (eCall lenD (aCons (eBin ixD (eVar 4) (eC (.int 3))) aNil)) aNil))) (gN 6))
  (sSeq (sAsg (eLst aNil) (gN 7))
  (sSeq (sFor (iRg1 (aCons (eCall lenD (aCons (eBin ixD (eVar 4) (eC (.int 3))) aNil)) aNil)) (gN 8)
   (sSeq (sAsg (eBin ixD (eBin ixD (eVar 4) (eC (.int 3))) (eVar 8)) (gN 9))
   (sSeq (sExp (eMt "list" appendD (eVar 7) (aCons (eTup (aCons (eBin ixD (eVar 9) (eC (.int 0))) (aCons (eBin ixD (eVar 9) (eC (.int 1))) (aCons (eBin ixD (eVar 9) (eC (.int 2))) (aCons (eIf (bOr (bTru (eVar 2)) (bCmp eqD (eVar 8) (eVar 6))) (eVar 5) (eBin ixD (eVar 9) (eC (.int 3)))) aNil))))) aNil)))
   sNil)))
  (sSeq (sRet (eTup (aCons (eBin ixD (eVar 1) (eC (.int 0))) (aCons (eFn 3 c__law_put (aCons (eBin ixD (eVar 1) (eC (.int 1))) (aCons (eVar 3) (aCons (eTup (aCons (eBin ixD (eVar 4) (eC (.int 0))) (aCons (eBin ixD (eVar 4) (eC (.int 1))) (aCons (eBin ixD (eVar 4) (eC (.int 2))) (aCons (eCall tupleD (aCons (eVar 7) aNil)) aNil))))) aNil)))) aNil))))
  sNil))))))))
/-- slots: 0 jar 1 web 2 at 3 node 4 words 5 name 6 way 7 fresh -/
def b__law_other_speaker (c__law_put : List D → Mh → PQ → Prop) (c__law_pick : List D → Mh → PQ → Prop) (c__law_letter_at : List D → Mh → PQ → Prop) : DS :=
  (sSeq (sAsg (eFn 2 c__law_letter_at (aCons (eVar 0) (aCons (eVar 1) aNil))) (gN 2))
  (sSeq (sAsg (eBin ixD (eBin ixD (eVar 1) (eC (.int 1))) (eVar 2)) (gN 3))
  (sSeq (sIf (bCmp eqD (eBin ixD (eVar 3) (eC (.int 0))) (eC (.str "end")))
   (sSeq (sRet (eVar 1))
   sNil)
   sNil)
  (sSeq (sAsg (eBin addD (eCall listD (aCons (eBin ixD (eVar 1) (eC (.int 0))) aNil)) (eLst (aCons (eC (.str "q8")) (aCons (eC (.str "to")) (aCons (eC (.str "")) (aCons (eC (.str "Ab")) aNil)))))) (gN 4))
  (sSeq (sAsg (eBin ixD (eVar 4) (eFn 2 c__law_pick (aCons (eVar 0) (aCons (eCall lenD (aCons (eVar 4) aNil)) aNil)))) (gN 5))
  (sSeq (sAsg (eFn 2 c__law_pick (aCons (eVar 0) (aCons (eC (.int 3)) aNil))) (gN 6))
  (sSeq (sAsg (eTup (aCons (eBin ixD (eLst (aCons (eC (.str "end")) (aCons (eC (.str "say")) (aCons (eC (.str "Letter")) (aCons (eC (.str "")) aNil))))) (eFn 2 c__law_pick (aCons (eVar 0) (aCons (eC (.int 4)) aNil)))) (aCons (eBin ixD (eVar 3) (eC (.int 1))) (aCons (eBin ixD (eVar 3) (eC (.int 2))) (aCons (eBin ixD (eVar 3) (eC (.int 3))) aNil))))) (gN 7))
  (sSeq (sIf (bCmp eqD (eVar 6) (eC (.int 0)))
   (sSeq (sAsg (eTup (aCons (eBin ixD (eVar 3) (eC (.int 0))) (aCons (eVar 5) (aCons (eBin ixD (eVar 3) (eC (.int 2))) (aCons (eBin ixD (eVar 3) (eC (.int 3))) aNil))))) (gN 7))
   sNil)
   (sSeq (sIf (bCmp eqD (eVar 6) (eC (.int 1)))
    (sSeq (sAsg (eTup (aCons (eBin ixD (eVar 3) (eC (.int 0))) (aCons (eBin ixD (eVar 3) (eC (.int 1))) (aCons (eVar 5) (aCons (eBin ixD (eVar 3) (eC (.int 3))) aNil))))) (gN 7))
    sNil)
    sNil)
   sNil))
  (sSeq (sRet (eTup (aCons (eBin ixD (eVar 1) (eC (.int 0))) (aCons (eFn 3 c__law_put (aCons (eBin ixD (eVar 1) (eC (.int 1))) (aCons (eVar 2) (aCons (eVar 7) aNil)))) aNil))))
  sNil)))))))))
/-- slots: 0 jar 1 web 2 words 3 old 4 fresh 5 nodes 6 node 7 sender 8 receiver 9 name -/
def b__law_other_role (c__law_pick : List D → Mh → PQ → Prop) : DS :=
  (sSeq (sAsg (eBin addD (eLst (aCons (eC (.str "say")) (aCons (eC (.str "end")) (aCons (eC (.str "abcdefghi")) (aCons (eC (.str "a2345678")) (aCons (eC (.str "Aa")) (aCons (eC (.str "1a")) (aCons (eC (.str "")) (aCons (eC (.str "a b")) (aCons (eC (.str "z")) (aCons (eC (.str "roles")) (aCons (eC (.str "a_b")) aNil)))))))))))) (eCall listD (aCons (eBin ixD (eVar 1) (eC (.int 0))) aNil))) (gN 2))
  (sSeq (sAsg (eBin ixD (eBin ixD (eVar 1) (eC (.int 0))) (eFn 2 c__law_pick (aCons (eVar 0) (aCons (eCall lenD (aCons (eBin ixD (eVar 1) (eC (.int 0))) aNil)) aNil)))) (gN 3))
  (sSeq (sAsg (eBin ixD (eVar 2) (eFn 2 c__law_pick (aCons (eVar 0) (aCons (eCall lenD (aCons (eVar 2) aNil)) aNil)))) (gN 4))
  (sSeq (sAsg (eLst aNil) (gN 5))
  (sSeq (sFor (iSeq (eBin ixD (eVar 1) (eC (.int 1)))) (gN 6)
   (sSeq (sIf (bCmp eqD (eBin ixD (eVar 6) (eC (.int 0))) (eC (.str "end")))
    (sSeq (sExp (eMt "list" appendD (eVar 5) (aCons (eVar 6) aNil)))
    (sSeq sCnt
    sNil))
    sNil)
   (sSeq (sAsg (eIf (bCmp eqD (eBin ixD (eVar 6) (eC (.int 1))) (eVar 3)) (eVar 4) (eBin ixD (eVar 6) (eC (.int 1)))) (gN 7))
   (sSeq (sAsg (eIf (bCmp eqD (eBin ixD (eVar 6) (eC (.int 2))) (eVar 3)) (eVar 4) (eBin ixD (eVar 6) (eC (.int 2)))) (gN 8))
   (sSeq (sExp (eMt "list" appendD (eVar 5) (aCons (eTup (aCons (eBin ixD (eVar 6) (eC (.int 0))) (aCons (eVar 7) (aCons (eVar 8) (aCons (eBin ixD (eVar 6) (eC (.int 3))) aNil))))) aNil)))
   sNil)))))
  (sSeq (sRet (eTup (aCons (eCall tupleD (aCons (eLC (iSeq (eBin ixD (eVar 1) (eC (.int 0)))) (.nm 9) bYes (eIf (bCmp eqD (eVar 9) (eVar 3)) (eVar 4) (eVar 9)) [9]) aNil)) (aCons (eCall tupleD (aCons (eVar 5) aNil)) aNil))))
  sNil))))))
/-- slots: 0 jar 1 web 2 many 3 shift 4 nodes 5 node 6 moves 7 label 8 low 9 high 10 goal 11 goals 12 at -/
def b__law_node_more (c__law_pick : List D → Mh → PQ → Prop) : DS :=
  (sSeq (sAsg (eCall lenD (aCons (eBin ixD (eVar 1) (eC (.int 1))) aNil)) (gN 2))
  (sSeq (sAsg (eFn 2 c__law_pick (aCons (eVar 0) (aCons (eC (.int 2)) aNil))) (gN 3))
  (sSeq (sAsg (eLst aNil) (gN 4))
  (sSeq (sFor (iSeq (eSl (eBin ixD (eVar 1) (eC (.int 1))) none (some (eBin subD (eVar 2) (eC (.int 1)))))) (gN 5)
   (sSeq (sAsg (eLst aNil) (gN 6))
   (sSeq (sFor (iSeq (eBin ixD (eVar 5) (eC (.int 3)))) (gT 4 (gsC (gN 7) (gsC (gN 8) (gsC (gN 9) (gsC (gN 10) gsN)))))
    (sSeq (sExp (eMt "list" appendD (eVar 6) (aCons (eTup (aCons (eVar 7) (aCons (eVar 8) (aCons (eVar 9) (aCons (eIf (bCmp eqD (eVar 10) (eBin subD (eVar 2) (eC (.int 1)))) (eBin addD (eVar 10) (eVar 3)) (eVar 10)) aNil))))) aNil)))
    sNil))
   (sSeq (sExp (eMt "list" appendD (eVar 4) (aCons (eTup (aCons (eBin ixD (eVar 5) (eC (.int 0))) (aCons (eBin ixD (eVar 5) (eC (.int 1))) (aCons (eBin ixD (eVar 5) (eC (.int 2))) (aCons (eCall tupleD (aCons (eVar 6) aNil)) aNil))))) aNil)))
   sNil))))
  (sSeq (sAsg (eLst (aCons (eVar 2) (aCons (eBin subD (eVar 2) (eC (.int 1))) (aCons (eFn 2 c__law_pick (aCons (eVar 0) (aCons (eBin addD (eVar 2) (eC (.int 1))) aNil))) aNil)))) (gN 11))
  (sSeq (sAsg (eLC (iRg1 (aCons (eBin addD (eC (.int 1)) (eFn 2 c__law_pick (aCons (eVar 0) (aCons (eC (.int 2)) aNil)))) aNil)) (.nm 12) bYes (eTup (aCons (eC (.str "b5")) (aCons (eVar 12) (aCons (eVar 12) (aCons (eBin ixD (eVar 11) (eFn 2 c__law_pick (aCons (eVar 0) (aCons (eC (.int 3)) aNil)))) aNil))))) [12]) (gN 6))
  (sSeq (sExp (eMt "list" appendD (eVar 4) (aCons (eTup (aCons (eC (.str "letter")) (aCons (eBin ixD (eBin ixD (eVar 1) (eC (.int 0))) (eC (.int 0))) (aCons (eBin ixD (eBin ixD (eVar 1) (eC (.int 0))) (eC (.int 1))) (aCons (eCall tupleD (aCons (eVar 6) aNil)) aNil))))) aNil)))
  (sSeq (sRet (eTup (aCons (eBin ixD (eVar 1) (eC (.int 0))) (aCons (eBin addD (eCall tupleD (aCons (eVar 4) aNil)) (eTup (aCons (eTup (aCons (eC (.str "end")) aNil)) aNil))) aNil))))
  sNil))))))))
/-- slots: 0 jar 1 web 2 many 3 letters 4 last 5 menu -/
def b__law_other_end (c__law_pick : List D → Mh → PQ → Prop) : DS :=
  (sSeq (sAsg (eCall lenD (aCons (eBin ixD (eVar 1) (eC (.int 1))) aNil)) (gN 2))
  (sSeq (sAsg (eSl (eBin ixD (eVar 1) (eC (.int 1))) none (some (eBin subD (eVar 2) (eC (.int 1))))) (gN 3))
  (sSeq (sAsg (eTup (aCons (eC (.str "letter")) (aCons (eBin ixD (eBin ixD (eVar 1) (eC (.int 0))) (eC (.int 0))) (aCons (eBin ixD (eBin ixD (eVar 1) (eC (.int 0))) (eC (.int 1))) (aCons (eTup (aCons (eTup (aCons (eC (.str "a1")) (aCons (eC (.int 0)) (aCons (eC (.int 0)) (aCons (eBin subD (eVar 2) (eC (.int 1))) aNil))))) aNil)) aNil))))) (gN 4))
  (sSeq (sAsg (eLst (aCons (eVar 3) (aCons (eBin addD (eBin ixD (eVar 1) (eC (.int 1))) (eTup (aCons (eTup (aCons (eC (.str "end")) aNil)) aNil))) (aCons (eBin addD (eTup (aCons (eTup (aCons (eC (.str "end")) aNil)) aNil)) (eVar 3)) (aCons (eBin addD (eVar 3) (eTup (aCons (eTup (aCons (eC (.str "end")) (aCons (eC (.int 0)) aNil))) aNil))) (aCons (eBin addD (eVar 3) (eTup (aCons (eC (.str "end")) aNil))) aNil)))))) (gN 5))
  (sSeq (sExp (eMt "list" extendD (eVar 5) (aCons (eLst (aCons (eBin addD (eVar 3) (eTup (aCons (eTup (aCons (eC (.str "END")) aNil)) aNil))) (aCons (eBin addD (eVar 3) (eTup (aCons (eTup aNil) aNil))) (aCons (eBin addD (eVar 3) (eTup (aCons (eC .non) aNil))) (aCons (eBin addD (eVar 3) (eTup (aCons (eVar 4) aNil))) aNil))))) aNil)))
  (sSeq (sExp (eMt "list" appendD (eVar 5) (aCons (eBin addD (eVar 3) (eTup (aCons (eTup (aCons (eC (.str "end")) (aCons (eBin ixD (eVar 4) (eC (.int 1))) (aCons (eBin ixD (eVar 4) (eC (.int 2))) (aCons (eBin ixD (eVar 4) (eC (.int 3))) aNil))))) (aCons (eTup (aCons (eC (.str "end")) aNil)) aNil)))) aNil)))
  (sSeq (sRet (eTup (aCons (eBin ixD (eVar 1) (eC (.int 0))) (aCons (eBin ixD (eVar 5) (eFn 2 c__law_pick (aCons (eVar 0) (aCons (eCall lenD (aCons (eVar 5) aNil)) aNil)))) aNil))))
  sNil)))))))
/-- slots: 0 jar 1 web 2 at 3 node 4 place 5 label 6 low 7 high 8 goal 9 word 10 menu 11 moves -/
def b__law_other_moves (c__law_put : List D → Mh → PQ → Prop) (c__law_pick : List D → Mh → PQ → Prop) (c__law_letter_at : List D → Mh → PQ → Prop) : DS :=
  (sSeq (sAsg (eFn 2 c__law_letter_at (aCons (eVar 0) (aCons (eVar 1) aNil))) (gN 2))
  (sSeq (sAsg (eBin ixD (eBin ixD (eVar 1) (eC (.int 1))) (eVar 2)) (gN 3))
  (sSeq (sIf (bCmp eqD (eBin ixD (eVar 3) (eC (.int 0))) (eC (.str "end")))
   (sSeq (sRet (eVar 1))
   sNil)
   sNil)
  (sSeq (sAsg (eFn 2 c__law_pick (aCons (eVar 0) (aCons (eCall lenD (aCons (eBin ixD (eVar 3) (eC (.int 3))) aNil)) aNil))) (gN 4))
  (sSeq (sAsg (eBin ixD (eBin ixD (eVar 3) (eC (.int 3))) (eVar 4)) (gT 4 (gsC (gN 5) (gsC (gN 6) (gsC (gN 7) (gsC (gN 8) gsN))))))
  (sSeq (sAsg (eBin ixD (eLst (aCons (eC (.str "to")) (aCons (eC (.str "again")) (aCons (eC (.str "abcdefgh9")) (aCons (eC (.str "a2345678")) (aCons (eC (.str "Ab")) (aCons (eC (.str "9a")) (aCons (eC (.str "")) (aCons (eC (.str "a_b")) aNil))))))))) (eFn 2 c__law_pick (aCons (eVar 0) (aCons (eC (.int 8)) aNil)))) (gN 9))
  (sSeq (sAsg (eLst (aCons (eLst (aCons (eTup (aCons (eVar 9) (aCons (eVar 6) (aCons (eVar 7) (aCons (eVar 8) aNil))))) aNil)) (aCons (eLst (aCons (eTup (aCons (eVar 5) (aCons (eVar 6) (aCons (eC (.int 1000000)) (aCons (eVar 8) aNil))))) aNil)) (aCons (eLst (aCons (eTup (aCons (eVar 5) (aCons (eBin subD (eC (.int 0)) (eC (.int 1))) (aCons (eVar 7) (aCons (eVar 8) aNil))))) aNil)) (aCons (eLst (aCons (eTup (aCons (eVar 5) (aCons (eVar 7) (aCons (eVar 6) (aCons (eVar 8) aNil))))) aNil)) (aCons (eLst (aCons (eTup (aCons (eVar 5) (aCons (eVar 6) (aCons (eVar 7) (aCons (eC (.bl true)) aNil))))) aNil)) (aCons (eLst (aCons (eTup (aCons (eVar 5) (aCons (eC (.bl false)) (aCons (eVar 7) (aCons (eVar 8) aNil))))) aNil)) (aCons (eLst (aCons (eTup (aCons (eVar 5) (aCons (eVar 6) (aCons (eVar 7) (aCons (eVar 8) aNil))))) (aCons (eTup (aCons (eVar 5) (aCons (eVar 6) (aCons (eVar 7) (aCons (eVar 8) aNil))))) aNil))) (aCons (eLst (aCons (eTup (aCons (eVar 5) (aCons (eVar 6) (aCons (eVar 7) (aCons (eVar 8) aNil))))) (aCons (eTup (aCons (eVar 5) (aCons (eVar 7) (aCons (eVar 7) (aCons (eVar 8) aNil))))) aNil))) (aCons (eLst (aCons (eTup (aCons (eVar 5) (aCons (eVar 6) (aCons (eVar 7) (aCons (eVar 8) aNil))))) (aCons (eTup (aCons (eVar 5) (aCons (eBin addD (eVar 7) (eC (.int 1))) (aCons (eBin addD (eVar 7) (eC (.int 1))) (aCons (eVar 8) aNil))))) aNil))) (aCons (eLst (aCons (eTup (aCons (eVar 5) (aCons (eVar 6) (aCons (eVar 7) (aCons (eVar 8) (aCons (eVar 8) aNil)))))) aNil)) (aCons (eLst aNil) (aCons (eLst (aCons (eTup (aCons (eVar 5) (aCons (eVar 6) (aCons (eC (.int 999999)) (aCons (eVar 8) aNil))))) aNil)) aNil))))))))))))) (gN 10))
  (sSeq (sAsg (eBin addD (eBin addD (eSl (eBin ixD (eVar 3) (eC (.int 3))) none (some (eVar 4))) (eCall tupleD (aCons (eBin ixD (eVar 10) (eFn 2 c__law_pick (aCons (eVar 0) (aCons (eCall lenD (aCons (eVar 10) aNil)) aNil)))) aNil))) (eSl (eBin ixD (eVar 3) (eC (.int 3))) (some (eBin addD (eVar 4) (eC (.int 1)))) none)) (gN 11))
  (sSeq (sIf (bCmp eqD (eFn 2 c__law_pick (aCons (eVar 0) (aCons (eC (.int 6)) aNil))) (eC (.int 0)))
   (sSeq (sAsg (eCall tupleD (aCons (eRv (eVar 11)) aNil)) (gN 11))
   sNil)
   sNil)
  (sSeq (sRet (eTup (aCons (eBin ixD (eVar 1) (eC (.int 0))) (aCons (eFn 3 c__law_put (aCons (eBin ixD (eVar 1) (eC (.int 1))) (aCons (eVar 2) (aCons (eTup (aCons (eBin ixD (eVar 3) (eC (.int 0))) (aCons (eBin ixD (eVar 3) (eC (.int 1))) (aCons (eBin ixD (eVar 3) (eC (.int 2))) (aCons (eVar 11) aNil))))) aNil)))) aNil))))
  sNil))))))))))
/-- slots: 0 jar 1 web 2 one 3 other -/
def b__law_two_turned (c__law_put : List D → Mh → PQ → Prop) (c__law_letter_at : List D → Mh → PQ → Prop) : DS :=
  (sSeq (sAsg (eFn 2 c__law_letter_at (aCons (eVar 0) (aCons (eVar 1) aNil))) (gN 2))
  (sSeq (sAsg (eFn 2 c__law_letter_at (aCons (eVar 0) (aCons (eVar 1) aNil))) (gN 3))
  (sSeq (sRet (eTup (aCons (eBin ixD (eVar 1) (eC (.int 0))) (aCons (eFn 3 c__law_put (aCons (eFn 3 c__law_put (aCons (eBin ixD (eVar 1) (eC (.int 1))) (aCons (eVar 2) (aCons (eBin ixD (eBin ixD (eVar 1) (eC (.int 1))) (eVar 3)) aNil)))) (aCons (eVar 3) (aCons (eBin ixD (eBin ixD (eVar 1) (eC (.int 1))) (eVar 2)) aNil)))) aNil))))
  sNil)))
/-- slots: 0 jar 1 web 2 menu -/
def b__law_other_shape (c__law_pick : List D → Mh → PQ → Prop) : DS :=
  (sSeq (sAsg (eLst (aCons (eTup (aCons (eBin ixD (eVar 1) (eC (.int 1))) (aCons (eBin ixD (eVar 1) (eC (.int 0))) aNil))) (aCons (eTup (aCons (eBin ixD (eVar 1) (eC (.int 0))) aNil)) (aCons (eTup (aCons (eBin ixD (eVar 1) (eC (.int 0))) (aCons (eBin ixD (eVar 1) (eC (.int 1))) (aCons (eTup aNil) aNil)))) (aCons (eBin ixD (eVar 1) (eC (.int 0))) (aCons (eBin ixD (eVar 1) (eC (.int 1))) (aCons (eTup (aCons (eVar 1) aNil)) (aCons (eTup (aCons (eTup aNil) (aCons (eBin ixD (eVar 1) (eC (.int 1))) aNil))) (aCons (eTup (aCons (eBin ixD (eVar 1) (eC (.int 0))) (aCons (eTup aNil) aNil))) aNil))))))))) (gN 2))
  (sSeq (sExp (eMt "list" extendD (eVar 2) (aCons (eLst (aCons (eTup (aCons (eBin ixD (eVar 1) (eC (.int 0))) (aCons (eBin ixD (eBin ixD (eVar 1) (eC (.int 1))) (eC (.int 0))) aNil))) (aCons (eTup (aCons (eBin ixD (eVar 1) (eC (.int 0))) (aCons (eTup (aCons (eBin ixD (eVar 1) (eC (.int 1))) aNil)) aNil))) (aCons (eTup (aCons (eBin ixD (eBin ixD (eVar 1) (eC (.int 0))) (eC (.int 0))) (aCons (eBin ixD (eVar 1) (eC (.int 1))) aNil))) (aCons (eTup (aCons (eBin ixD (eVar 1) (eC (.int 0))) (aCons (eC .non) aNil))) aNil))))) aNil)))
  (sSeq (sRet (eBin ixD (eVar 2) (eFn 2 c__law_pick (aCons (eVar 0) (aCons (eCall lenD (aCons (eVar 2) aNil)) aNil)))))
  sNil)))
/-- slots: 0 jar 1 web 2 way 3 names 4 at -/
def b__law_bent_web (c__law_other_shape : List D → Mh → PQ → Prop) (c__law_two_turned : List D → Mh → PQ → Prop) (c__law_other_moves : List D → Mh → PQ → Prop) (c__law_other_end : List D → Mh → PQ → Prop) (c__law_node_more : List D → Mh → PQ → Prop) (c__law_pick : List D → Mh → PQ → Prop) (c__law_name : List D → Mh → PQ → Prop) (c__law_other_role : List D → Mh → PQ → Prop) (c__law_other_speaker : List D → Mh → PQ → Prop) (c__law_other_next : List D → Mh → PQ → Prop) (c__law_spoilt : List D → Mh → PQ → Prop) : DS :=
  (sSeq (sIf (bCmp eqD (eVar 2) (eC (.int 0)))
   (sSeq (sRet (eFn 2 c__law_spoilt (aCons (eVar 0) (aCons (eVar 1) aNil))))
   sNil)
   sNil)
  (sSeq (sIf (bOr (bCmp eqD (eVar 2) (eC (.int 1))) (bCmp eqD (eVar 2) (eC (.int 2))))
   (sSeq (sRet (eFn 3 c__law_other_next (aCons (eVar 0) (aCons (eVar 1) (aCons (eCmp eqD (eVar 2) (eC (.int 2))) aNil)))))
   sNil)
   sNil)
  (sSeq (sIf (bCmp eqD (eVar 2) (eC (.int 3)))
   (sSeq (sRet (eFn 2 c__law_other_speaker (aCons (eVar 0) (aCons (eVar 1) aNil))))
   sNil)
   sNil)
  (sSeq (sIf (bCmp eqD (eVar 2) (eC (.int 4)))
   (sSeq (sRet (eFn 2 c__law_other_role (aCons (eVar 0) (aCons (eVar 1) aNil))))
   sNil)
   sNil)
  (sSeq (sIf (bCmp eqD (eVar 2) (eC (.int 5)))
   (sSeq (sAsg (eLC (iRg1 (aCons (eBin addD (eC (.int 1)) (eFn 2 c__law_pick (aCons (eVar 0) (aCons (eC (.int 3)) aNil)))) aNil)) (.nm 4) bYes (eFn 2 c__law_name (aCons (eVar 0) (aCons (eBin addD (eC (.int 5)) (eVar 4)) aNil))) [4]) (gN 3))
   (sSeq (sRet (eTup (aCons (eBin addD (eBin ixD (eVar 1) (eC (.int 0))) (eCall tupleD (aCons (eVar 3) aNil))) (aCons (eBin ixD (eVar 1) (eC (.int 1))) aNil))))
   sNil))
   sNil)
  (sSeq (sIf (bCmp eqD (eVar 2) (eC (.int 6)))
   (sSeq (sAsg (eFn 2 c__law_pick (aCons (eVar 0) (aCons (eCall lenD (aCons (eBin ixD (eVar 1) (eC (.int 0))) aNil)) aNil))) (gN 4))
   (sSeq (sRet (eTup (aCons (eBin addD (eSl (eBin ixD (eVar 1) (eC (.int 0))) none (some (eVar 4))) (eSl (eBin ixD (eVar 1) (eC (.int 0))) (some (eBin addD (eVar 4) (eC (.int 1)))) none)) (aCons (eBin ixD (eVar 1) (eC (.int 1))) aNil))))
   sNil))
   sNil)
  (sSeq (sIf (bCmp eqD (eVar 2) (eC (.int 7)))
   (sSeq (sRet (eFn 2 c__law_node_more (aCons (eVar 0) (aCons (eVar 1) aNil))))
   sNil)
   sNil)
  (sSeq (sIf (bCmp eqD (eVar 2) (eC (.int 8)))
   (sSeq (sRet (eFn 2 c__law_other_end (aCons (eVar 0) (aCons (eVar 1) aNil))))
   sNil)
   sNil)
  (sSeq (sIf (bOr (bCmp eqD (eVar 2) (eC (.int 9))) (bCmp eqD (eVar 2) (eC (.int 10))))
   (sSeq (sRet (eFn 2 c__law_other_moves (aCons (eVar 0) (aCons (eVar 1) aNil))))
   sNil)
   sNil)
  (sSeq (sIf (bCmp eqD (eVar 2) (eC (.int 11)))
   (sSeq (sRet (eFn 2 c__law_two_turned (aCons (eVar 0) (aCons (eVar 1) aNil))))
   sNil)
   sNil)
  (sSeq (sRet (eFn 2 c__law_other_shape (aCons (eVar 0) (aCons (eVar 1) aNil))))
  sNil)))))))))))
/-- slots: 0 script 1 way 2 jar 3 ink -/
def b__law_judged_web (c__law_wild_web : List D → Mh → PQ → Prop) (c__law_pick : List D → Mh → PQ → Prop) (c__law_hub_web : List D → Mh → PQ → Prop) (c__law_row_web : List D → Mh → PQ → Prop) (c__law_jar : List D → Mh → PQ → Prop) : DS :=
  (sSeq (sAsg (eFn 2 c__law_jar (aCons (eVar 0) (aCons (eC (.int 0)) aNil))) (gN 2))
  (sSeq (sAsg (eFn 2 c__law_jar (aCons (eVar 0) (aCons (eC (.int 20)) aNil))) (gN 3))
  (sSeq (sIf (bCmp eqD (eVar 1) (eC (.int 0)))
   (sSeq (sRet (eFn 2 c__law_row_web (aCons (eVar 3) (aCons (eBin addD (eC (.int 57)) (eFn 2 c__law_pick (aCons (eVar 2) (aCons (eC (.int 6)) aNil)))) aNil))))
   sNil)
   sNil)
  (sSeq (sIf (bCmp ltD (eVar 1) (eC (.int 3)))
   (sSeq (sRet (eFn 3 c__law_hub_web (aCons (eVar 2) (aCons (eVar 3) (aCons (eBin addD (eC (.int 2)) (eFn 2 c__law_pick (aCons (eVar 2) (aCons (eC (.int 4)) aNil)))) aNil)))))
   sNil)
   sNil)
  (sSeq (sRet (eFn 3 c__law_wild_web (aCons (eVar 2) (aCons (eVar 3) (aCons (eBin addD (eC (.int 2)) (eFn 2 c__law_pick (aCons (eVar 2) (aCons (eC (.int 4)) aNil)))) aNil)))))
  sNil)))))
/-- slots: 0 script 1 jar 2 web 3 way 4 odd -/
def b_law (c__law_judged : List D → Mh → PQ → Prop) (c__law_spoilt : List D → Mh → PQ → Prop) (c__law_odd : List D → Mh → PQ → Prop) (c__law_bent_web : List D → Mh → PQ → Prop) (c__law_judged_web : List D → Mh → PQ → Prop) (c__law_pick : List D → Mh → PQ → Prop) (c__law_jar : List D → Mh → PQ → Prop) : DS :=
  (sSeq (sAsg (eFn 2 c__law_jar (aCons (eVar 0) (aCons (eC (.int 3)) aNil))) (gN 1))
  (sSeq (sAsg (eFn 2 c__law_judged_web (aCons (eVar 0) (aCons (eFn 2 c__law_pick (aCons (eVar 1) (aCons (eC (.int 7)) aNil))) aNil))) (gN 2))
  (sSeq (sIf (bNot (bTru (eFn 1 c__law_judged (aCons (eVar 2) aNil))))
   (sSeq (sRet (eC (.bl false)))
   sNil)
   sNil)
  (sSeq (sFor (iRg1 (aCons (eC (.int 13)) aNil)) (gN 3)
   (sSeq (sIf (bNot (bTru (eFn 1 c__law_judged (aCons (eFn 3 c__law_bent_web (aCons (eVar 1) (aCons (eVar 2) (aCons (eVar 3) aNil)))) aNil))))
    (sSeq (sRet (eC (.bl false)))
    sNil)
    sNil)
   sNil))
  (sSeq (sAsg (eFn 1 c__law_odd (aCons (eVar 1) aNil)) (gN 4))
  (sSeq (sIf (bOr (bNot (bTru (eFn 1 c__law_judged (aCons (eVar 4) aNil)))) (bNot (bTru (eFn 1 c__law_judged (aCons (eFn 2 c__law_spoilt (aCons (eVar 1) (aCons (eTup (aCons (eVar 4) (aCons (eFn 1 c__law_odd (aCons (eVar 1) aNil)) aNil))) aNil))) aNil)))))
   (sSeq (sRet (eC (.bl false)))
   sNil)
   sNil)
  (sSeq (sRet (eFn 1 c__law_judged (aCons (eVar 2) aNil)))
  sNil)))))))
end K11
/-! K11p: roles, letter nodes, ends: both sides. -/
namespace K11
open PySem DL L2 K01 GR
-- what the heap holds at a place
local macro_rules | `(tactic| walk_at "h") => `(tactic| first
  | assumption
  | exact mup_same
  | (refine (mup_ne ?_).trans ?_ <;> first | assumption | (apply Ne.symm; assumption) | walk_at "h"))
-- small facts of numbers
local macro_rules | `(tactic| walk_at "n") => `(tactic| first
  | assumption
  | omega
  | decide
  | (exact CMul.r (by decide))
  | (exact CMul.l (by decide))
  | (refine ⟨?_, ?_⟩ <;> first | assumption | omega | decide))
-- lengths
local macro_rules | `(tactic| walk_at "l") => `(tactic| first
  | assumption
  | (rw [sizeLine_eq]; first | omega | decide | (simp; done) | (simp; omega) | decide +kernel))
-- one step
local macro_rules | `(tactic| walk_at "e1") => `(tactic| first
  | with_reducible refine t_nil ?_
  | ((with_reducible refine' t_var ?s ?_); (case s => first | assumption | exact rfl))
  | with_reducible refine t_c ?_
  | with_reducible refine t_bin ?_
  | with_reducible refine t_if ?_
  | with_reducible refine t_asg ?_
  | with_reducible refine t_gN ?_
  | with_reducible refine t_ret ?_
  | with_reducible refine t_exp ?_
  | with_reducible refine t_bcmp ?_
  | with_reducible refine t_band ?_
  | with_reducible refine t_bor ?_
  | with_reducible refine t_bnot ?_
  | with_reducible refine t_btru ?_
  | with_reducible refine t_byes ?_
  | with_reducible refine t_an ?_
  | with_reducible refine t_ac ?_
  | with_reducible refine t_fn ?_
  | with_reducible refine t_call ?_
  | with_reducible refine t_cmp ?_
  | with_reducible refine t_and ?_
  | with_reducible refine t_or ?_
  | with_reducible refine t_not ?_
  | with_reducible refine t_ife ?_
  | with_reducible refine t_tup ?_
  | with_reducible refine t_lst ?_
  | with_reducible refine t_isi ?_
  | with_reducible refine t_sl ?_
  | with_reducible refine t_o0 ?_
  | with_reducible refine t_o1 ?_
  | with_reducible refine t_un ?_
  | with_reducible refine t_mt ?_
  | with_reducible refine t_gS ?_
  | with_reducible refine t_gsC ?_
  | with_reducible refine t_gsN ?_
  | ((with_reducible refine t_gT ?s ?_); (case s => first | assumption | exact rfl))
  | with_reducible refine t_retN ?_
  | with_reducible refine t_brk ?_
  | with_reducible refine t_cnt ?_
  | ((with_reducible refine' t_aug ?s ?_); (case s => first | assumption | exact rfl))
  | with_reducible refine t_for ?_
  | with_reducible refine t_seqi ?_
  | with_reducible refine t_rg1 ?_
  | with_reducible refine t_rg2 ?_
  | with_reducible refine t_lc ?_
  | with_reducible refine v_tru_bl ?_
  | with_reducible refine v_tru_int ?_
  | with_reducible refine v_tru_non ?_
  | with_reducible refine v_tru_tup ?_
  | with_reducible refine v_add_int ?_
  | ((with_reducible refine v_add_str ?l ?_); (case l => walk_at "l"))
  | ((with_reducible refine v_add_tup ?l ?_); (case l => walk_at "l"))
  | with_reducible refine v_iadd_int ?_
  | with_reducible refine v_sub ?_
  | ((with_reducible refine v_mul ?c ?_); (case c => walk_at "n"))
  | ((with_reducible refine v_div ?c ?_); (case c => walk_at "n"))
  | ((with_reducible refine v_mod ?c ?_); (case c => walk_at "n"))
  | ((with_reducible refine v_pow ?c ?_); (case c => exact ⟨by decide, by decide, by decide⟩))
  | with_reducible refine v_neg ?_
  | with_reducible exact trivial
  | with_reducible refine v_eq_int ?_
  | with_reducible refine v_eq_str ?_
  | with_reducible refine v_eq_bl ?_
  | with_reducible refine v_ne_int ?_
  | with_reducible refine v_ne_str ?_
  | with_reducible refine v_ne_bl ?_
  | with_reducible refine v_lt ?_
  | with_reducible refine v_lt_str ?_
  | with_reducible refine t_ks ?_
  | with_reducible refine t_rv ?_
  | with_reducible refine v_seq_ktp ?_
  | ((with_reducible refine' v_extend ?e ?f ?l ?_); (case e => walk_at "h"); (case f => walk_at "h"); (case l => walk_at "l"))
  | with_reducible refine v_le ?_
  | with_reducible refine v_gt ?_
  | with_reducible refine v_ge ?_
  | with_reducible refine v_isi_non ?_
  | with_reducible refine v_isi_bl ?_
  | with_reducible refine v_isi_int ?_
  | with_reducible refine v_isi_str ?_
  | with_reducible refine v_isi_tup ?_
  | with_reducible refine v_in_str ?_
  | with_reducible refine v_nin_str ?_
  | with_reducible refine v_len_tup ?_
  | with_reducible refine v_len_rol ?_
  | ((with_reducible refine v_len_str ?l ?_); (case l => walk_at "l"))
  | ((with_reducible refine' v_len_ref ?e ?_); (case e => walk_at "h"))
  | with_reducible refine v_int_int ?_
  | with_reducible refine v_max ?_
  | with_reducible refine v_min ?_
  | with_reducible refine v_tuple_tup ?_
  | ((with_reducible refine' v_tuple_ref ?e ?_); (case e => walk_at "h"))
  | ((with_reducible refine' v_ix_ref ?e ?f ?_); (case e => walk_at "h"); (case f => first | assumption | exact rfl))
  | ((with_reducible refine' v_ix_tup ?f ?_); (case f => first | assumption | exact rfl))
  | ((with_reducible refine' v_set ?e ?f ?_); (case e => walk_at "h"); (case f => first | assumption | exact rfl))
  | ((with_reducible refine v_sl_str ?l ?_); (case l => walk_at "l"))
  | with_reducible refine v_sl_tup ?_
  | with_reducible refine v_seq_tup ?_
  | with_reducible refine v_seq_str ?_
  | with_reducible refine v_seq_rol ?_
  | ((with_reducible refine' v_seq_ref ?e ?_); (case e => walk_at "h"))
  | ((with_reducible refine' ⟨v_ty_ref ?e, ?_⟩); (case e => walk_at "h"))
  | ((with_reducible refine' v_append ?e ?l ?_); (case e => walk_at "h"); (case l => walk_at "l")))
local macro_rules | `(tactic| walk_at "d1") => `(tactic| first | with_reducible refine t_seq ?_ | walk_at "e1")
local macro_rules | `(tactic| walk_at "d") => `(tactic| repeat walk_at "d1")
-- one statement
local macro_rules | `(tactic| walk_at "e") => `(tactic| ((repeat walk_at "e1"); try (with_reducible show sSeq _ _ _ _ _)))
local macro_rules | `(tactic| walk_at "s") => `(tactic| ((with_reducible refine t_seq ?_); walk_at "e"))
-- a drawn thing's small facts
local macro_rules | `(tactic| walk_at "gi") => `(tactic| first
  | exact gi_c trivial
  | exact gi_c ⟨_, rfl, by decide, by decide⟩
  | exact gi_c (show _ ≤ _ by decide)
  | exact gi_c (show _ ≤ _ by decide +kernel)
  | exact gi_v rfl trivial)
local macro_rules | `(tactic| walk_at "ga") => `(tactic| ((repeat (first | exact ga_nil | refine ga_cons2 ?_ ?_)); all_goals (try walk_at "gi")))
def Ss (ds : List D) : Prop := ∀ x ∈ ds, ∃ z, x = .str z
theorem strs_flat {ds : List D} (h : Ss ds) : ds.all flatD = true := by
  rw [List.all_eq_true]
  intro x hx
  obtain ⟨z, rfl⟩ := h x hx
  rfl
theorem strs_in {ds : List D} (h : Ss ds) (z : Str) : inOk (.str z) ds := .inl ⟨rfl, strs_flat h⟩
theorem strs_snoc {ds : List D} {i : Nat} {z : Str} (h : Ss (ds.take i)) (e : ds[i]? = some (.str z)) : Ss (ds.take (i + 1)) := fun x hx => by
  rw [LX.take_snoc e] at hx
  rcases List.mem_append.mp hx with hx | hx
  · exact h x hx
  · exact ⟨z, List.mem_singleton.mp hx⟩
theorem goodR_drop {acc ds : List D} {i : Nat} {d : D} (e : ds[i]? = some d) : goodR acc (ds.drop i) = ((labB d && !memD d acc) && goodR (acc ++ [d]) (ds.drop (i + 1))) := by
  have h := (List.getElem?_eq_some_iff.mp e)
  rw [List.drop_eq_getElem_cons h.1, h.2]; rfl
theorem rolesB_len {ds : List D} (h : ¬ (2 ≤ ds.length ∧ ds.length ≤ 5)) : rolesB (.tup ds) = false := by
  show ((decide (2 ≤ ds.length) && decide (ds.length ≤ 5)) && goodR [] ds) = false
  by_cases a : 2 ≤ ds.length
  · rw [decide_eq_false (show ¬ ds.length ≤ 5 from fun b => h ⟨a, b⟩)]; simp
  · rw [decide_eq_false a]; rfl
theorem rolesB_in {ds : List D} (h : 2 ≤ ds.length ∧ ds.length ≤ 5) : rolesB (.tup ds) = goodR [] ds := by
  show ((decide (2 ≤ ds.length) && decide (ds.length ≤ 5)) && goodR [] ds) = goodR [] ds
  rw [decide_eq_true h.1, decide_eq_true h.2]; rfl
def sp_are_roles : DSp := ask 1000 rolesB
theorem ok_are_roles (ds : List D) (M : Mh) (P : PQ) (h : sp_are_roles ds M P) : b_are_roles sp_is_label { nx := fun _ M' => P .non M', rt := P } (startD 2 ds) M := by
  obtain ⟨d, rfl, g, k⟩ := h
  unfold b_are_roles
  cases d <;> first | exact False.elim g | skip
  all_goals (walk_at "s"; refine t_ite (fun e => ?_) (fun e => ?_) <;> first | (cases e; done) | skip)
  all_goals first | (walk_at "d"; exact k) | skip
  rename_i ds
  obtain ⟨hl, gs⟩ := good_tup.mp g
  walk_at "e"
  walk_at "s"
  have bad : ¬ (2 ≤ ds.length ∧ ds.length ≤ 5) → P (.bl false) M := fun h => by rw [rolesB_len h] at k; exact k
  refine t_ite (fun e1 => ?_) (fun e1 => ?_)
  · have e1 : (ds.length : Int) < 2 := of_decide_eq_true e1
    refine t_if1 rfl ?_
    walk_at "d"
    exact bad (by omega)
  have e1 : ¬ (ds.length : Int) < 2 := of_decide_eq_false e1
  walk_at "e"
  refine t_ite (fun e2 => ?_) (fun e2 => ?_)
  · have e2 : (5 : Int) < ds.length := of_decide_eq_true e2
    walk_at "d"
    exact bad (by omega)
  have e2 : ¬ (5 : Int) < ds.length := of_decide_eq_false e2
  rw [rolesB_in (by omega)] at k
  walk_at "e"
  refine t_seq (t_for ?_)
  walk_at "e"
  refine ⟨by omega, ?_⟩
  refine for_each (fun i ρ M' => M' = M ∧ (∃ w, ρ = [some (.tup ds), w]) ∧ goodR [] ds = goodR (ds.take i) (ds.drop i) ∧ Ss (ds.take i)) ⟨rfl, ⟨_, rfl⟩, rfl, by intro x hx; simp at hx⟩ (fun N i d ρ M' hd hI hN => ?_) (fun ρ M' hI => ?_)
  · obtain ⟨rfl, ⟨w, rfl⟩, hi, hs⟩ := hI
    obtain ⟨rfl, hlt⟩ := LX.rget hd
    have hlt : i < ds.length := by omega
    have e := List.getElem?_eq_getElem hlt
    have gd := gs _ (List.getElem_mem hlt)
    have ea : atI ds (0 + (i : Int)) = some ds[i] := atI_get? (by omega) (by rw [show (0 + (i : Int)).toNat = i by omega]; exact e)
    generalize ds[i] = x at e gd ea
    rw [hi, goodR_drop e] at k
    refine ⟨trivial, ?_⟩
    walk_at "e"
    walk_at "s"
    refine ⟨rfl, x, rfl, gd, ?_⟩
    walk_at "e"
    refine t_ite (fun c => ?_) (fun c => ?_)
    · have c : labB x = false := by simpa using c
      refine t_if1 rfl ?_
      walk_at "d"
      rw [c] at k
      exact k
    have c : labB x = true := by simpa using c
    obtain ⟨z, rfl⟩ := labB_true c
    walk_at "e"
    rw [show (0 + (i : Int)) = ((i : Nat) : Int) by omega, cut_take]
    refine v_in_tup (strs_in hs z) ?_
    refine t_ite (fun c2 => ?_) (fun c2 => ?_)
    · walk_at "d"
      rw [c, c2] at k
      exact k
    · walk_at "e"
      refine hN _ _ ⟨rfl, ⟨_, rfl⟩, ?_, strs_snoc hs e⟩
      rw [hi, goodR_drop e, c, c2, LX.take_snoc e]; rfl
  · obtain ⟨rfl, ⟨w, rfl⟩, hi, hs⟩ := hI
    rw [LX.rlen] at hi
    rw [hi, List.drop_of_length_le (by omega)] at k
    refine ⟨trivial, ?_⟩
    walk_at "d"
    exact k
def sp_l_are_roles : DSp := askX 1000 rolesB
theorem ok_l_are_roles (ds : List D) (M : Mh) (P : PQ) (h : sp_l_are_roles ds M P) : b__law_are_roles sp_l_is_label { nx := fun _ M' => P .non M', rt := P } (startD 2 ds) M := by
  obtain ⟨d, rfl, g, k⟩ := h
  unfold b__law_are_roles
  cases d <;> first | exact False.elim g | skip
  all_goals (walk_at "d"; refine t_ite (fun e => ?_) (fun e => ?_) <;> first | (cases e; done) | skip)
  all_goals first | (refine t_if1 rfl ?_; walk_at "d"; exact k _ .refl) | skip
  rename_i ds
  obtain ⟨hl, gs⟩ := good_tup.mp g
  walk_at "e"
  have bad : ¬ (2 ≤ ds.length ∧ ds.length ≤ 5) → P (.bl false) M := fun h => by rw [rolesB_len h] at k; exact k _ .refl
  refine t_ite (fun e1 => ?_) (fun e1 => ?_)
  · have e1 : (ds.length : Int) < 2 := of_decide_eq_true e1
    refine t_if1 rfl ?_
    walk_at "d"
    exact bad (by omega)
  have e1 : ¬ (ds.length : Int) < 2 := of_decide_eq_false e1
  walk_at "e"
  refine t_ite (fun e2 => ?_) (fun e2 => ?_)
  · have e2 : (5 : Int) < ds.length := of_decide_eq_true e2
    walk_at "d"
    exact bad (by omega)
  have e2 : ¬ (5 : Int) < ds.length := of_decide_eq_false e2
  rw [rolesB_in (by omega)] at k
  walk_at "e"
  refine t_seq (t_for ?_)
  walk_at "e"
  refine ⟨by omega, ?_⟩
  refine for_each (fun i ρ M' => MExt M M' ∧ (∃ w, ρ = [some (.tup ds), w]) ∧ goodR [] ds = goodR (ds.take i) (ds.drop i) ∧ Ss (ds.take i)) ⟨.refl, ⟨_, rfl⟩, rfl, by intro x hx; simp at hx⟩ (fun N i d ρ M' hd hI hN => ?_) (fun ρ M' hI => ?_)
  · obtain ⟨x1, ⟨w, rfl⟩, hi, hs⟩ := hI
    obtain ⟨rfl, hlt⟩ := LX.rget hd
    have hlt : i < ds.length := by omega
    have e := List.getElem?_eq_getElem hlt
    have gd := gs _ (List.getElem_mem hlt)
    have ea : atI ds (0 + (i : Int)) = some ds[i] := atI_get? (by omega) (by rw [show (0 + (i : Int)).toNat = i by omega]; exact e)
    generalize ds[i] = x at e gd ea
    rw [hi, goodR_drop e] at k
    refine ⟨trivial, ?_⟩
    walk_at "e"
    walk_at "s"
    refine ⟨rfl, x, rfl, gd, fun M2 x2 => ?_⟩
    walk_at "e"
    refine t_ite (fun c => ?_) (fun c => ?_)
    · have c : labB x = false := by simpa using c
      refine t_if1 rfl ?_
      walk_at "d"
      rw [c] at k
      exact k _ (x1.trans x2)
    have c : labB x = true := by simpa using c
    obtain ⟨z, rfl⟩ := labB_true c
    walk_at "e"
    rw [show (0 + (i : Int)) = ((i : Nat) : Int) by omega, cut_take]
    refine v_in_tup (strs_in hs z) ?_
    refine t_ite (fun c2 => ?_) (fun c2 => ?_)
    · walk_at "d"
      rw [c, c2] at k
      exact k _ (x1.trans x2)
    · walk_at "e"
      refine hN _ _ ⟨x1.trans x2, ⟨_, rfl⟩, ?_, strs_snoc hs e⟩
      rw [hi, goodR_drop e, c, c2, LX.take_snoc e]; rfl
  · obtain ⟨x1, ⟨w, rfl⟩, hi, hs⟩ := hI
    rw [LX.rlen] at hi
    rw [hi, List.drop_of_length_le (by omega)] at k
    refine ⟨trivial, ?_⟩
    walk_at "d"
    exact k _ x1
/-- who are roles are texts -/
theorem roles_strs {d : D} (h : rolesB d = true) : ∃ rs, d = .tup rs ∧ Ss rs := by
  cases d <;> first | (cases h; done) | skip
  rename_i ds
  refine ⟨ds, rfl, ?_⟩
  have h : ((decide (2 ≤ ds.length) && decide (ds.length ≤ 5)) && goodR [] ds) = true := h
  simp only [Bool.and_eq_true] at h
  have key : ∀ (ds acc : List D), goodR acc ds = true → Ss ds := by
    intro ds
    induction ds with
    | nil => intro _ _ x hx; simp at hx
    | cons d r ih =>
      intro acc h x hx
      simp only [goodR, Bool.and_eq_true] at h
      rcases List.mem_cons.mp hx with rfl | hx
      · exact labB_true h.1.1
      · exact ih _ h.2 x hx
  exact key ds [] h.2

/-! ### letter nodes -/
theorem four {ds : List D} (h : ds.length = 4) : ∃ a b c d, ds = [a, b, c, d] := by
  match ds, h with
  | [a, b, c, d], _ => exact ⟨_, _, _, _, rfl⟩
theorem letterB_len {rs ds : List D} {many : Int} (h : ds.length ≠ 4) : letterB rs many (.tup ds) = false := by
  unfold letterB
  split
  · rename_i e
    cases e
    exact absurd rfl h
  · rfl
theorem letterB_head {rs : List D} {many : Int} {a b c d : D} (h : ∀ z, a ≠ .str z) : letterB rs many (.tup [a, b, c, d]) = false := by
  cases a <;> first | exact absurd rfl (h _) | rfl
theorem letterB_a {rs : List D} {many : Int} {z : Str} {b c d : D} (h : ∀ z, b ≠ .str z) : letterB rs many (.tup [.str z, b, c, d]) = false := by
  cases b <;> first | exact absurd rfl (h _) | rfl
theorem letterB_b {rs : List D} {many : Int} {z y : Str} {c d : D} (h : ∀ z, c ≠ .str z) : letterB rs many (.tup [.str z, .str y, c, d]) = false := by
  cases c <;> first | exact absurd rfl (h _) | rfl
theorem letterB_s {rs : List D} {many : Int} {k a b : Str} {m : D} : letterB rs many (.tup [.str k, .str a, .str b, m]) = ((k == "letter") && ((memD (.str a) rs && memD (.str b) rs && !(a == b)) && movesB many m)) := rfl
def sp_is_letter_node : DSp := fun ds M P => ∃ (rs : List D) (many : Int) (d : D), ds = [.tup rs, .int many, d] ∧ Ss rs ∧ good 1000 d ∧ P (.bl (letterB rs many d)) M
theorem ok_is_letter_node (ds : List D) (M : Mh) (P : PQ) (h : sp_is_letter_node ds M P) : b_is_letter_node sp_is_moves { nx := fun _ M' => P .non M', rt := P } (startD 4 ds) M := by
  obtain ⟨rs, many, d, rfl, hr, g, k⟩ := h
  unfold b_is_letter_node
  cases d <;> first | exact False.elim g | skip
  all_goals (walk_at "d"; refine t_ite (fun e => ?_) (fun e => ?_) <;> first | (cases e; done) | skip)
  all_goals first | (refine t_if1 rfl ?_; walk_at "d"; exact k) | skip
  rename_i ds
  walk_at "e"
  refine t_ite (fun e1 => ?_) (fun e1 => ?_)
  · have e1 : ds.length ≠ 4 := by
      intro z
      rw [z] at e1
      cases e1
    refine t_if1 rfl ?_
    walk_at "d"
    rw [letterB_len e1] at k
    exact k
  have en : ds.length = 4 := by simp at e1; omega
  obtain ⟨a, b, c, m, rfl⟩ := four en
  obtain ⟨gl, gs⟩ := good_tup.mp g
  have ga := gs a (by simp)
  have gb := gs b (by simp)
  have gc := gs c (by simp)
  have gm := gs m (by simp)
  walk_at "e"
  have bad : letterB rs many (.tup [a, b, c, m]) = false → P (.bl false) M := fun h => by rw [h] at k; exact k
  cases a <;> first | exact False.elim ga | skip
  all_goals (walk_at "e"; refine t_ite (fun f0 => ?_) (fun f0 => ?_) <;> first | (cases f0; done) | skip)
  all_goals first | (walk_at "d"; exact k) | skip
  rename_i kw
  walk_at "e"
  walk_at "s"
  refine t_ite (fun e2 => ?_) (fun e2 => ?_)
  · have e2 : (kw == "letter") = false := by simpa using e2
    walk_at "d"
    refine bad ?_
    cases b <;> first | rfl | skip
    cases c <;> first | rfl | skip
    rw [letterB_s, e2]; rfl
  have e2 : (kw == "letter") = true := by simpa using e2
  walk_at "e"
  walk_at "s"
  refine ⟨LX.sz (Nat.le_of_ble_eq_true rfl), v_seq_tup ?_⟩
  refine ⟨trivial, ?_⟩
  cases b <;> first | exact False.elim gb | skip
  all_goals (walk_at "e"; walk_at "s"; refine t_ite (fun f1 => ?_) (fun f1 => ?_) <;> first | (cases f1; done) | skip)
  all_goals first | (refine t_if1 rfl ?_; walk_at "d"; exact k) | skip
  rename_i za
  walk_at "e"
  refine v_nin_tup (strs_in hr za) ?_
  refine t_ite (fun e3 => ?_) (fun e3 => ?_)
  · have e3 : memD (.str za) rs = false := by simpa using e3
    walk_at "d"
    refine bad ?_
    cases c <;> first | rfl | skip
    rw [letterB_s, e3]; simp
  have e3 : memD (.str za) rs = true := by simpa using e3
  walk_at "e"
  refine ⟨trivial, ?_⟩
  cases c <;> first | exact False.elim gc | skip
  all_goals (walk_at "e"; walk_at "s"; refine t_ite (fun f2 => ?_) (fun f2 => ?_) <;> first | (cases f2; done) | skip)
  all_goals first | (refine t_if1 rfl ?_; walk_at "d"; exact k) | skip
  rename_i zb
  walk_at "e"
  refine v_nin_tup (strs_in hr zb) ?_
  rw [letterB_s, e2, e3] at k
  refine t_ite (fun e4 => ?_) (fun e4 => ?_)
  · have e4 : memD (.str zb) rs = false := by simpa using e4
    walk_at "d"
    rw [e4] at k
    exact k
  have e4 : memD (.str zb) rs = true := by simpa using e4
  rw [e4] at k
  walk_at "e"
  refine ⟨trivial, ?_⟩
  walk_at "s"
  refine t_ite (fun e5 => ?_) (fun e5 => ?_)
  · rw [e5] at k
    walk_at "d"
    exact ⟨rfl, many, m, rfl, gm, k⟩
  · rw [e5] at k ⊢
    exact k
def sp_l_is_letter_node : DSp := fun ds M P => ∃ (rs : List D) (many : Int) (d : D), ds = [.tup rs, d, .int many] ∧ Ss rs ∧ good 1000 d ∧ ∀ M', MExt M M' → P (.bl (letterB rs many d)) M'
theorem ok_l_is_letter_node (ds : List D) (M : Mh) (P : PQ) (h : sp_l_is_letter_node ds M P) : b__law_is_letter_node sp_l_is_moves { nx := fun _ M' => P .non M', rt := P } (startD 3 ds) M := by
  obtain ⟨rs, many, d, rfl, hr, g, k⟩ := h
  unfold b__law_is_letter_node
  cases d <;> first | exact False.elim g | skip
  all_goals (walk_at "d"; refine t_ite (fun e => ?_) (fun e => ?_) <;> first | (cases e; done) | skip)
  all_goals first | (refine t_if1 rfl ?_; walk_at "d"; exact k _ .refl) | skip
  rename_i ds
  walk_at "e"
  refine t_ite (fun e1 => ?_) (fun e1 => ?_)
  · have e1 : ds.length ≠ 4 := by
      intro z
      rw [z] at e1
      cases e1
    refine t_if1 rfl ?_
    walk_at "d"
    rw [letterB_len e1] at k
    exact k _ .refl
  have en : ds.length = 4 := by simp at e1; omega
  obtain ⟨a, b, c, m, rfl⟩ := four en
  obtain ⟨gl, gs⟩ := good_tup.mp g
  have ga := gs a (by simp)
  have gb := gs b (by simp)
  have gc := gs c (by simp)
  have gm := gs m (by simp)
  walk_at "e"
  have bad : letterB rs many (.tup [a, b, c, m]) = false → P (.bl false) M := fun h => by rw [h] at k; exact k _ .refl
  cases a <;> first | exact False.elim ga | skip
  all_goals (walk_at "e"; refine t_ite (fun f0 => ?_) (fun f0 => ?_) <;> first | (cases f0; done) | skip)
  all_goals first | (refine t_if1 rfl ?_; walk_at "d"; exact k _ .refl) | skip
  rename_i kw
  walk_at "e"
  refine t_ite (fun e2 => ?_) (fun e2 => ?_)
  · have e2 : (kw == "letter") = false := by simpa using e2
    walk_at "d"
    refine bad ?_
    cases b <;> first | rfl | skip
    cases c <;> first | rfl | skip
    rw [letterB_s, e2]; rfl
  have e2 : (kw == "letter") = true := by simpa using e2
  walk_at "e"
  walk_at "s"
  cases b <;> first | exact False.elim gb | skip
  all_goals (walk_at "e"; refine t_ite (fun f1 => ?_) (fun f1 => ?_) <;> first | (cases f1; done) | skip)
  all_goals first | (refine t_if1 rfl ?_; walk_at "d"; exact k _ .refl) | skip
  rename_i za
  walk_at "e"
  cases c <;> first | exact False.elim gc | skip
  all_goals (walk_at "e"; refine t_ite (fun f2 => ?_) (fun f2 => ?_) <;> first | (cases f2; done) | skip)
  all_goals first | (refine t_if1 rfl ?_; walk_at "d"; exact k _ .refl) | skip
  rename_i zb
  walk_at "e"
  rw [letterB_s, e2] at k
  refine t_ite (fun e5 => ?_) (fun e5 => ?_)
  · walk_at "d"
    rw [e5] at k
    simp only [Bool.not_true, Bool.and_false, Bool.false_and, Bool.and_true] at k
    exact k _ .refl
  rw [e5] at k
  walk_at "e"
  refine t_seq (t_ret (t_and ?_))
  walk_at "e"
  refine v_in_tup (strs_in hr za) ?_
  walk_at "e"
  refine t_ite (fun e3 => ?_) (fun e3 => by rw [e3] at k ⊢; exact k _ .refl)
  rw [e3] at k
  refine t_and ?_
  walk_at "e"
  refine v_in_tup (strs_in hr zb) ?_
  walk_at "e"
  refine t_ite (fun e4 => ?_) (fun e4 => by rw [e4] at k ⊢; exact k _ .refl)
  rw [e4] at k
  walk_at "d"
  exact ⟨rfl, many, m, rfl, gm, k⟩
/-! ### the end -/
theorem one {ds : List D} (h : ds.length = 1) : ∃ a, ds = [a] := by
  match ds, h with
  | [a], _ => exact ⟨_, rfl⟩
theorem endB_not {ds : List D} (h : ds.length ≠ 1) : endB (.tup ds) = false := by
  unfold endB
  split
  · rename_i e
    cases e
    exact absurd rfl h
  · rfl
def sp_is_end : DSp := ask 1000 endB
theorem ok_is_end (ds : List D) (M : Mh) (P : PQ) (h : sp_is_end ds M P) : b_is_end { nx := fun _ M' => P .non M', rt := P } (startD 1 ds) M := by
  obtain ⟨d, rfl, g, k⟩ := h
  unfold b_is_end
  cases d <;> first | exact False.elim g | skip
  all_goals (walk_at "d"; refine t_ite (fun e => ?_) (fun e => ?_) <;> first | (cases e; done) | skip)
  all_goals first | (walk_at "d"; exact k) | skip
  rename_i ds
  walk_at "d"
  refine t_ite (fun e => ?_) (fun e => ?_)
  · have e : ds.length = 1 := by have := beq_iff_eq.mp e; omega
    obtain ⟨a, rfl⟩ := one e
    obtain ⟨_, gs⟩ := good_tup.mp g
    have ga := gs a (by simp)
    walk_at "d"
    cases a <;> first | exact False.elim ga | skip
    all_goals (walk_at "d"; refine t_ite (fun f0 => ?_) (fun f0 => ?_) <;> first | (cases f0; done) | skip)
    all_goals first | (walk_at "d"; exact k) | skip
  · have e : ds.length ≠ 1 := by intro z; rw [z] at e; cases e
    rw [endB_not e] at k
    have e2 : ((ds.length : Int) == 1) = false := by simp; omega
    rw [e2]
    exact k
end K11
/-! K11q: what the program's searches through a web find. -/
namespace K11
open PySem DL L2 K01 GR K22
-- what the heap holds at a place
local macro_rules | `(tactic| walk_at "h") => `(tactic| first
  | assumption
  | exact mup_same
  | (refine (mup_ne ?_).trans ?_ <;> first | assumption | (apply Ne.symm; assumption) | walk_at "h"))
-- small facts of numbers
local macro_rules | `(tactic| walk_at "n") => `(tactic| first
  | assumption
  | omega
  | decide
  | (exact CMul.r (by decide))
  | (exact CMul.l (by decide))
  | (refine ⟨?_, ?_⟩ <;> first | assumption | omega | decide))
-- lengths
local macro_rules | `(tactic| walk_at "l") => `(tactic| first
  | assumption
  | (rw [sizeLine_eq]; first | omega | decide | (simp; done) | (simp; omega) | decide +kernel))
-- one step
local macro_rules | `(tactic| walk_at "e1") => `(tactic| first
  | with_reducible refine t_nil ?_
  | ((with_reducible refine' t_var ?s ?_); (case s => first | assumption | exact rfl))
  | with_reducible refine t_c ?_
  | with_reducible refine t_bin ?_
  | with_reducible refine t_if ?_
  | with_reducible refine t_asg ?_
  | with_reducible refine t_gN ?_
  | with_reducible refine t_ret ?_
  | with_reducible refine t_exp ?_
  | with_reducible refine t_bcmp ?_
  | with_reducible refine t_band ?_
  | with_reducible refine t_bor ?_
  | with_reducible refine t_bnot ?_
  | with_reducible refine t_btru ?_
  | with_reducible refine t_byes ?_
  | with_reducible refine t_an ?_
  | with_reducible refine t_ac ?_
  | with_reducible refine t_fn ?_
  | with_reducible refine t_call ?_
  | with_reducible refine t_cmp ?_
  | with_reducible refine t_and ?_
  | with_reducible refine t_or ?_
  | with_reducible refine t_not ?_
  | with_reducible refine t_ife ?_
  | with_reducible refine t_tup ?_
  | with_reducible refine t_lst ?_
  | with_reducible refine t_isi ?_
  | with_reducible refine t_sl ?_
  | with_reducible refine t_o0 ?_
  | with_reducible refine t_o1 ?_
  | with_reducible refine t_un ?_
  | with_reducible refine t_mt ?_
  | with_reducible refine t_gS ?_
  | with_reducible refine t_gsC ?_
  | with_reducible refine t_gsN ?_
  | ((with_reducible refine t_gT ?s ?_); (case s => first | assumption | exact rfl))
  | with_reducible refine t_retN ?_
  | with_reducible refine t_brk ?_
  | with_reducible refine t_cnt ?_
  | ((with_reducible refine' t_aug ?s ?_); (case s => first | assumption | exact rfl))
  | with_reducible refine t_for ?_
  | with_reducible refine t_seqi ?_
  | with_reducible refine t_rg1 ?_
  | with_reducible refine t_rg2 ?_
  | with_reducible refine t_lc ?_
  | with_reducible refine v_tru_bl ?_
  | with_reducible refine v_tru_int ?_
  | with_reducible refine v_tru_non ?_
  | with_reducible refine v_tru_tup ?_
  | with_reducible refine v_add_int ?_
  | ((with_reducible refine v_add_str ?l ?_); (case l => walk_at "l"))
  | ((with_reducible refine v_add_tup ?l ?_); (case l => walk_at "l"))
  | with_reducible refine v_iadd_int ?_
  | with_reducible refine v_sub ?_
  | ((with_reducible refine v_mul ?c ?_); (case c => walk_at "n"))
  | ((with_reducible refine v_div ?c ?_); (case c => walk_at "n"))
  | ((with_reducible refine v_mod ?c ?_); (case c => walk_at "n"))
  | ((with_reducible refine v_pow ?c ?_); (case c => exact ⟨by decide, by decide, by decide⟩))
  | with_reducible refine v_neg ?_
  | with_reducible exact trivial
  | with_reducible refine v_eq_int ?_
  | with_reducible refine v_eq_str ?_
  | with_reducible refine v_eq_bl ?_
  | with_reducible refine v_ne_int ?_
  | with_reducible refine v_ne_str ?_
  | with_reducible refine v_ne_bl ?_
  | with_reducible refine v_lt ?_
  | with_reducible refine v_lt_str ?_
  | with_reducible refine t_ks ?_
  | with_reducible refine t_rv ?_
  | with_reducible refine v_seq_ktp ?_
  | ((with_reducible refine' v_extend ?e ?f ?l ?_); (case e => walk_at "h"); (case f => walk_at "h"); (case l => walk_at "l"))
  | with_reducible refine v_le ?_
  | with_reducible refine v_gt ?_
  | with_reducible refine v_ge ?_
  | with_reducible refine v_isi_non ?_
  | with_reducible refine v_isi_bl ?_
  | with_reducible refine v_isi_int ?_
  | with_reducible refine v_isi_str ?_
  | with_reducible refine v_isi_tup ?_
  | with_reducible refine v_in_str ?_
  | with_reducible refine v_nin_str ?_
  | with_reducible refine v_len_tup ?_
  | with_reducible refine v_len_rol ?_
  | ((with_reducible refine v_len_str ?l ?_); (case l => walk_at "l"))
  | ((with_reducible refine' v_len_ref ?e ?_); (case e => walk_at "h"))
  | with_reducible refine v_int_int ?_
  | with_reducible refine v_max ?_
  | with_reducible refine v_min ?_
  | with_reducible refine v_tuple_tup ?_
  | ((with_reducible refine' v_tuple_ref ?e ?_); (case e => walk_at "h"))
  | ((with_reducible refine' v_ix_ref ?e ?f ?_); (case e => walk_at "h"); (case f => first | assumption | exact rfl))
  | ((with_reducible refine' v_ix_tup ?f ?_); (case f => first | assumption | exact rfl))
  | ((with_reducible refine' v_set ?e ?f ?_); (case e => walk_at "h"); (case f => first | assumption | exact rfl))
  | ((with_reducible refine v_sl_str ?l ?_); (case l => walk_at "l"))
  | with_reducible refine v_sl_tup ?_
  | with_reducible refine v_seq_tup ?_
  | with_reducible refine v_seq_str ?_
  | with_reducible refine v_seq_rol ?_
  | ((with_reducible refine' v_seq_ref ?e ?_); (case e => walk_at "h"))
  | ((with_reducible refine' ⟨v_ty_ref ?e, ?_⟩); (case e => walk_at "h"))
  | ((with_reducible refine' v_append ?e ?l ?_); (case e => walk_at "h"); (case l => walk_at "l")))
local macro_rules | `(tactic| walk_at "d1") => `(tactic| first | with_reducible refine t_seq ?_ | walk_at "e1")
local macro_rules | `(tactic| walk_at "d") => `(tactic| repeat walk_at "d1")
-- one statement
local macro_rules | `(tactic| walk_at "e") => `(tactic| ((repeat walk_at "e1"); try (with_reducible show sSeq _ _ _ _ _)))
local macro_rules | `(tactic| walk_at "s") => `(tactic| ((with_reducible refine t_seq ?_); walk_at "e"))
-- a drawn thing's small facts
local macro_rules | `(tactic| walk_at "gi") => `(tactic| first
  | exact gi_c trivial
  | exact gi_c ⟨_, rfl, by decide, by decide⟩
  | exact gi_c (show _ ≤ _ by decide)
  | exact gi_c (show _ ≤ _ by decide +kernel)
  | exact gi_v rfl trivial)
local macro_rules | `(tactic| walk_at "ga") => `(tactic| ((repeat (first | exact ga_nil | refine ga_cons2 ?_ ?_)); all_goals (try walk_at "gi")))
def goalsO : Option Nd → List Int
  | some x => x.ms.map LX.Mo.g
  | none => []
def nodeD : Option Nd → D
  | some x => ndD x
  | none => endD
theorem mo_d (m : LX.Mo) : LX.Mo.d m = .tup [.str m.z, .int m.l, .int m.h, .int m.g] := rfl
theorem nd_d (x : Nd) : ndD x = .tup [.str "letter", .str x.s, .str x.r, .tup (x.ms.map LX.Mo.d)] := rfl
theorem end_d : endD = .tup [.str "end"] := rfl
theorem kD_ints (ws : List Int) : (ws.map (Sum.inl : Int → Key)).map kD = ws.map D.int := by rw [List.map_map]; rfl
def sp_nexts_of : DSp := fun ds M P => ∃ (o : Option Nd), ds = [nodeD o] ∧ (goalsO o).length ≤ 1000 ∧ ∀ (q : Addr) (ws : List Int) M', (∀ b, b ∈ ws ↔ b ∈ goalsO o) → ws.length ≤ 1000 → M' q = some (.lst (ws.map D.int)) → M q = none → MExt M M' → P (.ref q) M'
theorem ok_nexts_of (ds : List D) (M : Mh) (P : PQ) (h : sp_nexts_of ds M P) : b_nexts_of { nx := fun _ M' => P .non M', rt := P } (startD 3 ds) M := by
  obtain ⟨o, rfl, hl, k⟩ := h
  unfold b_nexts_of
  cases o with
  | none =>
    rw [show nodeD none = .tup [.str "end"] from rfl]
    walk_at "s"
    refine t_if1 rfl ?_
    walk_at "d"
    refine ⟨LX.sz (Nat.zero_le _), fun q nq => ?_⟩
    exact k q [] _ (fun b => Iff.rfl) (Nat.zero_le _) mup_same nq (.fresh nq)
  | some x =>
    rw [show nodeD (some x) = .tup [.str "letter", .str x.s, .str x.r, .tup (x.ms.map LX.Mo.d)] from rfl]
    have hl : x.ms.length ≤ 1000 := by
      have hl : (x.ms.map LX.Mo.g).length ≤ 1000 := hl
      rwa [List.length_map] at hl
    have k : ∀ (q : Addr) (ws : List Int) M', (∀ b, b ∈ ws ↔ b ∈ x.ms.map LX.Mo.g) → ws.length ≤ 1000 → M' q = some (.lst (ws.map D.int)) → M q = none → MExt M M' → P (.ref q) M' := k
    walk_at "s"
    refine t_if0 (by decide +kernel) ?_
    walk_at "e"
    refine t_seq (t_asg (t_dct_k' fun p np => ?_))
    walk_at "e"
    refine t_seq (t_for (t_seqi ?_))
    walk_at "e"
    refine for_each (fun i ρ M' => MExt M M' ∧ ∃ (kvs : List (Key × D)) (w2 : Option D), ρ = [some (.tup [.str "letter", .str x.s, .str x.r, .tup (x.ms.map LX.Mo.d)]), some (.ref p), w2] ∧ M' p = some (.dk kvs) ∧ kvs.length ≤ i ∧ ∀ k, k ∈ kvs.map (·.1) ↔ ∃ m ∈ x.ms.take i, k = Sum.inl m.g)
      ⟨.fresh np, [], _, rfl, mup_same, Nat.zero_le _, by simp⟩ (fun N i d ρ M1 hd hI hN => ?_) (fun ρ M1 hI => ?_)
    · obtain ⟨x1, kvs, w2, rfl, hp, kl, km⟩ := hI
      rw [List.getElem?_map] at hd
      obtain ⟨m, hm, rfl⟩ := Option.map_eq_some_iff.mp hd
      have hi := (List.getElem?_eq_some_iff.mp hm).1
      refine ⟨trivial, ?_⟩
      rw [mo_d]
      walk_at "d"
      refine v_set_dict (dict_dk hp) (by show kvs.length < sizeLine; rw [sizeLine_eq]; omega) rfl ?_
      walk_at "e"
      have pl := putD_len kvs (Sum.inl m.g) (.bl true)
      refine hN _ _ ⟨x1.over np, _, _, rfl, mup_same, by omega, fun k => ?_⟩
      rw [put_mem, km, LX.take_snoc hm]
      constructor
      · rintro (⟨c, hc, r⟩ | rfl)
        · exact ⟨c, List.mem_append_left _ hc, r⟩
        · exact ⟨m, by simp, rfl⟩
      · rintro ⟨c, hc, r⟩
        rcases List.mem_append.mp hc with hc | hc
        · exact .inl ⟨c, hc, r⟩
        · rw [List.mem_singleton.mp hc] at r
          exact .inr r
    · obtain ⟨x1, kvs, w2, rfl, hp, kl, km⟩ := hI
      rw [List.length_map] at kl
      rw [List.length_map, List.take_length] at km
      refine ⟨trivial, ?_⟩
      obtain ⟨zs, ez⟩ := all_map (f := (Sum.inl : Int → Key)) (l := kvs.map (·.1)) fun k hk => by
        obtain ⟨m, _, e⟩ := (km k).mp hk
        exact ⟨_, e⟩
      have ek : dKeys (.dk kvs) = zs.map D.int := by rw [dkeys_map, ez, kD_ints]
      walk_at "s"
      refine v_keys (dict_dk hp) fun q nq => ?_
      rw [ek]
      refine k q zs _ (fun b => ?_) ?_ mup_same (x1.none nq (fun z => z)) (x1.trans (.fresh nq))
      · have := km (Sum.inl b)
        rw [ez, List.mem_map] at this
        rw [List.mem_map]
        constructor
        · intro h
          obtain ⟨m, hm, e⟩ := this.mp ⟨b, h, rfl⟩
          cases e
          exact ⟨m, hm, rfl⟩
        · rintro ⟨m, hm, rfl⟩
          obtain ⟨y, hy, e⟩ := this.mpr ⟨m, hm, rfl⟩
          cases e
          exact hy
      · have := congrArg List.length ez
        rw [List.length_map, List.length_map] at this
        omega
/-- the node of a number -/
theorem nd_at {n : Nat} {nds : List Nd} (h : GOk n (gsOf nds)) {a : Int} (h0 : 0 ≤ a) (h1 : a < ((n + 1 : Nat) : Int)) : ∃ o : Option Nd, atI (nds.map ndD ++ [endD]) a = some (nodeD o) ∧ (goalsO o).length ≤ 1000 ∧ ∀ b, GE (gsOf nds) a b ↔ b ∈ goalsO o := by
  have hl : nds.length = n := by have := h.len; unfold gsOf at this; rwa [List.length_map] at this
  by_cases e : a.toNat < nds.length
  · have e1 := List.getElem?_eq_getElem e
    have e2 : (gsOf nds)[a.toNat]? = some (nds[a.toNat].ms.map LX.Mo.g) := by
      unfold gsOf
      rw [List.getElem?_map, e1]; rfl
    refine ⟨some nds[a.toNat], atI_get? h0 ?_, h.small _ (List.mem_of_getElem? e2), fun b => ?_⟩
    · rw [List.getElem?_append_left (by rw [List.length_map]; exact e), List.getElem?_map, e1]; rfl
    · constructor
      · rintro ⟨_, l, hl, hb⟩
        rw [e2] at hl
        cases hl
        exact hb
      · intro hb
        exact ⟨h0, _, e2, hb⟩
  · refine ⟨none, atI_get? h0 ?_, Nat.zero_le _, fun b => ?_⟩
    · have : a.toNat = (nds.map ndD).length := by rw [List.length_map]; omega
      rw [this, List.getElem?_concat_length]; rfl
    · constructor
      · rintro ⟨_, l, hl, hb⟩
        have := (List.getElem?_eq_some_iff.mp hl).1
        unfold gsOf at this
        rw [List.length_map] at this
        exact absurd this e
      · intro hb; cases hb
theorem nodes_len {n : Nat} {nds : List Nd} (h : GOk n (gsOf nds)) : (nds.map ndD ++ [endD]).length = n + 1 := by
  have hl : nds.length = n := by have := h.len; unfold gsOf at this; rwa [List.length_map] at this
  rw [List.length_append, List.length_map, hl]; rfl
def sp_found_from : DSp := fun ds M P => ∃ (n : Nat) (nds : List Nd), ds = [nodesD nds, .int 0] ∧ GOk n (gsOf nds) ∧
  ∀ (p : Addr) (fs : List Int) M', (∀ b, b ∈ fs ↔ Reach (GE (gsOf nds)) 0 b) → M' p = some (.lst (fs.map D.int)) → M p = none → MExt M M' → P (.ref p) M'
theorem ok_found_from (ds : List D) (M : Mh) (P : PQ) (h : sp_found_from ds M P) : b_found_from sp_nexts_of { nx := fun _ M' => P .non M', rt := P } (startD 6 ds) M := by
  obtain ⟨n, nds, rfl, hg, k⟩ := h
  have hnl := nodes_len hg
  have hle := hg.le
  unfold b_found_from nodesD
  walk_at "s"
  refine ⟨by rw [sizeLine_eq]; show 1 ≤ _; decide, fun p np => ?_⟩
  walk_at "e"
  refine t_seq (t_asg (t_d1 fun q nq => ?_))
  have pq : p ≠ q := ne_free mup_same nq
  walk_at "e"
  refine ⟨mup_same, ?_⟩
  show gN 3 (D.ref q) _ (mup (mup (mup M p (.lst [.int 0])) q (.dk [])) q (.dk [(Sum.inl 0, .bl true)])) _
  rw [mup_mup]
  have nq0 : M q = none := by rw [mup_ne pq.symm] at nq; exact nq
  walk_at "e"
  walk_at "s"
  refine t_seq ?_
  refine while_each (fun m ρ M' => MExt M M' ∧ ∃ (i : Nat) (fs : List Int) (kvs : List (Key × D)) (w5 : Option D), ρ = [some (.tup (nds.map ndD ++ [endD])), some (.int 0), some (.ref p), some (.ref q), some (.int i), w5] ∧ M' p = some (.lst (fs.map D.int)) ∧ M' q = some (.dk kvs) ∧ kvs.map (·.1) = fs.map Sum.inl ∧ Bfs (GE (gsOf nds)) (n + 1) 0 i fs ∧ m + i = n + 1) (n + 1)
    ⟨MKeep.over (MKeep.over .refl np) nq0, 0, [0], _, _, rfl, by rw [mup_ne pq]; exact mup_same, mup_same, rfl, Bfs.start (by decide) (by omega), rfl⟩ (fun N m ρ M' hI hN => ?_)
  obtain ⟨x1, i, fs, kvs, w5, rfl, hp, hq, hk, B, mi⟩ := hI
  have hl := B.len
  have fl : (fs.map D.int).length = fs.length := List.length_map ..
  walk_at "e"
  refine t_ite (fun e => ?_) (fun e => ?_)
  · have e : i < fs.length := by have := of_decide_eq_true e; omega
    obtain ⟨b, hb⟩ : ∃ b, fs[i]? = some b := ⟨_, List.getElem?_eq_getElem e⟩
    have bm := List.mem_of_getElem? hb
    obtain ⟨b0, b1⟩ := B.rng b bm
    have eb := atI_ints hb
    obtain ⟨o, e2, ol, oe⟩ := nd_at hg b0 b1
    walk_at "e"
    refine t_seq (t_for (t_seqi ?_))
    walk_at "e"
    refine ⟨rfl, o, rfl, ol, fun u ws M2 hws wl hu nu x2 => ?_⟩
    have nuM : M u = none := x1.none nu (fun z => z)
    have up : u ≠ p := (ne_free hp nu).symm
    have uq : u ≠ q := (ne_free hq nu).symm
    refine v_seq_ref hu ?_
    refine for_each (fun j ρ M2 => MExt M M2 ∧ M2 u = some (.lst (ws.map D.int)) ∧ ∃ (fs : List Int) (kvs : List (Key × D)) (w5 : Option D), ρ = [some (.tup (nds.map ndD ++ [endD])), some (.int 0), some (.ref p), some (.ref q), some (.int i), w5] ∧ M2 p = some (.lst (fs.map D.int)) ∧ M2 q = some (.dk kvs) ∧ kvs.map (·.1) = fs.map Sum.inl ∧ Bfs (GE (gsOf nds)) (n + 1) 0 i fs ∧ fs[i]? = some b ∧ ∀ c ∈ ws.take j, c ∈ fs)
      ⟨x1.trans x2, hu, fs, kvs, _, rfl, x2 _ _ (fun z => z) hp, x2 _ _ (fun z => z) hq, hk, B, hb, by simp⟩ (fun N2 j d ρ M3 hd hI hN2 => ?_) (fun ρ M3 hI => ?_)
    · obtain ⟨x3, hu, fs, kvs, w5, rfl, hp, hq, hk, B, hb, hj⟩ := hI
      rw [List.getElem?_map] at hd
      obtain ⟨c, hc, rfl⟩ := Option.map_eq_some_iff.mp hd
      have hl := B.len
      have fl : (fs.map D.int).length ≤ 200 := by rw [List.length_map]; omega
      have kl : kvs.length ≤ 200 := by
        have := congrArg List.length hk
        rw [List.length_map, List.length_map] at this
        omega
      have ed : GE (gsOf nds) b c := (oe c).mpr ((hws c).mp (List.mem_of_getElem? hc))
      obtain ⟨g0, g1⟩ := hg.dst ed
      refine ⟨hu, ?_⟩
      walk_at "e"
      walk_at "s"
      refine v_nin_dict (dict_dk hq) rfl ?_
      rw [key_mem hk]
      refine t_ite (fun z => ?_) (fun z => ?_)
      · have z : c ∉ fs := by simpa using z
        walk_at "d"
        refine v_set_dict (dict_dk hq) (by show kvs.length < sizeLine; rw [sizeLine_eq]; omega) rfl ?_
        walk_at "d"
        refine hN2 _ _ ⟨(x3.over nq0).over np, by rw [mup_ne up, mup_ne uq]; exact hu, fs ++ [c], _, _, rfl, by rw [mup_same, List.map_append]; rfl, by rw [mup_ne pq.symm]; exact mup_same, keys_put _ hk z, B.add (List.mem_of_getElem? hb) ed z g0 g1, by rw [List.getElem?_append_left (List.getElem?_eq_some_iff.mp hb).1]; exact hb, fun y hy => ?_⟩
        rw [LX.take_snoc hc] at hy
        rcases List.mem_append.mp hy with hy | hy
        · exact List.mem_append_left _ (hj y hy)
        · rw [List.mem_singleton.mp hy]; simp
      · have z : c ∈ fs := by simpa using z
        walk_at "d"
        refine hN2 _ _ ⟨x3, hu, fs, kvs, _, rfl, hp, hq, hk, B, hb, fun y hy => ?_⟩
        rw [LX.take_snoc hc] at hy
        rcases List.mem_append.mp hy with hy | hy
        · exact hj y hy
        · rw [List.mem_singleton.mp hy]; exact z
    · obtain ⟨x3, hu, fs, kvs, w5, rfl, hp, hq, hk, B, hb, hj⟩ := hI
      rw [List.length_map, List.take_length] at hj
      refine ⟨hu, ?_⟩
      walk_at "d"
      have hl := B.len
      have hi := (List.getElem?_eq_some_iff.mp hb).1
      refine hN (m - 1) _ _ (by omega) ⟨x3, i + 1, fs, kvs, _, rfl, hp, hq, hk, B.next hb fun c ec => ?_, by omega⟩
      exact hj c ((hws c).mpr ((oe c).mp ec))
  · have e : fs.length ≤ i := by have := of_decide_eq_false e; omega
    walk_at "d"
    exact k p fs _ (B.done e) hp np x1
/-! ### who comes -/
def sp_comers_to : DSp := fun ds M P => ∃ (n : Nat) (nds : List Nd), ds = [nodesD nds] ∧ GOk n (gsOf nds) ∧
  ∀ (c : Addr) (rs : List Addr) (f : Nat → List Int) M', Com M (n + 1) c rs f M' → (∀ (k : Nat) (x : Int), k < n + 1 → (x ∈ f k ↔ GE (gsOf nds) x k)) → MExt M M' → P (.ref c) M'
theorem ok_comers_to (ds : List D) (M : Mh) (P : PQ) (h : sp_comers_to ds M P) : b_comers_to sp_nexts_of { nx := fun _ M' => P .non M', rt := P } (startD 5 ds) M := by
  obtain ⟨n, nds, rfl, hg, k⟩ := h
  have hnl := nodes_len hg
  have hle := hg.le
  unfold b_comers_to nodesD
  refine t_seq ?_
  walk_at "e"
  intro c nc
  refine lc_each (fun i acc M' => MKeep (· = c) M M' ∧ ∃ rs : List Addr, acc = rs.map D.ref ∧ rs.length = i ∧ rs.Nodup ∧ ∀ r ∈ rs, M r = none ∧ r ≠ c ∧ M' r = some (.lst [])) (by rw [hnl, sizeLine_eq]; omega) mup_same ⟨.put rfl, [], rfl, rfl, by simp, by simp⟩ (fun R i d acc M1 hd _ hI hc hR => ?_) (fun acc M1 la hI hc => ?_)
  · obtain ⟨m1, rs, rfl, l1, nd, hrs⟩ := hI
    refine ⟨trivial, _, rfl, ?_⟩
    walk_at "e"
    refine ⟨by rw [sizeLine_eq]; show 0 ≤ _; omega, fun r nr => ?_⟩
    have cr := ne_free hc nr
    have rM : M r = none := m1.none nr cr.symm
    refine hR _ _ (by rw [mup_ne cr]; exact hc) ⟨(m1.trans (.fresh nr)).trans (.put rfl), rs ++ [r], by rw [List.map_append]; rfl, by rw [List.length_append, l1]; rfl, ?_, fun x hx => ?_⟩
    · rw [List.nodup_append]
      exact ⟨nd, by simp, fun x hx y hy => by
        rw [List.mem_singleton.mp hy]
        rintro rfl
        rw [(hrs x hx).2.2] at nr; cases nr⟩
    · rcases List.mem_append.mp hx with hx | hx
      · obtain ⟨q1, q2, q3⟩ := hrs x hx
        exact ⟨q1, q2, by rw [mup_ne q2, mup_ne (ne_free q3 nr)]; exact q3⟩
      · rw [List.mem_singleton.mp hx]
        exact ⟨rM, cr.symm, by rw [mup_ne cr.symm]; exact mup_same⟩
  obtain ⟨m1, rs, rfl, l1, nd, hrs⟩ := hI
  refine ⟨trivial, ?_⟩
  have C : Com M (n + 1) c rs (fun _ => []) M1 := ⟨by rw [← hnl, ← la, List.length_map], nd, fun r h => ⟨(hrs r h).1, (hrs r h).2.1⟩, nc, hc, fun k r e => (hrs r (List.mem_of_getElem? e)).2.2⟩
  have x1 : MExt M M1 := fun a o _ h => m1 a o (ne_free h nc) h
  clear m1 l1 nd hrs la hc
  walk_at "e"
  refine t_seq (t_for ?_)
  walk_at "e"
  refine ⟨by omega, ?_⟩
  refine for_each (fun i ρ M' => MExt M M' ∧ ∃ (f : Nat → List Int) (w3 w4 : Option D), ρ = [some (.tup (nds.map ndD ++ [endD])), some (.ref c), none, w3, w4] ∧ Com M (n + 1) c rs f M' ∧ (∀ k, (f k).length ≤ 1000 * i) ∧ ∀ (k : Nat) (x : Int), k < n + 1 → (x ∈ f k ↔ x < i ∧ GE (gsOf nds) x k))
    ⟨x1, fun _ => [], _, _, rfl, C, fun _ => Nat.zero_le _, fun k x _ => by
      simp only [List.not_mem_nil, false_iff]
      rintro ⟨h, h0, _⟩
      have h : x < ((0 : Nat) : Int) := h
      omega⟩ (fun N i d ρ M2 hd hI hN => ?_) (fun ρ M2 hI => ?_)
  · obtain ⟨x2, f, w3, w4, rfl, C, fl, hf⟩ := hI
    obtain ⟨rfl, hi⟩ := LX.rget hd
    have hi : i < n + 1 := by omega
    obtain ⟨o, e2, ol, oe⟩ := nd_at hg (show 0 ≤ (0 + (i : Int)) by omega) (by omega)
    rw [Int.zero_add] at oe
    refine ⟨trivial, ?_⟩
    walk_at "e"
    refine t_seq (t_for (t_seqi ?_))
    walk_at "e"
    refine ⟨rfl, o, rfl, ol, fun u ws M3 hws wl hu nu x3 => ?_⟩
    obtain ⟨uc, ur⟩ := C.free nu
    have uM : M u = none := x2.none nu (fun z => z)
    refine v_seq_ref hu ?_
    refine for_each (fun j ρ M' => MExt M M' ∧ M' u = some (.lst (ws.map D.int)) ∧ ∃ (f : Nat → List Int) (w4 : Option D), ρ = [some (.tup (nds.map ndD ++ [endD])), some (.ref c), none, some (.int (0 + (i : Int))), w4] ∧ Com M (n + 1) c rs f M' ∧ (∀ k, (f k).length ≤ 1000 * i + j) ∧ ∀ (k : Nat) (x : Int), k < n + 1 → (x ∈ f k ↔ (x < i ∧ GE (gsOf nds) x k) ∨ (x = i ∧ ∃ b ∈ ws.take j, b = k)))
      ⟨x2.trans x3, hu, f, _, rfl, C.keep x3, fl, fun k x hk => by rw [hf k x hk]; simp⟩ (fun N2 j d ρ M4 hd hI hN2 => ?_) (fun ρ M4 hI => ?_)
    · obtain ⟨x4, hu, f, w4, rfl, C, fl, hf⟩ := hI
      rw [List.getElem?_map] at hd
      obtain ⟨b, hb, rfl⟩ := Option.map_eq_some_iff.mp hd
      have hj := (List.getElem?_eq_some_iff.mp hb).1
      have ed : GE (gsOf nds) (i : Int) b := (oe b).mpr ((hws b).mp (List.mem_of_getElem? hb))
      obtain ⟨g0, g1⟩ := hg.dst ed
      obtain ⟨g, hgg⟩ := Int.eq_ofNat_of_zero_le g0
      have gr : g < rs.length := by rw [C.len]; omega
      have er : rs[g]? = some rs[g] := List.getElem?_eq_getElem gr
      generalize rs[g] = r at er
      have hr := C.l g r er
      have ha : atI (rs.map D.ref) b = some (.ref r) := by
        rw [hgg]
        exact atI_get? (by omega) (by rw [Int.toNat_natCast, List.getElem?_map, er]; rfl)
      have hc := C.at'
      have fl2 : ((f g).map D.int).length ≤ 200000 := by rw [List.length_map]; have := fl g; omega
      have ru : u ≠ r := fun z => ur (z ▸ List.mem_of_getElem? er)
      refine ⟨hu, ?_⟩
      walk_at "d"
      refine hN2 _ _ ⟨x4.over (C.new r (List.mem_of_getElem? er)).1, by rw [mup_ne ru]; exact hu, _, _, rfl, C.put er, fun k => ?_, fun k x hk => ?_⟩
      · show (if k = g then f g ++ [_] else f k).length ≤ _
        split
        · rw [List.length_append]; have := fl g; simp; omega
        · have := fl k; omega
      · show x ∈ (if k = g then f g ++ [_] else f k) ↔ _
        rw [LX.take_snoc hb]
        by_cases e : k = g
        · subst e
          rw [if_pos rfl, List.mem_append, hf k x hk, List.mem_singleton]
          constructor
          · rintro ((h | ⟨h, y, hy, e⟩) | h)
            · exact .inl h
            · exact .inr ⟨h, y, List.mem_append_left _ hy, e⟩
            · exact .inr ⟨by omega, b, by simp, hgg⟩
          · rintro (h | ⟨h, y, hy, e⟩)
            · exact .inl (.inl h)
            · rcases List.mem_append.mp hy with hy | hy
              · exact .inl (.inr ⟨h, y, hy, e⟩)
              · exact .inr (by omega)
        · rw [if_neg e, hf k x hk]
          constructor
          · rintro (h | ⟨h, y, hy, q⟩)
            · exact .inl h
            · exact .inr ⟨h, y, List.mem_append_left _ hy, q⟩
          · rintro (h | ⟨h, y, hy, q⟩)
            · exact .inl h
            · rcases List.mem_append.mp hy with hy | hy
              · exact .inr ⟨h, y, hy, q⟩
              · rw [List.mem_singleton.mp hy, hgg] at q
                omega
    · obtain ⟨x4, hu, f, w4, rfl, C, fl, hf⟩ := hI
      rw [List.length_map] at fl
      rw [List.length_map, List.take_length] at hf
      refine ⟨hu, ?_⟩
      walk_at "e"
      refine hN _ _ ⟨x4, f, _, _, rfl, C, fun k => by have := fl k; omega, fun k x hk => ?_⟩
      rw [hf k x hk]
      constructor
      · rintro (⟨h, r⟩ | ⟨h, y, hy, e⟩)
        · exact ⟨by omega, r⟩
        · refine ⟨by omega, ?_⟩
          rw [h, ← e]
          exact (oe y).mpr ((hws y).mp hy)
      · rintro ⟨h, r⟩
        by_cases e : x = i
        · rw [e] at r
          exact .inr ⟨e, k, (hws _).mpr ((oe _).mp r), rfl⟩
        · exact .inl ⟨by omega, r⟩
  · obtain ⟨x2, f, w3, w4, rfl, C, fl, hf⟩ := hI
    rw [LX.rlen] at hf
    refine ⟨trivial, ?_⟩
    walk_at "d"
    refine k c rs f _ C (fun k x hk => ?_) x2
    rw [hf k x hk]
    refine ⟨fun h => h.2, fun h => ⟨?_, h⟩⟩
    have := hg.src h
    omega
end K11
/-! K11r: how far the end is; what a web is, by the program. -/
namespace K11
open PySem DL L2 K01 GR K22
-- what the heap holds at a place
local macro_rules | `(tactic| walk_at "h") => `(tactic| first
  | assumption
  | exact mup_same
  | (refine (mup_ne ?_).trans ?_ <;> first | assumption | (apply Ne.symm; assumption) | walk_at "h"))
-- small facts of numbers
local macro_rules | `(tactic| walk_at "n") => `(tactic| first
  | assumption
  | omega
  | decide
  | (exact CMul.r (by decide))
  | (exact CMul.l (by decide))
  | (refine ⟨?_, ?_⟩ <;> first | assumption | omega | decide))
-- lengths
local macro_rules | `(tactic| walk_at "l") => `(tactic| first
  | assumption
  | (rw [sizeLine_eq]; first | omega | decide | (simp; done) | (simp; omega) | decide +kernel))
-- one step
local macro_rules | `(tactic| walk_at "e1") => `(tactic| first
  | with_reducible refine t_nil ?_
  | ((with_reducible refine' t_var ?s ?_); (case s => first | assumption | exact rfl))
  | with_reducible refine t_c ?_
  | with_reducible refine t_bin ?_
  | with_reducible refine t_if ?_
  | with_reducible refine t_asg ?_
  | with_reducible refine t_gN ?_
  | with_reducible refine t_ret ?_
  | with_reducible refine t_exp ?_
  | with_reducible refine t_bcmp ?_
  | with_reducible refine t_band ?_
  | with_reducible refine t_bor ?_
  | with_reducible refine t_bnot ?_
  | with_reducible refine t_btru ?_
  | with_reducible refine t_byes ?_
  | with_reducible refine t_an ?_
  | with_reducible refine t_ac ?_
  | with_reducible refine t_fn ?_
  | with_reducible refine t_call ?_
  | with_reducible refine t_cmp ?_
  | with_reducible refine t_and ?_
  | with_reducible refine t_or ?_
  | with_reducible refine t_not ?_
  | with_reducible refine t_ife ?_
  | with_reducible refine t_tup ?_
  | with_reducible refine t_lst ?_
  | with_reducible refine t_isi ?_
  | with_reducible refine t_sl ?_
  | with_reducible refine t_o0 ?_
  | with_reducible refine t_o1 ?_
  | with_reducible refine t_un ?_
  | with_reducible refine t_mt ?_
  | with_reducible refine t_gS ?_
  | with_reducible refine t_gsC ?_
  | with_reducible refine t_gsN ?_
  | ((with_reducible refine t_gT ?s ?_); (case s => first | assumption | exact rfl))
  | with_reducible refine t_retN ?_
  | with_reducible refine t_brk ?_
  | with_reducible refine t_cnt ?_
  | ((with_reducible refine' t_aug ?s ?_); (case s => first | assumption | exact rfl))
  | with_reducible refine t_for ?_
  | with_reducible refine t_seqi ?_
  | with_reducible refine t_rg1 ?_
  | with_reducible refine t_rg2 ?_
  | with_reducible refine t_lc ?_
  | with_reducible refine v_tru_bl ?_
  | with_reducible refine v_tru_int ?_
  | with_reducible refine v_tru_non ?_
  | with_reducible refine v_tru_tup ?_
  | with_reducible refine v_add_int ?_
  | ((with_reducible refine v_add_str ?l ?_); (case l => walk_at "l"))
  | ((with_reducible refine v_add_tup ?l ?_); (case l => walk_at "l"))
  | with_reducible refine v_iadd_int ?_
  | with_reducible refine v_sub ?_
  | ((with_reducible refine v_mul ?c ?_); (case c => walk_at "n"))
  | ((with_reducible refine v_div ?c ?_); (case c => walk_at "n"))
  | ((with_reducible refine v_mod ?c ?_); (case c => walk_at "n"))
  | ((with_reducible refine v_pow ?c ?_); (case c => exact ⟨by decide, by decide, by decide⟩))
  | with_reducible refine v_neg ?_
  | with_reducible exact trivial
  | with_reducible refine v_eq_int ?_
  | with_reducible refine v_eq_str ?_
  | with_reducible refine v_eq_bl ?_
  | with_reducible refine v_ne_int ?_
  | with_reducible refine v_ne_str ?_
  | with_reducible refine v_ne_bl ?_
  | with_reducible refine v_lt ?_
  | with_reducible refine v_lt_str ?_
  | with_reducible refine t_ks ?_
  | with_reducible refine t_rv ?_
  | with_reducible refine v_seq_ktp ?_
  | ((with_reducible refine' v_extend ?e ?f ?l ?_); (case e => walk_at "h"); (case f => walk_at "h"); (case l => walk_at "l"))
  | with_reducible refine v_le ?_
  | with_reducible refine v_gt ?_
  | with_reducible refine v_ge ?_
  | with_reducible refine v_isi_non ?_
  | with_reducible refine v_isi_bl ?_
  | with_reducible refine v_isi_int ?_
  | with_reducible refine v_isi_str ?_
  | with_reducible refine v_isi_tup ?_
  | with_reducible refine v_in_str ?_
  | with_reducible refine v_nin_str ?_
  | with_reducible refine v_len_tup ?_
  | with_reducible refine v_len_rol ?_
  | ((with_reducible refine v_len_str ?l ?_); (case l => walk_at "l"))
  | ((with_reducible refine' v_len_ref ?e ?_); (case e => walk_at "h"))
  | with_reducible refine v_int_int ?_
  | with_reducible refine v_max ?_
  | with_reducible refine v_min ?_
  | with_reducible refine v_tuple_tup ?_
  | ((with_reducible refine' v_tuple_ref ?e ?_); (case e => walk_at "h"))
  | ((with_reducible refine' v_ix_ref ?e ?f ?_); (case e => walk_at "h"); (case f => first | assumption | exact rfl))
  | ((with_reducible refine' v_ix_tup ?f ?_); (case f => first | assumption | exact rfl))
  | ((with_reducible refine' v_set ?e ?f ?_); (case e => walk_at "h"); (case f => first | assumption | exact rfl))
  | ((with_reducible refine v_sl_str ?l ?_); (case l => walk_at "l"))
  | with_reducible refine v_sl_tup ?_
  | with_reducible refine v_seq_tup ?_
  | with_reducible refine v_seq_str ?_
  | with_reducible refine v_seq_rol ?_
  | ((with_reducible refine' v_seq_ref ?e ?_); (case e => walk_at "h"))
  | ((with_reducible refine' ⟨v_ty_ref ?e, ?_⟩); (case e => walk_at "h"))
  | ((with_reducible refine' v_append ?e ?l ?_); (case e => walk_at "h"); (case l => walk_at "l")))
local macro_rules | `(tactic| walk_at "d1") => `(tactic| first | with_reducible refine t_seq ?_ | walk_at "e1")
local macro_rules | `(tactic| walk_at "d") => `(tactic| repeat walk_at "d1")
-- one statement
local macro_rules | `(tactic| walk_at "e") => `(tactic| ((repeat walk_at "e1"); try (with_reducible show sSeq _ _ _ _ _)))
local macro_rules | `(tactic| walk_at "s") => `(tactic| ((with_reducible refine t_seq ?_); walk_at "e"))
-- a drawn thing's small facts
local macro_rules | `(tactic| walk_at "gi") => `(tactic| first
  | exact gi_c trivial
  | exact gi_c ⟨_, rfl, by decide, by decide⟩
  | exact gi_c (show _ ≤ _ by decide)
  | exact gi_c (show _ ≤ _ by decide +kernel)
  | exact gi_v rfl trivial)
local macro_rules | `(tactic| walk_at "ga") => `(tactic| ((repeat (first | exact ga_nil | refine ga_cons2 ?_ ?_)); all_goals (try walk_at "gi")))
def oD : Option Int → D
  | none => .non
  | some i => .int i
def row (N : Nat) (lv : Nat → Option Int) : List D := (List.range N).map fun k => oD (lv k)
theorem row_len {N : Nat} {lv : Nat → Option Int} : (row N lv).length = N := by unfold row; rw [List.length_map, List.length_range]
theorem row_get {N k : Nat} {lv : Nat → Option Int} (h : k < N) : (row N lv)[k]? = some (oD (lv k)) := by
  unfold row
  rw [List.getElem?_map, List.getElem?_range h]; rfl
theorem row_at {N k : Nat} {lv : Nat → Option Int} (h : k < N) : atI (row N lv) (k : Int) = some (oD (lv k)) := atI_get? (by omega) (by rw [Int.toNat_natCast]; exact row_get h)
theorem row_ix {N k : Nat} {lv : Nat → Option Int} (h : k < N) : ixN (row N lv).length (k : Int) = some k := by
  rw [row_len]
  unfold ixN
  rw [if_pos (by omega), if_pos (by omega), Int.toNat_natCast]
theorem row_set {N k : Nat} {lv : Nat → Option Int} {v : Int} (h : k < N) : (row N lv).set k (.int v) = row N fun m => if m = k then some v else lv m := by
  apply List.ext_getElem?
  intro m
  by_cases hm : m < N
  · rw [List.getElem?_set, row_get hm]
    by_cases e : m = k
    · subst e
      rw [if_pos rfl, if_pos (by rw [row_len]; exact hm), row_get hm]
      show some (D.int v) = some (oD (if m = m then some v else lv m))
      rw [if_pos rfl]; rfl
    · rw [if_neg (fun z => e z.symm), row_get hm]
      show some (oD (lv m)) = some (oD (if m = k then some v else lv m))
      rw [if_neg e]
  · rw [List.getElem?_eq_none (by rw [List.length_set, row_len]; omega), List.getElem?_eq_none (by rw [row_len]; omega)]
theorem row_flat (N : Nat) (lv : Nat → Option Int) : (row N lv).all flatD = true := by
  rw [List.all_eq_true]
  intro x hx
  obtain ⟨k, _, rfl⟩ := List.mem_map.mp hx
  cases lv k <;> rfl
theorem row_mem {N : Nat} {lv : Nat → Option Int} : memD .non (row N lv) = true ↔ ∃ k, k < N ∧ lv k = none := by
  unfold memD
  rw [List.any_eq_true]
  constructor
  · rintro ⟨x, hx, e⟩
    obtain ⟨k, hk, rfl⟩ := List.mem_map.mp hx
    refine ⟨k, List.mem_range.mp hk, ?_⟩
    cases h : lv k with
    | none => rfl
    | some i => rw [h] at e; cases e
  · rintro ⟨k, hk, e⟩
    exact ⟨oD (lv k), List.mem_map.mpr ⟨k, List.mem_range.mpr hk, rfl⟩, by rw [e]; rfl⟩
theorem row_succ (N : Nat) (lv : Nat → Option Int) : row (N + 1) lv = row N lv ++ [oD (lv N)] := by
  unfold row
  rw [List.range_succ, List.map_append]; rfl
def sp_left_of : DSp := fun ds M P => ∃ (n : Nat) (nds : List Nd), ds = [nodesD nds] ∧ GOk n (gsOf nds) ∧
  ∀ (p : Addr) (ls : List D) M', M' p = some (.lst ls) → ls.all flatD = true → (memD .non ls = true ↔ ¬ JoinedB n (gsOf nds)) → MExt M M' → P (.ref p) M'
theorem ok_left_of (ds : List D) (M : Mh) (P : PQ) (h : sp_left_of ds M P) : b_left_of sp_comers_to { nx := fun _ M' => P .non M', rt := P } (startD 9 ds) M := by
  obtain ⟨n, nds, rfl, hg, k⟩ := h
  have hnl := nodes_len hg
  have hle := hg.le
  unfold b_left_of
  walk_at "s"
  refine ⟨rfl, n, nds, rfl, hg, fun c rs f M1 C hf x1 => ?_⟩
  unfold nodesD
  walk_at "e"
  refine t_seq ?_
  walk_at "e"
  intro p np
  obtain ⟨pc, pr⟩ := C.free np
  refine lc_each (fun i acc M' => MKeep (· = p) M1 M' ∧ acc = row i (fun _ => none)) (by rw [hnl, sizeLine_eq]; omega) mup_same ⟨.put rfl, rfl⟩ (fun R i d acc M2 hd _ hI hp hR => ?_) (fun acc M2 la hI hp => ?_)
  · obtain ⟨m2, rfl⟩ := hI
    refine ⟨trivial, _, rfl, ?_⟩
    walk_at "e"
    exact hR _ _ hp ⟨m2.trans (.put rfl), (row_succ _ _).symm⟩
  obtain ⟨m2, rfl⟩ := hI
  refine ⟨trivial, ?_⟩
  have x2 : MExt M1 M2 := fun a o _ h => m2 a o (ne_free h np) h
  have C := C.keep x2
  have x2 := x1.trans x2
  have pM : M p = none := x1.none np (fun z => z)
  rw [hnl] at hp
  clear m2 la
  walk_at "e"
  refine t_seq ?_
  walk_at "e"
  rw [hnl, show ((n + 1 : Nat) : Int) - 1 = (n : Int) by omega]
  walk_at "e"
  refine t_seq ?_
  have e0 := row_ix (N := n + 1) (k := n) (lv := fun _ => none) (by omega)
  walk_at "e"
  rw [row_set (show n < n + 1 by omega)]
  refine t_seq ?_
  walk_at "e"
  refine ⟨by rw [sizeLine_eq]; show 1 ≤ _; decide, fun w nw => ?_⟩
  have pw : p ≠ w := ne_free mup_same nw
  have hC := C.other (o := .lst (row (n + 1) fun m => if m = n then some 0 else none)) pc pr
  obtain ⟨wc, wr⟩ := hC.free nw
  have wM : M w = none := MKeep.none (S := fun _ => False) (x2.over pM) nw (fun z => z)
  have hC := hC.other (o := .lst [.int (n : Int)]) wc wr
  have x3 : MExt M (mup (mup M2 p (.lst (row (n + 1) fun m => if m = n then some 0 else none))) w (.lst [.int (n : Int)])) := (x2.over pM).over wM
  have hp3 : (mup (mup M2 p (.lst (row (n + 1) fun m => if m = n then some 0 else none))) w (.lst [.int (n : Int)])) p = some (.lst (row (n + 1) fun m => if m = n then some 0 else none)) := by rw [mup_ne pw]; exact mup_same
  have hw3 : (mup (mup M2 p (.lst (row (n + 1) fun m => if m = n then some 0 else none))) w (.lst [.int (n : Int)])) w = some (.lst ([(n : Int)].map D.int)) := mup_same
  generalize mup (mup M2 p (.lst (row (n + 1) fun m => if m = n then some 0 else none))) w (.lst [.int (n : Int)]) = M3 at hC x3 hp3 hw3
  clear C x2 hp e0
  walk_at "e"
  walk_at "s"
  refine t_seq ?_
  refine while_each (fun m ρ M' => MExt M M' ∧ ∃ (i : Nat) (ws : List Int) (lv : Nat → Option Int) (w7 w8 : Option D), ρ = [some (.tup (nds.map ndD ++ [endD])), some (.ref c), some (.ref p), none, some (.int n), some (.ref w), some (.int i), w7, w8] ∧ Com M (n + 1) c rs f M' ∧ M' p = some (.lst (row (n + 1) lv)) ∧ M' w = some (.lst (ws.map D.int)) ∧ (∀ k : Nat, k < n + 1 → (lv k = none ↔ (k : Int) ∉ ws)) ∧ Back (GE (gsOf nds)) (· = (n : Int)) (n + 1) i ws ∧ m + i = n + 1) (n + 1)
    ⟨x3, 0, [(n : Int)], _, _, _, rfl, hC, hp3, hw3, fun k hk => by
      by_cases e : k = n
      · subst e; simp
      · simp [e]; omega, ⟨fun b h0 h1 h => by rw [show b = (n : Int) from h]; simp, fun b hb => by rw [List.mem_singleton.mp hb]; exact ⟨_, .refl, rfl⟩, fun k b c h => by omega, by simp, fun b hb => by rw [List.mem_singleton.mp hb]; omega, Nat.zero_le _⟩, rfl⟩ (fun N m ρ M' hI hN => ?_)
  clear x3 hC hp3 hw3
  obtain ⟨x3, i, ws, lv, w7, w8, rfl, C, hp, hw, hv, B, mi⟩ := hI
  have hl := B.len
  have fl : (ws.map D.int).length = ws.length := List.length_map ..
  walk_at "e"
  refine t_ite (fun e => ?_) (fun e => ?_)
  · have e : i < ws.length := by have := of_decide_eq_true e; omega
    obtain ⟨b, hb⟩ : ∃ b, ws[i]? = some b := ⟨_, List.getElem?_eq_getElem e⟩
    obtain ⟨b0, b1⟩ := B.rng b (List.mem_of_getElem? hb)
    obtain ⟨g, hgb⟩ := Int.eq_ofNat_of_zero_le b0
    subst hgb
    have gn : g < n + 1 := by omega
    have eb := atI_ints hb
    have gr : g < rs.length := by rw [C.len]; omega
    have er : rs[g]? = some rs[g] := List.getElem?_eq_getElem gr
    generalize rs[g] = r at er
    have ha : atI (rs.map D.ref) (g : Int) = some (.ref r) := atI_get? (by omega) (by rw [Int.toNat_natCast, List.getElem?_map, er]; rfl)
    have hc := C.at'
    have rm := List.mem_of_getElem? er
    walk_at "e"
    walk_at "s"
    walk_at "s"
    refine t_seq (t_for (t_seqi ?_))
    walk_at "e"
    refine v_seq_ref (C.l g r er) ?_
    refine for_each (fun j ρ M2 => MExt M M2 ∧ ∃ (ws : List Int) (lv : Nat → Option Int) (w8 : Option D), ρ = [some (.tup (nds.map ndD ++ [endD])), some (.ref c), some (.ref p), none, some (.int n), some (.ref w), some (.int ((i : Int) + 1)), some (.int (g : Int)), w8] ∧ Com M (n + 1) c rs f M2 ∧ M2 p = some (.lst (row (n + 1) lv)) ∧ M2 w = some (.lst (ws.map D.int)) ∧ (∀ k : Nat, k < n + 1 → (lv k = none ↔ (k : Int) ∉ ws)) ∧ Back (GE (gsOf nds)) (· = (n : Int)) (n + 1) i ws ∧ ws[i]? = some (g : Int) ∧ ∀ x ∈ (f g).take j, x ∈ ws)
      ⟨x3, ws, lv, _, rfl, C, hp, hw, hv, B, hb, by simp⟩ (fun N2 j d ρ M2 hd hI hN2 => ?_) (fun ρ M2 hI => ?_)
    · obtain ⟨x4, ws, lv, w8, rfl, C, hp, hw, hv, B, hb, hj⟩ := hI
      rw [List.getElem?_map] at hd
      obtain ⟨x, hx, rfl⟩ := Option.map_eq_some_iff.mp hd
      have hl := B.len
      have ed : GE (gsOf nds) x g := (hf g x gn).mp (List.mem_of_getElem? hx)
      obtain ⟨s0, s1⟩ := hg.src ed
      obtain ⟨y, hy⟩ := Int.eq_ofNat_of_zero_le s0
      subst hy
      have yn : y < n + 1 := by omega
      have ay := row_at (lv := lv) yn
      have ag := row_at (lv := lv) gn
      have iy := row_ix (lv := lv) yn
      refine ⟨C.l g r er, ?_⟩
      walk_at "e"
      walk_at "s"
      refine v_isN ?_
      have gw : ¬ lv g = none := fun z => (hv g gn).mp z (List.mem_of_getElem? hb)
      obtain ⟨v, hvg⟩ : ∃ v, lv g = some v := by
        cases h : lv g with
        | none => exact absurd h gw
        | some v => exact ⟨v, rfl⟩
      rw [hvg] at ag
      have ag : atI (row (n + 1) lv) (g : Int) = some (.int v) := ag
      cases hvy : lv y with
      | none =>
        have ny := (hv y yn).mp hvy
        refine t_if1 rfl ?_
        walk_at "s"
        rw [row_set yn]
        have fl : (ws.map D.int).length ≤ 200 := by rw [List.length_map]; omega
        have hw' : (mup M2 p (.lst (row (n + 1) fun m => if m = y then some (v + 1) else lv m))) w = some (.lst (ws.map D.int)) := by rw [mup_ne pw.symm]; exact hw
        walk_at "d"
        refine hN2 _ _ ⟨(x4.over pM).over wM, ws ++ [(y : Int)], _, _, rfl, (C.other pc pr).other wc wr, by rw [mup_ne pw]; exact mup_same, by rw [mup_same, List.map_append]; rfl, fun k hk => ?_, B.add (List.mem_of_getElem? hb) ed ny (by omega) (by omega), by rw [List.getElem?_append_left (List.getElem?_eq_some_iff.mp hb).1]; exact hb, fun z hz => ?_⟩
        · show (if k = y then some (v + 1) else lv k) = none ↔ _
          rw [List.mem_append, List.mem_singleton]
          by_cases e : k = y
          · subst e; simp
          · rw [if_neg e, hv k hk]
            constructor
            · rintro h (h2 | h2)
              · exact h h2
              · omega
            · intro h h2
              exact h (.inl h2)
        · rw [LX.take_snoc hx] at hz
          rcases List.mem_append.mp hz with hz | hz
          · exact List.mem_append_left _ (hj z hz)
          · rw [List.mem_singleton.mp hz]; simp
      | some u =>
        refine t_if0 rfl ?_
        walk_at "d"
        refine hN2 _ _ ⟨x4, ws, lv, _, rfl, C, hp, hw, hv, B, hb, fun z hz => ?_⟩
        rw [LX.take_snoc hx] at hz
        rcases List.mem_append.mp hz with hz | hz
        · exact hj z hz
        · rw [List.mem_singleton.mp hz]
          apply Classical.byContradiction
          intro q
          rw [(hv y yn).mpr q] at hvy
          cases hvy
    · obtain ⟨x4, ws, lv, w8, rfl, C, hp, hw, hv, B, hb, hj⟩ := hI
      rw [List.length_map, List.take_length] at hj
      have hl := B.len
      have hi := (List.getElem?_eq_some_iff.mp hb).1
      refine ⟨C.l g r er, ?_⟩
      walk_at "d"
      refine hN (m - 1) _ _ (by omega) ⟨x4, i + 1, ws, lv, _, _, rfl, C, hp, hw, hv, B.next hb fun x ex => ?_, by omega⟩
      exact hj x ((hf g x gn).mpr ex)
  · have e : ws.length ≤ i := by have := of_decide_eq_false e; omega
    walk_at "d"
    refine k p _ _ hp (row_flat _ _) ?_ x3
    rw [row_mem]
    have dn := fun b h0 h1 => B.done (fun b c e => hg.dst e) e b h0 h1
    constructor
    · rintro ⟨a, ha, hv0⟩ J
      have na := (hv a ha).mp hv0
      refine na ((dn (a : Int) (by omega) (by omega)).mpr ?_)
      by_cases q : a = n
      · subst q
        exact ⟨_, .refl, rfl⟩
      · exact J a (by omega)
    · intro nj
      apply Classical.byContradiction
      intro h
      refine nj fun a ha => ?_
      have : (a : Int) ∈ ws := by
        apply Classical.byContradiction
        intro q
        exact h ⟨a, by omega, (hv a (by omega)).mpr q⟩
      exact (dn (a : Int) (by omega) (by omega)).mp this

/-! ### a web -/
theorem two {ds : List D} (h : ds.length = 2) : ∃ a b, ds = [a, b] := by
  match ds, h with
  | [a, b], _ => exact ⟨_, _, rfl⟩
theorem webB_len {ds : List D} (h : ds.length ≠ 2) : webB (.tup ds) = false := by
  unfold webB
  split
  · rename_i e
    cases e
    exact absurd rfl h
  · rfl
theorem webB_roles {a b : D} (h : rolesB a = false) : webB (.tup [a, b]) = false := by
  cases b <;> first | rfl | skip
  cases a <;> first | rfl | skip
  rename_i ns rs
  show (rolesB (.tup rs) && _) = false
  rw [h]; rfl
theorem webB_nodes {a b : D} (h : ∀ ns, b ≠ .tup ns) : webB (.tup [a, b]) = false := by
  cases b <;> first | rfl | exact absurd rfl (h _)
theorem webB_none {rs : List D} : webB (.tup [.tup rs, .tup []]) = false := by
  show (rolesB (.tup rs) && _) = false
  simp
theorem webB_eq {rs init : List D} {l : D} : webB (.tup [.tup rs, .tup (init ++ [l])]) = (rolesB (.tup rs) && (decide (init.length + 1 ≤ 61) && (endB l && (init.all (letterB rs ((init.length + 1 : Nat) : Int)) && joinB init.length (init.map gOf))))) := by
  show (rolesB (.tup rs) && ((decide (1 ≤ (init ++ [l]).length) && decide ((init ++ [l]).length ≤ 61)) && (lastB (init ++ [l]) && ((init ++ [l]).dropLast.all (letterB rs (init ++ [l]).length) && joinB (init ++ [l]).dropLast.length ((init ++ [l]).dropLast.map gOf))))) = _
  have e1 : (init ++ [l]).length = init.length + 1 := by simp
  have e2 : lastB (init ++ [l]) = endB l := by
    cases init with
    | nil => rfl
    | cons a r =>
      show endB ((a :: (r ++ [l])).getLast (by simp)) = endB l
      have : (a :: (r ++ [l])).getLast (by simp) = l := by
        have : ((a :: r) ++ [l]).getLast (by simp) = l := List.getLast_concat
        exact this
      rw [this]
  rw [e1, e2, List.dropLast_concat, decide_eq_true (show 1 ≤ init.length + 1 by omega), Bool.true_and]
theorem endB_true {d : D} (h : endB d = true) : d = endD := by
  cases d <;> first | (cases h; done) | skip
  rename_i ds
  unfold endB at h
  split at h
  · rename_i e
    cases e
    rw [beq_iff_eq] at h
    rw [h]; rfl
  · cases h
theorem atI_neg {α : Type} (ds : List α) (d : α) : atI (ds ++ [d]) (-1) = some d := by
  unfold atI ixN
  rw [if_neg (by omega), if_pos (by rw [List.length_append]; simp; omega)]
  have : (-1 + (((ds ++ [d]).length : Nat) : Int)).toNat = ds.length := by rw [List.length_append]; simp; omega
  rw [this]
  show (ds ++ [d])[ds.length]? = some d
  simp
theorem cut_neg (ds : List D) (d : D) : cutD (ds ++ [d]) none (some (-1)) = ds := by
  unfold cutD
  rw [HT.sIx_none, List.drop_zero, Nat.sub_zero]
  have : HT.sIx (ds ++ [d]).length (ds ++ [d]).length (some (-1)) = ds.length := by
    show (if (-1 : Int) < 0 then ((-1 : Int) + ((ds ++ [d]).length : Int)).toNat else min (-1 : Int).toNat (ds ++ [d]).length) = ds.length
    rw [if_pos (by omega), List.length_append]; simp; omega
  rw [this]; simp
theorem webD (rs : List D) (nds : List Nd) : (nds.map ndD).map gOf = gsOf nds := by
  unfold gsOf
  rw [List.map_map]
  exact List.map_congr_left fun x _ => gOf_nd x
theorem nds_ok {rs : List D} {nds : List Nd} {many : Int} (h : ∀ x ∈ nds, ∀ m ∈ x.ms, 0 ≤ m.g ∧ m.g < many) (e : many = ((nds.length + 1 : Nat) : Int)) (hl : nds.length ≤ 100) (g : ∀ x ∈ nds.map ndD, good 1000 x) : GOk nds.length (gsOf nds) where
  len := by unfold gsOf; rw [List.length_map]
  le := hl
  rng := fun l hl b hb => by
    obtain ⟨x, hx, rfl⟩ := List.mem_map.mp hl
    obtain ⟨m, hm, rfl⟩ := List.mem_map.mp hb
    rw [← e]
    exact h x hx m hm
  small := fun l hl => by
    obtain ⟨x, hx, rfl⟩ := List.mem_map.mp hl
    have := g _ (List.mem_map.mpr ⟨x, hx, rfl⟩)
    have := (good_tup.mp this).2 (.tup (x.ms.map LX.Mo.d)) (by simp)
    have := (good_tup.mp this).1
    rw [List.length_map] at this ⊢
    exact this
open Classical in
theorem joinB_iff {n : Nat} {gs : List (List Int)} : joinB n gs = true ↔ JoinedA n gs ∧ JoinedB n gs := by
  unfold joinB
  rw [Bool.and_eq_true, decide_eq_true_eq, decide_eq_true_eq]
def sp_is_web : DSp := askX 1000 webB
theorem ok_is_web (ds : List D) (M : Mh) (P : PQ) (h : sp_is_web ds M P) : b_is_web sp_left_of sp_found_from sp_is_letter_node sp_is_end sp_are_roles { nx := fun _ M' => P .non M', rt := P } (startD 5 ds) M := by
  obtain ⟨d, rfl, g, k⟩ := h
  unfold b_is_web
  cases d <;> first | exact False.elim g | skip
  all_goals (walk_at "d"; refine t_ite (fun e => ?_) (fun e => ?_) <;> first | (cases e; done) | skip)
  all_goals first | (refine t_if1 rfl ?_; walk_at "d"; exact k _ .refl) | skip
  rename_i ds
  walk_at "e"
  refine t_ite (fun e1 => ?_) (fun e1 => ?_)
  · have e1 : ds.length ≠ 2 := by
      intro z
      rw [z] at e1
      cases e1
    refine t_if1 rfl ?_
    walk_at "d"
    rw [webB_len e1] at k
    exact k _ .refl
  have en : ds.length = 2 := by simp at e1; omega
  obtain ⟨a, b, rfl⟩ := two en
  obtain ⟨gl, gs⟩ := good_tup.mp g
  have ga := gs a (by simp)
  have gb := gs b (by simp)
  walk_at "e"
  refine ⟨rfl, a, rfl, ga, ?_⟩
  walk_at "e"
  refine t_ite (fun e2 => ?_) (fun e2 => ?_)
  · have e2 : rolesB a = false := by simpa using e2
    walk_at "d"
    rw [webB_roles e2] at k
    exact k _ .refl
  have e2 : rolesB a = true := by simpa using e2
  obtain ⟨rs, rfl, hrs⟩ := roles_strs e2
  walk_at "e"
  walk_at "s"
  walk_at "s"
  cases b <;> first | exact False.elim gb | skip
  all_goals (walk_at "e"; refine t_ite (fun f0 => ?_) (fun f0 => ?_) <;> first | (cases f0; done) | skip)
  all_goals first | (refine t_if1 rfl ?_; walk_at "d"; exact k _ .refl) | skip
  rename_i ns
  obtain ⟨gnl, gns⟩ := good_tup.mp gb
  walk_at "e"
  refine t_ite (fun e3 => ?_) (fun e3 => ?_)
  · have e3 : (ns.length : Int) < 1 := of_decide_eq_true e3
    have : ns = [] := List.eq_nil_of_length_eq_zero (by omega)
    subst this
    refine t_if1 rfl ?_
    walk_at "d"
    rw [webB_none] at k
    exact k _ .refl
  have e3 : ¬ (ns.length : Int) < 1 := of_decide_eq_false e3
  obtain ⟨init, l, rfl⟩ : ∃ init l, ns = init ++ [l] := by
    rcases List.eq_nil_or_concat ns with h | ⟨i, l, h⟩
    · subst h; simp at e3
    · exact ⟨i, l, by rw [h, List.concat_eq_append]⟩
  have hnl : (init ++ [l]).length = init.length + 1 := by simp
  rw [webB_eq, e2, Bool.true_and] at k
  walk_at "e"
  refine t_ite (fun e4 => ?_) (fun e4 => ?_)
  · have e4 : (61 : Int) < (init ++ [l]).length := of_decide_eq_true e4
    walk_at "d"
    rw [decide_eq_false (by omega)] at k
    exact k _ .refl
  have e4 : ¬ (61 : Int) < (init ++ [l]).length := of_decide_eq_false e4
  rw [decide_eq_true (show init.length + 1 ≤ 61 by omega), Bool.true_and] at k
  have al := atI_neg init l
  walk_at "e"
  walk_at "s"
  refine ⟨rfl, l, rfl, gns l (by simp), ?_⟩
  walk_at "e"
  refine t_ite (fun e5 => ?_) (fun e5 => ?_)
  · have e5 : endB l = false := by simpa using e5
    walk_at "d"
    rw [e5] at k
    exact k _ .refl
  have e5 : endB l = true := by simpa using e5
  rw [e5, Bool.true_and] at k
  obtain rfl := endB_true e5
  walk_at "e"
  have gi : ∀ x ∈ init, good 1000 x := fun x hx => gns x (List.mem_append_left _ hx)
  refine t_cut (fun ρ M' => M' = M ∧ (∃ w2, ρ = [some (.tup [.tup rs, .tup (init ++ [endD])]), some (.tup (init ++ [endD])), w2, none, none]) ∧ init.all (letterB rs ((init.length + 1 : Nat) : Int)) = true) (fun N0 hN0 => ?_) ?_
  · refine t_for (t_seqi ?_)
    walk_at "e"
    rw [cut_neg]
    refine for_each (fun i ρ M' => M' = M ∧ (∃ w2, ρ = [some (.tup [.tup rs, .tup (init ++ [endD])]), some (.tup (init ++ [endD])), w2, none, none]) ∧ (init.take i).all (letterB rs ((init.length + 1 : Nat) : Int)) = true) ⟨rfl, ⟨_, rfl⟩, rfl⟩ (fun N i d ρ M' hd hI hN => ?_) (fun ρ M' hI => ?_)
    · obtain ⟨rfl, ⟨w2, rfl⟩, hi⟩ := hI
      refine ⟨trivial, ?_⟩
      walk_at "e"
      walk_at "s"
      rw [hnl]
      refine ⟨rfl, rs, _, d, rfl, hrs, gi d (List.mem_of_getElem? hd), ?_⟩
      walk_at "e"
      refine t_ite (fun e6 => ?_) (fun e6 => ?_)
      · have e6 : letterB rs ((init.length + 1 : Nat) : Int) d = false := by simpa using e6
        walk_at "d"
        have : init.all (letterB rs ((init.length + 1 : Nat) : Int)) = false := by
          rw [List.all_eq_false]
          exact ⟨d, List.mem_of_getElem? hd, by rw [e6]; decide⟩
        rw [this] at k
        exact k _ .refl
      · have e6 : letterB rs ((init.length + 1 : Nat) : Int) d = true := by simpa using e6
        walk_at "e"
        exact hN _ _ ⟨rfl, ⟨_, rfl⟩, by
          rw [LX.take_snoc hd, List.all_append, hi]
          show (true && (letterB rs ((init.length + 1 : Nat) : Int) d && true)) = true
          rw [e6]; rfl⟩
    · obtain ⟨rfl, ⟨w2, rfl⟩, hi⟩ := hI
      rw [List.take_length] at hi
      exact ⟨trivial, hN0 _ _ ⟨rfl, ⟨_, rfl⟩, hi⟩⟩
  rintro ρ M' ⟨rfl, ⟨w2, rfl⟩, hall⟩
  rw [hall, Bool.true_and] at k
  obtain ⟨nds, rfl, hn⟩ := letters_nd hall
  have hb : nds.length + 1 ≤ 61 := by
    have : (nds.map ndD).length + 1 ≤ 61 := by omega
    rwa [List.length_map] at this
  rw [List.length_map] at hn k
  have hg := nds_ok (rs := rs) hn rfl (by omega) gi
  rw [webD rs] at k
  walk_at "s"
  refine ⟨rfl, _, nds, rfl, hg, fun p fs M1 hfs hp np x1 => ?_⟩
  walk_at "e"
  have hnl2 : (nds.map ndD ++ [endD]).length = nds.length + 1 := by rw [List.length_append, List.length_map]; rfl
  refine t_cut (fun ρ M' => M' = M1 ∧ (∃ w4, ρ = [some (.tup [.tup rs, .tup (nds.map ndD ++ [endD])]), some (.tup (nds.map ndD ++ [endD])), w2, some (.ref p), w4]) ∧ JoinedA nds.length (gsOf nds)) (fun N0 hN0 => ?_) ?_
  · walk_at "e"
    refine ⟨by omega, ?_⟩
    refine for_each (fun i ρ M' => M' = M1 ∧ (∃ w4, ρ = [some (.tup [.tup rs, .tup (nds.map ndD ++ [endD])]), some (.tup (nds.map ndD ++ [endD])), w2, some (.ref p), w4]) ∧ ∀ a : Nat, a < i → Reach (GE (gsOf nds)) 0 (a : Int)) ⟨rfl, ⟨_, rfl⟩, fun a ha => by omega⟩ (fun N i d ρ M' hd hI hN => ?_) (fun ρ M' hI => ?_)
    · obtain ⟨rfl, ⟨w4, rfl⟩, hi⟩ := hI
      obtain ⟨rfl, hlt⟩ := LX.rget hd
      have hlt : i < nds.length := by omega
      refine ⟨trivial, ?_⟩
      walk_at "e"
      walk_at "s"
      refine v_nin_ref hp (.inl ⟨rfl, flat_ints fs⟩) ?_
      refine t_ite (fun e6 => ?_) (fun e6 => ?_)
      · have e6 : memD (.int (0 + (i : Int))) (fs.map D.int) = false := by simpa using e6
        walk_at "d"
        have nr : ¬ JoinedA nds.length (gsOf nds) := fun J => by
          have := J i hlt
          rw [← hfs] at this
          have := memD_ints.mpr this
          rw [Int.zero_add] at e6
          rw [e6] at this
          cases this
        have : joinB nds.length (gsOf nds) = false := by
          cases q : joinB nds.length (gsOf nds) with
          | false => rfl
          | true => exact absurd (joinB_iff.mp q).1 nr
        rw [this] at k
        exact k _ x1
      · have e6 : memD (.int (0 + (i : Int))) (fs.map D.int) = true := by simpa using e6
        rw [Int.zero_add] at e6
        have e6 := (hfs _).mp (memD_ints.mp e6)
        walk_at "e"
        refine hN _ _ ⟨rfl, ⟨_, rfl⟩, fun a ha => ?_⟩
        by_cases q : a = i
        · subst q; exact e6
        · exact hi a (by omega)
    · obtain ⟨rfl, ⟨w4, rfl⟩, hi⟩ := hI
      rw [LX.rlen] at hi
      exact ⟨trivial, hN0 _ _ ⟨rfl, ⟨_, rfl⟩, fun a ha => hi a (by omega)⟩⟩
  rintro ρ M2 ⟨rfl, ⟨w4, rfl⟩, hA⟩
  refine t_seq (t_ret (t_cmp ?_))
  walk_at "e"
  refine ⟨rfl, _, nds, rfl, hg, fun q ls M3 hq hfl hm x3 => ?_⟩
  refine v_nin_ref hq (.inl ⟨rfl, hfl⟩) ?_
  have : joinB nds.length (gsOf nds) = !memD .non ls := by
    rw [Bool.eq_iff_iff, joinB_iff, Bool.not_eq_true']
    constructor
    · rintro ⟨_, J⟩
      cases h : memD .non ls with
      | false => rfl
      | true => exact absurd J (hm.mp h)
    · intro h
      refine ⟨hA, ?_⟩
      apply Classical.byContradiction
      intro nj
      rw [hm.mpr nj] at h
      cases h
  rw [this] at k
  exact k _ (x1.trans x3)
end K11
/-! K11s: what a web is, by the law. -/
namespace K11
open PySem DL L2 K01 GR K22
-- what the heap holds at a place
local macro_rules | `(tactic| walk_at "h") => `(tactic| first
  | assumption
  | exact mup_same
  | (refine (mup_ne ?_).trans ?_ <;> first | assumption | (apply Ne.symm; assumption) | walk_at "h"))
-- small facts of numbers
local macro_rules | `(tactic| walk_at "n") => `(tactic| first
  | assumption
  | omega
  | decide
  | (exact CMul.r (by decide))
  | (exact CMul.l (by decide))
  | (refine ⟨?_, ?_⟩ <;> first | assumption | omega | decide))
-- lengths
local macro_rules | `(tactic| walk_at "l") => `(tactic| first
  | assumption
  | (rw [sizeLine_eq]; first | omega | decide | (simp; done) | (simp; omega) | decide +kernel))
-- one step
local macro_rules | `(tactic| walk_at "e1") => `(tactic| first
  | with_reducible refine t_nil ?_
  | ((with_reducible refine' t_var ?s ?_); (case s => first | assumption | exact rfl))
  | with_reducible refine t_c ?_
  | with_reducible refine t_bin ?_
  | with_reducible refine t_if ?_
  | with_reducible refine t_asg ?_
  | with_reducible refine t_gN ?_
  | with_reducible refine t_ret ?_
  | with_reducible refine t_exp ?_
  | with_reducible refine t_bcmp ?_
  | with_reducible refine t_band ?_
  | with_reducible refine t_bor ?_
  | with_reducible refine t_bnot ?_
  | with_reducible refine t_btru ?_
  | with_reducible refine t_byes ?_
  | with_reducible refine t_an ?_
  | with_reducible refine t_ac ?_
  | with_reducible refine t_fn ?_
  | with_reducible refine t_call ?_
  | with_reducible refine t_cmp ?_
  | with_reducible refine t_and ?_
  | with_reducible refine t_or ?_
  | with_reducible refine t_not ?_
  | with_reducible refine t_ife ?_
  | with_reducible refine t_tup ?_
  | with_reducible refine t_lst ?_
  | with_reducible refine t_isi ?_
  | with_reducible refine t_sl ?_
  | with_reducible refine t_o0 ?_
  | with_reducible refine t_o1 ?_
  | with_reducible refine t_un ?_
  | with_reducible refine t_mt ?_
  | with_reducible refine t_gS ?_
  | with_reducible refine t_gsC ?_
  | with_reducible refine t_gsN ?_
  | ((with_reducible refine t_gT ?s ?_); (case s => first | assumption | exact rfl))
  | with_reducible refine t_retN ?_
  | with_reducible refine t_brk ?_
  | with_reducible refine t_cnt ?_
  | ((with_reducible refine' t_aug ?s ?_); (case s => first | assumption | exact rfl))
  | with_reducible refine t_for ?_
  | with_reducible refine t_seqi ?_
  | with_reducible refine t_rg1 ?_
  | with_reducible refine t_rg2 ?_
  | with_reducible refine t_lc ?_
  | with_reducible refine v_tru_bl ?_
  | with_reducible refine v_tru_int ?_
  | with_reducible refine v_tru_non ?_
  | with_reducible refine v_tru_tup ?_
  | with_reducible refine v_add_int ?_
  | ((with_reducible refine v_add_str ?l ?_); (case l => walk_at "l"))
  | ((with_reducible refine v_add_tup ?l ?_); (case l => walk_at "l"))
  | with_reducible refine v_iadd_int ?_
  | with_reducible refine v_sub ?_
  | ((with_reducible refine v_mul ?c ?_); (case c => walk_at "n"))
  | ((with_reducible refine v_div ?c ?_); (case c => walk_at "n"))
  | ((with_reducible refine v_mod ?c ?_); (case c => walk_at "n"))
  | ((with_reducible refine v_pow ?c ?_); (case c => exact ⟨by decide, by decide, by decide⟩))
  | with_reducible refine v_neg ?_
  | with_reducible exact trivial
  | with_reducible refine v_eq_int ?_
  | with_reducible refine v_eq_str ?_
  | with_reducible refine v_eq_bl ?_
  | with_reducible refine v_ne_int ?_
  | with_reducible refine v_ne_str ?_
  | with_reducible refine v_ne_bl ?_
  | with_reducible refine v_lt ?_
  | with_reducible refine v_lt_str ?_
  | with_reducible refine t_ks ?_
  | with_reducible refine t_rv ?_
  | with_reducible refine v_seq_ktp ?_
  | ((with_reducible refine' v_extend ?e ?f ?l ?_); (case e => walk_at "h"); (case f => walk_at "h"); (case l => walk_at "l"))
  | with_reducible refine v_le ?_
  | with_reducible refine v_gt ?_
  | with_reducible refine v_ge ?_
  | with_reducible refine v_isi_non ?_
  | with_reducible refine v_isi_bl ?_
  | with_reducible refine v_isi_int ?_
  | with_reducible refine v_isi_str ?_
  | with_reducible refine v_isi_tup ?_
  | with_reducible refine v_in_str ?_
  | with_reducible refine v_nin_str ?_
  | with_reducible refine v_len_tup ?_
  | with_reducible refine v_len_rol ?_
  | ((with_reducible refine v_len_str ?l ?_); (case l => walk_at "l"))
  | ((with_reducible refine' v_len_ref ?e ?_); (case e => walk_at "h"))
  | with_reducible refine v_int_int ?_
  | with_reducible refine v_max ?_
  | with_reducible refine v_min ?_
  | with_reducible refine v_tuple_tup ?_
  | ((with_reducible refine' v_tuple_ref ?e ?_); (case e => walk_at "h"))
  | ((with_reducible refine' v_ix_ref ?e ?f ?_); (case e => walk_at "h"); (case f => first | assumption | exact rfl))
  | ((with_reducible refine' v_ix_tup ?f ?_); (case f => first | assumption | exact rfl))
  | ((with_reducible refine' v_set ?e ?f ?_); (case e => walk_at "h"); (case f => first | assumption | exact rfl))
  | ((with_reducible refine v_sl_str ?l ?_); (case l => walk_at "l"))
  | with_reducible refine v_sl_tup ?_
  | with_reducible refine v_seq_tup ?_
  | with_reducible refine v_seq_str ?_
  | with_reducible refine v_seq_rol ?_
  | ((with_reducible refine' v_seq_ref ?e ?_); (case e => walk_at "h"))
  | ((with_reducible refine' ⟨v_ty_ref ?e, ?_⟩); (case e => walk_at "h"))
  | ((with_reducible refine' v_append ?e ?l ?_); (case e => walk_at "h"); (case l => walk_at "l")))
local macro_rules | `(tactic| walk_at "d1") => `(tactic| first | with_reducible refine t_seq ?_ | walk_at "e1")
local macro_rules | `(tactic| walk_at "d") => `(tactic| repeat walk_at "d1")
-- one statement
local macro_rules | `(tactic| walk_at "e") => `(tactic| ((repeat walk_at "e1"); try (with_reducible show sSeq _ _ _ _ _)))
local macro_rules | `(tactic| walk_at "s") => `(tactic| ((with_reducible refine t_seq ?_); walk_at "e"))
-- a drawn thing's small facts
local macro_rules | `(tactic| walk_at "gi") => `(tactic| first
  | exact gi_c trivial
  | exact gi_c ⟨_, rfl, by decide, by decide⟩
  | exact gi_c (show _ ≤ _ by decide)
  | exact gi_c (show _ ≤ _ by decide +kernel)
  | exact gi_v rfl trivial)
local macro_rules | `(tactic| walk_at "ga") => `(tactic| ((repeat (first | exact ga_nil | refine ga_cons2 ?_ ?_)); all_goals (try walk_at "gi")))
theorem v_pop {p : Addr} {ds : List D} {d : D} {M : Mh} {Q : PQ} (e : M p = some (.lst ds)) (e2 : ds[ds.length - 1]? = some d) (h : Q d (mup M p (.lst ds.dropLast))) : popD (.ref p) [] M Q := by
  show (match M p with | some (.lst ds) => (match ds[ds.length - 1]? with | some d => Q d (mup M p (.lst ds.dropLast)) | none => False) | _ => False)
  rw [e]
  show (match ds[ds.length - 1]? with | some d => Q d (mup M p (.lst ds.dropLast)) | none => False)
  rw [e2]
  exact h
theorem int_len {ws : List Int} : (ws.map D.int).length = ws.length := List.length_map ..
theorem beq_zero {n : Nat} : ((n : Int) == 0) = (n == 0) := by
  rw [Bool.eq_iff_iff, beq_iff_eq, beq_iff_eq]; omega
def sp_all_joined : DSp := fun ds M P => ∃ (p : Addr) (rs : List Addr) (gs : List (List Int)) (n : Nat), ds = [.ref p] ∧ M p = some (.lst (rs.map D.ref)) ∧ rs.length = n ∧ (∀ (k : Nat) r l, rs[k]? = some r → gs[k]? = some l → M r = some (.lst (l.map D.int))) ∧ GOk n gs ∧ ∀ M', MExt M M' → P (.bl (joinB n gs)) M'
theorem ok_all_joined (ds : List D) (M : Mh) (P : PQ) (h : sp_all_joined ds M P) : b__law_all_joined { nx := fun _ M' => P .non M', rt := P } (startD 8 ds) M := by
  obtain ⟨p, rs, gs, n, rfl, hp, hrl, hr, hg, k⟩ := h
  have hle := hg.le
  have hgl := hg.len
  have hpl : (rs.map D.ref).length = n := by rw [List.length_map]; exact hrl
  -- the list of a number
  have lst_at : ∀ {a : Int}, 0 ≤ a → a < n → ∃ (r : Addr) (l : List Int), atI (rs.map D.ref) a = some (.ref r) ∧ M r = some (.lst (l.map D.int)) ∧ (∀ b, GE gs a b ↔ b ∈ l) ∧ l.length ≤ 1000 := fun {a} h0 h1 => by
    have l1 : a.toNat < rs.length := by omega
    have l2 : a.toNat < gs.length := by omega
    have e1 := List.getElem?_eq_getElem l1
    have e2 := List.getElem?_eq_getElem l2
    refine ⟨rs[a.toNat], gs[a.toNat], atI_get? h0 (by rw [List.getElem?_map, e1]; rfl), hr _ _ _ e1 e2, fun b => ⟨?_, fun hb => ⟨h0, _, e2, hb⟩⟩, hg.small _ (List.getElem_mem l2)⟩
    rintro ⟨_, l, hl, hb⟩
    rw [e2] at hl
    cases hl
    exact hb
  unfold b__law_all_joined
  refine t_seq (t_asg (t_d1 fun q nq => ?_))
  walk_at "e"
  refine ⟨mup_same, ?_⟩
  show gN 1 (D.ref q) _ (mup (mup M q (.dk [])) q (.dk [(Sum.inl 0, .bl true)])) _
  rw [mup_mup]
  have pq : p ≠ q := ne_free hp nq
  walk_at "e"
  walk_at "s"
  refine ⟨by rw [sizeLine_eq]; show 1 ≤ _; decide, fun w nw => ?_⟩
  have qw : q ≠ w := ne_free mup_same nw
  have nwM : M w = none := by rw [mup_ne qw.symm] at nw; exact nw
  have pw : p ≠ w := ne_free hp nwM
  walk_at "e"
  have x0 : MExt M (mup (mup M q (.dk [(Sum.inl 0, .bl true)])) w (.lst [.int 0])) := (MKeep.over .refl nq).over nwM
  have hq0 : (mup (mup M q (.dk [(Sum.inl 0, .bl true)])) w (.lst [.int 0])) q = some (.dk [(Sum.inl 0, .bl true)]) := by rw [mup_ne qw]; exact mup_same
  have hw0 : (mup (mup M q (.dk [(Sum.inl 0, .bl true)])) w (.lst [.int 0])) w = some (.lst ([0].map D.int)) := mup_same
  generalize mup (mup M q (.dk [(Sum.inl 0, .bl true)])) w (.lst [.int 0]) = M0 at x0 hq0 hw0
  -- all that can be come to
  refine t_cut (fun ρ M' => MExt M M' ∧ ∃ (ws : List Int) (kvs : List (Key × D)) (w3 w4 w5 : Option D), ρ = [some (.ref p), some (.ref q), some (.ref w), w3, w4, w5, none, none] ∧ M' q = some (.dk kvs) ∧ kvs.map (·.1) = ws.map Sum.inl ∧ ∀ b, b ∈ ws ↔ Reach (GE gs) 0 b) (fun N0 hN0 => ?_) ?_
  · have hp0 := x0 _ _ (fun z => z) hp
    walk_at "e"
    rw [hpl]
    refine ⟨by omega, ?_⟩
    refine for_each (fun i ρ M' => MExt M M' ∧ ∃ (ws wt : List Int) (kvs : List (Key × D)) (w3 w4 w5 : Option D), ρ = [some (.ref p), some (.ref q), some (.ref w), w3, w4, w5, none, none] ∧ M' q = some (.dk kvs) ∧ kvs.map (·.1) = ws.map Sum.inl ∧ M' w = some (.lst (wt.map D.int)) ∧ Dfs (GE gs) (n + 1) 0 i ws wt none)
      ⟨x0, [0], [0], _, _, _, _, rfl, hq0, rfl, hw0, Dfs.start (by decide) (by omega)⟩ (fun N i d ρ M1 hd hI hN => ?_) (fun ρ M1 hI => ?_)
    · obtain ⟨x1, ws, wt, kvs, w3, w4, w5, rfl, hq, hk, hw, T⟩ := hI
      obtain ⟨rfl, hi⟩ := LX.rget hd
      refine ⟨trivial, ?_⟩
      walk_at "e"
      walk_at "s"
      rw [int_len, beq_zero]
      refine t_ite (fun e => ?_) (fun e => ?_)
      · have e : wt = [] := List.eq_nil_of_length_eq_zero (by simpa using e)
        subst e
        walk_at "d"
        exact hN0 _ _ ⟨x1, ws, kvs, _, _, _, rfl, hq, hk, T.done⟩
      have e : 0 < wt.length := by
        rcases Nat.eq_zero_or_pos wt.length with h | h
        · rw [h] at e; cases e
        · exact h
      obtain ⟨b, hb⟩ : ∃ b, wt[wt.length - 1]? = some b := ⟨_, List.getElem?_eq_getElem (by omega)⟩
      obtain ⟨T, bm⟩ := T.pop hb
      obtain ⟨b0, b1⟩ := T.rng b bm
      have eb : (wt.map D.int)[(wt.map D.int).length - 1]? = some (.int b) := by rw [int_len, List.getElem?_map, hb]; rfl
      walk_at "e"
      walk_at "s"
      refine v_pop hw eb ?_
      rw [show (wt.map D.int).dropLast = wt.dropLast.map D.int by rw [List.map_dropLast]]
      walk_at "e"
      have x1 := x1.over (o := .lst (wt.dropLast.map D.int)) nwM
      have hq1 : (mup M1 w (.lst (wt.dropLast.map D.int))) q = some (.dk kvs) := by rw [mup_ne qw]; exact hq
      have hw1 : (mup M1 w (.lst (wt.dropLast.map D.int))) w = some (.lst (wt.dropLast.map D.int)) := mup_same
      generalize mup M1 w (.lst (wt.dropLast.map D.int)) = M2 at x1 hq1 hw1
      generalize wt.dropLast = wt at T hw1
      clear hb eb hw hq e
      have hp2 := x1 _ _ (fun z => z) hp
      walk_at "e"
      walk_at "s"
      rw [hpl]
      refine t_ite (fun e => ?_) (fun e => ?_)
      · have e : b < n := of_decide_eq_true e
        obtain ⟨r, l, ea, hl, he, ll⟩ := lst_at b0 e
        refine t_seq (t_for (t_seqi ?_))
        walk_at "e"
        refine v_seq_ref (x1 _ _ (fun z => z) hl) ?_
        refine for_each (fun j ρ M' => MExt M M' ∧ ∃ (ws wt : List Int) (kvs : List (Key × D)) (w5 : Option D), ρ = [some (.ref p), some (.ref q), some (.ref w), some (.int (0 + (i : Int))), some (.int b), w5, none, none] ∧ M' q = some (.dk kvs) ∧ kvs.map (·.1) = ws.map Sum.inl ∧ M' w = some (.lst (wt.map D.int)) ∧ Dfs (GE gs) (n + 1) 0 (i + 1) ws wt (some b) ∧ b ∈ ws ∧ ∀ y ∈ l.take j, y ∈ ws)
          ⟨x1, ws, wt, kvs, _, rfl, hq1, hk, hw1, T, bm, by simp⟩ (fun N2 j d ρ M3 hd hI hN2 => ?_) (fun ρ M3 hI => ?_)
        · obtain ⟨x3, ws, wt, kvs, w5, rfl, hq, hk, hw, T, bm, hj⟩ := hI
          rw [List.getElem?_map] at hd
          obtain ⟨y, hy, rfl⟩ := Option.map_eq_some_iff.mp hd
          have ed : GE gs b y := (he y).mpr (List.mem_of_getElem? hy)
          obtain ⟨g0, g1⟩ := hg.dst ed
          have tl := T.len
          have tc := T.cnt
          have kl : kvs.length ≤ 200 := by
            have := congrArg List.length hk
            rw [List.length_map, List.length_map] at this
            omega
          have wl : (wt.map D.int).length ≤ 200 := by rw [int_len]; omega
          refine ⟨x3 _ _ (fun z => z) hl, ?_⟩
          walk_at "e"
          walk_at "s"
          refine v_nin_dict (dict_dk hq) rfl ?_
          rw [key_mem hk]
          refine t_ite (fun z => ?_) (fun z => ?_)
          · have z : y ∉ ws := by simpa using z
            walk_at "d"
            refine v_set_dict (dict_dk hq) (by show kvs.length < sizeLine; rw [sizeLine_eq]; omega) rfl ?_
            walk_at "d"
            refine hN2 _ _ ⟨(x3.over nq).over nwM, ws ++ [y], wt ++ [y], _, _, rfl, by rw [mup_ne qw]; exact mup_same, keys_put _ hk z, by rw [mup_same, List.map_append]; rfl, T.add bm ed z g0 g1, List.mem_append_left _ bm, fun c hc => ?_⟩
            rw [LX.take_snoc hy] at hc
            rcases List.mem_append.mp hc with hc | hc
            · exact List.mem_append_left _ (hj c hc)
            · rw [List.mem_singleton.mp hc]; simp
          · have z : y ∈ ws := by simpa using z
            walk_at "d"
            refine hN2 _ _ ⟨x3, ws, wt, kvs, _, rfl, hq, hk, hw, T, bm, fun c hc => ?_⟩
            rw [LX.take_snoc hy] at hc
            rcases List.mem_append.mp hc with hc | hc
            · exact hj c hc
            · rw [List.mem_singleton.mp hc]; exact z
        · obtain ⟨x3, ws, wt, kvs, w5, rfl, hq, hk, hw, T, bm, hj⟩ := hI
          rw [int_len, List.take_length] at hj
          refine ⟨x3 _ _ (fun z => z) hl, ?_⟩
          walk_at "e"
          exact hN _ _ ⟨x3, ws, wt, kvs, _, _, _, rfl, hq, hk, hw, T.shut fun y ey => hj y ((he y).mp ey)⟩
      · have e : ¬ b < n := of_decide_eq_false e
        walk_at "e"
        exact hN _ _ ⟨x1, ws, wt, kvs, _, _, _, rfl, hq1, hk, hw1, T.shut fun y ey => absurd (hg.src ey).2 e⟩
    · obtain ⟨x1, ws, wt, kvs, w3, w4, w5, rfl, hq, hk, hw, T⟩ := hI
      rw [LX.rlen] at T
      have := T.full (by omega)
      subst this
      exact ⟨trivial, hN0 _ _ ⟨x1, ws, kvs, _, _, _, rfl, hq, hk, T.done⟩⟩
  clear x0 hq0 hw0
  rintro ρ M1 ⟨x1, ws, kvs, w3, w4, w5, rfl, hq, hk, hws⟩
  have hp1 := x1 _ _ (fun z => z) hp
  walk_at "s"
  rw [hpl]
  refine ⟨by omega, fun u nu => ?_⟩
  have qu := ne_free hq nu
  refine lc_eachT (fun i acc M' => MKeep (· = u) M1 M' ∧ (acc = [] ↔ ∀ a : Nat, a < i → (a : Int) ∈ ws)) (by rw [LX.rlen, sizeLine_eq]; omega) mup_same ⟨.put rfl, by simp⟩ (fun R S i d acc M2 hd _ hI hu hR hS => ?_) (fun acc M2 la hI hu => ?_)
  · obtain ⟨m2, ha⟩ := hI
    obtain ⟨rfl, hi⟩ := LX.rget hd
    refine ⟨trivial, _, rfl, ?_⟩
    walk_at "e"
    refine v_nin_dict (dict_dk (m2 _ _ qu hq)) rfl ?_
    rw [key_mem hk, Int.zero_add]
    refine t_ite (fun z => ?_) (fun z => ?_)
    · have z : (i : Int) ∉ ws := by simpa using z
      walk_at "e"
      refine hR _ _ hu ⟨m2.trans (.put rfl), ?_⟩
      constructor
      · intro h; simp at h
      · intro h; exact absurd (h i (by omega)) z
    · have z : (i : Int) ∈ ws := by simpa using z
      refine hS _ hu ⟨m2, ?_⟩
      rw [ha]
      constructor
      · intro h a hai
        by_cases q : a = i
        · subst q; exact z
        · exact h a (by omega)
      · intro h a hai
        exact h a (by omega)
  obtain ⟨m2, ha⟩ := hI
  rw [LX.rlen] at ha
  have x2 : MExt M M2 := x1.trans fun a o _ h => m2 a o (ne_free h nu) h
  refine ⟨trivial, ?_⟩
  have jA : acc = [] ↔ JoinedA n gs := by
    rw [ha]
    constructor
    · intro h a hai
      exact (hws _).mp (h a (by omega))
    · intro h a hai
      exact (hws _).mpr (h a (by omega))
  walk_at "e"
  refine t_ite (fun z => ?_) (fun z => ?_)
  · have z : 0 < acc.length := by have := of_decide_eq_true z; omega
    walk_at "d"
    have : joinB n gs = false := by
      cases q : joinB n gs with
      | false => rfl
      | true =>
        rw [jA.mpr (joinB_iff.mp q).1] at z
        simp at z
    rw [this] at k
    exact k _ x2
  have hA : JoinedA n gs := by
    refine jA.mp (List.eq_nil_of_length_eq_zero ?_)
    have := of_decide_eq_false z
    omega
  clear ha jA hws hk hq hu m2 z
  have hp2 := x2 _ _ (fun z => z) hp
  walk_at "e"
  refine t_seq (t_asg (t_d1 fun g ng => ?_))
  have hp2' : (mup M2 g (.dk [])) p = some (.lst (rs.map D.ref)) := by rw [mup_ne (ne_free hp2 ng)]; exact hp2
  walk_at "e"
  refine ⟨mup_same, ?_⟩
  show gN 6 (D.ref g) _ (mup (mup M2 g (.dk [])) g (.dk [(Sum.inl (((rs.map D.ref).length : Nat) : Int), .bl true)])) _
  rw [mup_mup, hpl]
  have ngM : M g = none := x2.none ng (fun z => z)
  walk_at "e"
  have x3 : MExt M (mup M2 g (.dk [(Sum.inl (n : Int), .bl true)])) := x2.over ngM
  have hg3 : (mup M2 g (.dk [(Sum.inl (n : Int), .bl true)])) g = some (.dk [(Sum.inl (n : Int), .bl true)]) := mup_same
  generalize mup M2 g (.dk [(Sum.inl (n : Int), .bl true)]) = M3 at x3 hg3
  clear hp2 hp2' x2 x1 hp1 ng
  -- backward
  refine t_cut (fun ρ M' => MExt M M' ∧ ∃ (ws : List Int) (kvs : List (Key × D)) (w3 w4 w5 w7 : Option D), ρ = [some (.ref p), some (.ref q), some (.ref w), w3, w4, w5, some (.ref g), w7] ∧ M' g = some (.dk kvs) ∧ kvs.map (·.1) = ws.map Sum.inl ∧ Rnd (GE gs) n n ws) (fun N0 hN0 => ?_) ?_
  · have hp3 := x3 _ _ (fun z => z) hp
    walk_at "e"
    rw [hpl]
    refine ⟨by omega, ?_⟩
    refine for_each (fun i ρ M' => MExt M M' ∧ ∃ (ws : List Int) (kvs : List (Key × D)) (w3 w4 w5 w7 : Option D), ρ = [some (.ref p), some (.ref q), some (.ref w), w3, w4, w5, some (.ref g), w7] ∧ M' g = some (.dk kvs) ∧ kvs.map (·.1) = ws.map Sum.inl ∧ Rnd (GE gs) n i ws)
      ⟨x3, [(n : Int)], _, _, _, _, _, rfl, hg3, rfl, Rnd.start⟩ (fun N i d ρ M4 hd hI hN => ?_) (fun ρ M4 hI => ?_)
    · obtain ⟨x4, ws, kvs, w3, w4, w5, w7, rfl, hgd, hk, T⟩ := hI
      obtain ⟨rfl, hi⟩ := LX.rget hd
      refine ⟨trivial, ?_⟩
      walk_at "e"
      walk_at "s"
      refine ⟨LX.sz (Nat.zero_le _), fun f nf => ?_⟩
      have nfM : M f = none := x4.none nf (fun z => z)
      have gf : g ≠ f := ne_free hgd nf
      walk_at "e"
      -- the fresh ones
      refine t_cut (fun ρ M' => MExt M M' ∧ ∃ (fr : List Int) (w4 w5 : Option D), ρ = [some (.ref p), some (.ref q), some (.ref w), some (.int (0 + (i : Int))), w4, w5, some (.ref g), some (.ref f)] ∧ M' g = some (.dk kvs) ∧ M' f = some (.lst (fr.map D.int)) ∧ fr.Nodup ∧ ∀ x, x ∈ fr ↔ (0 ≤ x ∧ x < (n : Int)) ∧ x ∉ ws ∧ ∃ b ∈ ws, GE gs x b) (fun N1 hN1 => ?_) ?_
      · have hp4 : (mup M4 f (.lst [])) p = some (.lst (rs.map D.ref)) := (x4.over nfM) _ _ (fun z => z) hp
        walk_at "e"
        rw [hpl]
        refine ⟨by omega, ?_⟩
        refine for_each (fun j ρ M' => MExt M M' ∧ ∃ (fr : List Int) (w4 w5 : Option D), ρ = [some (.ref p), some (.ref q), some (.ref w), some (.int (0 + (i : Int))), w4, w5, some (.ref g), some (.ref f)] ∧ M' g = some (.dk kvs) ∧ M' f = some (.lst (fr.map D.int)) ∧ fr.length ≤ j ∧ fr.Nodup ∧ ∀ x, x ∈ fr ↔ (0 ≤ x ∧ x < (j : Int)) ∧ x ∉ ws ∧ ∃ b ∈ ws, GE gs x b)
          ⟨x4.over nfM, [], _, _, rfl, by rw [mup_ne gf]; exact hgd, mup_same, Nat.zero_le _, by simp, fun x => by
            simp only [List.not_mem_nil, false_iff]
            rintro ⟨⟨h0, h1⟩, _⟩
            have h1 : x < ((0 : Nat) : Int) := h1
            omega⟩ (fun N2 j d ρ M5 hd hI hN2 => ?_) (fun ρ M5 hI => ?_)
        · obtain ⟨x5, fr, w4, w5, rfl, hgd, hf, frl, ndf, hfr⟩ := hI
          obtain ⟨rfl, hj⟩ := LX.rget hd
          rw [Int.zero_add]
          refine ⟨trivial, ?_⟩
          have grow : ((j : Int) ∉ ws ∧ ∃ b ∈ ws, GE gs j b) → ∀ x, x ∈ fr ++ [(j : Int)] ↔ (0 ≤ x ∧ x < ((j + 1 : Nat) : Int)) ∧ x ∉ ws ∧ ∃ b ∈ ws, GE gs x b := fun h x => by
            rw [List.mem_append, List.mem_singleton, hfr]
            constructor
            · rintro (⟨q, r⟩ | rfl)
              · exact ⟨by omega, r⟩
              · exact ⟨by omega, h⟩
            · rintro ⟨q, r⟩
              by_cases e : x = j
              · exact .inr e
              · exact .inl ⟨by omega, r⟩
          have keep : ¬ ((j : Int) ∉ ws ∧ ∃ b ∈ ws, GE gs j b) → ∀ x, x ∈ fr ↔ (0 ≤ x ∧ x < ((j + 1 : Nat) : Int)) ∧ x ∉ ws ∧ ∃ b ∈ ws, GE gs x b := fun h x => by
            rw [hfr]
            constructor
            · rintro ⟨q, r⟩
              exact ⟨by omega, r⟩
            · rintro ⟨q, r⟩
              refine ⟨⟨q.1, ?_⟩, r⟩
              by_cases e : x = j
              · subst e; exact absurd r h
              · omega
          walk_at "e"
          walk_at "s"
          refine v_nin_dict (dict_dk hgd) rfl ?_
          rw [key_mem hk]
          refine t_ite (fun z => ?_) (fun z => ?_)
          · have z : (j : Int) ∉ ws := by simpa using z
            obtain ⟨r, l, ea, hl, he, ll⟩ := lst_at (a := (j : Int)) (by omega) (by omega)
            have hp5 := x5 _ _ (fun z => z) hp
            have hl5 := x5 _ _ (fun z => z) hl
            walk_at "e"
            intro v nv
            have gv := ne_free hgd nv
            have rv := ne_free hl5 nv
            have fv := ne_free hf nv
            refine lc_eachT (fun c acc M' => MKeep (· = v) M5 M' ∧ (acc = [] ↔ ∀ y ∈ l.take c, y ∉ ws)) (by rw [int_len, sizeLine_eq]; omega) mup_same ⟨.put rfl, by simp⟩ (fun R S c d acc M6 hd _ hI hv hR hS => ?_) (fun acc M6 la hI hv => ?_)
            · obtain ⟨m6, ha⟩ := hI
              rw [List.getElem?_map] at hd
              obtain ⟨y, hy, rfl⟩ := Option.map_eq_some_iff.mp hd
              refine ⟨m6 _ _ rv hl5, _, rfl, ?_⟩
              walk_at "e"
              refine v_in_dict (dict_dk (m6 _ _ gv hgd)) rfl ?_
              rw [key_mem hk]
              refine t_ite (fun z2 => ?_) (fun z2 => ?_)
              · have z2 : y ∈ ws := of_decide_eq_true z2
                walk_at "e"
                refine hR _ _ hv ⟨m6.trans (.put rfl), ?_⟩
                rw [LX.take_snoc hy]
                constructor
                · intro h; simp at h
                · intro h; exact absurd z2 (h y (by simp))
              · have z2 : y ∉ ws := of_decide_eq_false z2
                refine hS _ hv ⟨m6, ?_⟩
                rw [ha, LX.take_snoc hy]
                constructor
                · intro h c hc
                  rcases List.mem_append.mp hc with hc | hc
                  · exact h c hc
                  · rw [List.mem_singleton.mp hc]; exact z2
                · intro h c hc
                  exact h c (List.mem_append_left _ hc)
            obtain ⟨m6, ha⟩ := hI
            rw [int_len, List.take_length] at ha
            have x6 : MExt M M6 := x5.trans fun a o _ h => m6 a o (ne_free h nv) h
            refine ⟨m6 _ _ rv hl5, ?_⟩
            have hgd6 := m6 _ _ gv hgd
            have hf6 := m6 _ _ fv hf
            have fl : (fr.map D.int).length ≤ 200 := by rw [int_len]; omega
            walk_at "e"
            refine t_ite (fun c => ?_) (fun c => ?_)
            · have c : 0 < acc.length := by have := of_decide_eq_true c; omega
              have hex : ∃ b ∈ ws, GE gs j b := by
                apply Classical.byContradiction
                intro nx
                have : acc = [] := ha.mpr fun y hy hyw => nx ⟨y, hyw, (he y).mpr hy⟩
                rw [this] at c
                simp at c
              walk_at "e"
              walk_at "s"
              refine hN2 _ _ ⟨x6.over nfM, fr ++ [(j : Int)], _, _, rfl, by rw [mup_ne gf]; exact hgd6, by rw [mup_same, List.map_append]; rfl, by rw [List.length_append]; simp; omega, ?_, grow ⟨z, hex⟩⟩
              rw [List.nodup_append]
              exact ⟨ndf, by simp, fun a ha b hb => by
                rw [List.mem_singleton.mp hb]
                rintro rfl
                have := ((hfr _).mp ha).1
                omega⟩
            · have c : acc = [] := by
                refine List.eq_nil_of_length_eq_zero ?_
                have := of_decide_eq_false c
                omega
              walk_at "e"
              exact hN2 _ _ ⟨x6, fr, _, _, rfl, hgd6, hf6, by omega, ndf, keep fun h => by
                obtain ⟨_, b, hb, eb⟩ := h
                exact ha.mp c b ((he b).mp eb) hb⟩
          · have z : (j : Int) ∈ ws := by simpa using z
            refine t_if0 rfl ?_
            walk_at "e"
            exact hN2 _ _ ⟨x5, fr, _, _, rfl, hgd, hf, by omega, ndf, keep fun h => h.1 z⟩
        · obtain ⟨x5, fr, w4, w5, rfl, hgd, hf, frl, ndf, hfr⟩ := hI
          rw [LX.rlen] at hfr
          refine ⟨trivial, hN1 _ _ ⟨x5, fr, _, _, rfl, hgd, hf, ndf, fun x => ?_⟩⟩
          rw [hfr]
          constructor
          · rintro ⟨q, r⟩
            exact ⟨by omega, r⟩
          · rintro ⟨q, r⟩
            exact ⟨by omega, r⟩
      clear w4 w5
      rintro ρ M5 ⟨x5, fr, w4, w5, rfl, hgd, hf, ndf, hfr⟩
      have S := T.step ndf hfr fun x b e => hg.src e
      have sl := S.len
      walk_at "e"
      refine t_seq (t_for (t_seqi (t_var rfl (v_seq_ref hf ?_))))
      refine for_each (fun j ρ M' => MExt M M' ∧ M' f = some (.lst (fr.map D.int)) ∧ ∃ (kvs : List (Key × D)) (w4 : Option D), ρ = [some (.ref p), some (.ref q), some (.ref w), some (.int (0 + (i : Int))), w4, w5, some (.ref g), some (.ref f)] ∧ M' g = some (.dk kvs) ∧ kvs.map (·.1) = (ws ++ fr.take j).map Sum.inl)
        ⟨x5, hf, kvs, _, rfl, hgd, by simpa using hk⟩ (fun N2 j d ρ M6 hd hI hN2 => ?_) (fun ρ M6 hI => ?_)
      · obtain ⟨x6, hf, kvs, w4, rfl, hgd, hk⟩ := hI
        rw [List.getElem?_map] at hd
        obtain ⟨y, hy, rfl⟩ := Option.map_eq_some_iff.mp hd
        have hj := (List.getElem?_eq_some_iff.mp hy).1
        have kl : kvs.length ≤ 200 := by
          have := congrArg List.length hk
          rw [List.length_map, List.length_map, List.length_append, List.length_take] at this
          rw [List.length_append] at sl
          omega
        have ny : y ∉ ws ++ fr.take j := by
          intro z
          rcases List.mem_append.mp z with z | z
          · exact ((hfr y).mp (List.mem_of_getElem? hy)).2.1 z
          · obtain ⟨m, hm, e⟩ := List.mem_iff_getElem.mp z
            rw [List.length_take] at hm
            rw [List.getElem_take] at e
            have := nd_inj ndf (by rw [List.getElem?_eq_getElem (show m < fr.length by omega), e]) hy
            omega
        refine ⟨hf, ?_⟩
        walk_at "d"
        refine v_set_dict (dict_dk hgd) (by show kvs.length < sizeLine; rw [sizeLine_eq]; omega) rfl ?_
        walk_at "e"
        refine hN2 _ _ ⟨x6.over ngM, by rw [mup_ne gf.symm]; exact hf, _, _, rfl, mup_same, ?_⟩
        rw [LX.take_snoc hy, ← List.append_assoc]
        exact keys_put _ hk ny
      · obtain ⟨x6, hf, kvs, w4, rfl, hgd, hk⟩ := hI
        rw [int_len, List.take_length] at hk
        refine ⟨hf, ?_⟩
        walk_at "e"
        exact hN _ _ ⟨x6, ws ++ fr, kvs, _, _, _, _, rfl, hgd, hk, S⟩
    · obtain ⟨x4, ws, kvs, w3, w4, w5, w7, rfl, hgd, hk, T⟩ := hI
      rw [LX.rlen] at T
      rw [show ((n : Int)).toNat = n by omega] at T
      exact ⟨trivial, hN0 _ _ ⟨x4, ws, kvs, _, _, _, _, rfl, hgd, hk, T⟩⟩
  rintro ρ M4 ⟨x4, ws, kvs, w3, w4, w5, w7, rfl, hgd, hk, T⟩
  have hp4 := x4 _ _ (fun z => z) hp
  refine t_seq (t_ret (t_cmp ?_))
  refine t_call (t_ac (t_var rfl (t_an (v_len_dict (dict_dk hgd) ?_))))
  walk_at "e"
  have kl : kvs.length = ws.length := by
    have := congrArg List.length hk
    rwa [List.length_map, List.length_map] at this
  rw [hpl]
  have : joinB n gs = (((dSize (.dk kvs) : Nat) : Int) == (n : Int) + 1) := by
    rw [Bool.eq_iff_iff, joinB_iff, beq_iff_eq]
    show _ ↔ ((kvs.length : Nat) : Int) = _
    rw [kl]
    have ta := T.all
    constructor
    · rintro ⟨_, J⟩
      have := ta.mpr J
      omega
    · intro h
      exact ⟨hA, ta.mp (by omega)⟩
  rw [this] at k
  exact k _ x4
end K11
/-! K11t: what a web is, by the law; both the same. -/
namespace K11
open PySem DL L2 K01 GR K22
-- what the heap holds at a place
local macro_rules | `(tactic| walk_at "h") => `(tactic| first
  | assumption
  | exact mup_same
  | (refine (mup_ne ?_).trans ?_ <;> first | assumption | (apply Ne.symm; assumption) | walk_at "h"))
-- small facts of numbers
local macro_rules | `(tactic| walk_at "n") => `(tactic| first
  | assumption
  | omega
  | decide
  | (exact CMul.r (by decide))
  | (exact CMul.l (by decide))
  | (refine ⟨?_, ?_⟩ <;> first | assumption | omega | decide))
-- lengths
local macro_rules | `(tactic| walk_at "l") => `(tactic| first
  | assumption
  | (rw [sizeLine_eq]; first | omega | decide | (simp; done) | (simp; omega) | decide +kernel))
-- one step
local macro_rules | `(tactic| walk_at "e1") => `(tactic| first
  | with_reducible refine t_nil ?_
  | ((with_reducible refine' t_var ?s ?_); (case s => first | assumption | exact rfl))
  | with_reducible refine t_c ?_
  | with_reducible refine t_bin ?_
  | with_reducible refine t_if ?_
  | with_reducible refine t_asg ?_
  | with_reducible refine t_gN ?_
  | with_reducible refine t_ret ?_
  | with_reducible refine t_exp ?_
  | with_reducible refine t_bcmp ?_
  | with_reducible refine t_band ?_
  | with_reducible refine t_bor ?_
  | with_reducible refine t_bnot ?_
  | with_reducible refine t_btru ?_
  | with_reducible refine t_byes ?_
  | with_reducible refine t_an ?_
  | with_reducible refine t_ac ?_
  | with_reducible refine t_fn ?_
  | with_reducible refine t_call ?_
  | with_reducible refine t_cmp ?_
  | with_reducible refine t_and ?_
  | with_reducible refine t_or ?_
  | with_reducible refine t_not ?_
  | with_reducible refine t_ife ?_
  | with_reducible refine t_tup ?_
  | with_reducible refine t_lst ?_
  | with_reducible refine t_isi ?_
  | with_reducible refine t_sl ?_
  | with_reducible refine t_o0 ?_
  | with_reducible refine t_o1 ?_
  | with_reducible refine t_un ?_
  | with_reducible refine t_mt ?_
  | with_reducible refine t_gS ?_
  | with_reducible refine t_gsC ?_
  | with_reducible refine t_gsN ?_
  | ((with_reducible refine t_gT ?s ?_); (case s => first | assumption | exact rfl))
  | with_reducible refine t_retN ?_
  | with_reducible refine t_brk ?_
  | with_reducible refine t_cnt ?_
  | ((with_reducible refine' t_aug ?s ?_); (case s => first | assumption | exact rfl))
  | with_reducible refine t_for ?_
  | with_reducible refine t_seqi ?_
  | with_reducible refine t_rg1 ?_
  | with_reducible refine t_rg2 ?_
  | with_reducible refine t_lc ?_
  | with_reducible refine v_tru_bl ?_
  | with_reducible refine v_tru_int ?_
  | with_reducible refine v_tru_non ?_
  | with_reducible refine v_tru_tup ?_
  | with_reducible refine v_add_int ?_
  | ((with_reducible refine v_add_str ?l ?_); (case l => walk_at "l"))
  | ((with_reducible refine v_add_tup ?l ?_); (case l => walk_at "l"))
  | with_reducible refine v_iadd_int ?_
  | with_reducible refine v_sub ?_
  | ((with_reducible refine v_mul ?c ?_); (case c => walk_at "n"))
  | ((with_reducible refine v_div ?c ?_); (case c => walk_at "n"))
  | ((with_reducible refine v_mod ?c ?_); (case c => walk_at "n"))
  | ((with_reducible refine v_pow ?c ?_); (case c => exact ⟨by decide, by decide, by decide⟩))
  | with_reducible refine v_neg ?_
  | with_reducible exact trivial
  | with_reducible refine v_eq_int ?_
  | with_reducible refine v_eq_str ?_
  | with_reducible refine v_eq_bl ?_
  | with_reducible refine v_ne_int ?_
  | with_reducible refine v_ne_str ?_
  | with_reducible refine v_ne_bl ?_
  | with_reducible refine v_lt ?_
  | with_reducible refine v_lt_str ?_
  | with_reducible refine t_ks ?_
  | with_reducible refine t_rv ?_
  | with_reducible refine v_seq_ktp ?_
  | ((with_reducible refine' v_extend ?e ?f ?l ?_); (case e => walk_at "h"); (case f => walk_at "h"); (case l => walk_at "l"))
  | with_reducible refine v_le ?_
  | with_reducible refine v_gt ?_
  | with_reducible refine v_ge ?_
  | with_reducible refine v_isi_non ?_
  | with_reducible refine v_isi_bl ?_
  | with_reducible refine v_isi_int ?_
  | with_reducible refine v_isi_str ?_
  | with_reducible refine v_isi_tup ?_
  | with_reducible refine v_in_str ?_
  | with_reducible refine v_nin_str ?_
  | with_reducible refine v_len_tup ?_
  | with_reducible refine v_len_rol ?_
  | ((with_reducible refine v_len_str ?l ?_); (case l => walk_at "l"))
  | ((with_reducible refine' v_len_ref ?e ?_); (case e => walk_at "h"))
  | with_reducible refine v_int_int ?_
  | with_reducible refine v_max ?_
  | with_reducible refine v_min ?_
  | with_reducible refine v_tuple_tup ?_
  | ((with_reducible refine' v_tuple_ref ?e ?_); (case e => walk_at "h"))
  | ((with_reducible refine' v_ix_ref ?e ?f ?_); (case e => walk_at "h"); (case f => first | assumption | exact rfl))
  | ((with_reducible refine' v_ix_tup ?f ?_); (case f => first | assumption | exact rfl))
  | ((with_reducible refine' v_set ?e ?f ?_); (case e => walk_at "h"); (case f => first | assumption | exact rfl))
  | ((with_reducible refine v_sl_str ?l ?_); (case l => walk_at "l"))
  | with_reducible refine v_sl_tup ?_
  | with_reducible refine v_seq_tup ?_
  | with_reducible refine v_seq_str ?_
  | with_reducible refine v_seq_rol ?_
  | ((with_reducible refine' v_seq_ref ?e ?_); (case e => walk_at "h"))
  | ((with_reducible refine' ⟨v_ty_ref ?e, ?_⟩); (case e => walk_at "h"))
  | ((with_reducible refine' v_append ?e ?l ?_); (case e => walk_at "h"); (case l => walk_at "l")))
local macro_rules | `(tactic| walk_at "d1") => `(tactic| first | with_reducible refine t_seq ?_ | walk_at "e1")
local macro_rules | `(tactic| walk_at "d") => `(tactic| repeat walk_at "d1")
-- one statement
local macro_rules | `(tactic| walk_at "e") => `(tactic| ((repeat walk_at "e1"); try (with_reducible show sSeq _ _ _ _ _)))
local macro_rules | `(tactic| walk_at "s") => `(tactic| ((with_reducible refine t_seq ?_); walk_at "e"))
-- a drawn thing's small facts
local macro_rules | `(tactic| walk_at "gi") => `(tactic| first
  | exact gi_c trivial
  | exact gi_c ⟨_, rfl, by decide, by decide⟩
  | exact gi_c (show _ ≤ _ by decide)
  | exact gi_c (show _ ≤ _ by decide +kernel)
  | exact gi_v rfl trivial)
local macro_rules | `(tactic| walk_at "ga") => `(tactic| ((repeat (first | exact ga_nil | refine ga_cons2 ?_ ?_)); all_goals (try walk_at "gi")))
theorem cut_end (ds : List D) (d : D) : cutD (ds ++ [d]) none (some (((ds ++ [d]).length : Int) - 1)) = ds := by
  rw [show (((ds ++ [d]).length : Int) - 1) = ((ds.length : Nat) : Int) by rw [List.length_append]; simp, cut_take]
  simp
def sp_l_is_web : DSp := askX 1000 webB
theorem ok_l_is_web (ds : List D) (M : Mh) (P : PQ) (h : sp_l_is_web ds M P) : b__law_is_web sp_all_joined sp_l_is_letter_node sp_l_are_roles { nx := fun _ M' => P .non M', rt := P } (startD 7 ds) M := by
  obtain ⟨d, rfl, g, k⟩ := h
  unfold b__law_is_web
  cases d <;> first | exact False.elim g | skip
  all_goals (walk_at "d"; refine t_ite (fun e => ?_) (fun e => ?_) <;> first | (cases e; done) | skip)
  all_goals first | (refine t_if1 rfl ?_; walk_at "d"; exact k _ .refl) | skip
  rename_i ds
  walk_at "e"
  refine t_ite (fun e1 => ?_) (fun e1 => ?_)
  · have e1 : ds.length ≠ 2 := by
      intro z
      rw [z] at e1
      cases e1
    refine t_if1 rfl ?_
    walk_at "d"
    rw [webB_len e1] at k
    exact k _ .refl
  have en : ds.length = 2 := by simp at e1; omega
  obtain ⟨a, b, rfl⟩ := two en
  obtain ⟨gl, gs⟩ := good_tup.mp g
  have ga := gs a (by simp)
  have gb := gs b (by simp)
  walk_at "e"
  refine ⟨rfl, a, rfl, ga, fun M1 x1 => ?_⟩
  walk_at "e"
  refine t_ite (fun e2 => ?_) (fun e2 => ?_)
  · have e2 : rolesB a = false := by simpa using e2
    walk_at "d"
    rw [webB_roles e2] at k
    exact k _ x1
  have e2 : rolesB a = true := by simpa using e2
  obtain ⟨rs, rfl, hrs⟩ := roles_strs e2
  walk_at "e"
  walk_at "s"
  walk_at "s"
  cases b <;> first | exact False.elim gb | skip
  all_goals (walk_at "e"; refine t_ite (fun f0 => ?_) (fun f0 => ?_) <;> first | (cases f0; done) | skip)
  all_goals first | (refine t_if1 rfl ?_; walk_at "d"; exact k _ x1) | skip
  rename_i ns
  obtain ⟨gnl, gns⟩ := good_tup.mp gb
  walk_at "e"
  refine t_ite (fun e3 => ?_) (fun e3 => ?_)
  · have e3 : (ns.length : Int) < 1 := of_decide_eq_true e3
    have : ns = [] := List.eq_nil_of_length_eq_zero (by omega)
    subst this
    refine t_if1 rfl ?_
    walk_at "d"
    rw [webB_none] at k
    exact k _ x1
  have e3n : ¬ (ns.length : Int) < 1 := of_decide_eq_false e3
  clear e3
  obtain ⟨init, l, rfl⟩ : ∃ init l, ns = init ++ [l] := by
    rcases List.eq_nil_or_concat ns with h | ⟨i, l, h⟩
    · subst h; simp at e3n
    · exact ⟨i, l, by rw [h, List.concat_eq_append]⟩
  have hnl : (init ++ [l]).length = init.length + 1 := by simp
  rw [webB_eq, e2, Bool.true_and] at k
  walk_at "e"
  refine t_ite (fun e4 => ?_) (fun e4 => ?_)
  · have e4 : (61 : Int) < (init ++ [l]).length := of_decide_eq_true e4
    walk_at "d"
    rw [decide_eq_false (by omega)] at k
    exact k _ x1
  have e4n : ¬ (61 : Int) < (init ++ [l]).length := of_decide_eq_false e4
  clear e4
  rw [decide_eq_true (show init.length + 1 ≤ 61 by omega), Bool.true_and] at k
  have al := atI_end init l
  walk_at "e"
  walk_at "s"
  walk_at "s"
  -- the last one
  have gl1 := gns l (by simp)
  have bad : endB l = false → ∀ M', MExt M M' → P (.bl false) M' := fun h M' x => by
    rw [h] at k
    exact k _ x
  refine t_cut (fun ρ M' => M' = M1 ∧ ρ = [some (.tup [.tup rs, .tup (init ++ [l])]), some (.tup (init ++ [l])), some (.int ((init ++ [l]).length : Nat)), some l, none, none, none] ∧ endB l = true) (fun N0 hN0 => ?_) ?_
  · cases l <;> first | exact False.elim gl1 | skip
    all_goals (walk_at "e"; refine t_ite (fun f1 => ?_) (fun f1 => ?_) <;> first | (cases f1; done) | skip)
    all_goals first | (refine t_if1 rfl ?_; walk_at "d"; exact bad rfl _ x1) | skip
    rename_i es
    walk_at "e"
    refine t_ite (fun e5 => ?_) (fun e5 => ?_)
    · have e5 : es.length ≠ 1 := by
        intro z
        rw [z] at e5
        cases e5
      refine t_if1 rfl ?_
      walk_at "d"
      exact bad (endB_not e5) _ x1
    have en2 : es.length = 1 := by simp at e5; omega
    obtain ⟨y, rfl⟩ := one en2
    have gy := (good_tup.mp gl1).2 y (by simp)
    walk_at "e"
    cases y <;> first | exact False.elim gy | skip
    all_goals (walk_at "e"; refine t_ite (fun f2 => ?_) (fun f2 => ?_) <;> first | (cases f2; done) | skip)
    all_goals first | (refine t_if1 rfl ?_; walk_at "d"; exact bad rfl _ x1) | skip
    rename_i z
    walk_at "e"
    refine t_ite (fun e6 => ?_) (fun e6 => ?_)
    · have e6 : (z == "end") = false := by simpa using e6
      walk_at "d"
      exact bad e6 _ x1
    · have e6 : (z == "end") = true := by simpa using e6
      walk_at "e"
      exact hN0 _ _ ⟨rfl, rfl, e6⟩
  rintro ρ M2 ⟨rfl, rfl, e5⟩
  rw [e5, Bool.true_and] at k
  obtain rfl := endB_true e5
  have gi : ∀ x ∈ init, good 1000 x := fun x hx => gns x (List.mem_append_left _ hx)
  walk_at "s"
  refine ⟨LX.sz (Nat.zero_le _), fun p np => ?_⟩
  have npM : M p = none := x1.none np (fun z => z)
  walk_at "e"
  refine t_cut (fun ρ M' => MExt M M' ∧ ∃ (nds : List Nd) (rs' : List Addr) (w5 : Option D), ρ = [some (.tup [.tup rs, .tup (init ++ [endD])]), some (.tup (init ++ [endD])), some (.int ((init ++ [endD]).length : Nat)), some endD, some (.ref p), w5, none] ∧ init = nds.map ndD ∧ (∀ x ∈ nds, ∀ m ∈ x.ms, 0 ≤ m.g ∧ m.g < ((init.length + 1 : Nat) : Int)) ∧ init.all (letterB rs ((init.length + 1 : Nat) : Int)) = true ∧ M' p = some (.lst (rs'.map D.ref)) ∧ rs'.length = nds.length ∧ ∀ (k : Nat) r x, rs'[k]? = some r → nds[k]? = some x → M' r = some (.lst ((x.ms.map LX.Mo.g).map D.int))) (fun N0 hN0 => ?_) ?_
  · refine t_for (t_seqi ?_)
    walk_at "e"
    rw [cut_end]
    refine for_each (fun i ρ M' => MExt M M' ∧ ∃ (nds : List Nd) (rs' : List Addr) (w5 : Option D), ρ = [some (.tup [.tup rs, .tup (init ++ [endD])]), some (.tup (init ++ [endD])), some (.int ((init ++ [endD]).length : Nat)), some endD, some (.ref p), w5, none] ∧ init.take i = nds.map ndD ∧ (∀ x ∈ nds, ∀ m ∈ x.ms, 0 ≤ m.g ∧ m.g < ((init.length + 1 : Nat) : Int)) ∧ (init.take i).all (letterB rs ((init.length + 1 : Nat) : Int)) = true ∧ M' p = some (.lst (rs'.map D.ref)) ∧ rs'.length = nds.length ∧ nds.length = i ∧ (∀ r ∈ rs', r ≠ p) ∧ ∀ (k : Nat) r x, rs'[k]? = some r → nds[k]? = some x → M' r = some (.lst ((x.ms.map LX.Mo.g).map D.int)))
      ⟨x1.over npM, [], [], _, rfl, rfl, by simp, rfl, mup_same, rfl, rfl, by simp, by simp⟩ (fun N i d ρ M3 hd hI hN => ?_) (fun ρ M3 hI => ?_)
    · obtain ⟨x3, nds, rs', w5, rfl, hi, hn, hall, hp, hl, hli, hne, hr⟩ := hI
      have gd := gi d (List.mem_of_getElem? hd)
      have hil := (List.getElem?_eq_some_iff.mp hd).1
      refine ⟨trivial, ?_⟩
      walk_at "e"
      walk_at "s"
      refine ⟨rfl, rs, _, d, rfl, hrs, gd, fun M4 x4 => ?_⟩
      walk_at "e"
      refine t_ite (fun e6 => ?_) (fun e6 => ?_)
      · rw [hnl] at e6
        have e6 : letterB rs ((init.length + 1 : Nat) : Int) d = false := by simpa using e6
        walk_at "d"
        have : init.all (letterB rs ((init.length + 1 : Nat) : Int)) = false := by
          rw [List.all_eq_false]
          exact ⟨d, List.mem_of_getElem? hd, by rw [e6]; decide⟩
        rw [this] at k
        exact k _ (x3.trans x4)
      rw [hnl] at e6
      have e6 : letterB rs ((init.length + 1 : Nat) : Int) d = true := by simpa using e6
      obtain ⟨x, rfl, hx⟩ := letterB_nd e6
      have xl : x.ms.length ≤ 1000 := by
        have := (good_tup.mp gd).2 (.tup (x.ms.map LX.Mo.d)) (by simp)
        have := (good_tup.mp this).1
        rwa [List.length_map] at this
      have hp4 := x4 _ _ (fun z => z) hp
      have hpl : (rs'.map D.ref).length ≤ 100 := by rw [List.length_map]; omega
      walk_at "e"
      refine t_seq (t_exp (t_mt (t_var rfl ⟨v_ty_ref hp4, ?_⟩)))
      rw [nd_d]
      walk_at "e"
      intro r nr
      have pr := ne_free hp4 nr
      refine lc_each (fun c acc M' => MKeep (· = r) M4 M' ∧ acc = ((x.ms.take c).map LX.Mo.g).map D.int) (by rw [List.length_map, sizeLine_eq]; omega) mup_same ⟨.put rfl, rfl⟩ (fun R c d acc M5 hd _ hI hr' hR => ?_) (fun acc M5 la hI hr' => ?_)
      · obtain ⟨m5, rfl⟩ := hI
        rw [List.getElem?_map] at hd
        obtain ⟨m, hm, rfl⟩ := Option.map_eq_some_iff.mp hd
        refine ⟨trivial, _, rfl, ?_⟩
        rw [mo_d]
        walk_at "e"
        refine hR _ _ hr' ⟨m5.trans (.put rfl), ?_⟩
        rw [LX.take_snoc hm, List.map_append, List.map_append]; rfl
      obtain ⟨m5, rfl⟩ := hI
      rw [List.length_map, List.take_length] at hr'
      refine ⟨trivial, ?_⟩
      have hp5 := m5 _ _ pr hp4
      have x5 : MExt M M5 := (x3.trans x4).trans fun a o _ h => m5 a o (ne_free h nr) h
      walk_at "e"
      have old : ∀ (k : Nat) r' y, rs'[k]? = some r' → nds[k]? = some y → M5 r' = some (.lst ((y.ms.map LX.Mo.g).map D.int)) := fun k r' y e1 e2 => by
        have h4 := x4 _ _ (fun z => z) (hr k r' y e1 e2)
        exact m5 _ _ (ne_free h4 nr) h4
      refine hN _ _ ⟨x5.over npM, nds ++ [x], rs' ++ [r], _, rfl, ?_, fun y hy => ?_, ?_, by rw [mup_same, List.map_append]; rfl, by simp [hl], by simp [hli], fun r' hr'' => ?_, fun k r' y e1 e2 => ?_⟩
      · rw [LX.take_snoc hd, hi, List.map_append]; rfl
      · rcases List.mem_append.mp hy with hy | hy
        · exact hn y hy
        · rw [List.mem_singleton.mp hy]; exact hx
      · rw [LX.take_snoc hd, List.all_append, hall]
        show (true && (letterB rs ((init.length + 1 : Nat) : Int) (ndD x) && true)) = true
        rw [e6]; rfl
      · rcases List.mem_append.mp hr'' with h | h
        · exact hne r' h
        · rw [List.mem_singleton.mp h]; exact pr.symm
      · have rp : r' ≠ p := by
          rcases List.mem_append.mp (List.mem_of_getElem? e1) with h | h
          · exact hne r' h
          · rw [List.mem_singleton.mp h]; exact pr.symm
        rw [mup_ne rp]
        by_cases hk : k < rs'.length
        · rw [List.getElem?_append_left hk] at e1
          rw [List.getElem?_append_left (by omega)] at e2
          exact old k r' y e1 e2
        · have hk2 : k = rs'.length := by
            have := (List.getElem?_eq_some_iff.mp e1).1
            rw [List.length_append, List.length_singleton] at this
            omega
          subst hk2
          rw [List.getElem?_concat_length] at e1
          rw [hl, List.getElem?_concat_length] at e2
          cases e1
          cases e2
          exact hr'
    · obtain ⟨x3, nds, rs', w5, rfl, hi, hn, hall, hp, hl, hli, hne, hr⟩ := hI
      rw [List.take_length] at hi hall
      exact ⟨trivial, hN0 _ _ ⟨x3, nds, rs', _, rfl, hi, hn, hall, hp, hl, hr⟩⟩
  rintro ρ M3 ⟨x3, nds, rs', w5, rfl, rfl, hn, hall, hp, hl, hr⟩
  rw [hall, Bool.true_and] at k
  have hb : nds.length + 1 ≤ 61 := by
    have : (nds.map ndD).length + 1 ≤ 61 := by omega
    rwa [List.length_map] at this
  rw [List.length_map] at hn k
  have hg := nds_ok (rs := rs) hn rfl (by omega) gi
  rw [webD rs] at k
  walk_at "d"
  refine ⟨rfl, p, rs', gsOf nds, _, rfl, hp, hl, fun k r l e1 e2 => ?_, hg, fun M4 x4 => k _ (x3.trans x4)⟩
  unfold gsOf at e2
  rw [List.getElem?_map] at e2
  obtain ⟨x, hx, rfl⟩ := Option.map_eq_some_iff.mp e2
  exact hr k r x e1 hx
def sp_judged : DSp := fun ds M P => ∃ d, ds = [d] ∧ good 1000 d ∧ ∀ M', MExt M M' → P (.bl true) M'
theorem ok_judged (ds : List D) (M : Mh) (P : PQ) (h : sp_judged ds M P) : b__law_judged sp_l_is_web sp_is_web { nx := fun _ M' => P .non M', rt := P } (startD 2 ds) M := by
  obtain ⟨d, rfl, g, k⟩ := h
  unfold b__law_judged
  walk_at "s"
  refine ⟨rfl, d, rfl, g, fun M1 x1 => ?_⟩
  walk_at "d"
  refine t_if1 rfl ?_
  walk_at "d"
  refine ⟨rfl, d, rfl, g, fun M2 x2 => ?_⟩
  walk_at "d"
  have : (webB d == webB d) = true := by simp
  rw [this]
  exact k _ (x1.trans x2)
end K11
/-! K11u: nodes drawn: lists of lists. -/
namespace K11
open PySem DL L2 K01 GR K22
-- where it stands in the row of things held
local macro_rules | `(tactic| walk_at "m") => `(tactic| first
  | assumption
  | exact List.mem_cons_self
  | (refine List.mem_cons_of_mem _ ?_; walk_at "m"))
-- what the heap holds at a place
local macro_rules | `(tactic| walk_at "h") => `(tactic| first
  | assumption
  | exact mup_same
  | exact Held.get (by assumption) (by walk_at "m")
  | (refine (mup_ne ?_).trans ?_ <;> first | assumption | (apply Ne.symm; assumption) | walk_at "h"))
-- small facts of numbers
local macro_rules | `(tactic| walk_at "n") => `(tactic| first
  | assumption
  | omega
  | decide
  | (exact CMul.r (by decide))
  | (exact CMul.l (by decide))
  | (refine ⟨?_, ?_⟩ <;> first | assumption | omega | decide))
-- lengths
local macro_rules | `(tactic| walk_at "l") => `(tactic| first
  | assumption
  | (rw [sizeLine_eq]; first | omega | decide | (simp; done) | (simp; omega) | decide +kernel))
-- one step
local macro_rules | `(tactic| walk_at "e1") => `(tactic| first
  | with_reducible refine t_nil ?_
  | ((with_reducible refine' t_var ?s ?_); (case s => first | exact rfl | assumption))
  | with_reducible refine t_c ?_
  | with_reducible refine t_bin ?_
  | with_reducible refine t_if ?_
  | with_reducible refine t_asg ?_
  | ((with_reducible refine' t_gN' ?e ?_); (case e => ((try simp only [List.set_cons_zero, List.set_cons_succ, startD, List.map_cons, List.map_nil, List.length_cons, List.length_nil, Nat.reduceAdd, Nat.reduceSub, List.replicate, List.cons_append, List.nil_append]); exact rfl)))
  | with_reducible refine t_ret ?_
  | with_reducible refine t_exp ?_
  | with_reducible refine t_bcmp ?_
  | with_reducible refine t_band ?_
  | with_reducible refine t_bor ?_
  | with_reducible refine t_bnot ?_
  | with_reducible refine t_btru ?_
  | with_reducible refine t_byes ?_
  | with_reducible refine t_an ?_
  | with_reducible refine t_ac ?_
  | with_reducible refine t_fn ?_
  | with_reducible refine t_call ?_
  | with_reducible refine t_cmp ?_
  | with_reducible refine t_and ?_
  | with_reducible refine t_or ?_
  | with_reducible refine t_not ?_
  | with_reducible refine t_ife ?_
  | with_reducible refine t_tupN ?_
  | ((with_reducible refine v_newT ?l ?_); (case l => exact Nat.le_of_ble_eq_true rfl))
  | with_reducible refine t_lstN ?_
  | with_reducible refine t_isi ?_
  | with_reducible refine t_sl ?_
  | with_reducible refine t_o0 ?_
  | with_reducible refine t_o1 ?_
  | with_reducible refine t_un ?_
  | with_reducible refine t_mt ?_
  | with_reducible refine t_gS ?_
  | with_reducible refine t_gsC ?_
  | with_reducible refine t_gsN ?_
  | ((with_reducible refine t_gT ?s ?_); (case s => first | assumption | exact rfl))
  | with_reducible refine t_retN ?_
  | with_reducible refine t_brk ?_
  | with_reducible refine t_cnt ?_
  | ((with_reducible refine' t_aug ?s ?_); (case s => first | exact rfl | assumption))
  | with_reducible refine t_for ?_
  | with_reducible refine t_seqi ?_
  | with_reducible refine t_rg1 ?_
  | with_reducible refine t_rg2 ?_
  | with_reducible refine t_lc ?_
  | with_reducible refine v_tru_bl ?_
  | with_reducible refine v_tru_int ?_
  | with_reducible refine v_tru_non ?_
  | with_reducible refine v_tru_tup ?_
  | with_reducible refine v_add_int ?_
  | ((with_reducible refine v_add_str ?l ?_); (case l => walk_at "l"))
  | ((with_reducible refine v_add_tup ?l ?_); (case l => walk_at "l"))
  | with_reducible refine v_iadd_int ?_
  | with_reducible refine v_sub ?_
  | ((with_reducible refine v_mul ?c ?_); (case c => walk_at "n"))
  | ((with_reducible refine v_div ?c ?_); (case c => walk_at "n"))
  | ((with_reducible refine v_mod ?c ?_); (case c => walk_at "n"))
  | ((with_reducible refine v_pow ?c ?_); (case c => exact ⟨by decide, by decide, by decide⟩))
  | with_reducible refine v_neg ?_
  | with_reducible exact trivial
  | with_reducible refine v_eq_int ?_
  | with_reducible refine v_eq_str ?_
  | with_reducible refine v_eq_bl ?_
  | with_reducible refine v_ne_int ?_
  | with_reducible refine v_ne_str ?_
  | with_reducible refine v_ne_bl ?_
  | with_reducible refine v_lt ?_
  | with_reducible refine v_lt_str ?_
  | with_reducible refine t_ks ?_
  | with_reducible refine t_rv ?_
  | with_reducible refine v_seq_ktp ?_
  | with_reducible refine v_le ?_
  | with_reducible refine v_gt ?_
  | with_reducible refine v_ge ?_
  | with_reducible refine v_isi_non ?_
  | with_reducible refine v_isi_bl ?_
  | with_reducible refine v_isi_int ?_
  | with_reducible refine v_isi_str ?_
  | with_reducible refine v_isi_tup ?_
  | with_reducible refine v_in_str ?_
  | with_reducible refine v_nin_str ?_
  | with_reducible refine v_len_tup ?_
  | with_reducible refine v_len_rol ?_
  | ((with_reducible refine v_len_str ?l ?_); (case l => walk_at "l"))
  | ((with_reducible refine' v_len_ref ?e ?_); (case e => walk_at "h"))
  | with_reducible refine v_int_int ?_
  | with_reducible refine v_int_bl ?_
  | with_reducible refine v_max ?_
  | with_reducible refine v_min ?_
  | with_reducible refine v_tuple_tup ?_
  | ((with_reducible refine' v_tuple_ref ?e ?_); (case e => walk_at "h"))
  | ((with_reducible refine' v_ix_ref ?e ?f ?_); (case e => walk_at "h"); (case f => first | assumption | exact rfl))
  | ((with_reducible refine' v_ix_tup ?f ?_); (case f => first | assumption | exact rfl))
  | ((with_reducible refine v_sl_str ?l ?_); (case l => walk_at "l"))
  | with_reducible refine v_sl_tup ?_
  | with_reducible refine v_seq_tup ?_
  | with_reducible refine v_seq_str ?_
  | with_reducible refine v_seq_rol ?_
  | ((with_reducible refine' v_seq_ref ?e ?_); (case e => walk_at "h"))
  | ((with_reducible refine' ⟨v_ty_ref ?e, ?_⟩); (case e => walk_at "h")))
local macro_rules | `(tactic| walk_at "d1") => `(tactic| first | with_reducible refine t_seq ?_ | walk_at "e1")
local macro_rules | `(tactic| walk_at "d") => `(tactic| repeat walk_at "d1")
-- one statement
local macro_rules | `(tactic| walk_at "e") => `(tactic| ((repeat walk_at "e1"); try (with_reducible show sSeq _ _ _ _ _)))
local macro_rules | `(tactic| walk_at "s") => `(tactic| ((with_reducible refine t_seq ?_); walk_at "e"))
-- a drawn thing's small facts
local macro_rules | `(tactic| walk_at "gi") => `(tactic| first
  | exact gi_c trivial
  | exact gi_c ⟨_, rfl, by decide, by decide⟩
  | exact gi_c (show _ ≤ _ by decide)
  | exact gi_c (show _ ≤ _ by decide +kernel)
  | exact gi_v rfl trivial)
local macro_rules | `(tactic| walk_at "ga") => `(tactic| ((repeat (first | exact ga_nil | refine ga_cons2 ?_ ?_)); all_goals (try walk_at "gi")))
theorem cut_lst {ds : List D} : ∀ n : Nat, cutD ds none (some (n : Int)) = ds.take n := fun n => cut_take n
def sp_two : DSp := fun ds M P => ∃ (j na : Addr) (zs : List Str), ds = [.ref j, .ref na] ∧ M na = some (.lst (zs.map D.str)) ∧ na ≠ j ∧ 2 ≤ zs.length ∧ zs.length ≤ 1000 ∧ JarOk M j ∧
  ∀ (q : Addr) (a b : Str) M', a ∈ zs → b ∈ zs → M' q = some (.lst ([a, b].map D.str)) → q ≠ j → M q = none → MKeep (· = j) M M' → JarOk M' j → P (.ref q) M'
theorem ok_two (ds : List D) (M : Mh) (P : PQ) (h : sp_two ds M P) : b__law_two sp_pick { nx := fun _ M' => P .non M', rt := P } (startD 3 ds) M := by
  obtain ⟨j, na, zs, rfl, hna, naj, z0, z1, hj, k⟩ := h
  have zl : (zs.map D.str).length = zs.length := List.length_map ..
  unfold b__law_two
  walk_at "s"
  refine c_pick hj (by rw [zl]; omega) fun a o a0 a1 j1 => ?_
  rw [zl] at a1
  have hna1 : (mup M j o) na = some (.lst (zs.map D.str)) := by rw [mup_ne naj]; exact hna
  obtain ⟨s, hs, _, es⟩ := atI_map' (f := D.str) a0 a1
  walk_at "e"
  refine t_seq ?_
  walk_at "e"
  refine c_pick j1 (by rw [zl]; omega) fun b o2 b0 b1 j2 => ?_
  have hna2 : (mup (mup M j o) j o2) na = some (.lst (zs.map D.str)) := by rw [mup_ne naj]; exact hna1
  have m2 : MKeep (· = j) M (mup (mup M j o) j o2) := MKeep.trans (M1 := mup M j o) (.put rfl) (.put rfl)
  generalize mup (mup M j o) j o2 = M2 at j2 hna2 m2
  obtain ⟨r, hr, _, er⟩ := atI_map' (zs := zs) (f := D.str) (k := (a + 1 + b) % ((zs.map D.str).length : Int)) (Int.emod_nonneg _ (by omega)) (by rw [zl]; exact Int.emod_lt_of_pos _ (by omega))
  walk_at "e"
  refine ⟨line_big (Nat.le_of_ble_eq_true rfl), fun q nq => ?_⟩
  exact k q s r _ hs hr mup_same (j2.ne nq).symm (m2.none nq (j2.ne nq).symm) (m2.trans (.fresh nq)) (LX.jar_fresh j2 nq)
/-- moves that are drawn -/
def MvOk (zs : List Str) (gs : List Int) (m : LX.Mo) : Prop := m.z ∈ zs ∧ m.g ∈ gs ∧ m.sp
def sp_split_moves : DSp := fun ds M P => ∃ (Js : List Addr) (L : List (Addr × MO)) (j p gl : Addr) (ms : List LX.Mo) (zs : List Str) (gs : List Int), ds = [.ref j, .ref p, .ref gl] ∧ Held M Js ((p, .lst (ms.map LX.Mo.d)) :: L) ∧ j ∈ Js ∧ (gl, .lst (gs.map D.int)) ∈ L ∧ ms ≠ [] ∧ ms.length ≤ 100 ∧ gs.length ≤ 100 ∧ (∀ m ∈ ms, MvOk zs gs m) ∧
  ∀ (q : Addr) (ms' : List LX.Mo) M', ms' ≠ [] → ms'.length ≤ ms.length + 1 → (∀ m ∈ ms', MvOk zs gs m) → Held M' Js ((q, .lst (ms'.map LX.Mo.d)) :: L) → P (.ref q) M'
theorem ok_split_moves (ds : List D) (M : Mh) (P : PQ) (h : sp_split_moves ds M P) : b__law_split_moves sp_pick { nx := fun _ M' => P .non M', rt := P } (startD 11 ds) M := by
  obtain ⟨Js, L, j, p, gl, ms, zs, gs, rfl, H, hj, hgl, ne, ml, gsl, hm, k⟩ := h
  have mpl : (ms.map LX.Mo.d).length = ms.length := List.length_map ..
  have gpl : (gs.map D.int).length = gs.length := List.length_map ..
  have m0 : 0 < ms.length := List.length_pos_iff.mpr ne
  unfold b__law_split_moves
  walk_at "s"
  refine h_pick H hj (by rw [mpl]; omega) fun a M a0 a1 H => ?_
  rw [mpl] at a1
  obtain ⟨n, rfl⟩ := Int.eq_ofNat_of_zero_le a0
  obtain ⟨m, hmm, _, em⟩ := atI_map' (f := LX.Mo.d) a0 a1
  obtain ⟨mz, mg, sp⟩ := hm m hmm
  have s0 := sp.l0
  have s1 := sp.lh
  have s2 := sp.h1
  rw [mo_d] at em
  walk_at "e"
  walk_at "s"
  walk_at "s"
  have g0 : 0 < gs.length := List.length_pos_iff.mpr (List.ne_nil_of_mem mg)
  refine t_ite (fun e => ?_) (fun e => ?_)
  · walk_at "d"
    exact k p ms _ ne (by omega) hm H
  have e : ¬ m.l = m.h := by simpa using e
  walk_at "e"
  walk_at "s"
  refine h_pick H hj (by omega) fun b M b0 b1 H => ?_
  walk_at "e"
  walk_at "s"
  refine h_pick H hj (by rw [gpl]; omega) fun c M c0 c1 H => ?_
  rw [gpl] at c1
  obtain ⟨dr, hdr, _, edr⟩ := atI_map' (f := D.int) c0 c1
  walk_at "e"
  walk_at "s"
  refine h_new H (Nat.le_of_ble_eq_true rfl) fun u M H => ?_
  refine h_pick H hj (by omega) fun c M c0 c1 H => ?_
  obtain ⟨og, hog, _, eo⟩ := atI_map' (zs := [m.g, dr]) (f := D.int) c0 c1
  have hog : og ∈ gs := by
    simp only [List.mem_cons, List.not_mem_nil, or_false] at hog
    rcases hog with rfl | rfl
    · exact mg
    · exact hdr
  refine v_ix_ref (H.get List.mem_cons_self) eo ?_
  have H := H.tail
  walk_at "e"
  walk_at "s"
  refine h_sl H List.mem_cons_self fun x M H => ?_
  rw [cut_take] at H
  walk_at "e"
  refine h_new H (Nat.le_of_ble_eq_true rfl) fun y M H => ?_
  refine h_add H (List.mem_cons_of_mem _ List.mem_cons_self) List.mem_cons_self (by simp; omega) fun w M H => ?_
  walk_at "e"
  refine h_sl H (by walk_at "m") fun z M H => ?_
  rw [show (n : Int) + 1 = ((n + 1 : Nat) : Int) by omega, cut_drop] at H
  refine h_add H (List.mem_cons_of_mem _ List.mem_cons_self) List.mem_cons_self (by simp; omega) fun v M H => ?_
  have H : Held M Js ((v, .lst ((ms.take n ++ [(⟨m.z, m.l, m.l + b, m.g⟩ : LX.Mo), (⟨m.z, m.l + b + 1, m.h, og⟩ : LX.Mo)] ++ ms.drop (n + 1)).map LX.Mo.d)) :: L) := by
    have := H.sub (L' := (v, _) :: L) (.cons₂ _ (by repeat (first | exact List.Sublist.refl _ | refine .cons _ ?_)))
    rw [← List.map_take, ← List.map_drop] at this
    rw [List.map_append, List.map_append]
    exact this
  refine k v _ _ (by simp) (by simp; omega) (fun y hy => ?_) H
  rcases List.mem_append.mp hy with hy | hy
  · rcases List.mem_append.mp hy with hy | hy
    · exact hm y (List.mem_of_mem_take hy)
    · simp only [List.mem_cons, List.not_mem_nil, or_false] at hy
      rcases hy with rfl | rfl
      · exact ⟨mz, mg, ⟨s0, by show m.l ≤ m.l + b; omega, by show m.l + b ≤ 999999; omega⟩⟩
      · exact ⟨mz, hog, ⟨by show 0 ≤ m.l + b + 1; omega, by show m.l + b + 1 ≤ m.h; omega, s2⟩⟩
  · exact hm y (List.mem_of_mem_drop hy)
end K11
/-! K11v: webs drawn: nodes as lists, what can be come to, ends mended. -/
namespace K11
open PySem DL L2 K01 GR K22
-- where it stands in the row of things held
local macro_rules | `(tactic| walk_at "m") => `(tactic| first
  | assumption
  | exact List.mem_cons_self
  | (refine List.mem_cons_of_mem _ ?_; walk_at "m"))
-- what the heap holds at a place
local macro_rules | `(tactic| walk_at "h") => `(tactic| first
  | assumption
  | exact mup_same
  | exact Held.get (by assumption) (by walk_at "m")
  | (refine (mup_ne ?_).trans ?_ <;> first | assumption | (apply Ne.symm; assumption) | walk_at "h"))
-- small facts of numbers
local macro_rules | `(tactic| walk_at "n") => `(tactic| first
  | assumption
  | omega
  | decide
  | (exact CMul.r (by decide))
  | (exact CMul.l (by decide))
  | (refine ⟨?_, ?_⟩ <;> first | assumption | omega | decide))
-- lengths
local macro_rules | `(tactic| walk_at "l") => `(tactic| first
  | assumption
  | (rw [sizeLine_eq]; first | omega | decide | (simp; done) | (simp; omega) | decide +kernel))
-- one step
local macro_rules | `(tactic| walk_at "e1") => `(tactic| first
  | with_reducible refine t_nil ?_
  | ((with_reducible refine' t_var ?s ?_); (case s => first | exact rfl | assumption))
  | with_reducible refine t_c ?_
  | with_reducible refine t_bin ?_
  | with_reducible refine t_if ?_
  | with_reducible refine t_asg ?_
  | ((with_reducible refine' t_gN' ?e ?_); (case e => ((try simp only [List.set_cons_zero, List.set_cons_succ, startD, List.map_cons, List.map_nil, List.length_cons, List.length_nil, Nat.reduceAdd, Nat.reduceSub, List.replicate, List.cons_append, List.nil_append]); exact rfl)))
  | with_reducible refine t_ret ?_
  | with_reducible refine t_exp ?_
  | with_reducible refine t_bcmp ?_
  | with_reducible refine t_band ?_
  | with_reducible refine t_bor ?_
  | with_reducible refine t_bnot ?_
  | with_reducible refine t_btru ?_
  | with_reducible refine t_byes ?_
  | with_reducible refine t_an ?_
  | with_reducible refine t_ac ?_
  | with_reducible refine t_fn ?_
  | with_reducible refine t_call ?_
  | with_reducible refine t_cmp ?_
  | with_reducible refine t_and ?_
  | with_reducible refine t_or ?_
  | with_reducible refine t_not ?_
  | with_reducible refine t_ife ?_
  | with_reducible refine t_tupN ?_
  | ((with_reducible refine v_newT ?l ?_); (case l => exact Nat.le_of_ble_eq_true rfl))
  | with_reducible refine t_lstN ?_
  | with_reducible refine t_isi ?_
  | with_reducible refine t_sl ?_
  | with_reducible refine t_o0 ?_
  | with_reducible refine t_o1 ?_
  | with_reducible refine t_un ?_
  | with_reducible refine t_mt ?_
  | with_reducible refine t_gS ?_
  | with_reducible refine t_gsC ?_
  | with_reducible refine t_gsN ?_
  | ((with_reducible refine t_gT ?s ?_); (case s => first | assumption | exact rfl))
  | with_reducible refine t_retN ?_
  | with_reducible refine t_brk ?_
  | with_reducible refine t_cnt ?_
  | ((with_reducible refine' t_aug ?s ?_); (case s => first | exact rfl | assumption))
  | with_reducible refine t_for ?_
  | with_reducible refine t_seqi ?_
  | with_reducible refine t_rg1 ?_
  | with_reducible refine t_rg2 ?_
  | with_reducible refine t_lc ?_
  | with_reducible refine v_tru_bl ?_
  | with_reducible refine v_tru_int ?_
  | with_reducible refine v_tru_non ?_
  | with_reducible refine v_tru_tup ?_
  | with_reducible refine v_add_int ?_
  | ((with_reducible refine v_add_str ?l ?_); (case l => walk_at "l"))
  | ((with_reducible refine v_add_tup ?l ?_); (case l => walk_at "l"))
  | with_reducible refine v_iadd_int ?_
  | with_reducible refine v_sub ?_
  | ((with_reducible refine v_mul ?c ?_); (case c => walk_at "n"))
  | ((with_reducible refine v_div ?c ?_); (case c => walk_at "n"))
  | ((with_reducible refine v_mod ?c ?_); (case c => walk_at "n"))
  | ((with_reducible refine v_pow ?c ?_); (case c => exact ⟨by decide, by decide, by decide⟩))
  | with_reducible refine v_neg ?_
  | with_reducible exact trivial
  | with_reducible refine v_eq_int ?_
  | with_reducible refine v_eq_str ?_
  | with_reducible refine v_eq_bl ?_
  | with_reducible refine v_ne_int ?_
  | with_reducible refine v_ne_str ?_
  | with_reducible refine v_ne_bl ?_
  | with_reducible refine v_lt ?_
  | with_reducible refine v_lt_str ?_
  | with_reducible refine t_ks ?_
  | with_reducible refine t_rv ?_
  | with_reducible refine v_seq_ktp ?_
  | with_reducible refine v_le ?_
  | with_reducible refine v_gt ?_
  | with_reducible refine v_ge ?_
  | with_reducible refine v_isi_non ?_
  | with_reducible refine v_isi_bl ?_
  | with_reducible refine v_isi_int ?_
  | with_reducible refine v_isi_str ?_
  | with_reducible refine v_isi_tup ?_
  | with_reducible refine v_in_str ?_
  | with_reducible refine v_nin_str ?_
  | with_reducible refine v_len_tup ?_
  | with_reducible refine v_len_rol ?_
  | ((with_reducible refine v_len_str ?l ?_); (case l => walk_at "l"))
  | ((with_reducible refine' v_len_ref ?e ?_); (case e => walk_at "h"))
  | with_reducible refine v_int_int ?_
  | with_reducible refine v_int_bl ?_
  | with_reducible refine v_max ?_
  | with_reducible refine v_min ?_
  | with_reducible refine v_tuple_tup ?_
  | ((with_reducible refine' v_tuple_ref ?e ?_); (case e => walk_at "h"))
  | ((with_reducible refine' v_ix_ref ?e ?f ?_); (case e => walk_at "h"); (case f => first | assumption | exact rfl))
  | ((with_reducible refine' v_ix_tup ?f ?_); (case f => first | assumption | exact rfl))
  | ((with_reducible refine v_sl_str ?l ?_); (case l => walk_at "l"))
  | with_reducible refine v_sl_tup ?_
  | with_reducible refine v_seq_tup ?_
  | with_reducible refine v_seq_str ?_
  | with_reducible refine v_seq_rol ?_
  | ((with_reducible refine' v_seq_ref ?e ?_); (case e => walk_at "h"))
  | ((with_reducible refine' ⟨v_ty_ref ?e, ?_⟩); (case e => walk_at "h")))
local macro_rules | `(tactic| walk_at "d1") => `(tactic| first | with_reducible refine t_seq ?_ | walk_at "e1")
local macro_rules | `(tactic| walk_at "d") => `(tactic| repeat walk_at "d1")
-- one statement
local macro_rules | `(tactic| walk_at "e") => `(tactic| ((repeat walk_at "e1"); try (with_reducible show sSeq _ _ _ _ _)))
local macro_rules | `(tactic| walk_at "s") => `(tactic| ((with_reducible refine t_seq ?_); walk_at "e"))
-- a drawn thing's small facts
local macro_rules | `(tactic| walk_at "gi") => `(tactic| first
  | exact gi_c trivial
  | exact gi_c ⟨_, rfl, by decide, by decide⟩
  | exact gi_c (show _ ≤ _ by decide)
  | exact gi_c (show _ ≤ _ by decide +kernel)
  | exact gi_v rfl trivial)
local macro_rules | `(tactic| walk_at "ga") => `(tactic| ((repeat (first | exact ga_nil | refine ga_cons2 ?_ ?_)); all_goals (try walk_at "gi")))
theorem h_two {M : Mh} {Js : List Addr} {L : List (Addr × MO)} {j na : Addr} {zs : List Str} {Q : PQ} (H : Held M Js L) (hj : j ∈ Js) (m : (na, .lst (zs.map D.str)) ∈ L) (z0 : 2 ≤ zs.length) (z1 : zs.length ≤ 1000)
    (k : ∀ q (a b : Str) M', a ∈ zs → b ∈ zs → Held M' Js ((q, .lst ([a, b].map D.str)) :: L) → Q (.ref q) M') : [D.ref j, .ref na].length = 2 ∧ sp_two [.ref j, .ref na] M Q :=
  ⟨rfl, j, na, zs, rfl, H.get m, H.ne hj m, z0, z1, H.jar j hj, fun q a b M' ha hb e _ n m jk => k q a b M' ha hb (H.more (H.keep hj m jk) n e)⟩
theorem h_split {M : Mh} {Js : List Addr} {L : List (Addr × MO)} {j p gl : Addr} {ms : List LX.Mo} {zs : List Str} {gs : List Int} {Q : PQ} (H : Held M Js ((p, .lst (ms.map LX.Mo.d)) :: L)) (hj : j ∈ Js) (m2 : (gl, .lst (gs.map D.int)) ∈ L) (ne : ms ≠ []) (ml : ms.length ≤ 100) (gsl : gs.length ≤ 100) (hm : ∀ m ∈ ms, MvOk zs gs m)
    (k : ∀ q (ms' : List LX.Mo) M', ms' ≠ [] → ms'.length ≤ ms.length + 1 → (∀ m ∈ ms', MvOk zs gs m) → Held M' Js ((q, .lst (ms'.map LX.Mo.d)) :: L) → Q (.ref q) M') : [D.ref j, .ref p, .ref gl].length = 3 ∧ sp_split_moves [.ref j, .ref p, .ref gl] M Q :=
  ⟨rfl, Js, L, j, p, gl, ms, zs, gs, rfl, H, hj, m2, ne, ml, gsl, hm, k⟩
/-- a drawn node: its place, and that of its moves -/
structure WN where
  r : Addr
  m : Addr
  s : Str
  t : Str
  ms : List LX.Mo
def WN.e (x : WN) : List (Addr × MO) := [(x.r, .lst [.str x.s, .str x.t, .ref x.m]), (x.m, .lst (x.ms.map LX.Mo.d))]
def WNs (xs : List WN) : List (Addr × MO) := xs.flatMap WN.e
def WN.d (x : WN) : D := .ref x.r
/-- names of zs, labels of ls, nexts from 0 to n; at most k moves -/
structure WN.ok (zs ls : List Str) (n k : Nat) (x : WN) : Prop where
  s : x.s ∈ zs
  t : x.t ∈ zs
  ne : x.ms ≠ []
  len : x.ms.length ≤ k
  mv : ∀ m ∈ x.ms, m.z ∈ ls ∧ (0 ≤ m.g ∧ m.g ≤ n) ∧ m.sp
theorem WNs_snoc (xs : List WN) (x : WN) : WNs (xs ++ [x]) = WNs xs ++ x.e := by unfold WNs; simp
theorem WNs_mem {xs : List WN} {x : WN} (h : x ∈ xs) : (x.r, .lst [.str x.s, .str x.t, .ref x.m]) ∈ WNs xs ∧ (x.m, .lst (x.ms.map LX.Mo.d)) ∈ WNs xs :=
  ⟨List.mem_flatMap.mpr ⟨x, h, by simp [WN.e]⟩, List.mem_flatMap.mpr ⟨x, h, by simp [WN.e]⟩⟩
theorem nodes_snoc {M : Mh} {Js : List Addr} {L : List (Addr × MO)} {p : Addr} {xs : List WN} {x : WN} (H : Held M Js ((p, .lst (xs.map WN.d ++ [x.d])) :: (x.e ++ (WNs xs ++ L)))) : Held M Js ((p, .lst ((xs ++ [x]).map WN.d)) :: (WNs (xs ++ [x]) ++ L)) := by
  rw [WNs_snoc, List.map_append]
  refine H.perm (.cons _ ?_)
  rw [List.append_assoc]
  exact List.perm_append_comm_assoc _ _ _
theorem goal_in {gs : List Int} {n : Nat} (h : ∀ g ∈ gs, 0 ≤ g ∧ g ≤ (n : Int)) {zs ls : List Str} {m : LX.Mo} (hm : MvOk ls gs m) : m.z ∈ ls ∧ (0 ≤ m.g ∧ m.g ≤ n) ∧ m.sp := ⟨hm.1, h _ hm.2.1, hm.2.2⟩
/-- moves drawn and split -/
def sp_wild_nodes : DSp := fun ds M P => ∃ (Js : List Addr) (L : List (Addr × MO)) (j na la : Addr) (zs ls : List Str) (n : Nat), ds = [.ref j, .ref na, .ref la, .int n] ∧ Held M Js L ∧ j ∈ Js ∧ (na, .lst (zs.map D.str)) ∈ L ∧ (la, .lst (ls.map D.str)) ∈ L ∧ 2 ≤ zs.length ∧ zs.length ≤ 1000 ∧ 0 < ls.length ∧ ls.length ≤ 1000 ∧ n ≤ 1000 ∧
  ∀ p (xs : List WN) M', xs.length = n → (∀ x ∈ xs, x.ok zs ls n 10) → Held M' Js ((p, .lst (xs.map WN.d)) :: (WNs xs ++ L)) → P (.ref p) M'
theorem ok_wild_nodes (ds : List D) (M : Mh) (P : PQ) (h : sp_wild_nodes ds M P) : b__law_wild_nodes sp_pick sp_split_moves LX.sp_moves sp_two { nx := fun _ M' => P .non M', rt := P } (startD 12 ds) M := by
  obtain ⟨Js, L, j, na, la, zs, ls, n, rfl, H, hj, hna, hla, z0, z1, l0, l1, hn, k⟩ := h
  unfold b__law_wild_nodes
  walk_at "s"
  refine h_pick H hj (by omega) fun a M a0 a1 H => ?_
  walk_at "e"
  refine ⟨by omega, h_lcE (fun i acc E => ∃ qs : List (Addr × Str × Str), acc = qs.map (fun q => .ref q.1) ∧ E = qs.map (fun q => (q.1, .lst ([q.2.1, q.2.2].map D.str))) ∧ ∀ q ∈ qs, q.2.1 ∈ zs ∧ q.2.2 ∈ zs) H (by rw [LX.rlen]; omega) ⟨[], rfl, rfl, by simp⟩ (fun _ _ => trivial) (fun R i d acc E p M hd hI H k => ?_) (fun pl acc E M hl hI H => ?_)⟩
  · obtain ⟨qs, rfl, rfl, hq⟩ := hI
    obtain ⟨rfl, _⟩ := LX.rget hd
    refine ⟨_, rfl, ?_⟩
    walk_at "e"
    refine h_two H hj (List.mem_cons_of_mem _ (List.mem_append_right _ hna)) z0 z1 fun q a b M ha hb H => ?_
    refine k _ _ _ ⟨qs ++ [(q, a, b)], by rw [List.map_append]; rfl, rfl, fun x hx => ?_⟩ ?_
    · rcases List.mem_append.mp hx with hx | hx
      · exact hq x hx
      · rw [List.mem_singleton.mp hx]; exact ⟨ha, hb⟩
    · refine H.perm ((List.Perm.swap _ _ _).trans (.cons _ ?_))
      rw [List.map_append, List.append_assoc]
      exact List.perm_middle.symm
  obtain ⟨qs, rfl, rfl, hq⟩ := hI
  rw [LX.rlen, List.length_map] at hl
  have ql : (qs.map fun q => D.ref q.1).length = qs.length := List.length_map ..
  generalize hE : (qs.map fun q => (q.1, MO.lst ([q.2.1, q.2.2].map D.str))) = E at H
  have hE : ∀ q ∈ qs, (q.1, MO.lst ([q.2.1, q.2.2].map D.str)) ∈ E ++ L := fun q h => List.mem_append_left _ (by rw [← hE]; exact List.mem_map.mpr ⟨q, h, rfl⟩)
  have hna := List.mem_append_right E hna
  have hla := List.mem_append_right E hla
  walk_at "e"
  walk_at "s"
  refine h_new H (Nat.le_of_ble_eq_true rfl) fun p M H => ?_
  walk_at "e"
  walk_at "s"
  refine ⟨by omega, ?_⟩
  refine for_each (fun i ρ M => ∃ (xs : List WN) (w7 w8 w9 w10 w11 : Option D), ρ = [some (.ref j), some (.ref na), some (.ref la), some (.int n), some (.ref pl), none, some (.ref p), w7, w8, w9, w10, w11] ∧ xs.length = i ∧ (∀ x ∈ xs, x.ok zs ls n 10) ∧ Held M Js ((p, .lst (xs.map WN.d)) :: (WNs xs ++ ((pl, .lst (qs.map fun q => D.ref q.1)) :: (E ++ L)))))
    ⟨[], _, _, _, _, _, rfl, rfl, by simp, H⟩ (fun N i d ρ M hd hI hN => ?_) (fun ρ M hI => ?_)
  · obtain ⟨xs, w7, w8, w9, w10, w11, rfl, xl, hx, H⟩ := hI
    obtain ⟨rfl, hi⟩ := LX.rget hd
    have H0 := H.tail
    generalize hX : WNs xs ++ ((pl, MO.lst (qs.map fun q => D.ref q.1)) :: (E ++ L)) = LL at H
    have mE : ∀ e ∈ E ++ L, e ∈ LL := fun e h => by rw [← hX]; exact List.mem_append_right _ (List.mem_cons_of_mem _ h)
    have mpl : (pl, MO.lst (qs.map fun q => D.ref q.1)) ∈ LL := by rw [← hX]; simp
    refine ⟨trivial, ?_⟩
    walk_at "e"
    walk_at "s"
    refine h_pick H hj (by rw [ql]; omega) fun b M b0 b1 H => ?_
    rw [ql] at b1
    refine h_ixm (f := fun q : Addr × Str × Str => D.ref q.1) H (List.mem_cons_of_mem _ mpl) b0 b1 fun qq hqq _ => ?_
    obtain ⟨hqs, hqt⟩ := hq qq hqq
    have mq := mE _ (hE qq hqq)
    walk_at "e"
    walk_at "s"
    refine h_pick H hj (by omega) fun g1 M g10 g11 H => ?_
    walk_at "e"
    refine h_pick H hj (by omega) fun g2 M g20 g21 H => ?_
    walk_at "e"
    refine h_new H (Nat.le_of_ble_eq_true rfl) fun gl M H => ?_
    have gok : ∀ g ∈ [0 + (i : Int) + 1, g1, g2], 0 ≤ g ∧ g ≤ (n : Int) := by simp; omega
    have H : Held M Js ((gl, .lst ([0 + (i : Int) + 1, g1, g2].map D.int)) :: (p, .lst (xs.map WN.d)) :: LL) := H
    walk_at "e"
    walk_at "s"
    refine h_new H (Nat.le_of_ble_eq_true rfl) fun u M H => ?_
    refine h_pick H hj (by omega) fun c M c0 c1 H => ?_
    refine h_ixm (zs := [1, 2, 2, 3, 3, 8]) (f := D.int) H List.mem_cons_self c0 c1 fun cc hcc _ => ?_
    have H := H.tail
    obtain ⟨ct, rfl, ct0, ct1⟩ : ∃ ct : Nat, cc = (ct : Int) ∧ 1 ≤ ct ∧ ct ≤ 8 := ⟨cc.toNat, by simp at hcc; omega, by simp at hcc; omega, by simp at hcc; omega⟩
    walk_at "e"
    refine LX.h_moves (zs := ls) (gs := [0 + (i : Int) + 1, g1, g2]) H hj (List.mem_cons_of_mem _ (List.mem_cons_of_mem _ (mE _ hla))) List.mem_cons_self l0 l1 (by simp) (by simp) (by omega) fun mp ms M ml hm H => ?_
    walk_at "e"
    walk_at "s"
    refine h_pick H hj (by omega) fun e M e0 e1 H => ?_
    walk_at "e"
    refine ⟨by omega, ?_⟩
    refine for_each (fun i' ρ M => ∃ (mp : Addr) (ms : List LX.Mo) (w11 : Option D), ρ = [some (.ref j), some (.ref na), some (.ref la), some (.int n), some (.ref pl), none, some (.ref p), some (.int (0 + (i : Int))), some (.ref qq.1), some (.ref gl), some (.ref mp), w11] ∧ ms ≠ [] ∧ ms.length ≤ 8 + i' ∧ (∀ m ∈ ms, MvOk ls [0 + (i : Int) + 1, g1, g2] m) ∧ Held M Js ((mp, .lst (ms.map LX.Mo.d)) :: (gl, .lst ([0 + (i : Int) + 1, g1, g2].map D.int)) :: (p, .lst (xs.map WN.d)) :: LL))
      ⟨mp, ms, _, rfl, fun z => by rw [z] at ml; simp at ml; omega, by omega, hm, H⟩ (fun N2 i' d ρ M hd hI hN2 => ?_) (fun ρ M hI => ?_)
    · obtain ⟨mp, ms, w11, rfl, ne, ml, hm, H⟩ := hI
      obtain ⟨rfl, hi'⟩ := LX.rget hd
      refine ⟨trivial, ?_⟩
      walk_at "e"
      walk_at "s"
      refine h_split H hj List.mem_cons_self ne (by omega) (by simp) hm fun q ms' M ne' ml' hm' H => ?_
      walk_at "e"
      exact hN2 _ _ ⟨q, ms', _, rfl, ne', by omega, hm', H⟩
    · obtain ⟨mp, ms, w11, rfl, ne, ml, hm, H⟩ := hI
      rw [LX.rlen] at ml
      refine ⟨trivial, ?_⟩
      walk_at "e"
      walk_at "s"
      refine h_new H (Nat.le_of_ble_eq_true rfl) fun r M H => ?_
      walk_at "e"
      refine h_appI 3 H rfl (by rw [List.length_map]; omega) fun M H => ?_
      walk_at "e"
      refine hN _ _ ⟨xs ++ [⟨r, mp, qq.2.1, qq.2.2, ms⟩], _, _, _, _, _, rfl, by rw [List.length_append, xl]; rfl, fun x hx' => ?_, nodes_snoc ?_⟩
      · rcases List.mem_append.mp hx' with hx' | hx'
        · exact hx x hx'
        · rw [List.mem_singleton.mp hx']
          exact ⟨hqs, hqt, ne, by show ms.length ≤ 10; omega, fun m h => goal_in (zs := zs) gok (hm m h)⟩
      · rw [hX]
        have H : Held M Js ((r, .lst [.str qq.2.1, .str qq.2.2, .ref mp]) :: (mp, .lst (ms.map LX.Mo.d)) :: (gl, .lst ([0 + (i : Int) + 1, g1, g2].map D.int)) :: (p, .lst (xs.map WN.d ++ [.ref r])) :: LL) := H
        exact H.fourth.sub (.cons₂ _ (.cons₂ _ (.cons₂ _ (.cons _ (List.Sublist.refl _)))))
  · obtain ⟨xs, w7, w8, w9, w10, w11, rfl, xl, hx, H⟩ := hI
    rw [LX.rlen] at xl
    refine ⟨trivial, ?_⟩
    walk_at "e"
    walk_at "s"
    refine k p xs _ (by omega) hx (H.sub (.cons₂ _ (List.Sublist.append (List.Sublist.refl _) (.cons _ (List.sublist_append_right _ _)))))
end K11
/-! K11w: webs drawn: what can be come to, ends mended, the web that is kept. -/
namespace K11
open PySem DL L2 K01 GR K22
-- where it stands in the row of things held
local macro_rules | `(tactic| walk_at "m") => `(tactic| first
  | assumption
  | exact List.mem_cons_self
  | (refine List.mem_cons_of_mem _ ?_; walk_at "m"))
-- what the heap holds at a place
local macro_rules | `(tactic| walk_at "h") => `(tactic| first
  | assumption
  | exact mup_same
  | exact Held.get (by assumption) (by walk_at "m")
  | (refine (mup_ne ?_).trans ?_ <;> first | assumption | (apply Ne.symm; assumption) | walk_at "h"))
-- small facts of numbers
local macro_rules | `(tactic| walk_at "n") => `(tactic| first
  | assumption
  | omega
  | decide
  | (exact CMul.r (by decide))
  | (exact CMul.l (by decide))
  | (refine ⟨?_, ?_⟩ <;> first | assumption | omega | decide))
-- lengths
local macro_rules | `(tactic| walk_at "l") => `(tactic| first
  | assumption
  | (rw [sizeLine_eq]; first | omega | decide | (simp; done) | (simp; omega) | decide +kernel))
-- one step
local macro_rules | `(tactic| walk_at "e1") => `(tactic| first
  | with_reducible refine t_nil ?_
  | ((with_reducible refine' t_var ?s ?_); (case s => first | exact rfl | assumption))
  | with_reducible refine t_c ?_
  | with_reducible refine t_bin ?_
  | with_reducible refine t_if ?_
  | with_reducible refine t_asg ?_
  | ((with_reducible refine' t_gN' ?e ?_); (case e => ((try simp only [List.set_cons_zero, List.set_cons_succ, startD, List.map_cons, List.map_nil, List.length_cons, List.length_nil, Nat.reduceAdd, Nat.reduceSub, List.replicate, List.cons_append, List.nil_append]); exact rfl)))
  | with_reducible refine t_ret ?_
  | with_reducible refine t_exp ?_
  | with_reducible refine t_bcmp ?_
  | with_reducible refine t_band ?_
  | with_reducible refine t_bor ?_
  | with_reducible refine t_bnot ?_
  | with_reducible refine t_btru ?_
  | with_reducible refine t_byes ?_
  | with_reducible refine t_an ?_
  | with_reducible refine t_ac ?_
  | with_reducible refine t_fn ?_
  | with_reducible refine t_call ?_
  | with_reducible refine t_cmp ?_
  | with_reducible refine t_and ?_
  | with_reducible refine t_or ?_
  | with_reducible refine t_not ?_
  | with_reducible refine t_ife ?_
  | with_reducible refine t_tupN ?_
  | ((with_reducible refine v_newT ?l ?_); (case l => exact Nat.le_of_ble_eq_true rfl))
  | with_reducible refine t_lstN ?_
  | with_reducible refine t_isi ?_
  | with_reducible refine t_sl ?_
  | with_reducible refine t_o0 ?_
  | with_reducible refine t_o1 ?_
  | with_reducible refine t_un ?_
  | with_reducible refine t_mt ?_
  | with_reducible refine t_gS ?_
  | with_reducible refine t_gsC ?_
  | with_reducible refine t_gsN ?_
  | ((with_reducible refine t_gT ?s ?_); (case s => first | assumption | exact rfl))
  | with_reducible refine t_retN ?_
  | with_reducible refine t_brk ?_
  | with_reducible refine t_cnt ?_
  | ((with_reducible refine' t_aug ?s ?_); (case s => first | exact rfl | assumption))
  | with_reducible refine t_for ?_
  | with_reducible refine t_seqi ?_
  | with_reducible refine t_rg1 ?_
  | with_reducible refine t_rg2 ?_
  | with_reducible refine t_lc ?_
  | with_reducible refine v_tru_bl ?_
  | with_reducible refine v_tru_int ?_
  | with_reducible refine v_tru_non ?_
  | with_reducible refine v_tru_tup ?_
  | with_reducible refine v_add_int ?_
  | ((with_reducible refine v_add_str ?l ?_); (case l => walk_at "l"))
  | ((with_reducible refine v_add_tup ?l ?_); (case l => walk_at "l"))
  | with_reducible refine v_iadd_int ?_
  | with_reducible refine v_sub ?_
  | ((with_reducible refine v_mul ?c ?_); (case c => walk_at "n"))
  | ((with_reducible refine v_div ?c ?_); (case c => walk_at "n"))
  | ((with_reducible refine v_mod ?c ?_); (case c => walk_at "n"))
  | ((with_reducible refine v_pow ?c ?_); (case c => exact ⟨by decide, by decide, by decide⟩))
  | with_reducible refine v_neg ?_
  | with_reducible exact trivial
  | with_reducible refine v_eq_int ?_
  | with_reducible refine v_eq_str ?_
  | with_reducible refine v_eq_bl ?_
  | with_reducible refine v_ne_int ?_
  | with_reducible refine v_ne_str ?_
  | with_reducible refine v_ne_bl ?_
  | with_reducible refine v_lt ?_
  | with_reducible refine v_lt_str ?_
  | with_reducible refine t_ks ?_
  | with_reducible refine t_rv ?_
  | with_reducible refine v_seq_ktp ?_
  | with_reducible refine v_le ?_
  | with_reducible refine v_gt ?_
  | with_reducible refine v_ge ?_
  | with_reducible refine v_isi_non ?_
  | with_reducible refine v_isi_bl ?_
  | with_reducible refine v_isi_int ?_
  | with_reducible refine v_isi_str ?_
  | with_reducible refine v_isi_tup ?_
  | with_reducible refine v_in_str ?_
  | with_reducible refine v_nin_str ?_
  | with_reducible refine v_len_tup ?_
  | with_reducible refine v_len_rol ?_
  | ((with_reducible refine v_len_str ?l ?_); (case l => walk_at "l"))
  | ((with_reducible refine' v_len_ref ?e ?_); (case e => walk_at "h"))
  | with_reducible refine v_int_int ?_
  | with_reducible refine v_int_bl ?_
  | with_reducible refine v_max ?_
  | with_reducible refine v_min ?_
  | with_reducible refine v_tuple_tup ?_
  | ((with_reducible refine' v_tuple_ref ?e ?_); (case e => walk_at "h"))
  | ((with_reducible refine' v_ix_ref ?e ?f ?_); (case e => walk_at "h"); (case f => first | assumption | exact rfl))
  | ((with_reducible refine' v_ix_tup ?f ?_); (case f => first | assumption | exact rfl))
  | ((with_reducible refine v_sl_str ?l ?_); (case l => walk_at "l"))
  | with_reducible refine v_sl_tup ?_
  | with_reducible refine v_seq_tup ?_
  | with_reducible refine v_seq_str ?_
  | with_reducible refine v_seq_rol ?_
  | ((with_reducible refine' v_seq_ref ?e ?_); (case e => walk_at "h"))
  | ((with_reducible refine' ⟨v_ty_ref ?e, ?_⟩); (case e => walk_at "h")))
local macro_rules | `(tactic| walk_at "d1") => `(tactic| first | with_reducible refine t_seq ?_ | walk_at "e1")
local macro_rules | `(tactic| walk_at "d") => `(tactic| repeat walk_at "d1")
-- one statement
local macro_rules | `(tactic| walk_at "e") => `(tactic| ((repeat walk_at "e1"); try (with_reducible show sSeq _ _ _ _ _)))
local macro_rules | `(tactic| walk_at "s") => `(tactic| ((with_reducible refine t_seq ?_); walk_at "e"))
-- a drawn thing's small facts
local macro_rules | `(tactic| walk_at "gi") => `(tactic| first
  | exact gi_c trivial
  | exact gi_c ⟨_, rfl, by decide, by decide⟩
  | exact gi_c (show _ ≤ _ by decide)
  | exact gi_c (show _ ≤ _ by decide +kernel)
  | exact gi_v rfl trivial)
local macro_rules | `(tactic| walk_at "ga") => `(tactic| ((repeat (first | exact ga_nil | refine ga_cons2 ?_ ?_)); all_goals (try walk_at "gi")))
def WG (xs : List WN) : List (List Int) := xs.map fun x => x.ms.map LX.Mo.g
theorem WG_at {xs : List WN} {b : Int} (h0 : 0 ≤ b) (h1 : b < xs.length) : ∃ x, xs[b.toNat]? = some x ∧ x ∈ xs ∧ ∀ y, GE (WG xs) b y ↔ y ∈ x.ms.map LX.Mo.g := by
  have l : b.toNat < xs.length := by omega
  have e := List.getElem?_eq_getElem l
  have eg : (WG xs)[b.toNat]? = some (xs[b.toNat].ms.map LX.Mo.g) := by unfold WG; rw [List.getElem?_map, e]; rfl
  refine ⟨_, e, List.getElem_mem l, fun y => ⟨?_, fun h => ⟨h0, _, eg, h⟩⟩⟩
  rintro ⟨_, l, hl, hy⟩
  rw [eg] at hl
  cases hl
  exact hy
theorem WG_dst {xs : List WN} (hr : ∀ x ∈ xs, ∀ m ∈ x.ms, 0 ≤ m.g ∧ m.g ≤ (xs.length : Int)) {a b : Int} (e : GE (WG xs) a b) : 0 ≤ b ∧ b < ((xs.length + 1 : Nat) : Int) := by
  obtain ⟨_, l, hl, hb⟩ := e
  unfold WG at hl
  rw [List.getElem?_map] at hl
  obtain ⟨x, hx, rfl⟩ := Option.map_eq_some_iff.mp hl
  obtain ⟨m, hm, rfl⟩ := List.mem_map.mp hb
  have := hr x (List.mem_of_getElem? hx) m hm
  omega
theorem WG_src {xs : List WN} {a b : Int} (e : GE (WG xs) a b) : 0 ≤ a ∧ a < (xs.length : Int) := by
  obtain ⟨h0, l, hl, hb⟩ := e
  have := (List.getElem?_eq_some_iff.mp hl).1
  unfold WG at this
  rw [List.length_map] at this
  exact ⟨h0, by omega⟩
def sp_found : DSp := fun ds M P => ∃ (Js : List Addr) (L : List (Addr × MO)) (p : Addr) (xs : List WN) (first : Int), ds = [.ref p, .int first] ∧ Held M Js L ∧ (p, .lst (xs.map WN.d)) ∈ L ∧ (∀ e ∈ WNs xs, e ∈ L) ∧ xs.length ≤ 1000 ∧ (∀ x ∈ xs, ∀ m ∈ x.ms, 0 ≤ m.g ∧ m.g ≤ (xs.length : Int)) ∧ 0 ≤ first ∧ first ≤ (xs.length : Int) ∧
  ∀ q kvs (ws : List Int) M', kvs.map (·.1) = ws.map Sum.inl → ws.Nodup → (∀ b, b ∈ ws ↔ Reach (GE (WG xs)) first b) → Held M' Js ((q, .dk kvs) :: L) → P (.ref q) M'
theorem ok_found (ds : List D) (M : Mh) (P : PQ) (h : sp_found ds M P) : b__law_found { nx := fun _ M' => P .non M', rt := P } (startD 7 ds) M := by
  obtain ⟨Js, L, p, xs, first, rfl, H, hp, hxs, hn, hr, f0, f1, k⟩ := h
  have hpl : (xs.map WN.d).length = xs.length := List.length_map ..
  unfold b__law_found
  refine t_seq (t_asg (t_d1H H fun q M H => ?_))
  walk_at "e"
  refine h_newD H rfl fun M H => ?_
  walk_at "e"
  walk_at "s"
  refine h_new H (Nat.le_of_ble_eq_true rfl) fun w M H => ?_
  walk_at "e"
  refine t_cut (fun ρ M => ∃ (ws : List Int) (kvs : List (Key × D)) (w3 w4 w5 w6 : Option D), ρ = [some (.ref p), some (.int first), some (.ref q), w3, w4, w5, w6] ∧ kvs.map (·.1) = ws.map Sum.inl ∧ ws.Nodup ∧ (∀ b, b ∈ ws ↔ Reach (GE (WG xs)) first b) ∧ Held M Js ((q, .dk kvs) :: L)) (fun N0 hN0 => ?_) ?_
  · have hp' := List.mem_cons_of_mem (w, MO.lst [.int first]) (List.mem_cons_of_mem (q, MO.dk [(Sum.inl first, D.bl true)]) hp)
    walk_at "e"
    rw [hpl]
    refine ⟨by omega, ?_⟩
    refine for_each (fun i ρ M => ∃ (ws wt : List Int) (kvs : List (Key × D)) (w4 w5 w6 : Option D), ρ = [some (.ref p), some (.int first), some (.ref q), some (.ref w), w4, w5, w6] ∧ kvs.map (·.1) = ws.map Sum.inl ∧ Dfs (GE (WG xs)) (xs.length + 1) first i ws wt none ∧ Held M Js ((w, .lst (wt.map D.int)) :: (q, .dk kvs) :: L))
      ⟨[first], [first], _, _, _, _, rfl, rfl, Dfs.start f0 (by omega), H⟩ (fun N i d ρ M hd hI hN => ?_) (fun ρ M hI => ?_)
    · obtain ⟨ws, wt, kvs, w4, w5, w6, rfl, hk, T, H⟩ := hI
      obtain ⟨rfl, hi⟩ := LX.rget hd
      refine ⟨trivial, ?_⟩
      walk_at "e"
      walk_at "s"
      rw [int_len, beq_zero]
      refine t_ite (fun e => ?_) (fun e => ?_)
      · have e : wt = [] := List.eq_nil_of_length_eq_zero (by simpa using e)
        subst e
        walk_at "d"
        exact hN0 _ _ ⟨ws, kvs, _, _, _, _, rfl, hk, T.nd, T.done, H.tail⟩
      have e : 0 < wt.length := by
        rcases Nat.eq_zero_or_pos wt.length with h | h
        · rw [h] at e; cases e
        · exact h
      obtain ⟨b, hb⟩ : ∃ b, wt[wt.length - 1]? = some b := ⟨_, List.getElem?_eq_getElem (by omega)⟩
      obtain ⟨T, bm⟩ := T.pop hb
      obtain ⟨b0, b1⟩ := T.rng b bm
      walk_at "e"
      walk_at "s"
      refine h_popI 0 H rfl (d := .int b) (by rw [int_len, List.getElem?_map, hb]; rfl) fun M H => ?_
      have H : Held M Js ((w, .lst (wt.dropLast.map D.int)) :: (q, .dk kvs) :: L) := by rw [List.map_dropLast]; exact H
      generalize wt.dropLast = wt at T H
      clear hb e
      have hp' := List.mem_cons_of_mem (w, MO.lst (wt.map D.int)) (List.mem_cons_of_mem (q, MO.dk kvs) hp)
      walk_at "e"
      walk_at "s"
      rw [hpl]
      refine t_ite (fun e => ?_) (fun e => ?_)
      · have e : b < xs.length := of_decide_eq_true e
        obtain ⟨x, ex, hx, hE⟩ := WG_at b0 e
        have ea : atI (xs.map WN.d) b = some (.ref x.r) := atI_get? b0 (by rw [List.getElem?_map, ex]; rfl)
        have mr := List.mem_cons_of_mem (w, MO.lst (wt.map D.int)) (List.mem_cons_of_mem (q, MO.dk kvs) (hxs _ (WNs_mem hx).1))
        have mm := List.mem_cons_of_mem (w, MO.lst (wt.map D.int)) (List.mem_cons_of_mem (q, MO.dk kvs) (hxs _ (WNs_mem hx).2))
        walk_at "s"
        refine for_each (fun j ρ M => ∃ (ws wt : List Int) (kvs : List (Key × D)) (w6 : Option D), ρ = [some (.ref p), some (.int first), some (.ref q), some (.ref w), some (.int (0 + (i : Int))), some (.int b), w6] ∧ kvs.map (·.1) = ws.map Sum.inl ∧ Dfs (GE (WG xs)) (xs.length + 1) first (i + 1) ws wt (some b) ∧ b ∈ ws ∧ (∀ y ∈ (x.ms.map LX.Mo.g).take j, y ∈ ws) ∧ Held M Js ((w, .lst (wt.map D.int)) :: (q, .dk kvs) :: L))
          ⟨ws, wt, kvs, _, rfl, hk, T, bm, by simp, H⟩ (fun N2 j d ρ M hd hI hN2 => ?_) (fun ρ M hI => ?_)
        · obtain ⟨ws, wt, kvs, w6, rfl, hk, T, bm, hj, H⟩ := hI
          rw [List.getElem?_map] at hd
          obtain ⟨m, hm, rfl⟩ := Option.map_eq_some_iff.mp hd
          have hg : (x.ms.map LX.Mo.g)[j]? = some m.g := by rw [List.getElem?_map, hm]; rfl
          have ed : GE (WG xs) b m.g := (hE _).mpr (List.mem_of_getElem? hg)
          obtain ⟨g0, g1⟩ := WG_dst hr ed
          have tl := T.len
          have tc := T.cnt
          have kl : kvs.length ≤ 2000 := by
            have := congrArg List.length hk
            rw [List.length_map, List.length_map] at this
            omega
          refine ⟨H.get (List.mem_cons_of_mem _ (List.mem_cons_of_mem _ (hxs _ (WNs_mem hx).2))), ?_⟩
          rw [mo_d]
          walk_at "e"
          walk_at "s"
          refine h_nin H (by walk_at "m") rfl ?_
          rw [key_mem hk]
          refine t_ite (fun z => ?_) (fun z => ?_)
          · have z : m.g ∉ ws := by simpa using z
            walk_at "d"
            refine h_dput 1 H rfl rfl (by omega) fun M H => ?_
            have H : Held M Js ((w, .lst (wt.map D.int)) :: (q, .dk (putD kvs (Sum.inl m.g) (.bl true))) :: L) := H
            walk_at "d"
            refine h_app H (by rw [int_len]; omega) fun M H => ?_
            refine hN2 _ _ ⟨ws ++ [m.g], wt ++ [m.g], _, _, rfl, keys_put _ hk z, T.add bm ed z g0 g1, List.mem_append_left _ bm, fun c hc => ?_, by rw [List.map_append]; exact H⟩
            rw [LX.take_snoc hg] at hc
            rcases List.mem_append.mp hc with hc | hc
            · exact List.mem_append_left _ (hj c hc)
            · rw [List.mem_singleton.mp hc]; simp
          · have z : m.g ∈ ws := by simpa using z
            walk_at "d"
            refine hN2 _ _ ⟨ws, wt, kvs, _, rfl, hk, T, bm, fun c hc => ?_, H⟩
            rw [LX.take_snoc hg] at hc
            rcases List.mem_append.mp hc with hc | hc
            · exact hj c hc
            · rw [List.mem_singleton.mp hc]; exact z
        · obtain ⟨ws, wt, kvs, w6, rfl, hk, T, bm, hj, H⟩ := hI
          rw [show (x.ms.map LX.Mo.d).length = (x.ms.map LX.Mo.g).length by rw [List.length_map, List.length_map], List.take_length] at hj
          refine ⟨H.get (List.mem_cons_of_mem _ (List.mem_cons_of_mem _ (hxs _ (WNs_mem hx).2))), ?_⟩
          walk_at "e"
          exact hN _ _ ⟨ws, wt, kvs, _, _, _, rfl, hk, T.shut fun y ey => hj y ((hE y).mp ey), H⟩
      · have e : ¬ b < xs.length := of_decide_eq_false e
        walk_at "e"
        exact hN _ _ ⟨ws, wt, kvs, _, _, _, rfl, hk, T.shut fun y ey => absurd (WG_src ey).2 e, H⟩
    · obtain ⟨ws, wt, kvs, w4, w5, w6, rfl, hk, T, H⟩ := hI
      rw [LX.rlen] at T
      have := T.full (by omega)
      subst this
      exact ⟨trivial, hN0 _ _ ⟨ws, kvs, _, _, _, _, rfl, hk, T.nd, T.done, H.tail⟩⟩
  rintro ρ M ⟨ws, kvs, w3, w4, w5, w6, rfl, hk, nd, hws, H⟩
  walk_at "s"
  exact k q kvs ws _ hk nd hws H
end K11
/-! K11x: webs drawn: ends mended, the web that is kept. -/
namespace K11
open PySem DL L2 K01 GR K22
-- where it stands in the row of things held
local macro_rules | `(tactic| walk_at "m") => `(tactic| first
  | assumption
  | exact List.mem_cons_self
  | (refine List.mem_cons_of_mem _ ?_; walk_at "m"))
-- what the heap holds at a place
local macro_rules | `(tactic| walk_at "h") => `(tactic| first
  | assumption
  | exact mup_same
  | exact Held.get (by assumption) (by walk_at "m")
  | (refine (mup_ne ?_).trans ?_ <;> first | assumption | (apply Ne.symm; assumption) | walk_at "h"))
-- small facts of numbers
local macro_rules | `(tactic| walk_at "n") => `(tactic| first
  | assumption
  | omega
  | decide
  | (exact CMul.r (by decide))
  | (exact CMul.l (by decide))
  | (refine ⟨?_, ?_⟩ <;> first | assumption | omega | decide))
-- lengths
local macro_rules | `(tactic| walk_at "l") => `(tactic| first
  | assumption
  | (rw [sizeLine_eq]; first | omega | decide | (simp; done) | (simp; omega) | decide +kernel))
-- one step
local macro_rules | `(tactic| walk_at "e1") => `(tactic| first
  | with_reducible refine t_nil ?_
  | ((with_reducible refine' t_var ?s ?_); (case s => first | exact rfl | assumption))
  | with_reducible refine t_c ?_
  | with_reducible refine t_bin ?_
  | with_reducible refine t_if ?_
  | with_reducible refine t_asg ?_
  | ((with_reducible refine' t_gN' ?e ?_); (case e => ((try simp only [List.set_cons_zero, List.set_cons_succ, startD, List.map_cons, List.map_nil, List.length_cons, List.length_nil, Nat.reduceAdd, Nat.reduceSub, List.replicate, List.cons_append, List.nil_append]); exact rfl)))
  | with_reducible refine t_ret ?_
  | with_reducible refine t_exp ?_
  | with_reducible refine t_bcmp ?_
  | with_reducible refine t_band ?_
  | with_reducible refine t_bor ?_
  | with_reducible refine t_bnot ?_
  | with_reducible refine t_btru ?_
  | with_reducible refine t_byes ?_
  | with_reducible refine t_an ?_
  | with_reducible refine t_ac ?_
  | with_reducible refine t_fn ?_
  | with_reducible refine t_call ?_
  | with_reducible refine t_cmp ?_
  | with_reducible refine t_and ?_
  | with_reducible refine t_or ?_
  | with_reducible refine t_not ?_
  | with_reducible refine t_ife ?_
  | with_reducible refine t_tupN ?_
  | ((with_reducible refine v_newT ?l ?_); (case l => exact Nat.le_of_ble_eq_true rfl))
  | with_reducible refine t_lstN ?_
  | with_reducible refine t_isi ?_
  | with_reducible refine t_sl ?_
  | with_reducible refine t_o0 ?_
  | with_reducible refine t_o1 ?_
  | with_reducible refine t_un ?_
  | with_reducible refine t_mt ?_
  | with_reducible refine t_gS ?_
  | with_reducible refine t_gsC ?_
  | with_reducible refine t_gsN ?_
  | ((with_reducible refine t_gT ?s ?_); (case s => first | assumption | exact rfl))
  | with_reducible refine t_retN ?_
  | with_reducible refine t_brk ?_
  | with_reducible refine t_cnt ?_
  | ((with_reducible refine' t_aug ?s ?_); (case s => first | exact rfl | assumption))
  | with_reducible refine t_for ?_
  | with_reducible refine t_seqi ?_
  | with_reducible refine t_rg1 ?_
  | with_reducible refine t_rg2 ?_
  | with_reducible refine t_lc ?_
  | with_reducible refine v_tru_bl ?_
  | with_reducible refine v_tru_int ?_
  | with_reducible refine v_tru_non ?_
  | with_reducible refine v_tru_tup ?_
  | with_reducible refine v_add_int ?_
  | ((with_reducible refine v_add_str ?l ?_); (case l => walk_at "l"))
  | ((with_reducible refine v_add_tup ?l ?_); (case l => walk_at "l"))
  | with_reducible refine v_iadd_int ?_
  | with_reducible refine v_sub ?_
  | ((with_reducible refine v_mul ?c ?_); (case c => walk_at "n"))
  | ((with_reducible refine v_div ?c ?_); (case c => walk_at "n"))
  | ((with_reducible refine v_mod ?c ?_); (case c => walk_at "n"))
  | ((with_reducible refine v_pow ?c ?_); (case c => exact ⟨by decide, by decide, by decide⟩))
  | with_reducible refine v_neg ?_
  | with_reducible exact trivial
  | with_reducible refine v_eq_int ?_
  | with_reducible refine v_eq_str ?_
  | with_reducible refine v_eq_bl ?_
  | with_reducible refine v_ne_int ?_
  | with_reducible refine v_ne_str ?_
  | with_reducible refine v_ne_bl ?_
  | with_reducible refine v_lt ?_
  | with_reducible refine v_lt_str ?_
  | with_reducible refine t_ks ?_
  | with_reducible refine t_rv ?_
  | with_reducible refine v_seq_ktp ?_
  | with_reducible refine v_le ?_
  | with_reducible refine v_gt ?_
  | with_reducible refine v_ge ?_
  | with_reducible refine v_isi_non ?_
  | with_reducible refine v_isi_bl ?_
  | with_reducible refine v_isi_int ?_
  | with_reducible refine v_isi_str ?_
  | with_reducible refine v_isi_tup ?_
  | with_reducible refine v_in_str ?_
  | with_reducible refine v_nin_str ?_
  | with_reducible refine v_len_tup ?_
  | with_reducible refine v_len_rol ?_
  | ((with_reducible refine v_len_str ?l ?_); (case l => walk_at "l"))
  | ((with_reducible refine' v_len_ref ?e ?_); (case e => walk_at "h"))
  | with_reducible refine v_int_int ?_
  | with_reducible refine v_int_bl ?_
  | with_reducible refine v_max ?_
  | with_reducible refine v_min ?_
  | with_reducible refine v_tuple_tup ?_
  | ((with_reducible refine' v_tuple_ref ?e ?_); (case e => walk_at "h"))
  | ((with_reducible refine' v_ix_ref ?e ?f ?_); (case e => walk_at "h"); (case f => first | assumption | exact rfl))
  | ((with_reducible refine' v_ix_tup ?f ?_); (case f => first | assumption | exact rfl))
  | ((with_reducible refine v_sl_str ?l ?_); (case l => walk_at "l"))
  | with_reducible refine v_sl_tup ?_
  | with_reducible refine v_seq_tup ?_
  | with_reducible refine v_seq_str ?_
  | with_reducible refine v_seq_rol ?_
  | ((with_reducible refine' v_seq_ref ?e ?_); (case e => walk_at "h"))
  | ((with_reducible refine' ⟨v_ty_ref ?e, ?_⟩); (case e => walk_at "h")))
local macro_rules | `(tactic| walk_at "d1") => `(tactic| first | with_reducible refine t_seq ?_ | walk_at "e1")
local macro_rules | `(tactic| walk_at "d") => `(tactic| repeat walk_at "d1")
-- one statement
local macro_rules | `(tactic| walk_at "e") => `(tactic| ((repeat walk_at "e1"); try (with_reducible show sSeq _ _ _ _ _)))
local macro_rules | `(tactic| walk_at "s") => `(tactic| ((with_reducible refine t_seq ?_); walk_at "e"))
-- a drawn thing's small facts
local macro_rules | `(tactic| walk_at "gi") => `(tactic| first
  | exact gi_c trivial
  | exact gi_c ⟨_, rfl, by decide, by decide⟩
  | exact gi_c (show _ ≤ _ by decide)
  | exact gi_c (show _ ≤ _ by decide +kernel)
  | exact gi_v rfl trivial)
local macro_rules | `(tactic| walk_at "ga") => `(tactic| ((repeat (first | exact ga_nil | refine ga_cons2 ?_ ?_)); all_goals (try walk_at "gi")))
theorem WNs_at : ∀ {xs : List WN} {i : Nat} {x : WN}, xs[i]? = some x → (WNs xs)[2 * i + 1]? = some (x.m, .lst (x.ms.map LX.Mo.d))
  | [], i, x, h => by simp at h
  | y :: r, 0, x, h => by simp at h; subst h; rfl
  | y :: r, i + 1, x, h => by
    have := WNs_at (xs := r) (i := i) (x := x) (by simpa using h)
    show (y.e ++ WNs r)[2 * (i + 1) + 1]? = _
    rw [List.getElem?_append_right (by show 2 ≤ _; omega)]
    exact this
theorem WNs_set : ∀ {xs : List WN} {i : Nat} {x : WN} {ms : List LX.Mo}, xs[i]? = some x → (WNs xs).set (2 * i + 1) (x.m, .lst (ms.map LX.Mo.d)) = WNs (xs.set i { x with ms := ms })
  | [], i, x, ms, h => by simp at h
  | y :: r, 0, x, ms, h => by simp at h; subst h; rfl
  | y :: r, i + 1, x, ms, h => by
    have := WNs_set (xs := r) (i := i) (x := x) (ms := ms) (by simpa using h)
    show (y.e ++ WNs r).set (2 * (i + 1) + 1) _ = y.e ++ WNs (r.set i _)
    rw [← this]; rfl
theorem WNs_len (xs : List WN) : (WNs xs).length = 2 * xs.length := by
  induction xs with
  | nil => rfl
  | cons x r ih => show (x.e ++ WNs r).length = _; rw [List.length_append, ih, List.length_cons]; show 2 + _ = _; omega
theorem set_d {xs : List WN} {i : Nat} {x : WN} {ms : List LX.Mo} (h : xs[i]? = some x) : (xs.set i { x with ms := ms }).map WN.d = xs.map WN.d := by
  apply List.ext_getElem?
  intro j
  rw [List.getElem?_map, List.getElem?_map, List.getElem?_set]
  split
  · rename_i e
    subst e
    rw [h]
    split
    · rfl
    · rename_i n
      exact absurd (List.getElem?_eq_some_iff.mp h).1 n
  · rfl
/-- the nodes stand as they stood; other moves -/
def sp_mend_ends : DSp := fun ds M P => ∃ (Js : List Addr) (L : List (Addr × MO)) (p : Addr) (zs ls : List Str) (xs : List WN) (k : Nat) (goal : Int), ds = [.ref p, .int goal] ∧ Held M Js ((p, .lst (xs.map WN.d)) :: (WNs xs ++ L)) ∧ xs.length ≤ 1000 ∧ (∀ x ∈ xs, x.ok zs ls xs.length k) ∧ 0 ≤ goal ∧ goal ≤ (xs.length : Int) ∧
  ∀ (xs' : List WN) M', xs'.length = xs.length → xs'.map WN.d = xs.map WN.d → (∀ x ∈ xs', x.ok zs ls xs.length k) → Held M' Js ((p, .lst (xs'.map WN.d)) :: (WNs xs' ++ L)) → P .non M'
theorem ok_mend_ends (ds : List D) (M : Mh) (P : PQ) (h : sp_mend_ends ds M P) : b__law_mend_ends sp_found { nx := fun _ M' => P .non M', rt := P } (startD 5 ds) M := by
  obtain ⟨Js, L, p, zs, ls, xs, kk, goal, rfl, H, hn, hx, g0, g1, k⟩ := h
  have hpl : (xs.map WN.d).length = xs.length := List.length_map ..
  unfold b__law_mend_ends
  walk_at "s"
  refine ⟨by omega, ?_⟩
  rw [hpl]
  refine for_each (fun i ρ M => ∃ (ys : List WN) (w2 w3 w4 : Option D), ρ = [some (.ref p), some (.int goal), w2, w3, w4] ∧ ys.length = xs.length ∧ ys.map WN.d = xs.map WN.d ∧ (∀ x ∈ ys, x.ok zs ls xs.length kk) ∧ Held M Js ((p, .lst (ys.map WN.d)) :: (WNs ys ++ L)))
    ⟨xs, _, _, _, rfl, rfl, rfl, hx, H⟩ (fun N i d ρ M hd hI hN => ?_) (fun ρ M hI => ?_)
  · obtain ⟨ys, w2, w3, w4, rfl, yl, yd, hy, H⟩ := hI
    obtain ⟨rfl, hi⟩ := LX.rget hd
    have yl' : (ys.map WN.d).length = xs.length := by rw [List.length_map]; exact yl
    refine ⟨trivial, ?_⟩
    walk_at "e"
    walk_at "s"
    rw [yl']
    refine ⟨rfl, Js, _, p, ys, _, rfl, H, List.mem_cons_self, fun e he => List.mem_cons_of_mem _ (List.mem_append_left _ he), by omega, fun x hx m hm => by rw [yl]; exact ((hy x hx).mv m hm).2.1, by omega, by omega, fun q kvs ws M hk nd hws H => ?_⟩
    refine h_nin H (by walk_at "m") rfl ?_
    have H := H.tail
    refine t_ite (fun e => ?_) (fun e => ?_)
    · have li : i < ys.length := by omega
      have ex := List.getElem?_eq_getElem li
      have hxm := List.getElem_mem li
      generalize ys[i] = x at ex hxm
      have ea : atI (ys.map WN.d) (0 + (i : Int)) = some (.ref x.r) := atI_get? (by omega) (by rw [show (0 + (i : Int)).toNat = i by omega, List.getElem?_map, ex]; rfl)
      have ok := hy x hxm
      have ml : (x.ms.map LX.Mo.d).length = x.ms.length := List.length_map ..
      have m0 : 0 < x.ms.length := List.length_pos_iff.mpr ok.ne
      have e1 := List.getElem?_eq_getElem (show x.ms.length - 1 < x.ms.length by omega)
      have hmm := List.getElem_mem (show x.ms.length - 1 < x.ms.length by omega)
      generalize x.ms[x.ms.length - 1] = m at e1 hmm
      have mr := List.mem_cons_of_mem (p, MO.lst (ys.map WN.d)) (List.mem_append_left L (WNs_mem hxm).1)
      have mm := List.mem_cons_of_mem (p, MO.lst (ys.map WN.d)) (List.mem_append_left L (WNs_mem hxm).2)
      have el : atI (x.ms.map LX.Mo.d) (((x.ms.map LX.Mo.d).length : Int) - 1) = some (.tup [.str m.z, .int m.l, .int m.h, .int m.g]) := atI_get? (by omega) (by rw [ml, show ((x.ms.length : Int) - 1).toNat = x.ms.length - 1 by omega, List.getElem?_map, e1]; rfl)
      walk_at "d"
      have ep : ((p, MO.lst (ys.map WN.d)) :: (WNs ys ++ L))[2 * i + 1 + 1]? = some (x.m, .lst (x.ms.map LX.Mo.d)) := by
        rw [List.getElem?_cons_succ, List.getElem?_append_left (by rw [WNs_len]; omega)]
        exact WNs_at ex
      refine h_setI (m := x.ms.length - 1) (2 * i + 1 + 1) H ep (by unfold ixN; rw [ml, if_pos (by omega), if_pos (by omega)]; congr 1; omega) fun M H => ?_
      have em : (x.ms.map LX.Mo.d).set (x.ms.length - 1) (.tup [.str m.z, .int m.l, .int m.h, .int goal]) = (x.ms.set (x.ms.length - 1) { m with g := goal }).map LX.Mo.d := by rw [List.map_set]; rfl
      rw [em, List.set_cons_succ, List.set_append_left _ _ (by rw [WNs_len]; omega), WNs_set ex] at H
      have sd := set_d (ms := x.ms.set (x.ms.length - 1) { m with g := goal }) ex
      refine hN _ _ ⟨ys.set i { x with ms := x.ms.set (x.ms.length - 1) { m with g := goal } }, _, _, _, rfl, by rw [List.length_set]; exact yl, sd.trans yd, fun z hz => ?_, by rw [sd]; exact H⟩
      rcases List.mem_or_eq_of_mem_set hz with hz | rfl
      · exact hy z hz
      · refine ⟨ok.s, ok.t, fun z => ok.ne (by simpa using z), by show (x.ms.set _ _).length ≤ _; rw [List.length_set]; exact ok.len, fun c hc => ?_⟩
        rcases List.mem_or_eq_of_mem_set hc with hc | rfl
        · exact ok.mv c hc
        · exact ⟨(ok.mv m hmm).1, ⟨g0, g1⟩, ⟨(ok.mv m hmm).2.2.l0, (ok.mv m hmm).2.2.lh, (ok.mv m hmm).2.2.h1⟩⟩
    · walk_at "d"
      exact hN _ _ ⟨ys, _, _, _, rfl, yl, yd, hy, H⟩
  · obtain ⟨ys, w2, w3, w4, rfl, yl, yd, hy, H⟩ := hI
    refine ⟨trivial, ?_⟩
    walk_at "e"
    exact k ys _ yl yd hy H

/-! ### the web that is kept -/
def WebD (zs : List Str) (nds : List Nd) : D := .tup [.tup (zs.map D.str), nodesD nds]
/-- names of zs, labels of ls, nexts from 0 to the end; at most k moves -/
structure Nd.ok (zs ls : List Str) (n k : Nat) (x : Nd) : Prop where
  s : x.s ∈ zs
  r : x.r ∈ zs
  ne : x.ms ≠ []
  len : x.ms.length ≤ k
  mv : ∀ m ∈ x.ms, m.z ∈ ls ∧ (0 ≤ m.g ∧ m.g ≤ n) ∧ m.sp
theorem key_val {kvs : List (Key × D)} {k : Key} (h : (valD kvs k).isSome = true) {T : D → Prop} (hT : ∀ kv ∈ kvs, T kv.2) : ∃ d, valD kvs k = some d ∧ T d := by
  unfold valD at h ⊢
  cases e : kvs.find? fun kv => decide (kv.1 = k) with
  | none => rw [e] at h; cases h
  | some kv => exact ⟨kv.2, rfl, hT kv (List.mem_of_find?_eq_some e)⟩
theorem put_all {kvs : List (Key × D)} {k : Key} {d : D} {T : D → Prop} (h : ∀ kv ∈ kvs, T kv.2) (hd : T d) : ∀ kv ∈ putD kvs k d, T kv.2 := by
  intro kv hkv
  unfold putD at hkv
  split at hkv
  · obtain ⟨x, hx, e⟩ := List.mem_map.mp hkv
    split at e
    · rw [← e]; exact hd
    · rw [← e]; exact h x hx
  · rcases List.mem_append.mp hkv with hkv | hkv
    · exact h kv hkv
    · rw [List.mem_singleton.mp hkv]; exact hd
def sp_kept_web : DSp := fun ds M P => ∃ (Js : List Addr) (L : List (Addr × MO)) (na p : Addr) (zs ls : List Str) (xs : List WN) (k : Nat), ds = [.ref na, .ref p] ∧ Held M Js L ∧ (na, .lst (zs.map D.str)) ∈ L ∧ (p, .lst (xs.map WN.d)) ∈ L ∧ (∀ e ∈ WNs xs, e ∈ L) ∧ xs.length ≤ 1000 ∧ k ≤ 1000 ∧ (∀ x ∈ xs, x.ok zs ls xs.length k) ∧
  ∀ (nds : List Nd) M', nds.length ≤ xs.length → (∀ x ∈ nds, x.ok zs ls nds.length k) → Held M' Js L → P (WebD zs nds) M'
theorem ok_kept_web (ds : List D) (M : Mh) (P : PQ) (h : sp_kept_web ds M P) : b__law_kept_web sp_found { nx := fun _ M' => P .non M', rt := P } (startD 13 ds) M := by
  obtain ⟨Js, L, na, p, zs, ls, xs, kk, rfl, H, hna, hp, hxs, hn, hkk, hx, k⟩ := h
  have hpl : (xs.map WN.d).length = xs.length := List.length_map ..
  have hr : ∀ x ∈ xs, ∀ m ∈ x.ms, 0 ≤ m.g ∧ m.g ≤ (xs.length : Int) := fun x hx' m hm => ((hx x hx').mv m hm).2.1
  unfold b__law_kept_web
  walk_at "s"
  refine ⟨rfl, Js, _, p, xs, _, rfl, H, hp, hxs, hn, hr, by omega, by omega, fun q kvs ws M hk nd hws H => ?_⟩
  walk_at "e"
  walk_at "s"
  rw [hpl]
  refine ⟨by omega, ?_⟩
  refine h_lcT (fun i acc => acc = ((List.range i).filter fun a : Nat => decide ((a : Int) ∈ ws)).map fun a : Nat => .int (a : Int)) H (by rw [LX.rlen]; omega) rfl (fun _ _ => trivial) (fun R S i d acc u M hd hI H kR kS => ?_) (fun u acc M hl hI H => ?_)
  · subst hI
    obtain ⟨rfl, _⟩ := LX.rget hd
    refine ⟨_, rfl, ?_⟩
    walk_at "e"
    refine h_in H (by walk_at "m") rfl ?_
    rw [key_mem hk, show (0 + (i : Int)) = i by omega]
    refine t_ite (fun e => ?_) (fun e => ?_)
    · walk_at "e"
      exact kR _ _ (by rw [List.range_succ, List.filter_append, List.map_append, List.filter_cons, if_pos e]; rfl) H
    · exact kS _ (by rw [List.range_succ, List.filter_append, List.map_append, List.filter_cons, if_neg (by rw [e]; decide)]; simp) H
  rw [LX.rlen, Int.toNat_natCast] at hI
  have hks : ∀ a : Nat, a ∈ (List.range xs.length).filter (fun a : Nat => decide ((a : Int) ∈ ws)) ↔ a < xs.length ∧ (a : Int) ∈ ws := fun a => by
    rw [List.mem_filter, List.mem_range, decide_eq_true_iff]
  have hkl : ((List.range xs.length).filter fun a : Nat => decide ((a : Int) ∈ ws)).length ≤ xs.length := by
    have := List.length_filter_le (fun a : Nat => decide ((a : Int) ∈ ws)) (List.range xs.length)
    rw [List.length_range] at this
    exact this
  generalize (List.range xs.length).filter (fun a : Nat => decide ((a : Int) ∈ ws)) = ks at hI hks hkl
  subst hI
  have H := H.tail2
  have kl : (ks.map fun a : Nat => D.int (a : Int)).length = ks.length := List.length_map ..
  walk_at "e"
  refine t_seq (t_asg (t_d1H H fun nm M H => ?_))
  walk_at "e"
  rw [hpl, kl]
  refine h_newD H rfl fun M H => ?_
  walk_at "e"
  -- the numbers
  refine t_cut (fun ρ M => ∃ (kvs : List (Key × D)) (w6 : Option D), ρ = [some (.ref na), some (.ref p), some (.ref q), some (.ref u), none, some (.ref nm), w6, none, none, none, none, none, none] ∧ (∀ kv ∈ kvs, ∃ v : Int, kv.2 = .int v ∧ 0 ≤ v ∧ v ≤ ks.length) ∧ (∀ b : Int, b = xs.length ∨ (∃ a ∈ ks, b = ((a : Nat) : Int)) → Sum.inl b ∈ kvs.map (·.1)) ∧ Held M Js ((u, .lst (ks.map fun a : Nat => .int (a : Int))) :: (nm, .dk kvs) :: L)) (fun N0 hN0 => ?_) ?_
  · walk_at "e"
    rw [kl]
    refine ⟨by omega, ?_⟩
    refine for_each (fun i ρ M => ∃ (kvs : List (Key × D)) (w6 : Option D), ρ = [some (.ref na), some (.ref p), some (.ref q), some (.ref u), none, some (.ref nm), w6, none, none, none, none, none, none] ∧ kvs.length ≤ i + 1 ∧ (∀ kv ∈ kvs, ∃ v : Int, kv.2 = .int v ∧ 0 ≤ v ∧ v ≤ ks.length) ∧ (∀ b : Int, b = xs.length ∨ (∃ a ∈ ks.take i, b = ((a : Nat) : Int)) → Sum.inl b ∈ kvs.map (·.1)) ∧ Held M Js ((u, .lst (ks.map fun a : Nat => .int (a : Int))) :: (nm, .dk kvs) :: L))
      ⟨[(Sum.inl (xs.length : Int), .int ks.length)], _, rfl, Nat.le_refl _, fun kv h => by rw [List.mem_singleton.mp h]; exact ⟨_, rfl, by omega, by omega⟩, fun b h => by
        rcases h with rfl | ⟨a, ha, _⟩
        · simp
        · simp at ha, H.swap⟩ (fun N i d ρ M hd hI hN => ?_) (fun ρ M hI => ?_)
    · obtain ⟨kvs, w6, rfl, kvl, hv, hkeys, H⟩ := hI
      obtain ⟨rfl, hi⟩ := LX.rget hd
      have e1 := List.getElem?_eq_getElem hi
      generalize ks[i] = a at e1
      have ea : atI (ks.map fun a : Nat => D.int (a : Int)) (0 + (i : Int)) = some (.int a) := atI_get? (by omega) (by rw [show (0 + (i : Int)).toNat = i by omega, List.getElem?_map, e1]; rfl)
      refine ⟨trivial, ?_⟩
      walk_at "e"
      walk_at "s"
      refine h_dput 1 H rfl rfl (by omega) fun M H => ?_
      refine hN _ _ ⟨_, _, rfl, by have := putD_len kvs (Sum.inl (a : Int)) (.int (0 + (i : Int))); omega, put_all (T := fun d => ∃ v : Int, d = .int v ∧ 0 ≤ v ∧ v ≤ ks.length) hv ⟨_, rfl, by omega, by omega⟩, fun b h => ?_, H⟩
      rw [put_mem]
      rcases h with h | ⟨c, hc, h⟩
      · exact .inl (hkeys b (.inl h))
      · rw [LX.take_snoc e1] at hc
        rcases List.mem_append.mp hc with hc | hc
        · exact .inl (hkeys b (.inr ⟨c, hc, h⟩))
        · rw [List.mem_singleton.mp hc] at h; exact .inr (by rw [h])
    · obtain ⟨kvs, w6, rfl, kvl, hv, hkeys, H⟩ := hI
      rw [LX.rlen, Int.toNat_natCast, List.take_length] at hkeys
      exact ⟨trivial, hN0 _ _ ⟨kvs, _, rfl, hv, hkeys, H⟩⟩
  rintro ρ M ⟨nvs, w6, rfl, hv, hkeys, H⟩
  walk_at "s"
  refine h_new H (Nat.le_of_ble_eq_true rfl) fun f M H => ?_
  walk_at "e"
  walk_at "s"
  refine for_each (fun i ρ M => ∃ (nds : List Nd) (w4 w8 w9 w10 w11 w12 : Option D), ρ = [some (.ref na), some (.ref p), some (.ref q), some (.ref u), w4, some (.ref nm), w6, some (.ref f), w8, w9, w10, w11, w12] ∧ nds.length = i ∧ (∀ x ∈ nds, x.ok zs ls ks.length kk) ∧ Held M Js ((f, .lst (nds.map ndD)) :: (u, .lst (ks.map fun a : Nat => .int (a : Int))) :: (nm, .dk nvs) :: L))
    ⟨[], _, _, _, _, _, _, rfl, rfl, by simp, H⟩ (fun N i d ρ M hd hI hN => ?_) (fun ρ M hI => ?_)
  · obtain ⟨nds, w4, w8, w9, w10, w11, w12, rfl, ndl, hnd, H⟩ := hI
    have hil := (List.getElem?_eq_some_iff.mp hd).1
    rw [kl] at hil
    rw [List.getElem?_map] at hd
    obtain ⟨a, ha, rfl⟩ := Option.map_eq_some_iff.mp hd
    obtain ⟨a1, aw⟩ := (hks a).mp (List.mem_of_getElem? ha)
    obtain ⟨x, ex, hxm, hE⟩ := WG_at (xs := xs) (b := (a : Int)) (by omega) (by omega)
    have ok := hx x hxm
    have ea : atI (xs.map WN.d) (a : Int) = some (.ref x.r) := atI_get? (by omega) (by rw [List.getElem?_map, ex]; rfl)
    refine ⟨H.get (by walk_at "m"), ?_⟩
    walk_at "e"
    have xr := hxs _ (WNs_mem hxm).1
    have xm := hxs _ (WNs_mem hxm).2
    walk_at "s"
    refine t_gTr (H.get (by walk_at "m")) rfl ?_
    walk_at "e"
    walk_at "s"
    refine h_lc (fun i acc => ∃ rs : List LX.Mo, acc = rs.map LX.Mo.d ∧ ∀ m ∈ rs, m.z ∈ ls ∧ (0 ≤ m.g ∧ m.g ≤ (ks.length : Int)) ∧ m.sp) H (by rw [List.length_map]; have := ok.len; omega) ⟨[], rfl, by simp⟩ (fun M' H => H.get (by walk_at "m")) (fun R i' d acc v M hd hI H kR => ?_) (fun v acc M hl hI H => ?_)
    · obtain ⟨rs, rfl, hrs⟩ := hI
      rw [List.getElem?_map] at hd
      obtain ⟨m, hm, rfl⟩ := Option.map_eq_some_iff.mp hd
      have hmm := List.mem_of_getElem? hm
      obtain ⟨mz, mg, sp⟩ := ok.mv m hmm
      have mw : m.g ∈ ws := by
        rw [hws]
        exact .step ((hws _).mp aw) ((hE _).mpr (List.mem_map.mpr ⟨m, hmm, rfl⟩))
      have mk : Sum.inl m.g ∈ nvs.map (·.1) := by
        refine hkeys _ ?_
        by_cases c : m.g = xs.length
        · exact .inl c
        · exact .inr ⟨m.g.toNat, (hks _).mpr ⟨by omega, by rw [show ((m.g.toNat : Nat) : Int) = m.g by omega]; exact mw⟩, by omega⟩
      have mk : (valD nvs (Sum.inl m.g)).isSome = true := by rw [valD_mem]; simp only [decide_eq_true_eq]; exact mk
      obtain ⟨dv, ev, v0, rfl, v1, v2⟩ := key_val (T := fun d => ∃ v : Int, d = .int v ∧ 0 ≤ v ∧ v ≤ ks.length) mk hv
      refine ⟨_, rfl, ?_⟩
      rw [mo_d]
      walk_at "e"
      refine h_ixd H (by walk_at "m") rfl ev ?_
      walk_at "e"
      refine kR _ _ ⟨rs ++ [⟨m.z, m.l, m.h, v0⟩], by rw [List.map_append]; rfl, fun c hc => ?_⟩ H
      rcases List.mem_append.mp hc with hc | hc
      · exact hrs c hc
      · rw [List.mem_singleton.mp hc]; exact ⟨mz, ⟨v1, v2⟩, ⟨sp.l0, sp.lh, sp.h1⟩⟩
    obtain ⟨rs, rfl, hrs⟩ := hI
    rw [List.length_map, List.length_map] at hl
    walk_at "e"
    walk_at "s"
    refine h_sorted H List.mem_cons_self (.inr (.inr ⟨.str, [.int, .int, .int], fun d hd => ?_⟩)) fun ys y M hys _ H => ?_
    · obtain ⟨m, _, rfl⟩ := List.mem_map.mp hd
      exact ⟨_, rfl, .cons ⟨_, rfl⟩ (.cons ⟨_, rfl⟩ (.cons ⟨_, rfl⟩ (.cons ⟨_, rfl⟩ .nil)))⟩
    obtain ⟨rs', p1, rfl⟩ := perm_map_inv hys rs rfl
    walk_at "e"
    have H : Held M Js ((f, .lst (nds.map ndD)) :: (u, .lst (ks.map fun a : Nat => .int (a : Int))) :: (nm, .dk nvs) :: L) := H.tail.tail
    refine h_app H (by rw [List.length_map]; omega) fun M H => ?_
    refine hN _ _ ⟨nds ++ [⟨x.s, x.t, rs'⟩], _, _, _, _, _, _, rfl, by rw [List.length_append, ndl]; rfl, fun z hz => ?_, by rw [List.map_append]; exact H⟩
    rcases List.mem_append.mp hz with hz | hz
    · exact hnd z hz
    · rw [List.mem_singleton.mp hz]
      refine ⟨ok.s, ok.t, fun e => ok.ne ?_, by show rs'.length ≤ _; rw [p1.length_eq, hl]; exact ok.len, fun m hm => hrs m (p1.mem_iff.mp hm)⟩
      have e : rs' = [] := e
      rw [e] at p1
      have := p1.length_eq
      exact List.eq_nil_of_length_eq_zero (by rw [← hl, ← this]; rfl)
  · obtain ⟨nds, w4, w8, w9, w10, w11, w12, rfl, ndl, hnd, H⟩ := hI
    rw [kl] at ndl
    refine ⟨H.get (by walk_at "m"), ?_⟩
    walk_at "e"
    walk_at "s"
    refine h_app H (by rw [List.length_map]; omega) fun M H => ?_
    walk_at "s"
    exact k nds _ (by omega) (fun x hx => by rw [ndl]; exact hnd x hx) H.tail.tail.tail
end K11
/-! K11y: the webs that are drawn. -/
namespace K11
open PySem DL L2 K01 GR K22
-- where it stands in the row of things held
local macro_rules | `(tactic| walk_at "m") => `(tactic| first
  | assumption
  | exact List.mem_cons_self
  | (refine List.mem_cons_of_mem _ ?_; walk_at "m"))
-- what the heap holds at a place
local macro_rules | `(tactic| walk_at "h") => `(tactic| first
  | assumption
  | exact mup_same
  | exact Held.get (by assumption) (by walk_at "m")
  | (refine (mup_ne ?_).trans ?_ <;> first | assumption | (apply Ne.symm; assumption) | walk_at "h"))
-- small facts of numbers
local macro_rules | `(tactic| walk_at "n") => `(tactic| first
  | assumption
  | omega
  | decide
  | (exact CMul.r (by decide))
  | (exact CMul.l (by decide))
  | (refine ⟨?_, ?_⟩ <;> first | assumption | omega | decide))
-- lengths
local macro_rules | `(tactic| walk_at "l") => `(tactic| first
  | assumption
  | (rw [sizeLine_eq]; first | omega | decide | (simp; done) | (simp; omega) | decide +kernel))
-- one step
local macro_rules | `(tactic| walk_at "e1") => `(tactic| first
  | with_reducible refine t_nil ?_
  | ((with_reducible refine' t_var ?s ?_); (case s => first | exact rfl | assumption))
  | with_reducible refine t_c ?_
  | with_reducible refine t_bin ?_
  | with_reducible refine t_if ?_
  | with_reducible refine t_asg ?_
  | ((with_reducible refine' t_gN' ?e ?_); (case e => ((try simp only [List.set_cons_zero, List.set_cons_succ, startD, List.map_cons, List.map_nil, List.length_cons, List.length_nil, Nat.reduceAdd, Nat.reduceSub, List.replicate, List.cons_append, List.nil_append]); exact rfl)))
  | with_reducible refine t_ret ?_
  | with_reducible refine t_exp ?_
  | with_reducible refine t_bcmp ?_
  | with_reducible refine t_band ?_
  | with_reducible refine t_bor ?_
  | with_reducible refine t_bnot ?_
  | with_reducible refine t_btru ?_
  | with_reducible refine t_byes ?_
  | with_reducible refine t_an ?_
  | with_reducible refine t_ac ?_
  | with_reducible refine t_fn ?_
  | with_reducible refine t_call ?_
  | with_reducible refine t_cmp ?_
  | with_reducible refine t_and ?_
  | with_reducible refine t_or ?_
  | with_reducible refine t_not ?_
  | with_reducible refine t_ife ?_
  | with_reducible refine t_tupN ?_
  | ((with_reducible refine v_newT ?l ?_); (case l => exact Nat.le_of_ble_eq_true rfl))
  | with_reducible refine t_lstN ?_
  | with_reducible refine t_isi ?_
  | with_reducible refine t_sl ?_
  | with_reducible refine t_o0 ?_
  | with_reducible refine t_o1 ?_
  | with_reducible refine t_un ?_
  | with_reducible refine t_mt ?_
  | with_reducible refine t_gS ?_
  | with_reducible refine t_gsC ?_
  | with_reducible refine t_gsN ?_
  | ((with_reducible refine t_gT ?s ?_); (case s => first | assumption | exact rfl))
  | with_reducible refine t_retN ?_
  | with_reducible refine t_brk ?_
  | with_reducible refine t_cnt ?_
  | ((with_reducible refine' t_aug ?s ?_); (case s => first | exact rfl | assumption))
  | with_reducible refine t_for ?_
  | with_reducible refine t_seqi ?_
  | with_reducible refine t_rg1 ?_
  | with_reducible refine t_rg2 ?_
  | with_reducible refine t_lc ?_
  | with_reducible refine v_tru_bl ?_
  | with_reducible refine v_tru_int ?_
  | with_reducible refine v_tru_non ?_
  | with_reducible refine v_tru_tup ?_
  | with_reducible refine v_add_int ?_
  | ((with_reducible refine v_add_str ?l ?_); (case l => walk_at "l"))
  | ((with_reducible refine v_add_tup ?l ?_); (case l => walk_at "l"))
  | with_reducible refine v_iadd_int ?_
  | with_reducible refine v_sub ?_
  | ((with_reducible refine v_mul ?c ?_); (case c => walk_at "n"))
  | ((with_reducible refine v_div ?c ?_); (case c => walk_at "n"))
  | ((with_reducible refine v_mod ?c ?_); (case c => walk_at "n"))
  | ((with_reducible refine v_pow ?c ?_); (case c => exact ⟨by decide, by decide, by decide⟩))
  | with_reducible refine v_neg ?_
  | with_reducible exact trivial
  | with_reducible refine v_eq_int ?_
  | with_reducible refine v_eq_str ?_
  | with_reducible refine v_eq_bl ?_
  | with_reducible refine v_ne_int ?_
  | with_reducible refine v_ne_str ?_
  | with_reducible refine v_ne_bl ?_
  | with_reducible refine v_lt ?_
  | with_reducible refine v_lt_str ?_
  | with_reducible refine t_ks ?_
  | with_reducible refine t_rv ?_
  | with_reducible refine v_seq_ktp ?_
  | with_reducible refine v_le ?_
  | with_reducible refine v_gt ?_
  | with_reducible refine v_ge ?_
  | with_reducible refine v_isi_non ?_
  | with_reducible refine v_isi_bl ?_
  | with_reducible refine v_isi_int ?_
  | with_reducible refine v_isi_str ?_
  | with_reducible refine v_isi_tup ?_
  | with_reducible refine v_in_str ?_
  | with_reducible refine v_nin_str ?_
  | with_reducible refine v_len_tup ?_
  | with_reducible refine v_len_rol ?_
  | ((with_reducible refine v_len_str ?l ?_); (case l => walk_at "l"))
  | ((with_reducible refine' v_len_ref ?e ?_); (case e => walk_at "h"))
  | with_reducible refine v_int_int ?_
  | with_reducible refine v_int_bl ?_
  | with_reducible refine v_max ?_
  | with_reducible refine v_min ?_
  | with_reducible refine v_tuple_tup ?_
  | ((with_reducible refine' v_tuple_ref ?e ?_); (case e => walk_at "h"))
  | ((with_reducible refine' v_ix_ref ?e ?f ?_); (case e => walk_at "h"); (case f => first | assumption | exact rfl))
  | ((with_reducible refine' v_ix_tup ?f ?_); (case f => first | assumption | exact rfl))
  | ((with_reducible refine v_sl_str ?l ?_); (case l => walk_at "l"))
  | with_reducible refine v_sl_tup ?_
  | with_reducible refine v_seq_tup ?_
  | with_reducible refine v_seq_str ?_
  | with_reducible refine v_seq_rol ?_
  | ((with_reducible refine' v_seq_ref ?e ?_); (case e => walk_at "h"))
  | ((with_reducible refine' ⟨v_ty_ref ?e, ?_⟩); (case e => walk_at "h")))
local macro_rules | `(tactic| walk_at "d1") => `(tactic| first | with_reducible refine t_seq ?_ | walk_at "e1")
local macro_rules | `(tactic| walk_at "d") => `(tactic| repeat walk_at "d1")
-- one statement
local macro_rules | `(tactic| walk_at "e") => `(tactic| ((repeat walk_at "e1"); try (with_reducible show sSeq _ _ _ _ _)))
local macro_rules | `(tactic| walk_at "s") => `(tactic| ((with_reducible refine t_seq ?_); walk_at "e"))
-- a drawn thing's small facts
local macro_rules | `(tactic| walk_at "gi") => `(tactic| first
  | exact gi_c trivial
  | exact gi_c ⟨_, rfl, by decide, by decide⟩
  | exact gi_c (show _ ≤ _ by decide)
  | exact gi_c (show _ ≤ _ by decide +kernel)
  | exact gi_v rfl trivial)
local macro_rules | `(tactic| walk_at "ga") => `(tactic| ((repeat (first | exact ga_nil | refine ga_cons2 ?_ ?_)); all_goals (try walk_at "gi")))
/-- a drawn web -/
structure WOk (zs : List Str) (nds : List Nd) : Prop where
  z0 : 2 ≤ zs.length
  z1 : zs.length ≤ 5
  z : ∀ z ∈ zs, z.length ≤ 40
  n : nds.length ≤ 90
  nd : ∀ x ∈ nds, x.s ∈ zs ∧ x.r ∈ zs ∧ x.ms ≠ [] ∧ x.ms.length ≤ 90 ∧ ∀ m ∈ x.ms, m.z.length ≤ 40 ∧ (0 ≤ m.g ∧ m.g ≤ nds.length) ∧ m.sp
theorem WOk.of {zs ls : List Str} {nds : List Nd} {k : Nat} (z0 : 2 ≤ zs.length) (z1 : zs.length ≤ 5) (hz : ∀ z ∈ zs, z.length ≤ 40) (hl : ∀ z ∈ ls, z.length ≤ 40) (n : nds.length ≤ 90) (hk : k ≤ 90) (h : ∀ x ∈ nds, x.ok zs ls nds.length k) : WOk zs nds :=
  ⟨z0, z1, hz, n, fun x hx => ⟨(h x hx).s, (h x hx).r, (h x hx).ne, Nat.le_trans (h x hx).len hk, fun m hm => ⟨hl _ ((h x hx).mv m hm).1, ((h x hx).mv m hm).2⟩⟩⟩
def WebQ (Js : List Addr) (L : List (Addr × MO)) (P : PQ) : Prop := ∀ zs nds M', WOk zs nds → Held M' Js L → P (WebD zs nds) M'
def sp_wild_web : DSp := fun ds M P => ∃ (Js : List Addr) (L : List (Addr × MO)) (j i : Addr) (n : Int), ds = [.ref j, .ref i, .int n] ∧ Held M Js L ∧ j ∈ Js ∧ i ∈ Js ∧ 2 ≤ n ∧ n ≤ 5 ∧ WebQ Js L P
theorem ok_wild_web (ds : List D) (M : Mh) (P : PQ) (h : sp_wild_web ds M P) : b__law_wild_web sp_kept_web sp_mend_ends sp_wild_nodes sp_pick LX.sp_names { nx := fun _ M' => P .non M', rt := P } (startD 7 ds) M := by
  obtain ⟨Js, L, j, i, n, rfl, H, hj, hi, n0, n1, k⟩ := h
  unfold b__law_wild_web
  walk_at "s"
  refine LX.h_names H hi (by omega) (by omega) fun na zs M zl hz _ H => ?_
  walk_at "e"
  walk_at "s"
  refine h_pick H hj (by omega) fun a M a0 a1 H => ?_
  walk_at "e"
  refine LX.h_names H hi (by omega) (by omega) fun la ls M ll hl _ H => ?_
  walk_at "e"
  walk_at "s"
  refine h_new H (Nat.le_of_ble_eq_true rfl) fun u M H => ?_
  walk_at "e"
  have q0 : (0 : Int) ≤ (if (n == 2) = true then 1 else 0) ∧ (if (n == 2) = true then (1 : Int) else 0) ≤ 1 := by split <;> omega
  generalize (if (n == 2) = true then (1 : Int) else 0) = c at q0
  refine h_pick H hj (by omega) fun b M b0 b1 H => ?_
  refine h_ixm (zs := [0, 1, 2, 3, 4, 5, 6, 8, 20, 60]) (f := D.int) H List.mem_cons_self b0 (by simp; omega) fun cc hcc _ => ?_
  obtain ⟨ct, rfl, ct1⟩ : ∃ ct : Nat, cc = (ct : Int) ∧ ct ≤ 60 := ⟨cc.toNat, by simp at hcc; omega, by simp at hcc; omega⟩
  have H := H.tail
  walk_at "e"
  walk_at "s"
  refine ⟨rfl, Js, _, j, na, la, zs, ls, ct, rfl, H, hj, List.mem_cons_of_mem _ List.mem_cons_self, List.mem_cons_self, by omega, by omega, by omega, by omega, by omega, fun p xs M xl hx H => ?_⟩
  walk_at "e"
  walk_at "s"
  have pl : (xs.map WN.d).length = xs.length := List.length_map ..
  rw [pl]
  refine ⟨rfl, Js, _, p, zs, ls, xs, 10, _, rfl, H, by omega, by rw [xl]; exact hx, by omega, by omega, fun xs M xl' xd hx H => ?_⟩
  walk_at "e"
  walk_at "s"
  refine ⟨rfl, Js, _, na, p, zs, ls, xs, 10, rfl, H, List.mem_cons_of_mem _ (List.mem_append_right _ (List.mem_cons_of_mem _ List.mem_cons_self)), List.mem_cons_self, fun e he => List.mem_cons_of_mem _ (List.mem_append_left _ he), by omega, by omega, by rw [xl']; exact hx, fun nds M nl hn H => ?_⟩
  refine k zs nds _ (.of (by omega) (by omega) hz hl (by omega) (by omega) hn) (H.sub ?_)
  exact .cons _ ((List.Sublist.cons _ (.cons _ (List.Sublist.refl _))).trans (List.sublist_append_right _ _))
def sp_hub_web : DSp := fun ds M P => ∃ (Js : List Addr) (L : List (Addr × MO)) (j i : Addr) (n : Int), ds = [.ref j, .ref i, .int n] ∧ Held M Js L ∧ j ∈ Js ∧ i ∈ Js ∧ 2 ≤ n ∧ n ≤ 5 ∧ WebQ Js L P
theorem ok_hub_web (ds : List D) (M : Mh) (P : PQ) (h : sp_hub_web ds M P) : b__law_hub_web sp_kept_web sp_mend_ends LX.sp_name sp_pick sp_split_moves LX.sp_moves LX.sp_names { nx := fun _ M' => P .non M', rt := P } (startD 14 ds) M := by
  obtain ⟨Js, L, j, i, n, rfl, H, hj, hi, n0, n1, k⟩ := h
  unfold b__law_hub_web
  walk_at "s"
  refine LX.h_names H hi (by omega) (by omega) fun na zs M zl hz _ H => ?_
  walk_at "e"
  walk_at "s"
  refine h_pick H hj (by omega) fun a M a0 a1 H => ?_
  walk_at "e"
  refine LX.h_names H hi (by omega) (by omega) fun la ls M ll hl _ H => ?_
  walk_at "e"
  walk_at "s"
  refine h_pick H hj (by omega) fun c M c0 c1 H => ?_
  obtain ⟨ct, rfl⟩ := Int.eq_ofNat_of_zero_le c0
  walk_at "e"
  walk_at "s"
  refine h_new H (Nat.le_of_ble_eq_true rfl) fun p M H => ?_
  walk_at "e"
  have zpl : (zs.map D.str).length = zs.length := List.length_map ..
  obtain ⟨z0s, hz0, _, ez0⟩ := atI_map' (zs := zs) (f := D.str) (k := 0) (by omega) (by omega)
  have many : ∃ N : Nat, N = 2 + ct + (zs.length - 1) := ⟨_, rfl⟩
  obtain ⟨N, hN⟩ := many
  -- the hub's nodes
  refine t_cut (fun ρ M => ∃ (xs : List WN) (w7 w8 w9 w10 w11 : Option D), ρ = [some (.ref j), some (.ref i), some (.int n), some (.ref na), some (.ref la), some (.int (2 + (ct : Int))), some (.ref p), w7, w8, w9, w10, w11, none, none] ∧ xs.length = 2 + ct ∧ (∀ x ∈ xs, x.ok zs ls N 10) ∧ Held M Js ((p, .lst (xs.map WN.d)) :: (WNs xs ++ ((la, .lst (ls.map D.str)) :: (na, .lst (zs.map D.str)) :: L)))) (fun N0 hN0 => ?_) ?_
  · walk_at "e"
    refine ⟨by omega, ?_⟩
    refine for_each (fun i' ρ M => ∃ (xs : List WN) (w7 w8 w9 w10 w11 : Option D), ρ = [some (.ref j), some (.ref i), some (.int n), some (.ref na), some (.ref la), some (.int (2 + (ct : Int))), some (.ref p), w7, w8, w9, w10, w11, none, none] ∧ xs.length = i' ∧ (∀ x ∈ xs, x.ok zs ls N 10) ∧ Held M Js ((p, .lst (xs.map WN.d)) :: (WNs xs ++ ((la, .lst (ls.map D.str)) :: (na, .lst (zs.map D.str)) :: L))))
      ⟨[], _, _, _, _, _, rfl, rfl, by simp, H⟩ (fun N1 i' d ρ M hd hI hN1 => ?_) (fun ρ M hI => ?_)
    · obtain ⟨xs, w7, w8, w9, w10, w11, rfl, xl, hx, H⟩ := hI
      obtain ⟨rfl, hi'⟩ := LX.rget hd
      generalize hX : WNs xs ++ ((la, MO.lst (ls.map D.str)) :: (na, MO.lst (zs.map D.str)) :: L) = LL at H
      have mla : (la, MO.lst (ls.map D.str)) ∈ LL := by rw [← hX]; simp
      have mna : (na, MO.lst (zs.map D.str)) ∈ LL := by rw [← hX]; simp
      refine ⟨trivial, ?_⟩
      walk_at "e"
      walk_at "s"
      refine h_pick H hj (by omega) fun b M b0 b1 H => ?_
      obtain ⟨hs, hhs, _, ehs⟩ := atI_map' (zs := zs) (f := D.str) (k := 1 + b) (by omega) (by omega)
      walk_at "e"
      walk_at "s"
      refine h_pick H hj (by omega) fun g1 M g10 g11 H => ?_
      walk_at "e"
      refine h_pick H hj (by omega) fun g2 M g20 g21 H => ?_
      walk_at "e"
      refine h_new H (Nat.le_of_ble_eq_true rfl) fun gl M H => ?_
      have gok : ∀ g ∈ [0 + (i' : Int) + 1, g1, g2], 0 ≤ g ∧ g ≤ (N : Int) := by simp; omega
      have H : Held M Js ((gl, .lst ([0 + (i' : Int) + 1, g1, g2].map D.int)) :: (p, .lst (xs.map WN.d)) :: LL) := H
      walk_at "e"
      walk_at "s"
      refine h_pick H hj (by omega) fun c M c0 c1 H => ?_
      obtain ⟨cn, rfl⟩ := Int.eq_ofNat_of_zero_le c0
      walk_at "e"
      rw [show (1 : Int) + (cn : Int) = ((1 + cn : Nat) : Int) by omega]
      refine LX.h_moves (zs := ls) (gs := [0 + (i' : Int) + 1, g1, g2]) H hj (List.mem_cons_of_mem _ (List.mem_cons_of_mem _ mla)) List.mem_cons_self (by omega) (by omega) (by simp) (by simp) (by omega) fun mp ms M ml hm H => ?_
      walk_at "e"
      walk_at "s"
      refine h_pick H hj (by omega) fun e M e0 e1 H => ?_
      walk_at "e"
      refine ⟨by omega, ?_⟩
      refine for_each (fun i2 ρ M => ∃ (mp : Addr) (ms : List LX.Mo) (w11 : Option D), ρ = [some (.ref j), some (.ref i), some (.int n), some (.ref na), some (.ref la), some (.int (2 + (ct : Int))), some (.ref p), some (.int (0 + (i' : Int))), some (.str hs), some (.ref gl), some (.ref mp), w11, none, none] ∧ ms ≠ [] ∧ ms.length ≤ 3 + i2 ∧ (∀ m ∈ ms, MvOk ls [0 + (i' : Int) + 1, g1, g2] m) ∧ Held M Js ((mp, .lst (ms.map LX.Mo.d)) :: (gl, .lst ([0 + (i' : Int) + 1, g1, g2].map D.int)) :: (p, .lst (xs.map WN.d)) :: LL))
        ⟨mp, ms, _, rfl, fun z => by rw [z] at ml; simp at ml; omega, by omega, hm, H⟩ (fun N2 i2 d ρ M hd hI hN2 => ?_) (fun ρ M hI => ?_)
      · obtain ⟨mp, ms, w11, rfl, ne, ml, hm, H⟩ := hI
        obtain ⟨rfl, hi2⟩ := LX.rget hd
        refine ⟨trivial, ?_⟩
        walk_at "e"
        walk_at "s"
        refine h_split H hj List.mem_cons_self ne (by omega) (by simp) hm fun q ms' M ne' ml' hm' H => ?_
        walk_at "e"
        exact hN2 _ _ ⟨q, ms', _, rfl, ne', by omega, hm', H⟩
      · obtain ⟨mp, ms, w11, rfl, ne, ml, hm, H⟩ := hI
        rw [LX.rlen] at ml
        refine ⟨trivial, ?_⟩
        walk_at "e"
        walk_at "s"
        refine h_new H (Nat.le_of_ble_eq_true rfl) fun r M H => ?_
        walk_at "e"
        refine h_appI 3 H rfl (by rw [List.length_map]; omega) fun M H => ?_
        walk_at "e"
        refine hN1 _ _ ⟨xs ++ [⟨r, mp, z0s, hs, ms⟩], _, _, _, _, _, rfl, by rw [List.length_append, xl]; rfl, fun x hx' => ?_, nodes_snoc ?_⟩
        · rcases List.mem_append.mp hx' with hx' | hx'
          · exact hx x hx'
          · rw [List.mem_singleton.mp hx']
            exact ⟨hz0, hhs, ne, by show ms.length ≤ 10; omega, fun m h => goal_in (zs := zs) gok (hm m h)⟩
        · rw [hX]
          have H : Held M Js ((r, .lst [.str z0s, .str hs, .ref mp]) :: (mp, .lst (ms.map LX.Mo.d)) :: (gl, .lst ([0 + (i' : Int) + 1, g1, g2].map D.int)) :: (p, .lst (xs.map WN.d ++ [.ref r])) :: LL) := H
          exact H.fourth.sub (.cons₂ _ (.cons₂ _ (.cons₂ _ (.cons _ (List.Sublist.refl _)))))
    · obtain ⟨xs, w7, w8, w9, w10, w11, rfl, xl, hx, H⟩ := hI
      rw [LX.rlen] at xl
      exact ⟨trivial, hN0 _ _ ⟨xs, _, _, _, _, _, rfl, by omega, hx, H⟩⟩
  rintro ρ M ⟨xs, w7, w8, w9, w10, w11, rfl, xl, hx, H⟩
  walk_at "s"
  refine LX.h_name H hi (by omega) (by omega) fun pz M pzl _ H => ?_
  walk_at "e"
  -- the partings
  refine t_cut (fun ρ M => ∃ (ys : List WN) (w13 : Option D), ρ = [some (.ref j), some (.ref i), some (.int n), some (.ref na), some (.ref la), some (.int (2 + (ct : Int))), some (.ref p), w7, w8, w9, w10, w11, some (.str pz), w13] ∧ ys.length = N ∧ (∀ x ∈ ys, x.ok zs (pz :: ls) N 10) ∧ Held M Js ((p, .lst (ys.map WN.d)) :: (WNs ys ++ ((la, .lst (ls.map D.str)) :: (na, .lst (zs.map D.str)) :: L)))) (fun N0 hN0 => ?_) ?_
  · have mna : (na, MO.lst (zs.map D.str)) ∈ (p, MO.lst (xs.map WN.d)) :: (WNs xs ++ ((la, MO.lst (ls.map D.str)) :: (na, MO.lst (zs.map D.str)) :: L)) := by simp
    walk_at "e"
    refine h_sl H mna fun s M H => ?_
    rw [show (1 : Int) = ((1 : Nat) : Int) by omega, cut_drop] at H
    walk_at "e"
    refine for_each (fun i' ρ M => ∃ (ys : List WN) (w13 : Option D), ρ = [some (.ref j), some (.ref i), some (.int n), some (.ref na), some (.ref la), some (.int (2 + (ct : Int))), some (.ref p), w7, w8, w9, w10, w11, some (.str pz), w13] ∧ ys.length = 2 + ct + i' ∧ (∀ x ∈ ys, x.ok zs (pz :: ls) N 10) ∧ Held M Js ((s, .lst ((zs.map D.str).drop 1)) :: (p, .lst (ys.map WN.d)) :: (WNs ys ++ ((la, .lst (ls.map D.str)) :: (na, .lst (zs.map D.str)) :: L))))
      ⟨xs, _, rfl, xl, fun x h => ⟨(hx x h).s, (hx x h).t, (hx x h).ne, (hx x h).len, fun m hm => ⟨List.mem_cons_of_mem _ ((hx x h).mv m hm).1, ((hx x h).mv m hm).2⟩⟩, H⟩ (fun N1 i' d ρ M hd hI hN1 => ?_) (fun ρ M hI => ?_)
    · obtain ⟨ys, w13, rfl, yl, hy, H⟩ := hI
      have il := (List.getElem?_eq_some_iff.mp hd).1
      rw [List.length_drop, zpl] at il
      rw [List.getElem?_drop, List.getElem?_map] at hd
      obtain ⟨z, hzz, rfl⟩ := Option.map_eq_some_iff.mp hd
      have hzz := List.mem_of_getElem? hzz
      refine ⟨H.get List.mem_cons_self, ?_⟩
      have ypl : (ys.map WN.d).length = ys.length := List.length_map ..
      have mna : (na, MO.lst (zs.map D.str)) ∈ (s, MO.lst ((zs.map D.str).drop 1)) :: (p, MO.lst (ys.map WN.d)) :: (WNs ys ++ ((la, MO.lst (ls.map D.str)) :: (na, MO.lst (zs.map D.str)) :: L)) := by simp
      walk_at "e"
      walk_at "s"
      rw [ypl]
      refine h_new H (Nat.le_of_ble_eq_true rfl) fun mp M H => ?_
      walk_at "e"
      refine h_new H (Nat.le_of_ble_eq_true rfl) fun r M H => ?_
      walk_at "e"
      refine h_appI 3 H rfl (by omega) fun M H => ?_
      walk_at "e"
      have H : Held M Js ((r, .lst [.str z0s, .str z, .ref mp]) :: (mp, .lst ([(⟨pz, 0, 0, (ys.length : Int) + 1⟩ : LX.Mo)].map LX.Mo.d)) :: (s, .lst ((zs.map D.str).drop 1)) :: (p, .lst (ys.map WN.d ++ [.ref r])) :: (WNs ys ++ ((la, .lst (ls.map D.str)) :: (na, .lst (zs.map D.str)) :: L))) := H
      have H := H.fourth
      have H : Held M Js ((s, .lst ((zs.map D.str).drop 1)) :: (p, .lst (ys.map WN.d ++ [.ref r])) :: (r, .lst [.str z0s, .str z, .ref mp]) :: (mp, .lst ([(⟨pz, 0, 0, (ys.length : Int) + 1⟩ : LX.Mo)].map LX.Mo.d)) :: (WNs ys ++ ((la, .lst (ls.map D.str)) :: (na, .lst (zs.map D.str)) :: L))) := H.fourth
      refine hN1 _ _ ⟨ys ++ [⟨r, mp, z0s, z, [⟨pz, 0, 0, (ys.length : Int) + 1⟩]⟩], _, rfl, by rw [List.length_append, yl]; rfl, fun x hx' => ?_, ?_⟩
      · rcases List.mem_append.mp hx' with hx' | hx'
        · exact hy x hx'
        · rw [List.mem_singleton.mp hx']
          refine ⟨hz0, hzz, by simp, by simp, fun m hm => ?_⟩
          rw [List.mem_singleton.mp hm]
          exact ⟨List.mem_cons_self, ⟨by show (0 : Int) ≤ ys.length + 1; omega, by show (ys.length : Int) + 1 ≤ N; omega⟩, ⟨Int.le_refl _, Int.le_refl _, by show (0 : Int) ≤ 999999; omega⟩⟩
      · refine H.perm (.cons _ ?_)
        rw [WNs_snoc, List.map_append]
        refine .cons _ ?_
        rw [List.append_assoc]
        exact List.perm_append_comm_assoc (WN.e ⟨r, mp, z0s, z, [⟨pz, 0, 0, (ys.length : Int) + 1⟩]⟩) _ _
    · obtain ⟨ys, w13, rfl, yl, hy, H⟩ := hI
      rw [List.length_drop, zpl] at yl
      exact ⟨H.get List.mem_cons_self, hN0 _ _ ⟨ys, _, rfl, by omega, hy, H.tail⟩⟩
  rintro ρ M ⟨ys, w13, rfl, yl, hy, H⟩
  walk_at "s"
  refine ⟨rfl, Js, _, p, zs, pz :: ls, ys, 10, _, rfl, H, by omega, by rw [yl]; exact hy, by omega, by omega, fun ys M yl' yd hy H => ?_⟩
  walk_at "e"
  walk_at "s"
  refine ⟨rfl, Js, _, na, p, zs, pz :: ls, ys, 10, rfl, H, by simp, List.mem_cons_self, fun e he => List.mem_cons_of_mem _ (List.mem_append_left _ he), by omega, by omega, by rw [yl']; exact hy, fun nds M nl hn H => ?_⟩
  refine k zs nds _ (.of (by omega) (by omega) hz (fun z h => ?_) (by omega) (by omega) hn) (H.sub ?_)
  · rcases List.mem_cons.mp h with rfl | h
    · exact pzl
    · exact hl z h
  · exact .cons _ ((List.Sublist.cons _ (.cons _ (List.Sublist.refl _))).trans (List.sublist_append_right _ _))
def sp_row_web : DSp := fun ds M P => ∃ (Js : List Addr) (L : List (Addr × MO)) (i : Addr) (n : Nat), ds = [.ref i, .int n] ∧ Held M Js L ∧ i ∈ Js ∧ n ≤ 62 ∧ WebQ Js L P
theorem ok_row_web (ds : List D) (M : Mh) (P : PQ) (h : sp_row_web ds M P) : b__law_row_web sp_kept_web LX.sp_name LX.sp_names { nx := fun _ M' => P .non M', rt := P } (startD 6 ds) M := by
  obtain ⟨Js, L, i, n, rfl, H, hi, n1, k⟩ := h
  unfold b__law_row_web
  walk_at "s"
  refine LX.h_names H hi (by omega) (by omega) fun na zs M zl hz _ H => ?_
  walk_at "e"
  walk_at "s"
  refine LX.h_name H hi (by omega) (by omega) fun pz M pzl _ H => ?_
  walk_at "e"
  walk_at "s"
  refine h_new H (Nat.le_of_ble_eq_true rfl) fun p M H => ?_
  walk_at "e"
  walk_at "s"
  refine ⟨by omega, ?_⟩
  have zl : zs.length = 2 := zl
  refine for_each (fun i' ρ M => ∃ (xs : List WN) (w5 : Option D), ρ = [some (.ref i), some (.int n), some (.ref na), some (.str pz), some (.ref p), w5] ∧ xs.length = i' ∧ (∀ x ∈ xs, x.ok zs [pz] n 1) ∧ Held M Js ((p, .lst (xs.map WN.d)) :: (WNs xs ++ ((na, .lst (zs.map D.str)) :: L))))
    ⟨[], _, rfl, rfl, by simp, H⟩ (fun N1 i' d ρ M hd hI hN1 => ?_) (fun ρ M hI => ?_)
  · obtain ⟨xs, w5, rfl, xl, hx, H⟩ := hI
    obtain ⟨rfl, hi'⟩ := LX.rget hd
    have mna : (na, MO.lst (zs.map D.str)) ∈ (p, MO.lst (xs.map WN.d)) :: (WNs xs ++ ((na, MO.lst (zs.map D.str)) :: L)) := by simp
    obtain ⟨z0s, hz0, _, ez0⟩ := atI_map' (zs := zs) (f := D.str) (k := (0 + (i' : Int)) % 2) (by omega) (by omega)
    obtain ⟨z1s, hz1, _, ez1⟩ := atI_map' (zs := zs) (f := D.str) (k := 1 - (0 + (i' : Int)) % 2) (by omega) (by omega)
    refine ⟨trivial, ?_⟩
    walk_at "e"
    walk_at "s"
    refine h_new H (Nat.le_of_ble_eq_true rfl) fun mp M H => ?_
    walk_at "e"
    refine h_new H (Nat.le_of_ble_eq_true rfl) fun r M H => ?_
    walk_at "e"
    refine h_appI 2 H rfl (by rw [List.length_map]; omega) fun M H => ?_
    walk_at "e"
    have H : Held M Js ((r, .lst [.str z0s, .str z1s, .ref mp]) :: (mp, .lst ([(⟨pz, 0 + (i' : Int), 0 + (i' : Int), 0 + (i' : Int) + 1⟩ : LX.Mo)].map LX.Mo.d)) :: (p, .lst (xs.map WN.d ++ [.ref r])) :: (WNs xs ++ ((na, .lst (zs.map D.str)) :: L))) := H
    refine hN1 _ _ ⟨xs ++ [⟨r, mp, z0s, z1s, [⟨pz, 0 + (i' : Int), 0 + (i' : Int), 0 + (i' : Int) + 1⟩]⟩], _, rfl, by rw [List.length_append, xl]; rfl, fun x hx' => ?_, nodes_snoc ?_⟩
    rotate_left
    · exact H.third
    rcases List.mem_append.mp hx' with hx' | hx'
    · exact hx x hx'
    · rw [List.mem_singleton.mp hx']
      refine ⟨hz0, hz1, by simp, by simp, fun m hm => ?_⟩
      rw [List.mem_singleton.mp hm]
      exact ⟨List.mem_cons_self, ⟨by show (0 : Int) ≤ 0 + (i' : Int) + 1; omega, by show 0 + (i' : Int) + 1 ≤ n; omega⟩, ⟨by show (0 : Int) ≤ 0 + (i' : Int); omega, Int.le_refl _, by show 0 + (i' : Int) ≤ 999999; omega⟩⟩
  · obtain ⟨xs, w5, rfl, xl, hx, H⟩ := hI
    rw [LX.rlen, Int.toNat_natCast] at xl
    refine ⟨trivial, ?_⟩
    walk_at "e"
    walk_at "s"
    refine ⟨rfl, Js, _, na, p, zs, [pz], xs, 1, rfl, H, by simp, List.mem_cons_self, fun e he => List.mem_cons_of_mem _ (List.mem_append_left _ he), by omega, by omega, by rw [xl]; exact hx, fun nds M nl hn H => ?_⟩
    refine k zs nds _ (.of (by omega) (by omega) hz (by simpa using pzl) (by omega) (by omega) hn) (H.sub ?_)
    exact .cons _ ((List.Sublist.cons _ (List.Sublist.refl _)).trans (List.sublist_append_right _ _))
end K11
/-! K11B: webs bent. -/
namespace K11
open PySem DL L2 K01 GR K22
-- where it stands in the row of things held
local macro_rules | `(tactic| walk_at "m") => `(tactic| first
  | assumption
  | exact List.mem_cons_self
  | (refine List.mem_cons_of_mem _ ?_; walk_at "m"))
-- what the heap holds at a place
local macro_rules | `(tactic| walk_at "h") => `(tactic| first
  | assumption
  | exact mup_same
  | exact Held.get (by assumption) (by walk_at "m")
  | (refine (mup_ne ?_).trans ?_ <;> first | assumption | (apply Ne.symm; assumption) | walk_at "h"))
-- small facts of numbers
local macro_rules | `(tactic| walk_at "n") => `(tactic| first
  | assumption
  | omega
  | decide
  | (exact CMul.r (by decide))
  | (exact CMul.l (by decide))
  | (refine ⟨?_, ?_⟩ <;> first | assumption | omega | decide))
-- lengths
local macro_rules | `(tactic| walk_at "l") => `(tactic| first
  | assumption
  | (rw [sizeLine_eq]; first | omega | decide | (simp; done) | (simp; omega) | decide +kernel))
-- one step
local macro_rules | `(tactic| walk_at "e1") => `(tactic| first
  | with_reducible refine t_nil ?_
  | ((with_reducible refine' t_var ?s ?_); (case s => first | exact rfl | assumption))
  | with_reducible refine t_c ?_
  | with_reducible refine t_bin ?_
  | with_reducible refine t_if ?_
  | with_reducible refine t_asg ?_
  | ((with_reducible refine' t_gN' ?e ?_); (case e => ((try simp only [List.set_cons_zero, List.set_cons_succ, startD, List.map_cons, List.map_nil, List.length_cons, List.length_nil, Nat.reduceAdd, Nat.reduceSub, List.replicate, List.cons_append, List.nil_append]); exact rfl)))
  | with_reducible refine t_ret ?_
  | with_reducible refine t_exp ?_
  | with_reducible refine t_bcmp ?_
  | with_reducible refine t_band ?_
  | with_reducible refine t_bor ?_
  | with_reducible refine t_bnot ?_
  | with_reducible refine t_btru ?_
  | with_reducible refine t_byes ?_
  | with_reducible refine t_an ?_
  | with_reducible refine t_ac ?_
  | with_reducible refine t_fn ?_
  | with_reducible refine t_call ?_
  | with_reducible refine t_cmp ?_
  | with_reducible refine t_and ?_
  | with_reducible refine t_or ?_
  | with_reducible refine t_not ?_
  | with_reducible refine t_ife ?_
  | with_reducible refine t_tupN ?_
  | ((with_reducible refine v_newT ?l ?_); (case l => exact Nat.le_of_ble_eq_true rfl))
  | with_reducible refine t_lstN ?_
  | with_reducible refine t_isi ?_
  | with_reducible refine t_sl ?_
  | with_reducible refine t_o0 ?_
  | with_reducible refine t_o1 ?_
  | with_reducible refine t_un ?_
  | with_reducible refine t_mt ?_
  | with_reducible refine t_gS ?_
  | with_reducible refine t_gsC ?_
  | with_reducible refine t_gsN ?_
  | ((with_reducible refine t_gT ?s ?_); (case s => first | assumption | exact rfl))
  | with_reducible refine t_retN ?_
  | with_reducible refine t_brk ?_
  | with_reducible refine t_cnt ?_
  | ((with_reducible refine' t_aug ?s ?_); (case s => first | exact rfl | assumption))
  | with_reducible refine t_for ?_
  | with_reducible refine t_seqi ?_
  | with_reducible refine t_rg1 ?_
  | with_reducible refine t_rg2 ?_
  | with_reducible refine t_lc ?_
  | with_reducible refine v_tru_bl ?_
  | with_reducible refine v_tru_int ?_
  | with_reducible refine v_tru_non ?_
  | with_reducible refine v_tru_tup ?_
  | with_reducible refine v_add_int ?_
  | ((with_reducible refine v_add_str ?l ?_); (case l => walk_at "l"))
  | ((with_reducible refine v_add_tup ?l ?_); (case l => walk_at "l"))
  | with_reducible refine v_iadd_int ?_
  | with_reducible refine v_sub ?_
  | ((with_reducible refine v_mul ?c ?_); (case c => walk_at "n"))
  | ((with_reducible refine v_div ?c ?_); (case c => walk_at "n"))
  | ((with_reducible refine v_mod ?c ?_); (case c => walk_at "n"))
  | ((with_reducible refine v_pow ?c ?_); (case c => exact ⟨by decide, by decide, by decide⟩))
  | with_reducible refine v_neg ?_
  | with_reducible exact trivial
  | with_reducible refine v_eq_int ?_
  | with_reducible refine v_eq_str ?_
  | with_reducible refine v_eq_bl ?_
  | with_reducible refine v_ne_int ?_
  | with_reducible refine v_ne_str ?_
  | with_reducible refine v_ne_bl ?_
  | with_reducible refine v_lt ?_
  | with_reducible refine v_lt_str ?_
  | with_reducible refine t_ks ?_
  | with_reducible refine t_rv ?_
  | with_reducible refine v_seq_ktp ?_
  | with_reducible refine v_le ?_
  | with_reducible refine v_gt ?_
  | with_reducible refine v_ge ?_
  | with_reducible refine v_isi_non ?_
  | with_reducible refine v_isi_bl ?_
  | with_reducible refine v_isi_int ?_
  | with_reducible refine v_isi_str ?_
  | with_reducible refine v_isi_tup ?_
  | with_reducible refine v_in_str ?_
  | with_reducible refine v_nin_str ?_
  | with_reducible refine v_len_tup ?_
  | with_reducible refine v_len_rol ?_
  | ((with_reducible refine v_len_str ?l ?_); (case l => walk_at "l"))
  | ((with_reducible refine' v_len_ref ?e ?_); (case e => walk_at "h"))
  | with_reducible refine v_int_int ?_
  | with_reducible refine v_int_bl ?_
  | with_reducible refine v_max ?_
  | with_reducible refine v_min ?_
  | with_reducible refine v_tuple_tup ?_
  | ((with_reducible refine' v_tuple_ref ?e ?_); (case e => walk_at "h"))
  | ((with_reducible refine' v_ix_ref ?e ?f ?_); (case e => walk_at "h"); (case f => first | assumption | exact rfl))
  | ((with_reducible refine' v_ix_tup ?f ?_); (case f => first | assumption | exact rfl))
  | ((with_reducible refine v_sl_str ?l ?_); (case l => walk_at "l"))
  | with_reducible refine v_sl_tup ?_
  | with_reducible refine v_seq_tup ?_
  | with_reducible refine v_seq_str ?_
  | with_reducible refine v_seq_rol ?_
  | ((with_reducible refine' v_seq_ref ?e ?_); (case e => walk_at "h"))
  | ((with_reducible refine' ⟨v_ty_ref ?e, ?_⟩); (case e => walk_at "h")))
local macro_rules | `(tactic| walk_at "d1") => `(tactic| first | with_reducible refine t_seq ?_ | walk_at "e1")
local macro_rules | `(tactic| walk_at "d") => `(tactic| repeat walk_at "d1")
-- one statement
local macro_rules | `(tactic| walk_at "e") => `(tactic| ((repeat walk_at "e1"); try (with_reducible show sSeq _ _ _ _ _)))
local macro_rules | `(tactic| walk_at "s") => `(tactic| ((with_reducible refine t_seq ?_); walk_at "e"))
-- a drawn thing's small facts
local macro_rules | `(tactic| walk_at "gi") => `(tactic| first
  | exact gi_c trivial
  | exact gi_c ⟨_, rfl, by decide, by decide⟩
  | exact gi_c (show _ ≤ _ by decide)
  | exact gi_c (show _ ≤ _ by decide +kernel)
  | exact gi_v rfl trivial)
local macro_rules | `(tactic| walk_at "ga") => `(tactic| ((repeat (first | exact ga_nil | refine ga_cons2 ?_ ?_)); all_goals (try walk_at "gi")))
def wD (zs : List Str) (nds : List Nd) : D := .tup [.tup (zs.map D.str), .tup (nds.map ndD ++ [endD])]
def GQ (Js : List Addr) (L : List (Addr × MO)) (P : PQ) : Prop := ∀ d M', good 1000 d → Held M' Js L → P d M'
def sp_bend : DSp := fun ds M P => ∃ (Js : List Addr) (L : List (Addr × MO)) (j : Addr) (zs : List Str) (nds : List Nd), ds = [.ref j, .tup [.tup (zs.map D.str), .tup (nds.map ndD ++ [endD])]] ∧ Held M Js L ∧ j ∈ Js ∧ WOk zs nds ∧ GQ Js L P
theorem g_tup {n : Nat} {ds : List D} (l : ds.length ≤ n) (h : ∀ d ∈ ds, good n d) : good n (.tup ds) := good_tup.mpr ⟨l, h⟩
theorem g_nil {n : Nat} : ∀ d ∈ ([] : List D), good n d := by simp
theorem g_cons {n : Nat} {x : D} {ds : List D} (h : good n x) (t : ∀ d ∈ ds, good n d) : ∀ d ∈ x :: ds, good n d := fun d hd => by
  rcases List.mem_cons.mp hd with rfl | hd
  · exact h
  · exact t d hd
theorem g_app {n : Nat} {as ds : List D} (h : ∀ d ∈ as, good n d) (t : ∀ d ∈ ds, good n d) : ∀ d ∈ as ++ ds, good n d := fun d hd => by
  rcases List.mem_append.mp hd with hd | hd
  · exact h d hd
  · exact t d hd
theorem g_cut {n : Nat} {as : List D} {lo hi : Option Int} (h : ∀ d ∈ as, good n d) : ∀ d ∈ cutD as lo hi, good n d := fun d hd => h d (cutD_mem hd)
theorem g_map {n : Nat} {α : Type} {f : α → D} {zs : List α} (h : ∀ z ∈ zs, good n (f z)) : ∀ d ∈ zs.map f, good n d := fun d hd => by
  obtain ⟨z, hz, rfl⟩ := List.mem_map.mp hd
  exact h z hz
theorem g_int {n : Nat} {i : Int} : good n (.int i) := trivial
theorem g_end {n : Nat} (h : 3 ≤ n) : good n endD := g_tup (by show 1 ≤ n; omega) (g_cons (show ("end" : Str).length ≤ n from Nat.le_trans (show ("end" : Str).length ≤ 3 by decide +kernel) h) g_nil)
theorem g_letter {n : Nat} (h : 6 ≤ n) : good n (.str "letter") := show ("letter" : Str).length ≤ n from Nat.le_trans (show ("letter" : Str).length ≤ 6 by decide +kernel) h
section
variable {zs : List Str} {nds : List Nd} (W : WOk zs nds)
include W
theorem g_mo {x : Nd} (hx : x ∈ nds) {m : LX.Mo} (hm : m ∈ x.ms) : good 100 (LX.Mo.d m) := g_tup (Nat.le_of_ble_eq_true rfl) (g_cons (show m.z.length ≤ 100 from Nat.le_trans ((W.nd x hx).2.2.2.2 m hm).1 (by decide)) (g_cons g_int (g_cons g_int (g_cons g_int g_nil))))
theorem g_ms {x : Nd} (hx : x ∈ nds) : good 100 (.tup (x.ms.map LX.Mo.d)) := g_tup (by rw [List.length_map]; have := (W.nd x hx).2.2.2.1; omega) (g_map fun m hm => g_mo W hx hm)
theorem g_z {z : Str} (hz : z ∈ zs) : good 100 (.str z) := show z.length ≤ 100 from Nat.le_trans (W.z z hz) (by decide)
theorem g_nd {x : Nd} (hx : x ∈ nds) : good 100 (ndD x) := g_tup (Nat.le_of_ble_eq_true rfl) (g_cons (g_letter (by decide)) (g_cons (g_z W (W.nd x hx).1) (g_cons (g_z W (W.nd x hx).2.1) (g_cons (g_ms W hx) g_nil))))
theorem g_nds : ∀ d ∈ nds.map ndD, good 100 d := g_map fun x hx => g_nd W hx
theorem g_ns : ∀ d ∈ nds.map ndD ++ [endD], good 100 d := g_app (g_nds W) (g_cons (g_end (by decide)) g_nil)
theorem n_len : (nds.map ndD ++ [endD]).length = nds.length + 1 := by rw [List.length_append, List.length_map]; rfl
theorem g_names : good 100 (.tup (zs.map D.str)) := g_tup (by rw [List.length_map]; have := W.z1; omega) (g_map fun z hz => g_z W hz)
theorem g_nodes : good 100 (.tup (nds.map ndD ++ [endD])) := g_tup (by rw [n_len W]; have := W.n; omega) (g_ns W)
theorem g_web : good 100 (.tup [.tup (zs.map D.str), .tup (nds.map ndD ++ [endD])]) := g_tup (Nat.le_of_ble_eq_true rfl) (g_cons (g_names W) (g_cons (g_nodes W) g_nil))
theorem gK {d : D} (h : good 100 d) : good 1000 d := good_mono (by decide) h
theorem gsK {ds : List D} (h : ∀ d ∈ ds, good 100 d) : ∀ d ∈ ds, good 1000 d := fun d hd => good_mono (by decide) (h d hd)
end
theorem g2 {a b : D} (ha : good 1000 a) (hb : good 1000 b) : good 1000 (.tup [a, b]) := g_tup (Nat.le_of_ble_eq_true rfl) (g_cons ha (g_cons hb g_nil))
theorem g4 {a b c d : D} (ha : good 1000 a) (hb : good 1000 b) (hc : good 1000 c) (hd : good 1000 d) : good 1000 (.tup [a, b, c, d]) := g_tup (Nat.le_of_ble_eq_true rfl) (g_cons ha (g_cons hb (g_cons hc (g_cons hd g_nil))))
def putT (xs : List D) (a : Int) (d : D) : List D := cutD xs none (some a) ++ [d] ++ cutD xs (some (a + 1)) none
theorem g_put {xs : List D} {a : Int} {d : D} (l : xs.length ≤ 400) (h : ∀ x ∈ xs, good 1000 x) (hd : good 1000 d) : good 1000 (.tup (putT xs a d)) := by
  refine g_tup ?_ (g_app (g_app (g_cut h) (g_cons hd g_nil)) (g_cut h))
  unfold putT
  have h1 := cutD_len xs none (some a)
  have h2 := cutD_len xs (some (a + 1)) none
  simp only [List.length_append, List.length_singleton]
  omega
theorem put_len {xs : List D} {a : Int} {d : D} : (putT xs a d).length ≤ 2 * xs.length + 1 := by
  unfold putT
  have h1 := cutD_len xs none (some a)
  have h2 := cutD_len xs (some (a + 1)) none
  simp only [List.length_append, List.length_singleton]
  omega
def sp_put : DSp := fun ds M P => ∃ xs a d, ds = [.tup xs, .int a, d] ∧ xs.length ≤ 10000 ∧ P (.tup (putT xs a d)) M
theorem ok_put (ds : List D) (M : Mh) (P : PQ) (h : sp_put ds M P) : b__law_put { nx := fun _ M' => P .non M', rt := P } (startD 3 ds) M := by
  obtain ⟨xs, a, d, rfl, l, k⟩ := h
  unfold b__law_put
  have h1 := cutD_len xs none (some a)
  have h2 := cutD_len xs (some (a + 1)) none
  walk_at "s"
  trace_state
  exact k
def sp_letter_at : DSp := fun ds M P => ∃ (Js : List Addr) (L : List (Addr × MO)) (j : Addr) (zs : List Str) (nds : List Nd), ds = [.ref j, .tup [.tup (zs.map D.str), .tup (nds.map ndD ++ [endD])]] ∧ Held M Js L ∧ j ∈ Js ∧ WOk zs nds ∧
  ∀ a o M', atI (nds.map ndD ++ [endD]) a = some (nodeD o) → (∀ x, o = some x → x ∈ nds) → 0 ≤ a → a < 100 → Held M' Js L → P (.int a) M'
theorem ok_letter_at (ds : List D) (M : Mh) (P : PQ) (h : sp_letter_at ds M P) : b__law_letter_at sp_pick { nx := fun _ M' => P .non M', rt := P } (startD 2 ds) M := by
  obtain ⟨Js, L, j, zs, nds, rfl, H, hj, W, k⟩ := h
  have nl := n_len W
  have wn := W.n
  unfold b__law_letter_at
  walk_at "s"
  rw [nl]
  refine h_pick H hj (by split <;> omega) fun a M a0 a1 H => ?_
  have a2 : a < nds.length ∨ (nds.length = 0 ∧ a = 0) := by
    by_cases c : ((nds.length + 1 : Nat) : Int) - 1 > 1
    · rw [if_pos c] at a1; omega
    · rw [if_neg c] at a1; omega
  rcases a2 with a2 | ⟨a2, rfl⟩
  · obtain ⟨x, hx, _, e⟩ := atI_map' (zs := nds) (f := ndD) a0 a2
    refine k a (some x) _ ?_ (fun y e => by cases e; exact hx) a0 (by omega) H
    unfold atI ixN at e ⊢
    rw [if_pos a0, if_pos (by rw [List.length_map]; omega)] at e
    rw [if_pos a0, if_pos (by omega)]
    show (nds.map ndD ++ [endD])[a.toNat]? = _
    rw [List.getElem?_append_left (by rw [List.length_map]; omega)]
    exact e
  · have : nds = [] := List.eq_nil_of_length_eq_zero a2
    subst this
    exact k 0 none _ rfl (fun y e => by cases e) (by omega) (by omega) H
theorem h_at {M : Mh} {Js : List Addr} {L : List (Addr × MO)} {j : Addr} {zs : List Str} {nds : List Nd} {Q : PQ} (H : Held M Js L) (hj : j ∈ Js) (W : WOk zs nds) (k : ∀ a o M', atI (nds.map ndD ++ [endD]) a = some (nodeD o) → (∀ x, o = some x → x ∈ nds) → 0 ≤ a → a < 100 → Held M' Js L → Q (.int a) M') :
    [D.ref j, D.tup [.tup (zs.map D.str), .tup (nds.map ndD ++ [endD])]].length = 2 ∧ sp_letter_at [.ref j, .tup [.tup (zs.map D.str), .tup (nds.map ndD ++ [endD])]] M Q := ⟨rfl, Js, L, j, zs, nds, rfl, H, hj, W, k⟩
def sp_other_next : DSp := fun ds M P => ∃ (Js : List Addr) (L : List (Addr × MO)) (j : Addr) (zs : List Str) (nds : List Nd) (b : Bool), ds = [.ref j, .tup [.tup (zs.map D.str), .tup (nds.map ndD ++ [endD])], .bl b] ∧ Held M Js L ∧ j ∈ Js ∧ WOk zs nds ∧ GQ Js L P
theorem ok_other_next (ds : List D) (M : Mh) (P : PQ) (h : sp_other_next ds M P) : b__law_other_next sp_put sp_pick sp_letter_at { nx := fun _ M' => P .non M', rt := P } (startD 10 ds) M := by
  obtain ⟨Js, L, j, zs, nds, b, rfl, H, hj, W, k⟩ := h
  have nl := n_len W
  have wn := W.n
  unfold b__law_other_next
  walk_at "s"
  refine h_at H hj W fun a o M ea ho a0 a1 H => ?_
  walk_at "e"
  walk_at "s"
  cases o with
  | none =>
    rw [show nodeD none = .tup [.str "end"] from rfl] at ea ⊢
    walk_at "s"
    refine t_if1 (by decide +kernel) ?_
    walk_at "e"
    exact k _ _ (gK W (g_web W)) H
  | some x =>
    have hx := ho x rfl
    obtain ⟨w1, w2, w3, w4, w5⟩ := W.nd x hx
    have m0 : 0 < x.ms.length := List.length_pos_iff.mpr w3
    have ml : (x.ms.map LX.Mo.d).length = x.ms.length := List.length_map ..
    rw [show nodeD (some x) = .tup [.str "letter", .str x.s, .str x.r, .tup (x.ms.map LX.Mo.d)] from rfl] at ea ⊢
    walk_at "s"
    refine t_if0 (by decide +kernel) ?_
    walk_at "e"
    walk_at "s"
    rw [nl]
    refine h_pick H hj (by omega) fun b1 M b10 b11 H => ?_
    walk_at "e"
    rw [nl]
    refine h_pick H hj (by omega) fun b2 M b20 b21 H => ?_
    walk_at "e"
    refine h_new H (Nat.le_of_ble_eq_true rfl) fun u M H => ?_
    refine h_pick H hj (by omega) fun c M c0 c1 H => ?_
    refine h_ixm (zs := [a, b1, b2 - 1]) (f := D.int) H List.mem_cons_self c0 c1 fun g _ _ => ?_
    have H := H.tail
    walk_at "e"
    walk_at "s"
    rw [ml]
    refine h_pick H hj (by omega) fun pl M p0 p1 H => ?_
    walk_at "e"
    walk_at "s"
    refine h_new H (Nat.le_of_ble_eq_true rfl) fun q M H => ?_
    walk_at "e"
    walk_at "s"
    rw [ml]
    refine ⟨by omega, ?_⟩
    refine for_each (fun i ρ M => ∃ (rs : List D) (w8 w9 : Option D), ρ = [some (.ref j), some (.tup [.tup (zs.map D.str), .tup (nds.map ndD ++ [endD])]), some (.bl b), some (.int a), some (.tup [.str "letter", .str x.s, .str x.r, .tup (x.ms.map LX.Mo.d)]), some (.int g), some (.int pl), some (.ref q), w8, w9] ∧ rs.length = i ∧ (∀ d ∈ rs, good 100 d) ∧ Held M Js ((q, .lst rs) :: L))
      ⟨[], _, _, rfl, rfl, by simp, H⟩ (fun N i d ρ M hd hI hN => ?_) (fun ρ M hI => ?_)
    · obtain ⟨rs, w8, w9, rfl, rl, hr, H⟩ := hI
      obtain ⟨rfl, hi⟩ := LX.rget hd
      obtain ⟨m, hm, _, em⟩ := atI_map' (zs := x.ms) (f := LX.Mo.d) (k := 0 + (i : Int)) (by omega) (by omega)
      have gz := (w5 m hm).1
      rw [mo_d] at em
      refine ⟨trivial, ?_⟩
      walk_at "e"
      walk_at "s"
      have out : ∀ y : Int, appendD (.ref q) [.tup [.str m.z, .int m.l, .int m.h, .int y]] M fun _ M1 => N [some (.ref j), some (.tup [.tup (zs.map D.str), .tup (nds.map ndD ++ [endD])]), some (.bl b), some (.int a), some (.tup [.str "letter", .str x.s, .str x.r, .tup (x.ms.map LX.Mo.d)]), some (.int g), some (.int pl), some (.ref q), some (.int (0 + (i : Int))), some (.tup [.str m.z, .int m.l, .int m.h, .int m.g])] M1 := fun y => by
        refine h_app H (by omega) fun M H => hN _ _ ⟨rs ++ [_], _, _, rfl, by rw [List.length_append, rl]; rfl, fun d hd => ?_, H⟩
        rcases List.mem_append.mp hd with hd | hd
        · exact hr d hd
        · rw [List.mem_singleton.mp hd]
          exact g_tup (Nat.le_of_ble_eq_true rfl) (g_cons (show m.z.length ≤ 100 by omega) (g_cons g_int (g_cons g_int (g_cons g_int g_nil))))
      walk_at "s"
      cases b with
      | true =>
        refine t_if1 rfl ?_
        refine t_if1 rfl ?_
        walk_at "e"
        exact out _
      | false =>
        refine t_if0 rfl ?_
        walk_at "e"
        refine t_ite (fun e => ?_) (fun e => ?_) <;> (walk_at "e"; exact out _)
    · obtain ⟨rs, w8, w9, rfl, rl, hr, H⟩ := hI
      rw [LX.rlen, Int.toNat_natCast] at rl
      refine ⟨trivial, ?_⟩
      walk_at "e"
      walk_at "s"
      refine ⟨rfl, _, _, _, rfl, by omega, ?_⟩
      walk_at "e"
      refine k _ _ (g2 (gK W (g_names W)) (g_put (by omega) (gsK W (g_ns W)) (g4 (g_letter (by decide)) (gK W (g_z W w1)) (gK W (g_z W w2)) (g_tup (by omega) (gsK W hr))))) H.tail
theorem ok_other_speaker (ds : List D) (M : Mh) (P : PQ) (h : sp_bend ds M P) : b__law_other_speaker sp_put sp_pick sp_letter_at { nx := fun _ M' => P .non M', rt := P } (startD 8 ds) M := by
  obtain ⟨Js, L, j, zs, nds, rfl, H, hj, W, k⟩ := h
  have nl := n_len W
  have wn := W.n
  have wz1 := W.z1
  unfold b__law_other_speaker
  walk_at "s"
  refine h_at H hj W fun a o M ea ho a0 a1 H => ?_
  walk_at "e"
  walk_at "s"
  cases o with
  | none =>
    rw [show nodeD none = .tup [.str "end"] from rfl] at ea ⊢
    walk_at "s"
    refine t_if1 (by decide +kernel) ?_
    walk_at "e"
    exact k _ _ (gK W (g_web W)) H
  | some x =>
    have hx := ho x rfl
    obtain ⟨w1, w2, w3, w4, w5⟩ := W.nd x hx
    have gms := gK W (g_ms W hx)
    rw [show nodeD (some x) = .tup [.str "letter", .str x.s, .str x.r, .tup (x.ms.map LX.Mo.d)] from rfl] at ea ⊢
    walk_at "s"
    refine t_if0 (by decide +kernel) ?_
    walk_at "e"
    walk_at "s"
    refine h_listT H fun u M H => ?_
    walk_at "e"
    refine h_new H (Nat.le_of_ble_eq_true rfl) fun v M H => ?_
    refine h_add H (by walk_at "m") (by walk_at "m") (by simp; omega) fun w M H => ?_
    have H : Held M Js ((w, .lst ((zs ++ ([("q8" : Str), "to", "", "Ab"] : List Str)).map D.str)) :: L) := by
      rw [List.map_append]
      exact H.tail2.tail2
    have wl : ((zs ++ ([("q8" : Str), "to", "", "Ab"] : List Str)).map D.str).length = zs.length + 4 := by simp
    have gz : ∀ z ∈ zs ++ ([("q8" : Str), "to", "", "Ab"] : List Str), good 1000 (.str z) := fun z hz => by
      rcases List.mem_append.mp hz with hz | hz
      · exact gK W (g_z W hz)
      · show z.length ≤ 1000
        simp only [List.mem_cons, List.not_mem_nil, or_false] at hz
        rcases hz with rfl | rfl | rfl | rfl <;> decide +kernel
    walk_at "e"
    walk_at "s"
    rw [wl]
    refine h_pick H hj (by omega) fun b M b0 b1 H => ?_
    refine h_ixm (f := D.str) H List.mem_cons_self b0 (by simp; omega) fun nm hnm _ => ?_
    have gnm := gz nm hnm
    walk_at "e"
    walk_at "s"
    refine h_pick H hj (by omega) fun wy M y0 y1 H => ?_
    walk_at "e"
    walk_at "s"
    refine h_new H (Nat.le_of_ble_eq_true rfl) fun v M H => ?_
    refine h_pick H hj (by omega) fun c M c0 c1 H => ?_
    refine h_ixm (zs := ([("end" : Str), "say", "Letter", ""] : List Str)) (f := D.str) H List.mem_cons_self c0 c1 fun kd hkd _ => ?_
    have H := H.tail.tail
    have gkd : good 1000 (.str kd) := by
      show kd.length ≤ 1000
      simp only [List.mem_cons, List.not_mem_nil, or_false] at hkd
      rcases hkd with rfl | rfl | rfl | rfl <;> decide +kernel
    walk_at "e"
    refine t_cut (fun ρ M => ∃ f, ρ = [some (.ref j), some (.tup [.tup (zs.map D.str), .tup (nds.map ndD ++ [endD])]), some (.int a), some (.tup [.str "letter", .str x.s, .str x.r, .tup (x.ms.map LX.Mo.d)]), some (.ref w), some (.str nm), some (.int wy), some f] ∧ good 1000 f ∧ Held M Js L) (fun N0 hN0 => ?_) ?_
    · walk_at "e"
      refine t_ite (fun e => ?_) (fun e => ?_)
      · walk_at "d"
        exact hN0 _ _ ⟨_, rfl, g4 (g_letter (by decide)) gnm (gK W (g_z W w2)) gms, H⟩
      · walk_at "d"
        refine t_ite (fun e => ?_) (fun e => ?_)
        · walk_at "d"
          exact hN0 _ _ ⟨_, rfl, g4 (g_letter (by decide)) (gK W (g_z W w1)) gnm gms, H⟩
        · walk_at "d"
          exact hN0 _ _ ⟨_, rfl, g4 gkd (gK W (g_z W w1)) (gK W (g_z W w2)) gms, H⟩
    rintro ρ M ⟨f, rfl, gf, H⟩
    walk_at "s"
    refine ⟨rfl, _, _, _, rfl, by omega, ?_⟩
    walk_at "e"
    exact k _ _ (g2 (gK W (g_names W)) (g_put (by omega) (gsK W (g_ns W)) gf)) H
end K11
/-! K11C: webs bent, on. -/
namespace K11
open PySem DL L2 K01 GR K22
-- where it stands in the row of things held
local macro_rules | `(tactic| walk_at "m") => `(tactic| first
  | assumption
  | exact List.mem_cons_self
  | (refine List.mem_cons_of_mem _ ?_; walk_at "m"))
-- what the heap holds at a place
local macro_rules | `(tactic| walk_at "h") => `(tactic| first
  | assumption
  | exact mup_same
  | exact Held.get (by assumption) (by walk_at "m")
  | (refine (mup_ne ?_).trans ?_ <;> first | assumption | (apply Ne.symm; assumption) | walk_at "h"))
-- small facts of numbers
local macro_rules | `(tactic| walk_at "n") => `(tactic| first
  | assumption
  | omega
  | decide
  | (exact CMul.r (by decide))
  | (exact CMul.l (by decide))
  | (refine ⟨?_, ?_⟩ <;> first | assumption | omega | decide))
-- lengths
local macro_rules | `(tactic| walk_at "l") => `(tactic| first
  | assumption
  | (rw [sizeLine_eq]; first | omega | decide | (simp; done) | (simp; omega) | decide +kernel))
-- one step
local macro_rules | `(tactic| walk_at "e1") => `(tactic| first
  | with_reducible refine t_nil ?_
  | ((with_reducible refine' t_var ?s ?_); (case s => first | exact rfl | assumption))
  | with_reducible refine t_c ?_
  | with_reducible refine t_bin ?_
  | with_reducible refine t_if ?_
  | with_reducible refine t_asg ?_
  | ((with_reducible refine' t_gN' ?e ?_); (case e => ((try simp only [List.set_cons_zero, List.set_cons_succ, startD, List.map_cons, List.map_nil, List.length_cons, List.length_nil, Nat.reduceAdd, Nat.reduceSub, List.replicate, List.cons_append, List.nil_append]); exact rfl)))
  | with_reducible refine t_ret ?_
  | with_reducible refine t_exp ?_
  | with_reducible refine t_bcmp ?_
  | with_reducible refine t_band ?_
  | with_reducible refine t_bor ?_
  | with_reducible refine t_bnot ?_
  | with_reducible refine t_btru ?_
  | with_reducible refine t_byes ?_
  | with_reducible refine t_an ?_
  | with_reducible refine t_ac ?_
  | with_reducible refine t_fn ?_
  | with_reducible refine t_call ?_
  | with_reducible refine t_cmp ?_
  | with_reducible refine t_and ?_
  | with_reducible refine t_or ?_
  | with_reducible refine t_not ?_
  | with_reducible refine t_ife ?_
  | with_reducible refine t_tupN ?_
  | ((with_reducible refine v_newT ?l ?_); (case l => exact Nat.le_of_ble_eq_true rfl))
  | with_reducible refine t_lstN ?_
  | with_reducible refine t_isi ?_
  | with_reducible refine t_sl ?_
  | with_reducible refine t_o0 ?_
  | with_reducible refine t_o1 ?_
  | with_reducible refine t_un ?_
  | with_reducible refine t_mt ?_
  | with_reducible refine t_gS ?_
  | with_reducible refine t_gsC ?_
  | with_reducible refine t_gsN ?_
  | ((with_reducible refine t_gT ?s ?_); (case s => first | assumption | exact rfl))
  | with_reducible refine t_retN ?_
  | with_reducible refine t_brk ?_
  | with_reducible refine t_cnt ?_
  | ((with_reducible refine' t_aug ?s ?_); (case s => first | exact rfl | assumption))
  | with_reducible refine t_for ?_
  | with_reducible refine t_seqi ?_
  | with_reducible refine t_rg1 ?_
  | with_reducible refine t_rg2 ?_
  | with_reducible refine t_lc ?_
  | with_reducible refine v_tru_bl ?_
  | with_reducible refine v_tru_int ?_
  | with_reducible refine v_tru_non ?_
  | with_reducible refine v_tru_tup ?_
  | with_reducible refine v_add_int ?_
  | ((with_reducible refine v_add_str ?l ?_); (case l => walk_at "l"))
  | ((with_reducible refine v_add_tup ?l ?_); (case l => walk_at "l"))
  | with_reducible refine v_iadd_int ?_
  | with_reducible refine v_sub ?_
  | ((with_reducible refine v_mul ?c ?_); (case c => walk_at "n"))
  | ((with_reducible refine v_div ?c ?_); (case c => walk_at "n"))
  | ((with_reducible refine v_mod ?c ?_); (case c => walk_at "n"))
  | ((with_reducible refine v_pow ?c ?_); (case c => exact ⟨by decide, by decide, by decide⟩))
  | with_reducible refine v_neg ?_
  | with_reducible exact trivial
  | with_reducible refine v_eq_int ?_
  | with_reducible refine v_eq_str ?_
  | with_reducible refine v_eq_bl ?_
  | with_reducible refine v_ne_int ?_
  | with_reducible refine v_ne_str ?_
  | with_reducible refine v_ne_bl ?_
  | with_reducible refine v_lt ?_
  | with_reducible refine v_lt_str ?_
  | with_reducible refine t_ks ?_
  | with_reducible refine t_rv ?_
  | with_reducible refine v_seq_ktp ?_
  | with_reducible refine v_le ?_
  | with_reducible refine v_gt ?_
  | with_reducible refine v_ge ?_
  | with_reducible refine v_isi_non ?_
  | with_reducible refine v_isi_bl ?_
  | with_reducible refine v_isi_int ?_
  | with_reducible refine v_isi_str ?_
  | with_reducible refine v_isi_tup ?_
  | with_reducible refine v_in_str ?_
  | with_reducible refine v_nin_str ?_
  | with_reducible refine v_len_tup ?_
  | with_reducible refine v_len_rol ?_
  | ((with_reducible refine v_len_str ?l ?_); (case l => walk_at "l"))
  | ((with_reducible refine' v_len_ref ?e ?_); (case e => walk_at "h"))
  | with_reducible refine v_int_int ?_
  | with_reducible refine v_int_bl ?_
  | with_reducible refine v_max ?_
  | with_reducible refine v_min ?_
  | with_reducible refine v_tuple_tup ?_
  | ((with_reducible refine' v_tuple_ref ?e ?_); (case e => walk_at "h"))
  | ((with_reducible refine' v_ix_ref ?e ?f ?_); (case e => walk_at "h"); (case f => first | assumption | exact rfl))
  | ((with_reducible refine' v_ix_tup ?f ?_); (case f => first | assumption | exact rfl))
  | ((with_reducible refine v_sl_str ?l ?_); (case l => walk_at "l"))
  | with_reducible refine v_sl_tup ?_
  | with_reducible refine v_seq_tup ?_
  | with_reducible refine v_seq_str ?_
  | with_reducible refine v_seq_rol ?_
  | ((with_reducible refine' v_seq_ref ?e ?_); (case e => walk_at "h"))
  | ((with_reducible refine' ⟨v_ty_ref ?e, ?_⟩); (case e => walk_at "h")))
local macro_rules | `(tactic| walk_at "d1") => `(tactic| first | with_reducible refine t_seq ?_ | walk_at "e1")
local macro_rules | `(tactic| walk_at "d") => `(tactic| repeat walk_at "d1")
-- one statement
local macro_rules | `(tactic| walk_at "e") => `(tactic| ((repeat walk_at "e1"); try (with_reducible show sSeq _ _ _ _ _)))
local macro_rules | `(tactic| walk_at "s") => `(tactic| ((with_reducible refine t_seq ?_); walk_at "e"))
-- a drawn thing's small facts
local macro_rules | `(tactic| walk_at "gi") => `(tactic| first
  | exact gi_c trivial
  | exact gi_c ⟨_, rfl, by decide, by decide⟩
  | exact gi_c (show _ ≤ _ by decide)
  | exact gi_c (show _ ≤ _ by decide +kernel)
  | exact gi_v rfl trivial)
local macro_rules | `(tactic| walk_at "ga") => `(tactic| ((repeat (first | exact ga_nil | refine ga_cons2 ?_ ?_)); all_goals (try walk_at "gi")))
theorem g_str {n : Nat} {z : Str} (h : z.length ≤ n) : good n (.str z) := h
theorem deq_strs {i j : Str} : deq (.str i) (.str j) = (i == j) := deq_str
theorem ok_other_role (ds : List D) (M : Mh) (P : PQ) (h : sp_bend ds M P) : b__law_other_role sp_pick { nx := fun _ M' => P .non M', rt := P } (startD 10 ds) M := by
  obtain ⟨Js, L, j, zs, nds, rfl, H, hj, W, k⟩ := h
  have nl := n_len W
  have wn := W.n
  have wz0 := W.z0
  have wz1 := W.z1
  have zl : (zs.map D.str).length = zs.length := List.length_map ..
  unfold b__law_other_role
  walk_at "s"
  refine h_new H (Nat.le_of_ble_eq_true rfl) fun u M H => ?_
  walk_at "e"
  refine h_listT H fun v M H => ?_
  refine h_add H (by walk_at "m") (by walk_at "m") (by simp; omega) fun w M H => ?_
  have H : Held M Js ((w, .lst ((([("say" : Str), "end", "abcdefghi", "a2345678", "Aa", "1a", "", "a b", "z", "roles", "a_b"] : List Str) ++ zs).map D.str)) :: L) := by
    rw [List.map_append]
    exact H.tail2.tail2
  have gz : ∀ z ∈ ([("say" : Str), "end", "abcdefghi", "a2345678", "Aa", "1a", "", "a b", "z", "roles", "a_b"] : List Str) ++ zs, good 1000 (.str z) := fun z hz => by
    rcases List.mem_append.mp hz with hz | hz
    · show z.length ≤ 1000
      simp only [List.mem_cons, List.not_mem_nil, or_false] at hz
      rcases hz with rfl | rfl | rfl | rfl | rfl | rfl | rfl | rfl | rfl | rfl | rfl <;> decide +kernel
    · exact gK W (g_z W hz)
  have wl : (([("say" : Str), "end", "abcdefghi", "a2345678", "Aa", "1a", "", "a b", "z", "roles", "a_b"] : List Str) ++ zs).length = zs.length + 11 := by rw [List.length_append, Nat.add_comm]; rfl
  generalize ([("say" : Str), "end", "abcdefghi", "a2345678", "Aa", "1a", "", "a b", "z", "roles", "a_b"] : List Str) ++ zs = ws at H gz wl
  have wl2 : (ws.map D.str).length = ws.length := List.length_map ..
  walk_at "e"
  walk_at "s"
  rw [zl]
  refine h_pick H hj (by omega) fun a M a0 a1 H => ?_
  obtain ⟨od, hod, _, eo⟩ := atI_map' (zs := zs) (f := D.str) a0 a1
  walk_at "e"
  walk_at "s"
  rw [wl2]
  refine h_pick H hj (by omega) fun b M b0 b1 H => ?_
  refine h_ixm (f := D.str) H List.mem_cons_self b0 b1 fun nm hnm _ => ?_
  have gnm := gz nm hnm
  walk_at "e"
  walk_at "s"
  refine h_new H (Nat.le_of_ble_eq_true rfl) fun q M H => ?_
  walk_at "e"
  walk_at "s"
  refine for_each (fun i ρ M => ∃ (rs : List D) (w6 w7 w8 : Option D), ρ = [some (.ref j), some (.tup [.tup (zs.map D.str), .tup (nds.map ndD ++ [endD])]), some (.ref w), some (.str od), some (.str nm), some (.ref q), w6, w7, w8, none] ∧ rs.length = i ∧ (∀ d ∈ rs, good 1000 d) ∧ Held M Js ((q, .lst rs) :: L))
    ⟨[], _, _, _, rfl, rfl, by simp, H.tail2⟩ (fun N i d ρ M hd hI hN => ?_) (fun ρ M hI => ?_)
  · obtain ⟨rs, w6, w7, w8, rfl, rl, hr, H⟩ := hI
    have il := (List.getElem?_eq_some_iff.mp hd).1
    rw [nl] at il
    have gd := g_ns W d (List.mem_of_getElem? hd)
    have out : ∀ (y : D) (w6 w7 w8 : Option D), good 1000 y → appendD (.ref q) [y] M fun _ M1 => N [some (.ref j), some (.tup [.tup (zs.map D.str), .tup (nds.map ndD ++ [endD])]), some (.ref w), some (.str od), some (.str nm), some (.ref q), w6, w7, w8, none] M1 := fun y w6 w7 w8 gy => by
      refine h_app H (by omega) fun M H => hN _ _ ⟨rs ++ [_], _, _, _, rfl, by rw [List.length_append, rl]; rfl, fun d hd => ?_, H⟩
      rcases List.mem_append.mp hd with hd | hd
      · exact hr d hd
      · rw [List.mem_singleton.mp hd]; exact gy
    refine ⟨trivial, ?_⟩
    rcases List.mem_append.mp (List.mem_of_getElem? hd) with h | h
    · obtain ⟨x, hx, rfl⟩ := List.mem_map.mp h
      obtain ⟨w1, w2, w3, w4, w5⟩ := W.nd x hx
      have gms := gK W (g_ms W hx)
      have g1 := gK W (g_z W w1)
      have g2 := gK W (g_z W w2)
      rw [nd_d]
      walk_at "e"
      walk_at "s"
      refine t_if0 (by decide +kernel) ?_
      walk_at "e"
      walk_at "s"
      refine t_ite (fun e => ?_) (fun e => ?_) <;> (walk_at "e"; walk_at "s"; refine t_ite (fun e => ?_) (fun e => ?_)) <;> (walk_at "e"; walk_at "s"; exact out _ _ _ _ (g4 (g_letter (by decide)) (by assumption) (by assumption) gms))
    · rw [List.mem_singleton.mp h, end_d]
      walk_at "e"
      walk_at "s"
      refine t_if1 (by decide +kernel) ?_
      walk_at "s"
      exact out _ _ _ _ (gK W (g_end (by decide)))
  · obtain ⟨rs, w6, w7, w8, rfl, rl, hr, H⟩ := hI
    rw [nl] at rl
    refine ⟨trivial, ?_⟩
    walk_at "e"
    walk_at "s"
    refine h_lc (fun i acc => ∀ d ∈ acc, good 1000 d) H (by rw [zl]; omega) (by simp) (fun _ _ => trivial) (fun R i d acc p M hd hI H kR => ?_) (fun p acc M hl hI H => ?_)
    · rw [List.getElem?_map] at hd
      obtain ⟨z, hz, rfl⟩ := Option.map_eq_some_iff.mp hd
      have gzz := gK W (g_z W (List.mem_of_getElem? hz))
      refine ⟨_, rfl, ?_⟩
      walk_at "e"
      refine t_ite (fun e => ?_) (fun e => ?_)
      · walk_at "e"
        exact kR _ _ (g_app hI (g_cons gnm g_nil)) H
      · walk_at "e"
        exact kR _ _ (g_app hI (g_cons gzz g_nil)) H
    · walk_at "e"
      exact k _ _ (g2 (g_tup (by omega) hI) (g_tup (by omega) hr)) H.tail.tail
theorem cutN {ds : List D} {d : D} : cutD (ds ++ [d]) none (some (((ds ++ [d]).length : Int) - 1)) = ds := cut_end ds d
theorem ok_node_more (ds : List D) (M : Mh) (P : PQ) (h : sp_bend ds M P) : b__law_node_more sp_pick { nx := fun _ M' => P .non M', rt := P } (startD 13 ds) M := by
  obtain ⟨Js, L, j, zs, nds, rfl, H, hj, W, k⟩ := h
  have nl := n_len W
  have wn := W.n
  have wz0 := W.z0
  obtain ⟨a0s, ha0, _, ea0⟩ := atI_map' (zs := zs) (f := D.str) (k := 0) (by omega) (by omega)
  obtain ⟨a1s, ha1, _, ea1⟩ := atI_map' (zs := zs) (f := D.str) (k := 1) (by omega) (by omega)
  unfold b__law_node_more
  walk_at "s"
  walk_at "s"
  refine h_pick H hj (by omega) fun a M a0 a1 H => ?_
  walk_at "e"
  walk_at "s"
  refine h_new H (Nat.le_of_ble_eq_true rfl) fun q M H => ?_
  walk_at "e"
  walk_at "s"
  rw [cutN]
  refine for_each (fun i ρ M => ∃ (rs : List D) (w5 w6 w7 w8 w9 w10 : Option D), ρ = [some (.ref j), some (.tup [.tup (zs.map D.str), .tup (nds.map ndD ++ [endD])]), some (.int ((nds.map ndD ++ [endD]).length : Int)), some (.int a), some (.ref q), w5, w6, w7, w8, w9, w10, none, none] ∧ rs.length = i ∧ (∀ d ∈ rs, good 1000 d) ∧ Held M Js ((q, .lst rs) :: L))
    ⟨[], _, _, _, _, _, _, rfl, rfl, by simp, H⟩ (fun N i d ρ M hd hI hN => ?_) (fun ρ M hI => ?_)
  · obtain ⟨rs, w5, w6, w7, w8, w9, w10, rfl, rl, hr, H⟩ := hI
    have il := (List.getElem?_eq_some_iff.mp hd).1
    rw [List.length_map] at il
    rw [List.getElem?_map] at hd
    obtain ⟨x, hx, rfl⟩ := Option.map_eq_some_iff.mp hd
    have hx := List.mem_of_getElem? hx
    obtain ⟨w1, w2, w3, w4, w5'⟩ := W.nd x hx
    refine ⟨trivial, ?_⟩
    rw [nd_d]
    walk_at "e"
    walk_at "s"
    refine h_new H (Nat.le_of_ble_eq_true rfl) fun u M H => ?_
    walk_at "e"
    walk_at "s"
    refine for_each (fun i' ρ M => ∃ (ts : List D) (w7 w8 w9 w10 : Option D), ρ = [some (.ref j), some (.tup [.tup (zs.map D.str), .tup (nds.map ndD ++ [endD])]), some (.int ((nds.map ndD ++ [endD]).length : Int)), some (.int a), some (.ref q), some (.tup [.str "letter", .str x.s, .str x.r, .tup (x.ms.map LX.Mo.d)]), some (.ref u), w7, w8, w9, w10, none, none] ∧ ts.length = i' ∧ (∀ d ∈ ts, good 1000 d) ∧ Held M Js ((u, .lst ts) :: (q, .lst rs) :: L))
      ⟨[], _, _, _, _, rfl, rfl, by simp, H⟩ (fun N2 i' d ρ M hd hI hN2 => ?_) (fun ρ M hI => ?_)
    · obtain ⟨ts, w7, w8, w9, w10, rfl, tl, ht, H⟩ := hI
      have il := (List.getElem?_eq_some_iff.mp hd).1
      rw [List.length_map] at il
      rw [List.getElem?_map] at hd
      obtain ⟨m, hm, rfl⟩ := Option.map_eq_some_iff.mp hd
      have gz := (w5' m (List.mem_of_getElem? hm)).1
      refine ⟨trivial, ?_⟩
      rw [mo_d]
      walk_at "e"
      walk_at "s"
      refine t_ite (fun e => ?_) (fun e => ?_) <;> (walk_at "e"; refine h_app H (by omega) fun M H => hN2 _ _ ⟨ts ++ [_], _, _, _, _, rfl, by rw [List.length_append, tl]; rfl, g_app ht (g_cons (g4 (g_str (by omega)) g_int g_int g_int) g_nil), H⟩)
    · obtain ⟨ts, w7, w8, w9, w10, rfl, tl, ht, H⟩ := hI
      rw [List.length_map] at tl
      refine ⟨trivial, ?_⟩
      walk_at "e"
      walk_at "s"
      refine h_app H.tail (by omega) fun M H => hN _ _ ⟨rs ++ [_], _, _, _, _, _, _, rfl, by rw [List.length_append, rl]; rfl, g_app hr (g_cons (g4 (g_letter (by decide)) (gK W (g_z W w1)) (gK W (g_z W w2)) (g_tup (by omega) ht)) g_nil), H⟩
  · obtain ⟨rs, w5, w6, w7, w8, w9, w10, rfl, rl, hr, H⟩ := hI
    rw [List.length_map] at rl
    refine ⟨trivial, ?_⟩
    walk_at "e"
    walk_at "s"
    rw [nl]
    refine h_pick H hj (by omega) fun b M b0 b1 H => ?_
    walk_at "e"
    refine h_new H (Nat.le_of_ble_eq_true rfl) fun gl M H => ?_
    have H : Held M Js ((gl, .lst ([((nds.length + 1 : Nat) : Int), ((nds.length + 1 : Nat) : Int) - 1, b].map D.int)) :: (q, .lst rs) :: L) := H
    walk_at "e"
    walk_at "s"
    refine h_pick H hj (by omega) fun c M c0 c1 H => ?_
    walk_at "e"
    refine ⟨by omega, ?_⟩
    refine h_lc (fun i acc => ∀ d ∈ acc, good 1000 d) H (by rw [LX.rlen]; omega) (by simp) (fun _ _ => trivial) (fun R i d acc p M hd hI H kR => ?_) (fun p acc M hl hI H => ?_)
    · obtain ⟨rfl, hi⟩ := LX.rget hd
      refine ⟨_, rfl, ?_⟩
      walk_at "e"
      refine h_pick H hj (by omega) fun e M e0 e1 H => ?_
      refine h_ixm (zs := [((nds.length + 1 : Nat) : Int), ((nds.length + 1 : Nat) : Int) - 1, b]) (f := D.int) H (by walk_at "m") e0 e1 fun g _ _ => ?_
      walk_at "e"
      exact kR _ _ (g_app hI (g_cons (g4 (g_str (by decide +kernel)) g_int g_int g_int) g_nil)) H
    · rw [LX.rlen] at hl
      walk_at "e"
      walk_at "s"
      refine h_appI 2 H rfl (by omega) fun M H => ?_
      walk_at "e"
      walk_at "s"
      refine k _ _ (g2 (gK W (g_names W)) (g_tup (by simp; omega) (g_app (g_app hr (g_cons (g4 (g_letter (by decide)) (gK W (g_z W ha0)) (gK W (g_z W ha1)) (g_tup (by omega) hI)) g_nil)) (g_cons (gK W (g_end (by decide))) g_nil)))) H.tail.tail.tail
theorem ok_other_end (ds : List D) (M : Mh) (P : PQ) (h : sp_bend ds M P) : b__law_other_end sp_pick { nx := fun _ M' => P .non M', rt := P } (startD 6 ds) M := by
  obtain ⟨Js, L, j, zs, nds, rfl, H, hj, W, k⟩ := h
  have nl := n_len W
  have wn := W.n
  have wz0 := W.z0
  obtain ⟨a0s, ha0, _, ea0⟩ := atI_map' (zs := zs) (f := D.str) (k := 0) (by omega) (by omega)
  obtain ⟨a1s, ha1, _, ea1⟩ := atI_map' (zs := zs) (f := D.str) (k := 1) (by omega) (by omega)
  have ndl : (nds.map ndD).length = nds.length := List.length_map ..
  unfold b__law_other_end
  walk_at "s"
  walk_at "s"
  rw [cutN]
  walk_at "s"
  have gl : ∀ d ∈ nds.map ndD, good 1000 d := gsK W (g_nds W)
  have ge : good 1000 (.str "end") := g_str (by decide +kernel)
  have gE : good 1000 (.str "END") := g_str (by decide +kernel)
  have gz0 := gK W (g_z W ha0)
  have gz1 := gK W (g_z W ha1)
  have gmm : good 1000 (.tup [.tup [.str "a1", .int 0, .int 0, .int (((nds.map ndD ++ [endD]).length : Int) - 1)]]) := g_tup (Nat.le_of_ble_eq_true rfl) (g_cons (g4 (g_str (by decide +kernel)) g_int g_int g_int) g_nil)
  walk_at "s"
  refine h_new H (Nat.le_of_ble_eq_true rfl) fun q M H => ?_
  walk_at "e"
  walk_at "s"
  refine h_new H (Nat.le_of_ble_eq_true rfl) fun u M H => ?_
  walk_at "e"
  refine h_extI 1 H rfl (by walk_at "m") (Nat.le_of_ble_eq_true rfl) fun M H => ?_
  have H := Held.tail H
  walk_at "e"
  walk_at "s"
  refine h_app H (Nat.le_of_ble_eq_true rfl) fun M H => ?_
  walk_at "e"
  walk_at "s"
  refine h_pick H hj (by show (0 : Int) < ((10 : Nat) : Int) ∧ ((10 : Nat) : Int) < 1073741824; omega) fun a M a0 a1 H => ?_
  obtain ⟨d, e1, hd, _⟩ := atI_mem a0 a1
  refine v_ix_ref (H.get List.mem_cons_self) e1 ?_
  walk_at "e"
  refine k _ _ (g2 (gK W (g_names W)) ?_) H.tail
  have gA : ∀ ts : List D, ts.length ≤ 2 → (∀ t ∈ ts, good 1000 t) → good 1000 (.tup (nds.map ndD ++ ts)) := fun ts l h => g_tup (by rw [List.length_append]; omega) (g_app gl h)
  have g1e : good 1000 (.tup [.str "end"]) := gK W (g_end (by decide))
  refine (show ∀ d ∈ ([_, _, _, _, _, _, _, _, _, _] : List D), good 1000 d from ?_) d hd
  refine g_cons (g_tup (by omega) gl) (g_cons (g_tup (by rw [List.length_append, nl]; show _ + 1 ≤ _; omega) (g_app (gsK W (g_ns W)) (g_cons g1e g_nil))) (g_cons (g_tup (by rw [List.length_append]; show 1 + _ ≤ _; omega) (g_app (g_cons g1e g_nil) gl)) (g_cons (gA _ (by decide) (g_cons (g2 ge g_int) g_nil)) (g_cons (gA _ (by decide) (g_cons ge g_nil)) (g_cons (gA _ (by decide) (g_cons (g_tup (Nat.le_of_ble_eq_true rfl) (g_cons gE g_nil)) g_nil)) (g_cons (gA _ (by decide) (g_cons (g_tup (Nat.le_of_ble_eq_true rfl) g_nil) g_nil)) (g_cons (gA _ (by decide) (g_cons trivial g_nil)) (g_cons (gA _ (Nat.le_of_ble_eq_true rfl) (g_cons (g4 (g_letter (by decide)) gz0 gz1 gmm) g_nil)) (g_cons (gA _ (Nat.le_of_ble_eq_true rfl) (g_cons (g4 ge gz0 gz1 gmm) (g_cons g1e g_nil))) g_nil)))))))))
end K11
/-! K11D: webs bent, and the law. -/
namespace K11
open PySem DL L2 K01 GR K22
-- where it stands in the row of things held
local macro_rules | `(tactic| walk_at "m") => `(tactic| first
  | assumption
  | exact List.mem_cons_self
  | (refine List.mem_cons_of_mem _ ?_; walk_at "m"))
-- what the heap holds at a place
local macro_rules | `(tactic| walk_at "h") => `(tactic| first
  | assumption
  | exact mup_same
  | exact Held.get (by assumption) (by walk_at "m")
  | (refine (mup_ne ?_).trans ?_ <;> first | assumption | (apply Ne.symm; assumption) | walk_at "h"))
-- small facts of numbers
local macro_rules | `(tactic| walk_at "n") => `(tactic| first
  | assumption
  | omega
  | decide
  | (exact CMul.r (by decide))
  | (exact CMul.l (by decide))
  | (refine ⟨?_, ?_⟩ <;> first | assumption | omega | decide))
-- lengths
local macro_rules | `(tactic| walk_at "l") => `(tactic| first
  | assumption
  | (rw [sizeLine_eq]; first | omega | decide | (simp; done) | (simp; omega) | decide +kernel))
-- one step
local macro_rules | `(tactic| walk_at "e1") => `(tactic| first
  | with_reducible refine t_nil ?_
  | ((with_reducible refine' t_var ?s ?_); (case s => first | exact rfl | assumption))
  | with_reducible refine t_c ?_
  | with_reducible refine t_bin ?_
  | with_reducible refine t_if ?_
  | with_reducible refine t_asg ?_
  | ((with_reducible refine' t_gN' ?e ?_); (case e => ((try simp only [List.set_cons_zero, List.set_cons_succ, startD, List.map_cons, List.map_nil, List.length_cons, List.length_nil, Nat.reduceAdd, Nat.reduceSub, List.replicate, List.cons_append, List.nil_append]); exact rfl)))
  | with_reducible refine t_ret ?_
  | with_reducible refine t_exp ?_
  | with_reducible refine t_bcmp ?_
  | with_reducible refine t_band ?_
  | with_reducible refine t_bor ?_
  | with_reducible refine t_bnot ?_
  | with_reducible refine t_btru ?_
  | with_reducible refine t_byes ?_
  | with_reducible refine t_an ?_
  | with_reducible refine t_ac ?_
  | with_reducible refine t_fn ?_
  | with_reducible refine t_call ?_
  | with_reducible refine t_cmp ?_
  | with_reducible refine t_and ?_
  | with_reducible refine t_or ?_
  | with_reducible refine t_not ?_
  | with_reducible refine t_ife ?_
  | with_reducible refine t_tupN ?_
  | ((with_reducible refine v_newT ?l ?_); (case l => exact Nat.le_of_ble_eq_true rfl))
  | with_reducible refine t_lstN ?_
  | with_reducible refine t_isi ?_
  | with_reducible refine t_sl ?_
  | with_reducible refine t_o0 ?_
  | with_reducible refine t_o1 ?_
  | with_reducible refine t_un ?_
  | with_reducible refine t_mt ?_
  | with_reducible refine t_gS ?_
  | with_reducible refine t_gsC ?_
  | with_reducible refine t_gsN ?_
  | ((with_reducible refine t_gT ?s ?_); (case s => first | assumption | exact rfl))
  | with_reducible refine t_retN ?_
  | with_reducible refine t_brk ?_
  | with_reducible refine t_cnt ?_
  | ((with_reducible refine' t_aug ?s ?_); (case s => first | exact rfl | assumption))
  | with_reducible refine t_for ?_
  | with_reducible refine t_seqi ?_
  | with_reducible refine t_rg1 ?_
  | with_reducible refine t_rg2 ?_
  | with_reducible refine t_lc ?_
  | with_reducible refine v_tru_bl ?_
  | with_reducible refine v_tru_int ?_
  | with_reducible refine v_tru_non ?_
  | with_reducible refine v_tru_tup ?_
  | with_reducible refine v_add_int ?_
  | ((with_reducible refine v_add_str ?l ?_); (case l => walk_at "l"))
  | ((with_reducible refine v_add_tup ?l ?_); (case l => walk_at "l"))
  | with_reducible refine v_iadd_int ?_
  | with_reducible refine v_sub ?_
  | ((with_reducible refine v_mul ?c ?_); (case c => walk_at "n"))
  | ((with_reducible refine v_div ?c ?_); (case c => walk_at "n"))
  | ((with_reducible refine v_mod ?c ?_); (case c => walk_at "n"))
  | ((with_reducible refine v_pow ?c ?_); (case c => exact ⟨by decide, by decide, by decide⟩))
  | with_reducible refine v_neg ?_
  | with_reducible exact trivial
  | with_reducible refine v_eq_int ?_
  | with_reducible refine v_eq_str ?_
  | with_reducible refine v_eq_bl ?_
  | with_reducible refine v_ne_int ?_
  | with_reducible refine v_ne_str ?_
  | with_reducible refine v_ne_bl ?_
  | with_reducible refine v_lt ?_
  | with_reducible refine v_lt_str ?_
  | with_reducible refine t_ks ?_
  | with_reducible refine t_rv ?_
  | with_reducible refine v_seq_ktp ?_
  | with_reducible refine v_le ?_
  | with_reducible refine v_gt ?_
  | with_reducible refine v_ge ?_
  | with_reducible refine v_isi_non ?_
  | with_reducible refine v_isi_bl ?_
  | with_reducible refine v_isi_int ?_
  | with_reducible refine v_isi_str ?_
  | with_reducible refine v_isi_tup ?_
  | with_reducible refine v_in_str ?_
  | with_reducible refine v_nin_str ?_
  | with_reducible refine v_len_tup ?_
  | with_reducible refine v_len_rol ?_
  | ((with_reducible refine v_len_str ?l ?_); (case l => walk_at "l"))
  | ((with_reducible refine' v_len_ref ?e ?_); (case e => walk_at "h"))
  | with_reducible refine v_int_int ?_
  | with_reducible refine v_int_bl ?_
  | with_reducible refine v_max ?_
  | with_reducible refine v_min ?_
  | with_reducible refine v_tuple_tup ?_
  | ((with_reducible refine' v_tuple_ref ?e ?_); (case e => walk_at "h"))
  | ((with_reducible refine' v_ix_ref ?e ?f ?_); (case e => walk_at "h"); (case f => first | assumption | exact rfl))
  | ((with_reducible refine' v_ix_tup ?f ?_); (case f => first | assumption | exact rfl))
  | ((with_reducible refine v_sl_str ?l ?_); (case l => walk_at "l"))
  | with_reducible refine v_sl_tup ?_
  | with_reducible refine v_seq_tup ?_
  | with_reducible refine v_seq_str ?_
  | with_reducible refine v_seq_rol ?_
  | ((with_reducible refine' v_seq_ref ?e ?_); (case e => walk_at "h"))
  | ((with_reducible refine' ⟨v_ty_ref ?e, ?_⟩); (case e => walk_at "h")))
local macro_rules | `(tactic| walk_at "d1") => `(tactic| first | with_reducible refine t_seq ?_ | walk_at "e1")
local macro_rules | `(tactic| walk_at "d") => `(tactic| repeat walk_at "d1")
-- one statement
local macro_rules | `(tactic| walk_at "e") => `(tactic| ((repeat walk_at "e1"); try (with_reducible show sSeq _ _ _ _ _)))
local macro_rules | `(tactic| walk_at "s") => `(tactic| ((with_reducible refine t_seq ?_); walk_at "e"))
-- a drawn thing's small facts
local macro_rules | `(tactic| walk_at "gi") => `(tactic| first
  | exact gi_c trivial
  | exact gi_c ⟨_, rfl, by decide, by decide⟩
  | exact gi_c (show _ ≤ _ by decide)
  | exact gi_c (show _ ≤ _ by decide +kernel)
  | exact gi_v rfl trivial)
local macro_rules | `(tactic| walk_at "ga") => `(tactic| ((repeat (first | exact ga_nil | refine ga_cons2 ?_ ?_)); all_goals (try walk_at "gi")))
abbrev sp_two_turned : DSp := sp_bend
abbrev sp_other_speaker : DSp := sp_bend
abbrev sp_other_shape : DSp := sp_bend
abbrev sp_other_role : DSp := sp_bend
abbrev sp_other_moves : DSp := sp_bend
abbrev sp_other_end : DSp := sp_bend
abbrev sp_node_more : DSp := sp_bend
theorem g_bl {n : Nat} {b : Bool} : good n (.bl b) := trivial
theorem ok_other_moves (ds : List D) (M : Mh) (P : PQ) (h : sp_bend ds M P) : b__law_other_moves sp_put sp_pick sp_letter_at { nx := fun _ M' => P .non M', rt := P } (startD 12 ds) M := by
  obtain ⟨Js, L, j, zs, nds, rfl, H, hj, W, k⟩ := h
  have nl := n_len W
  have wn := W.n
  unfold b__law_other_moves
  walk_at "s"
  refine h_at H hj W fun a o M ea ho a0 a1 H => ?_
  walk_at "e"
  walk_at "s"
  cases o with
  | none =>
    rw [show nodeD none = .tup [.str "end"] from rfl] at ea ⊢
    walk_at "s"
    refine t_if1 (by decide +kernel) ?_
    walk_at "e"
    exact k _ _ (gK W (g_web W)) H
  | some x =>
    have hx := ho x rfl
    obtain ⟨w1, w2, w3, w4, w5⟩ := W.nd x hx
    have m0 : 0 < x.ms.length := List.length_pos_iff.mpr w3
    have ml : (x.ms.map LX.Mo.d).length = x.ms.length := List.length_map ..
    have gms : ∀ d ∈ x.ms.map LX.Mo.d, good 1000 d := g_map fun m hm => gK W (g_mo W hx hm)
    rw [show nodeD (some x) = .tup [.str "letter", .str x.s, .str x.r, .tup (x.ms.map LX.Mo.d)] from rfl] at ea ⊢
    walk_at "s"
    refine t_if0 (by decide +kernel) ?_
    walk_at "e"
    walk_at "s"
    rw [ml]
    refine h_pick H hj (by omega) fun pl M p0 p1 H => ?_
    obtain ⟨m, hm, _, em⟩ := atI_map' (zs := x.ms) (f := LX.Mo.d) p0 p1
    have gz : good 1000 (.str m.z) := g_str (Nat.le_trans (w5 m hm).1 (by decide))
    rw [mo_d] at em
    walk_at "e"
    walk_at "s"
    walk_at "s"
    refine h_new H (Nat.le_of_ble_eq_true rfl) fun u M H => ?_
    refine h_pick H hj (by omega) fun c M c0 c1 H => ?_
    refine h_ixm (zs := ([("to" : Str), "again", "abcdefgh9", "a2345678", "Ab", "9a", "", "a_b"] : List Str)) (f := D.str) H List.mem_cons_self c0 c1 fun wd hwd _ => ?_
    have H := H.tail
    have gw : good 1000 (.str wd) := by
      show wd.length ≤ 1000
      simp only [List.mem_cons, List.not_mem_nil, or_false] at hwd
      rcases hwd with rfl | rfl | rfl | rfl | rfl | rfl | rfl | rfl <;> decide +kernel
    walk_at "e"
    walk_at "s"
    refine h_new H (Nat.le_of_ble_eq_true rfl) fun q1 M H => ?_
    walk_at "e"
    refine h_new H (Nat.le_of_ble_eq_true rfl) fun q2 M H => ?_
    walk_at "e"
    refine h_new H (Nat.le_of_ble_eq_true rfl) fun q3 M H => ?_
    walk_at "e"
    refine h_new H (Nat.le_of_ble_eq_true rfl) fun q4 M H => ?_
    walk_at "e"
    refine h_new H (Nat.le_of_ble_eq_true rfl) fun q5 M H => ?_
    walk_at "e"
    refine h_new H (Nat.le_of_ble_eq_true rfl) fun q6 M H => ?_
    walk_at "e"
    refine h_new H (Nat.le_of_ble_eq_true rfl) fun q7 M H => ?_
    walk_at "e"
    refine h_new H (Nat.le_of_ble_eq_true rfl) fun q8 M H => ?_
    walk_at "e"
    refine h_new H (Nat.le_of_ble_eq_true rfl) fun q9 M H => ?_
    walk_at "e"
    refine h_new H (Nat.le_of_ble_eq_true rfl) fun q10 M H => ?_
    walk_at "e"
    refine h_new H (Nat.le_of_ble_eq_true rfl) fun q11 M H => ?_
    walk_at "e"
    refine h_new H (Nat.le_of_ble_eq_true rfl) fun q12 M H => ?_
    walk_at "e"
    have H0 := H
    refine h_new H (Nat.le_of_ble_eq_true rfl) fun mn M H => ?_
    walk_at "e"
    walk_at "s"
    refine h_pick H hj (by show (0 : Int) < ((12 : Nat) : Int) ∧ ((12 : Nat) : Int) < 1073741824; omega) fun c M c0 c1 H => ?_
    have c1 : c < ((12 : Nat) : Int) := c1
    have key : ∃ d, atI ([.ref q1, .ref q2, .ref q3, .ref q4, .ref q5, .ref q6, .ref q7, .ref q8, .ref q9, .ref q10, .ref q11, .ref q12] : List D) c = some d ∧ ∃ q ts, d = .ref q ∧ M q = some (.lst ts) ∧ ts.length ≤ 2 ∧ ∀ t ∈ ts, good 1000 t := by
      obtain ⟨d, e1, hd, _⟩ := atI_mem (ds := ([.ref q1, .ref q2, .ref q3, .ref q4, .ref q5, .ref q6, .ref q7, .ref q8, .ref q9, .ref q10, .ref q11, .ref q12] : List D)) c0 c1
      refine ⟨d, e1, ?_⟩
      have g3 : ∀ {z a b c : D}, good 1000 z → good 1000 a → good 1000 b → good 1000 c → ∀ t ∈ ([.tup [z, a, b, c]] : List D), good 1000 t := fun h1 h2 h3 h4 => g_cons (g4 h1 h2 h3 h4) g_nil
      simp only [List.mem_cons, List.not_mem_nil, or_false] at hd
      rcases hd with rfl | rfl | rfl | rfl | rfl | rfl | rfl | rfl | rfl | rfl | rfl | rfl
      · exact ⟨q1, _, rfl, H.get (by walk_at "m"), Nat.le_of_ble_eq_true rfl, g3 gw g_int g_int g_int⟩
      · exact ⟨q2, _, rfl, H.get (by walk_at "m"), Nat.le_of_ble_eq_true rfl, g3 gz g_int g_int g_int⟩
      · exact ⟨q3, _, rfl, H.get (by walk_at "m"), Nat.le_of_ble_eq_true rfl, g3 gz g_int g_int g_int⟩
      · exact ⟨q4, _, rfl, H.get (by walk_at "m"), Nat.le_of_ble_eq_true rfl, g3 gz g_int g_int g_int⟩
      · exact ⟨q5, _, rfl, H.get (by walk_at "m"), Nat.le_of_ble_eq_true rfl, g3 gz g_int g_int g_bl⟩
      · exact ⟨q6, _, rfl, H.get (by walk_at "m"), Nat.le_of_ble_eq_true rfl, g3 gz g_bl g_int g_int⟩
      · exact ⟨q7, _, rfl, H.get (by walk_at "m"), Nat.le_of_ble_eq_true rfl, g_cons (g4 gz g_int g_int g_int) (g3 gz g_int g_int g_int)⟩
      · exact ⟨q8, _, rfl, H.get (by walk_at "m"), Nat.le_of_ble_eq_true rfl, g_cons (g4 gz g_int g_int g_int) (g3 gz g_int g_int g_int)⟩
      · exact ⟨q9, _, rfl, H.get (by walk_at "m"), Nat.le_of_ble_eq_true rfl, g_cons (g4 gz g_int g_int g_int) (g3 gz g_int g_int g_int)⟩
      · exact ⟨q10, _, rfl, H.get (by walk_at "m"), Nat.le_of_ble_eq_true rfl, g_cons (g_tup (Nat.le_of_ble_eq_true rfl) (g_cons gz (g_cons g_int (g_cons g_int (g_cons g_int (g_cons g_int g_nil)))))) g_nil⟩
      · exact ⟨q11, _, rfl, H.get (by walk_at "m"), Nat.le_of_ble_eq_true rfl, g_nil⟩
      · exact ⟨q12, _, rfl, H.get (by walk_at "m"), Nat.le_of_ble_eq_true rfl, g3 gz g_int g_int g_int⟩
    obtain ⟨d, ec, q, ts, rfl, hq, tl, gt⟩ := key
    have hmn := H.get List.mem_cons_self
    have H : Held M Js L := H.sub (by repeat (first | exact List.Sublist.refl _ | refine .cons _ ?_))
    refine v_ix_ref hmn ec ?_
    walk_at "e"
    have c1 := cutD_len (x.ms.map LX.Mo.d) none (some pl)
    have c2 := cutD_len (x.ms.map LX.Mo.d) (some (pl + 1)) none
    refine v_add_tup (line_big (by omega)) ?_
    walk_at "e"
    have gnew : ∀ d ∈ cutD (x.ms.map LX.Mo.d) none (some pl) ++ ts ++ cutD (x.ms.map LX.Mo.d) (some (pl + 1)) none, good 1000 d := g_app (g_app (g_cut gms) gt) (g_cut gms)
    have lnew : (cutD (x.ms.map LX.Mo.d) none (some pl) ++ ts ++ cutD (x.ms.map LX.Mo.d) (some (pl + 1)) none).length ≤ 200 := by simp only [List.length_append]; omega
    generalize cutD (x.ms.map LX.Mo.d) none (some pl) ++ ts ++ cutD (x.ms.map LX.Mo.d) (some (pl + 1)) none = new at gnew lnew
    have H0 := H
    walk_at "e"
    refine t_cut (fun ρ M => ∃ new, (∀ d ∈ new, good 1000 d) ∧ new.length ≤ 200 ∧ ρ = [some (.ref j), some (.tup [.tup (zs.map D.str), .tup (nds.map ndD ++ [endD])]), some (.int a), some (.tup [.str "letter", .str x.s, .str x.r, .tup (x.ms.map LX.Mo.d)]), some (.int pl), some (.str m.z), some (.int m.l), some (.int m.h), some (.int m.g), some (.str wd), some (.ref mn), some (.tup new)] ∧ Held M Js L) (fun N0 hN0 => ?_) ?_
    · walk_at "e"
      refine h_pick H0 hj (by omega) fun b M b0 b1 H => ?_
      walk_at "e"
      refine t_ite (fun e => ?_) (fun e => ?_)
      · walk_at "d"
        refine fun p np => ?_
        have H := H.new (o := .lst new.reverse) np
        walk_at "d"
        exact hN0 _ _ ⟨new.reverse, fun d hd => gnew d (List.mem_reverse.mp hd), by rw [List.length_reverse]; exact lnew, rfl, H.tail⟩
      · walk_at "d"
        exact hN0 _ _ ⟨new, gnew, lnew, rfl, H⟩
    rintro ρ M ⟨new, gnew, lnew, rfl, H⟩
    walk_at "s"
    refine ⟨rfl, _, _, _, rfl, by omega, ?_⟩
    walk_at "e"
    exact k _ _ (g2 (gK W (g_names W)) (g_put (by omega) (gsK W (g_ns W)) (g4 (g_letter (by decide)) (gK W (g_z W w1)) (gK W (g_z W w2)) (g_tup (by omega) gnew)))) H
theorem ok_two_turned (ds : List D) (M : Mh) (P : PQ) (h : sp_bend ds M P) : b__law_two_turned sp_put sp_letter_at { nx := fun _ M' => P .non M', rt := P } (startD 4 ds) M := by
  obtain ⟨Js, L, j, zs, nds, rfl, H, hj, W, k⟩ := h
  have nl := n_len W
  have wn := W.n
  have gN : ∀ {o : Option Nd}, (∀ x, o = some x → x ∈ nds) → good 1000 (nodeD o) := fun {o} ho => by
    cases o with
    | none => exact gK W (g_end (by decide))
    | some x => exact gK W (g_nd W (ho x rfl))
  unfold b__law_two_turned
  walk_at "s"
  refine h_at H hj W fun a o M ea ho a0 a1 H => ?_
  walk_at "e"
  walk_at "s"
  refine h_at H hj W fun b o2 M eb ho2 b0 b1 H => ?_
  walk_at "e"
  walk_at "s"
  refine ⟨rfl, _, _, _, rfl, by omega, ?_⟩
  walk_at "e"
  have l1 := put_len (xs := nds.map ndD ++ [endD]) (a := a) (d := nodeD o2)
  refine ⟨rfl, _, _, _, rfl, by omega, ?_⟩
  walk_at "e"
  refine k _ _ (g2 (gK W (g_names W)) (g_put (by omega) (fun d hd => ?_) (gN ho))) H
  exact (good_tup.mp (g_put (by omega) (gsK W (g_ns W)) (gN ho2))).2 d hd
theorem ok_other_shape (ds : List D) (M : Mh) (P : PQ) (h : sp_bend ds M P) : b__law_other_shape sp_pick { nx := fun _ M' => P .non M', rt := P } (startD 3 ds) M := by
  obtain ⟨Js, L, j, zs, nds, rfl, H, hj, W, k⟩ := h
  have wz0 := W.z0
  have nl := n_len W
  obtain ⟨a0s, ha0, _, ea0⟩ := atI_map' (zs := zs) (f := D.str) (k := 0) (by omega) (by omega)
  obtain ⟨fst, ef, hf, _⟩ := atI_mem (ds := nds.map ndD ++ [endD]) (k := 0) (by omega) (by omega)
  have gf := gsK W (g_ns W) fst hf
  have gz := gK W (g_z W ha0)
  have gr := gK W (g_names W)
  have gn := gK W (g_nodes W)
  have gw := gK W (g_web W)
  have g0 : good 1000 (.tup []) := g_tup (Nat.le_of_ble_eq_true rfl) g_nil
  unfold b__law_other_shape
  walk_at "s"
  refine h_new H (Nat.le_of_ble_eq_true rfl) fun q M H => ?_
  walk_at "e"
  walk_at "s"
  refine h_new H (Nat.le_of_ble_eq_true rfl) fun u M H => ?_
  walk_at "e"
  refine h_extI 1 H rfl (by walk_at "m") (Nat.le_of_ble_eq_true rfl) fun M H => ?_
  have H := Held.tail H
  walk_at "e"
  walk_at "s"
  refine h_pick H hj (by show (0 : Int) < ((12 : Nat) : Int) ∧ ((12 : Nat) : Int) < 1073741824; omega) fun a M a0 a1 H => ?_
  obtain ⟨d, e1, hd, _⟩ := atI_mem a0 a1
  refine v_ix_ref (H.get List.mem_cons_self) e1 ?_
  refine k _ _ ?_ H.tail
  have g1 : ∀ {d : D}, good 1000 d → good 1000 (.tup [d]) := fun h => g_tup (Nat.le_of_ble_eq_true rfl) (g_cons h g_nil)
  refine (show ∀ d ∈ ([_, _, _, _, _, _, _, _, _, _, _, _] : List D), good 1000 d from ?_) d hd
  exact g_cons (g2 gn gr) (g_cons (g1 gr) (g_cons (g_tup (Nat.le_of_ble_eq_true rfl) (g_cons gr (g_cons gn (g_cons g0 g_nil)))) (g_cons gr (g_cons gn (g_cons (g1 gw) (g_cons (g2 g0 gn) (g_cons (g2 gr g0) (g_cons (g2 gr gf) (g_cons (g2 gr (g1 gn)) (g_cons (g2 gz gn) (g_cons (g2 gr trivial) g_nil)))))))))))
def sp_bent_web : DSp := fun ds M P => ∃ (Js : List Addr) (L : List (Addr × MO)) (j : Addr) (zs : List Str) (nds : List Nd) (way : Int), ds = [.ref j, .tup [.tup (zs.map D.str), .tup (nds.map ndD ++ [endD])], .int way] ∧ Held M Js L ∧ j ∈ Js ∧ WOk zs nds ∧ GQ Js L P
theorem ok_bent_web (ds : List D) (M : Mh) (P : PQ) (h : sp_bent_web ds M P) : b__law_bent_web sp_bend sp_bend sp_bend sp_bend sp_bend sp_pick LX.sp_name sp_bend sp_bend sp_other_next sp_spoilt { nx := fun _ M' => P .non M', rt := P } (startD 5 ds) M := by
  obtain ⟨Js, L, j, zs, nds, way, rfl, H, hj, W, k⟩ := h
  have wz0 := W.z0
  have wz1 := W.z1
  have zl : (zs.map D.str).length = zs.length := List.length_map ..
  have nl := n_len W
  have gr := gK W (g_names W)
  have gn := gK W (g_nodes W)
  have go : ∀ (M : Mh) (Q : PQ), Held M Js L → (∀ d M', good 1000 d → Held M' Js L → Q d M') → [D.ref j, D.tup [.tup (zs.map D.str), .tup (nds.map ndD ++ [endD])]].length = 2 ∧ sp_bend [.ref j, .tup [.tup (zs.map D.str), .tup (nds.map ndD ++ [endD])]] M Q := fun M Q H k => ⟨rfl, Js, L, j, zs, nds, rfl, H, hj, W, k⟩
  unfold b__law_bent_web
  walk_at "d"
  refine t_ite (fun e => ?_) (fun e => ?_)
  · walk_at "d"
    exact ⟨rfl, j, _, rfl, g_web W, H.jar j hj, fun d M' m jk g => k d M' (good_mono (by decide) g) (H.keep hj m jk)⟩
  walk_at "d"
  refine t_ite (fun e => ?_) (fun e => ?_)
  · refine t_if1 rfl ?_
    walk_at "d"
    exact ⟨rfl, Js, L, j, zs, nds, _, rfl, H, hj, W, k⟩
  walk_at "d"
  refine t_ite (fun e => ?_) (fun e => ?_)
  · walk_at "d"
    exact ⟨rfl, Js, L, j, zs, nds, _, rfl, H, hj, W, k⟩
  walk_at "d"
  refine t_ite (fun e => ?_) (fun e => ?_)
  · walk_at "d"
    exact go _ _ H k
  walk_at "d"
  refine t_ite (fun e => ?_) (fun e => ?_)
  · walk_at "d"
    exact go _ _ H k
  walk_at "d"
  refine t_ite (fun e => ?_) (fun e => ?_)
  · walk_at "d"
    refine h_pick H hj (by omega) fun a M a0 a1 H => ?_
    walk_at "d"
    refine ⟨by omega, ?_⟩
    refine h_lc (fun i acc => ∀ d ∈ acc, good 1000 d) H (by rw [LX.rlen]; omega) (by simp) (fun _ _ => trivial) (fun R i d acc p M hd hI H kR => ?_) (fun p acc M hl hI H => ?_)
    · obtain ⟨rfl, hi⟩ := LX.rget hd
      refine ⟨_, rfl, ?_⟩
      walk_at "d"
      refine LX.h_name H hj (by omega) (by omega) fun z M zl _ H => ?_
      exact kR _ _ (g_app hI (g_cons (g_str (by omega)) g_nil)) H
    · rw [LX.rlen] at hl
      walk_at "d"
      exact k _ _ (g2 (g_tup (by rw [List.length_append]; omega) (g_app (good_tup.mp gr).2 hI)) gn) H.tail
  walk_at "d"
  refine t_ite (fun e => ?_) (fun e => ?_)
  · walk_at "d"
    rw [zl]
    refine h_pick H hj (by omega) fun a M a0 a1 H => ?_
    have c1 := cutD_len (zs.map D.str) none (some a)
    have c2 := cutD_len (zs.map D.str) (some (a + 1)) none
    walk_at "d"
    exact k _ _ (g2 (g_tup (by rw [List.length_append]; omega) (g_app (g_cut (good_tup.mp gr).2) (g_cut (good_tup.mp gr).2))) gn) H
  walk_at "d"
  refine t_ite (fun e => ?_) (fun e => ?_)
  · walk_at "d"
    exact go _ _ H k
  walk_at "d"
  refine t_ite (fun e => ?_) (fun e => ?_)
  · walk_at "d"
    exact go _ _ H k
  walk_at "d"
  refine t_ite (fun e => ?_) (fun e => ?_)
  · refine t_if1 rfl ?_
    walk_at "d"
    exact go _ _ H k
  walk_at "d"
  refine t_ite (fun e => ?_) (fun e => ?_)
  · walk_at "d"
    exact go _ _ H k
  walk_at "d"
  refine t_ite (fun e => ?_) (fun e => ?_)
  · walk_at "d"
    exact go _ _ H k
  walk_at "d"
  exact go _ _ H k
/-! ### the law -/
def sp_judged_web : DSp := fun ds M P => ∃ (Js : List Addr) (L : List (Addr × MO)) (ns : List Int) (way : Int), ds = [.rol (ns.map D.int), .int way] ∧ Held M Js L ∧ ∀ zs nds M', WOk zs nds → Held M' Js L → P (.tup [.tup (zs.map D.str), .tup (nds.map ndD ++ [endD])]) M'
theorem Held.jtail {M : Mh} {j : Addr} {Js : List Addr} {L : List (Addr × MO)} (H : Held M (j :: Js) L) : Held M Js L :=
  ⟨fun i hi => H.jar i (List.mem_cons_of_mem _ hi), (List.nodup_cons.mp H.nd).2, H.at'⟩
theorem ok_judged_web (ds : List D) (M : Mh) (P : PQ) (h : sp_judged_web ds M P) : b__law_judged_web sp_wild_web sp_pick sp_hub_web sp_row_web sp_jar { nx := fun _ M' => P .non M', rt := P } (startD 4 ds) M := by
  obtain ⟨Js, L, ns, way, rfl, H, k⟩ := h
  unfold b__law_judged_web
  walk_at "s"
  refine h_jar H (by omega) fun j M H => ?_
  walk_at "e"
  walk_at "s"
  refine h_jar H (by omega) fun i M H => ?_
  have hj : j ∈ i :: j :: Js := by simp
  have hi : i ∈ i :: j :: Js := by simp
  have fin : WebQ (i :: j :: Js) L P := fun zs nds M' W H => k zs nds M' W (Held.jtail (Held.jtail H))
  walk_at "d"
  refine t_ite (fun e => ?_) (fun e => ?_)
  · walk_at "d"
    refine h_pick H hj (by omega) fun a M a0 a1 H => ?_
    obtain ⟨an, rfl⟩ := Int.eq_ofNat_of_zero_le a0
    walk_at "d"
    exact ⟨rfl, _, L, i, 57 + an, by simp, H, hi, by omega, fin⟩
  walk_at "d"
  refine t_ite (fun e => ?_) (fun e => ?_)
  · walk_at "d"
    refine h_pick H hj (by omega) fun a M a0 a1 H => ?_
    walk_at "d"
    exact ⟨rfl, _, L, j, i, _, rfl, H, hj, hi, by omega, by omega, fin⟩
  walk_at "d"
  refine h_pick H hj (by omega) fun a M a0 a1 H => ?_
  walk_at "d"
  exact ⟨rfl, _, L, j, i, _, rfl, H, hj, hi, by omega, by omega, fin⟩
theorem ok_law (ds : List D) (M : Mh) (P : PQ) (h : lawSp ds M P) : b_law sp_judged sp_spoilt sp_odd sp_bent_web sp_judged_web sp_pick sp_jar { nx := fun _ M' => P .non M', rt := P } (startD 5 ds) M := by
  obtain ⟨ns, rfl, k⟩ := h
  have H := Held.nil M
  unfold b_law
  walk_at "s"
  refine h_jar H (by omega) fun j M H => ?_
  have hj : j ∈ [j] := by simp
  walk_at "d"
  refine h_pick H hj (by omega) fun a M a0 a1 H => ?_
  walk_at "d"
  refine ⟨rfl, _, _, ns, _, rfl, H, fun zs nds M W H => ?_⟩
  have gw := gK W (g_web W)
  have jd : ∀ {d : D} {M : Mh} {Q : PQ}, good 1000 d → Held M [j] [] → (∀ M', Held M' [j] [] → Q (.bl true) M') → [d].length = 1 ∧ sp_judged [d] M Q := fun {d M Q} g H k => ⟨rfl, d, rfl, g, fun M' x => k M' (H.ext x)⟩
  walk_at "d"
  refine jd gw H fun M H => ?_
  walk_at "d"
  refine t_if0 rfl ?_
  walk_at "d"
  refine ⟨by decide, ?_⟩
  refine for_each (fun i ρ M => ∃ (w3 : Option D), ρ = [some (.rol (ns.map D.int)), some (.ref j), some (.tup [.tup (zs.map D.str), .tup (nds.map ndD ++ [endD])]), w3, none] ∧ Held M [j] []) ⟨_, rfl, H⟩ (fun N i d ρ M hd hI hN => ?_) (fun ρ M hI => ?_)
  · obtain ⟨w3, rfl, H⟩ := hI
    obtain ⟨rfl, hi⟩ := LX.rget hd
    refine ⟨trivial, ?_⟩
    walk_at "d"
    refine ⟨rfl, _, _, j, zs, nds, _, rfl, H, hj, W, fun d M g H => ?_⟩
    walk_at "d"
    refine jd g H fun M H => ?_
    walk_at "d"
    refine t_if0 rfl ?_
    walk_at "d"
    exact hN _ _ ⟨_, rfl, H⟩
  · obtain ⟨w3, rfl, H⟩ := hI
    refine ⟨trivial, ?_⟩
    walk_at "d"
    refine ⟨rfl, j, rfl, H.jar j hj, fun od M' m jk g => ?_⟩
    have H := H.keep hj m jk
    walk_at "d"
    refine jd (good_mono (by decide) g) H fun M H => ?_
    walk_at "d"
    refine t_if0 rfl ?_
    walk_at "d"
    refine ⟨rfl, j, rfl, H.jar j hj, fun od2 M' m jk g2' => ?_⟩
    have H := H.keep hj m jk
    walk_at "d"
    refine ⟨rfl, j, _, rfl, good_tup.mpr ⟨by show 2 ≤ 100; omega, g_cons (good_mono (by decide) g) (g_cons (good_mono (by decide) g2') g_nil)⟩, H.jar j hj, fun od3 M' m jk g3 => ?_⟩
    have H := H.keep hj m jk
    walk_at "d"
    refine jd (good_mono (by decide) g3) H fun M H => ?_
    walk_at "d"
    refine t_if0 rfl ?_
    walk_at "d"
    refine jd gw H fun M H => ?_
    exact k.2 _
end K11
/-! K11d: that these bodies are those of the text, printed by gen.py -/
namespace K11
open PySem DL L2

def topS (i : Nat) : Stmt := PySem.Challenge.pw_swapwarrant_k11_webs_judged.main.body.getD i (.Pass ⟨0, 0, 0, 0⟩)
abbrev s_nexts_of : Stmt := topS 1
theorem sc_nexts_of : FnScope ["node", "found", "move"] ["node"] (defScope s_nexts_of) := ⟨rfl, rfl, rfl, by decide +kernel, rfl, by decide +kernel, by decide +kernel⟩
theorem den_nexts_of : dB (dR 24) 24 (gmOf ["node", "found", "move"] (defScope s_nexts_of) [] []) (defBody s_nexts_of) = some (b_nexts_of) := by kernel_rfl
abbrev s_found_from : Stmt := topS 2
theorem sc_found_from : FnScope ["nodes", "start", "found", "seen", "at", "goal"] ["nodes", "start"] (defScope s_found_from) := ⟨rfl, rfl, rfl, by decide +kernel, rfl, by decide +kernel, by decide +kernel⟩
theorem den_found_from (c_nexts_of : DSp) : dB (dR 24) 24 (gmOf ["nodes", "start", "found", "seen", "at", "goal"] (defScope s_found_from) [("nexts_of", 1, c_nexts_of)] []) (defBody s_found_from) = some (b_found_from c_nexts_of) := by kernel_rfl
abbrev s_comers_to : Stmt := topS 3
theorem sc_comers_to : FnScope ["nodes", "comers", "node", "number", "goal"] ["nodes"] (defScope s_comers_to) := ⟨rfl, rfl, rfl, by decide +kernel, rfl, by decide +kernel, by decide +kernel⟩
theorem den_comers_to (c_nexts_of : DSp) : dB (dR 24) 24 (gmOf ["nodes", "comers", "node", "number", "goal"] (defScope s_comers_to) [("nexts_of", 1, c_nexts_of)] []) (defBody s_comers_to) = some (b_comers_to c_nexts_of) := by kernel_rfl
abbrev s_left_of : Stmt := topS 4
theorem sc_left_of : FnScope ["nodes", "comers", "left", "node", "end", "waiting", "at", "number", "comer"] ["nodes"] (defScope s_left_of) := ⟨rfl, rfl, rfl, by decide +kernel, rfl, by decide +kernel, by decide +kernel⟩
theorem den_left_of (c_comers_to : DSp) : dB (dR 24) 24 (gmOf ["nodes", "comers", "left", "node", "end", "waiting", "at", "number", "comer"] (defScope s_left_of) [("comers_to", 1, c_comers_to)] []) (defBody s_left_of) = some (b_left_of c_comers_to) := by kernel_rfl
abbrev s_is_number : Stmt := topS 10
theorem sc_is_number : FnScope ["thing"] ["thing"] (defScope s_is_number) := ⟨rfl, rfl, rfl, by decide +kernel, rfl, by decide +kernel, by decide +kernel⟩
theorem den_is_number : dB (dR 24) 24 (gmOf ["thing"] (defScope s_is_number) [] []) (defBody s_is_number) = some (b_is_number) := by kernel_rfl
abbrev s_is_name : Stmt := topS 11
theorem sc_is_name : FnScope ["thing", "sign"] ["thing"] (defScope s_is_name) := ⟨rfl, rfl, rfl, by decide +kernel, rfl, by decide +kernel, by decide +kernel⟩
theorem den_is_name : dB (dR 24) 24 (gmOf ["thing", "sign"] (defScope s_is_name) [] [("FIGURES", g_FIGURES), ("LETTERS", g_LETTERS)]) (defBody s_is_name) = some (b_is_name) := by kernel_rfl
abbrev s_is_label : Stmt := topS 12
theorem sc_is_label : FnScope ["thing"] ["thing"] (defScope s_is_label) := ⟨rfl, rfl, rfl, by decide +kernel, rfl, by decide +kernel, by decide +kernel⟩
theorem den_is_label (c_is_name : DSp) : dB (dR 24) 24 (gmOf ["thing"] (defScope s_is_label) [("is_name", 1, c_is_name)] [("RESERVED", g_RESERVED)]) (defBody s_is_label) = some (b_is_label c_is_name) := by kernel_rfl
abbrev s_is_span : Stmt := topS 13
theorem sc_is_span : FnScope ["lo", "hi"] ["lo", "hi"] (defScope s_is_span) := ⟨rfl, rfl, rfl, by decide +kernel, rfl, by decide +kernel, by decide +kernel⟩
theorem den_is_span (c_is_number : DSp) : dB (dR 24) 24 (gmOf ["lo", "hi"] (defScope s_is_span) [("is_number", 1, c_is_number)] [("GREATEST", g_GREATEST)]) (defBody s_is_span) = some (b_is_span c_is_number) := by kernel_rfl
abbrev s_is_move : Stmt := topS 14
theorem sc_is_move : FnScope ["many", "move"] ["many", "move"] (defScope s_is_move) := ⟨rfl, rfl, rfl, by decide +kernel, rfl, by decide +kernel, by decide +kernel⟩
theorem den_is_move (c_is_number : DSp) (c_is_span : DSp) (c_is_label : DSp) : dB (dR 24) 24 (gmOf ["many", "move"] (defScope s_is_move) [("is_number", 1, c_is_number), ("is_span", 2, c_is_span), ("is_label", 1, c_is_label)] []) (defBody s_is_move) = some (b_is_move c_is_number c_is_span c_is_label) := by kernel_rfl
abbrev s_is_moves : Stmt := topS 15
theorem sc_is_moves : FnScope ["many", "moves", "move", "at", "before", "behind"] ["many", "moves"] (defScope s_is_moves) := ⟨rfl, rfl, rfl, by decide +kernel, rfl, by decide +kernel, by decide +kernel⟩
theorem den_is_moves (c_is_move : DSp) : dB (dR 24) 24 (gmOf ["many", "moves", "move", "at", "before", "behind"] (defScope s_is_moves) [("is_move", 2, c_is_move)] []) (defBody s_is_moves) = some (b_is_moves c_is_move) := by kernel_rfl
abbrev s_are_roles : Stmt := topS 19
theorem sc_are_roles : FnScope ["thing", "at"] ["thing"] (defScope s_are_roles) := ⟨rfl, rfl, rfl, by decide +kernel, rfl, by decide +kernel, by decide +kernel⟩
theorem den_are_roles (c_is_label : DSp) : dB (dR 24) 24 (gmOf ["thing", "at"] (defScope s_are_roles) [("is_label", 1, c_is_label)] [("MOST_ROLES", g_MOST_ROLES)]) (defBody s_are_roles) = some (b_are_roles c_is_label) := by kernel_rfl
abbrev s_is_letter_node : Stmt := topS 20
theorem sc_is_letter_node : FnScope ["roles", "many", "node", "name"] ["roles", "many", "node"] (defScope s_is_letter_node) := ⟨rfl, rfl, rfl, by decide +kernel, rfl, by decide +kernel, by decide +kernel⟩
theorem den_is_letter_node (c_is_moves : DSp) : dB (dR 24) 24 (gmOf ["roles", "many", "node", "name"] (defScope s_is_letter_node) [("is_moves", 2, c_is_moves)] []) (defBody s_is_letter_node) = some (b_is_letter_node c_is_moves) := by kernel_rfl
abbrev s_is_end : Stmt := topS 21
theorem sc_is_end : FnScope ["thing"] ["thing"] (defScope s_is_end) := ⟨rfl, rfl, rfl, by decide +kernel, rfl, by decide +kernel, by decide +kernel⟩
theorem den_is_end : dB (dR 24) 24 (gmOf ["thing"] (defScope s_is_end) [] []) (defBody s_is_end) = some (b_is_end) := by kernel_rfl
abbrev s_is_web : Stmt := topS 22
theorem sc_is_web : FnScope ["thing", "nodes", "node", "met", "number"] ["thing"] (defScope s_is_web) := ⟨rfl, rfl, rfl, by decide +kernel, rfl, by decide +kernel, by decide +kernel⟩
theorem den_is_web (c_left_of : DSp) (c_found_from : DSp) (c_is_letter_node : DSp) (c_is_end : DSp) (c_are_roles : DSp) : dB (dR 24) 24 (gmOf ["thing", "nodes", "node", "met", "number"] (defScope s_is_web) [("left_of", 1, c_left_of), ("found_from", 2, c_found_from), ("is_letter_node", 3, c_is_letter_node), ("is_end", 1, c_is_end), ("are_roles", 1, c_are_roles)] [("MOST_NODES", g_MOST_NODES)]) (defBody s_is_web) = some (b_is_web c_left_of c_found_from c_is_letter_node c_is_end c_are_roles) := by kernel_rfl
abbrev s__law_cell : Stmt := topS 24
theorem sc__law_cell : FnScope ["script", "place"] ["script", "place"] (defScope s__law_cell) := ⟨rfl, rfl, rfl, by decide +kernel, rfl, by decide +kernel, by decide +kernel⟩
theorem den__law_cell : dB (dR 24) 24 (gmOf ["script", "place"] (defScope s__law_cell) [] []) (defBody s__law_cell) = some (b__law_cell) := by kernel_rfl
abbrev s__law_jar : Stmt := topS 25
theorem sc__law_jar : FnScope ["script", "place", "cell", "number"] ["script", "place"] (defScope s__law_jar) := ⟨rfl, rfl, rfl, by decide +kernel, rfl, by decide +kernel, by decide +kernel⟩
theorem den__law_jar (c__law_cell : DSp) : dB (dR 24) 24 (gmOf ["script", "place", "cell", "number"] (defScope s__law_jar) [("_law_cell", 2, c__law_cell)] []) (defBody s__law_jar) = some (b__law_jar c__law_cell) := by kernel_rfl
abbrev s__law_pick : Stmt := topS 26
theorem sc__law_pick : FnScope ["jar", "many", "found"] ["jar", "many"] (defScope s__law_pick) := ⟨rfl, rfl, rfl, by decide +kernel, rfl, by decide +kernel, by decide +kernel⟩
theorem den__law_pick : dB (dR 24) 24 (gmOf ["jar", "many", "found"] (defScope s__law_pick) [] []) (defBody s__law_pick) = some (b__law_pick) := by kernel_rfl
abbrev s__law_name : Stmt := topS 27
theorem sc__law_name : FnScope ["jar", "index", "letters", "word", "count", "at"] ["jar", "index"] (defScope s__law_name) := ⟨rfl, rfl, rfl, by decide +kernel, rfl, by decide +kernel, by decide +kernel⟩
theorem den__law_name (c__law_pick : DSp) : dB (dR 24) 24 (gmOf ["jar", "index", "letters", "word", "count", "at"] (defScope s__law_name) [("_law_pick", 2, c__law_pick)] []) (defBody s__law_name) = some (b__law_name c__law_pick) := by kernel_rfl
abbrev s__law_names : Stmt := topS 28
theorem sc__law_names : FnScope ["jar", "many", "index"] ["jar", "many"] (defScope s__law_names) := ⟨rfl, rfl, rfl, by decide +kernel, rfl, by decide +kernel, by decide +kernel⟩
theorem den__law_names (c__law_name : DSp) : dB (dR 24) 24 (gmOf ["jar", "many", "index"] (defScope s__law_names) [("_law_name", 2, c__law_name)] []) (defBody s__law_names) = some (b__law_names c__law_name) := by kernel_rfl
abbrev s__law_span : Stmt := topS 29
theorem sc__law_span : FnScope ["jar", "way", "value", "low"] ["jar"] (defScope s__law_span) := ⟨rfl, rfl, rfl, by decide +kernel, rfl, by decide +kernel, by decide +kernel⟩
theorem den__law_span (c__law_pick : DSp) : dB (dR 24) 24 (gmOf ["jar", "way", "value", "low"] (defScope s__law_span) [("_law_pick", 2, c__law_pick)] []) (defBody s__law_span) = some (b__law_span c__law_pick) := by kernel_rfl
abbrev s__law_moves : Stmt := topS 30
theorem sc__law_moves : FnScope ["jar", "labels", "count", "goals", "found", "used", "index", "label", "again", "word", "span", "low", "high"] ["jar", "labels", "count", "goals"] (defScope s__law_moves) := ⟨rfl, rfl, rfl, by decide +kernel, rfl, by decide +kernel, by decide +kernel⟩
theorem den__law_moves (c__law_pick : DSp) (c__law_span : DSp) : dB (dR 24) 24 (gmOf ["jar", "labels", "count", "goals", "found", "used", "index", "label", "again", "word", "span", "low", "high"] (defScope s__law_moves) [("_law_pick", 2, c__law_pick), ("_law_span", 1, c__law_span)] []) (defBody s__law_moves) = some (b__law_moves c__law_pick c__law_span) := by kernel_rfl
abbrev s__law_put : Stmt := topS 31
theorem sc__law_put : FnScope ["row", "at", "item"] ["row", "at", "item"] (defScope s__law_put) := ⟨rfl, rfl, rfl, by decide +kernel, rfl, by decide +kernel, by decide +kernel⟩
theorem den__law_put : dB (dR 24) 24 (gmOf ["row", "at", "item"] (defScope s__law_put) [] []) (defBody s__law_put) = some (b__law_put) := by kernel_rfl
abbrev s__law_odd : Stmt := topS 32
theorem sc__law_odd : FnScope ["jar", "menu"] ["jar"] (defScope s__law_odd) := ⟨rfl, rfl, rfl, by decide +kernel, rfl, by decide +kernel, by decide +kernel⟩
theorem den__law_odd (c__law_pick : DSp) : dB (dR 24) 24 (gmOf ["jar", "menu"] (defScope s__law_odd) [("_law_pick", 2, c__law_pick)] []) (defBody s__law_odd) = some (b__law_odd c__law_pick) := by kernel_rfl
abbrev s__law_spoilt : Stmt := topS 33
theorem sc__law_spoilt : FnScope ["jar", "thing", "trail", "now", "count", "at", "way", "fresh", "row"] ["jar", "thing"] (defScope s__law_spoilt) := ⟨rfl, rfl, rfl, by decide +kernel, rfl, by decide +kernel, by decide +kernel⟩
theorem den__law_spoilt (c__law_pick : DSp) (c__law_odd : DSp) : dB (dR 24) 24 (gmOf ["jar", "thing", "trail", "now", "count", "at", "way", "fresh", "row"] (defScope s__law_spoilt) [("_law_pick", 2, c__law_pick), ("_law_odd", 1, c__law_odd)] []) (defBody s__law_spoilt) = some (b__law_spoilt c__law_pick c__law_odd) := by kernel_rfl
abbrev s__law_is_number : Stmt := topS 34
theorem sc__law_is_number : FnScope ["thing"] ["thing"] (defScope s__law_is_number) := ⟨rfl, rfl, rfl, by decide +kernel, rfl, by decide +kernel, by decide +kernel⟩
theorem den__law_is_number : dB (dR 24) 24 (gmOf ["thing"] (defScope s__law_is_number) [] []) (defBody s__law_is_number) = some (b__law_is_number) := by kernel_rfl
abbrev s__law_is_name : Stmt := topS 35
theorem sc__law_is_name : FnScope ["thing", "letters", "sign"] ["thing"] (defScope s__law_is_name) := ⟨rfl, rfl, rfl, by decide +kernel, rfl, by decide +kernel, by decide +kernel⟩
theorem den__law_is_name : dB (dR 24) 24 (gmOf ["thing", "letters", "sign"] (defScope s__law_is_name) [] []) (defBody s__law_is_name) = some (b__law_is_name) := by kernel_rfl
abbrev s__law_is_label : Stmt := topS 36
theorem sc__law_is_label : FnScope ["thing", "words"] ["thing"] (defScope s__law_is_label) := ⟨rfl, rfl, rfl, by decide +kernel, rfl, by decide +kernel, by decide +kernel⟩
theorem den__law_is_label (c__law_is_name : DSp) : dB (dR 24) 24 (gmOf ["thing", "words"] (defScope s__law_is_label) [("_law_is_name", 1, c__law_is_name)] []) (defBody s__law_is_label) = some (b__law_is_label c__law_is_name) := by kernel_rfl
abbrev s__law_is_move : Stmt := topS 37
theorem sc__law_is_move : FnScope ["thing", "many", "part"] ["thing", "many"] (defScope s__law_is_move) := ⟨rfl, rfl, rfl, by decide +kernel, rfl, by decide +kernel, by decide +kernel⟩
theorem den__law_is_move (c__law_is_number : DSp) (c__law_is_label : DSp) : dB (dR 24) 24 (gmOf ["thing", "many", "part"] (defScope s__law_is_move) [("_law_is_number", 1, c__law_is_number), ("_law_is_label", 1, c__law_is_label)] []) (defBody s__law_is_move) = some (b__law_is_move c__law_is_number c__law_is_label) := by kernel_rfl
abbrev s__law_is_moves : Stmt := topS 38
theorem sc__law_is_moves : FnScope ["thing", "many", "move", "at"] ["thing", "many"] (defScope s__law_is_moves) := ⟨rfl, rfl, rfl, by decide +kernel, rfl, by decide +kernel, by decide +kernel⟩
theorem den__law_is_moves (c__law_is_move : DSp) : dB (dR 24) 24 (gmOf ["thing", "many", "move", "at"] (defScope s__law_is_moves) [("_law_is_move", 2, c__law_is_move)] []) (defBody s__law_is_moves) = some (b__law_is_moves c__law_is_move) := by kernel_rfl
abbrev s__law_two : Stmt := topS 39
theorem sc__law_two : FnScope ["jar", "names", "one"] ["jar", "names"] (defScope s__law_two) := ⟨rfl, rfl, rfl, by decide +kernel, rfl, by decide +kernel, by decide +kernel⟩
theorem den__law_two (c__law_pick : DSp) : dB (dR 24) 24 (gmOf ["jar", "names", "one"] (defScope s__law_two) [("_law_pick", 2, c__law_pick)] []) (defBody s__law_two) = some (b__law_two c__law_pick) := by kernel_rfl
abbrev s__law_split_moves : Stmt := topS 40
theorem sc__law_split_moves : FnScope ["jar", "moves", "goals", "at", "label", "low", "high", "goal", "middle", "drawn", "other"] ["jar", "moves", "goals"] (defScope s__law_split_moves) := ⟨rfl, rfl, rfl, by decide +kernel, rfl, by decide +kernel, by decide +kernel⟩
theorem den__law_split_moves (c__law_pick : DSp) : dB (dR 24) 24 (gmOf ["jar", "moves", "goals", "at", "label", "low", "high", "goal", "middle", "drawn", "other"] (defScope s__law_split_moves) [("_law_pick", 2, c__law_pick)] []) (defBody s__law_split_moves) = some (b__law_split_moves c__law_pick) := by kernel_rfl
abbrev s__law_wild_nodes : Stmt := topS 41
theorem sc__law_wild_nodes : FnScope ["jar", "names", "labels", "many", "pairs", "count", "nodes", "at", "pair", "goals", "moves", "again"] ["jar", "names", "labels", "many"] (defScope s__law_wild_nodes) := ⟨rfl, rfl, rfl, by decide +kernel, rfl, by decide +kernel, by decide +kernel⟩
theorem den__law_wild_nodes (c__law_pick : DSp) (c__law_split_moves : DSp) (c__law_moves : DSp) (c__law_two : DSp) : dB (dR 24) 24 (gmOf ["jar", "names", "labels", "many", "pairs", "count", "nodes", "at", "pair", "goals", "moves", "again"] (defScope s__law_wild_nodes) [("_law_pick", 2, c__law_pick), ("_law_split_moves", 3, c__law_split_moves), ("_law_moves", 4, c__law_moves), ("_law_two", 2, c__law_two)] []) (defBody s__law_wild_nodes) = some (b__law_wild_nodes c__law_pick c__law_split_moves c__law_moves c__law_two) := by kernel_rfl
abbrev s__law_found : Stmt := topS 42
theorem sc__law_found : FnScope ["nodes", "first", "seen", "waiting", "count", "at", "move"] ["nodes", "first"] (defScope s__law_found) := ⟨rfl, rfl, rfl, by decide +kernel, rfl, by decide +kernel, by decide +kernel⟩
theorem den__law_found : dB (dR 24) 24 (gmOf ["nodes", "first", "seen", "waiting", "count", "at", "move"] (defScope s__law_found) [] []) (defBody s__law_found) = some (b__law_found) := by kernel_rfl
abbrev s__law_mend_ends : Stmt := topS 43
theorem sc__law_mend_ends : FnScope ["nodes", "goal", "at", "moves", "last"] ["nodes", "goal"] (defScope s__law_mend_ends) := ⟨rfl, rfl, rfl, by decide +kernel, rfl, by decide +kernel, by decide +kernel⟩
theorem den__law_mend_ends (c__law_found : DSp) : dB (dR 24) 24 (gmOf ["nodes", "goal", "at", "moves", "last"] (defScope s__law_mend_ends) [("_law_found", 2, c__law_found)] []) (defBody s__law_mend_ends) = some (b__law_mend_ends c__law_found) := by kernel_rfl
abbrev s__law_kept_web : Stmt := topS 44
theorem sc__law_kept_web : FnScope ["names", "nodes", "seen", "kept", "at", "numbers", "place", "found", "sender", "receiver", "moves", "rows", "move"] ["names", "nodes"] (defScope s__law_kept_web) := ⟨rfl, rfl, rfl, by decide +kernel, rfl, by decide +kernel, by decide +kernel⟩
theorem den__law_kept_web (c__law_found : DSp) : dB (dR 24) 24 (gmOf ["names", "nodes", "seen", "kept", "at", "numbers", "place", "found", "sender", "receiver", "moves", "rows", "move"] (defScope s__law_kept_web) [("_law_found", 2, c__law_found)] []) (defBody s__law_kept_web) = some (b__law_kept_web c__law_found) := by kernel_rfl
abbrev s__law_wild_web : Stmt := topS 45
theorem sc__law_wild_web : FnScope ["jar", "ink", "roles", "names", "labels", "many", "nodes"] ["jar", "ink", "roles"] (defScope s__law_wild_web) := ⟨rfl, rfl, rfl, by decide +kernel, rfl, by decide +kernel, by decide +kernel⟩
theorem den__law_wild_web (c__law_kept_web : DSp) (c__law_mend_ends : DSp) (c__law_wild_nodes : DSp) (c__law_pick : DSp) (c__law_names : DSp) : dB (dR 24) 24 (gmOf ["jar", "ink", "roles", "names", "labels", "many", "nodes"] (defScope s__law_wild_web) [("_law_kept_web", 2, c__law_kept_web), ("_law_mend_ends", 2, c__law_mend_ends), ("_law_wild_nodes", 4, c__law_wild_nodes), ("_law_pick", 2, c__law_pick), ("_law_names", 2, c__law_names)] []) (defBody s__law_wild_web) = some (b__law_wild_web c__law_kept_web c__law_mend_ends c__law_wild_nodes c__law_pick c__law_names) := by kernel_rfl
abbrev s__law_hub_web : Stmt := topS 46
theorem sc__law_hub_web : FnScope ["jar", "ink", "roles", "names", "labels", "many", "nodes", "at", "hearer", "goals", "moves", "again", "parting", "name"] ["jar", "ink", "roles"] (defScope s__law_hub_web) := ⟨rfl, rfl, rfl, by decide +kernel, rfl, by decide +kernel, by decide +kernel⟩
theorem den__law_hub_web (c__law_kept_web : DSp) (c__law_mend_ends : DSp) (c__law_name : DSp) (c__law_pick : DSp) (c__law_split_moves : DSp) (c__law_moves : DSp) (c__law_names : DSp) : dB (dR 24) 24 (gmOf ["jar", "ink", "roles", "names", "labels", "many", "nodes", "at", "hearer", "goals", "moves", "again", "parting", "name"] (defScope s__law_hub_web) [("_law_kept_web", 2, c__law_kept_web), ("_law_mend_ends", 2, c__law_mend_ends), ("_law_name", 2, c__law_name), ("_law_pick", 2, c__law_pick), ("_law_split_moves", 3, c__law_split_moves), ("_law_moves", 4, c__law_moves), ("_law_names", 2, c__law_names)] []) (defBody s__law_hub_web) = some (b__law_hub_web c__law_kept_web c__law_mend_ends c__law_name c__law_pick c__law_split_moves c__law_moves c__law_names) := by kernel_rfl
abbrev s__law_row_web : Stmt := topS 47
theorem sc__law_row_web : FnScope ["ink", "many", "names", "label", "nodes", "at"] ["ink", "many"] (defScope s__law_row_web) := ⟨rfl, rfl, rfl, by decide +kernel, rfl, by decide +kernel, by decide +kernel⟩
theorem den__law_row_web (c__law_kept_web : DSp) (c__law_name : DSp) (c__law_names : DSp) : dB (dR 24) 24 (gmOf ["ink", "many", "names", "label", "nodes", "at"] (defScope s__law_row_web) [("_law_kept_web", 2, c__law_kept_web), ("_law_name", 2, c__law_name), ("_law_names", 2, c__law_names)] []) (defBody s__law_row_web) = some (b__law_row_web c__law_kept_web c__law_name c__law_names) := by kernel_rfl
abbrev s__law_are_roles : Stmt := topS 48
theorem sc__law_are_roles : FnScope ["thing", "at"] ["thing"] (defScope s__law_are_roles) := ⟨rfl, rfl, rfl, by decide +kernel, rfl, by decide +kernel, by decide +kernel⟩
theorem den__law_are_roles (c__law_is_label : DSp) : dB (dR 24) 24 (gmOf ["thing", "at"] (defScope s__law_are_roles) [("_law_is_label", 1, c__law_is_label)] []) (defBody s__law_are_roles) = some (b__law_are_roles c__law_is_label) := by kernel_rfl
abbrev s__law_is_letter_node : Stmt := topS 49
theorem sc__law_is_letter_node : FnScope ["roles", "node", "many"] ["roles", "node", "many"] (defScope s__law_is_letter_node) := ⟨rfl, rfl, rfl, by decide +kernel, rfl, by decide +kernel, by decide +kernel⟩
theorem den__law_is_letter_node (c__law_is_moves : DSp) : dB (dR 24) 24 (gmOf ["roles", "node", "many"] (defScope s__law_is_letter_node) [("_law_is_moves", 2, c__law_is_moves)] []) (defBody s__law_is_letter_node) = some (b__law_is_letter_node c__law_is_moves) := by kernel_rfl
abbrev s__law_all_joined : Stmt := topS 50
theorem sc__law_all_joined : FnScope ["goals", "seen", "waiting", "count", "at", "goal", "good", "fresh"] ["goals"] (defScope s__law_all_joined) := ⟨rfl, rfl, rfl, by decide +kernel, rfl, by decide +kernel, by decide +kernel⟩
theorem den__law_all_joined : dB (dR 24) 24 (gmOf ["goals", "seen", "waiting", "count", "at", "goal", "good", "fresh"] (defScope s__law_all_joined) [] []) (defBody s__law_all_joined) = some (b__law_all_joined) := by kernel_rfl
abbrev s__law_is_web : Stmt := topS 51
theorem sc__law_is_web : FnScope ["thing", "nodes", "many", "last", "goals", "node", "move"] ["thing"] (defScope s__law_is_web) := ⟨rfl, rfl, rfl, by decide +kernel, rfl, by decide +kernel, by decide +kernel⟩
theorem den__law_is_web (c__law_all_joined : DSp) (c__law_is_letter_node : DSp) (c__law_are_roles : DSp) : dB (dR 24) 24 (gmOf ["thing", "nodes", "many", "last", "goals", "node", "move"] (defScope s__law_is_web) [("_law_all_joined", 1, c__law_all_joined), ("_law_is_letter_node", 3, c__law_is_letter_node), ("_law_are_roles", 1, c__law_are_roles)] []) (defBody s__law_is_web) = some (b__law_is_web c__law_all_joined c__law_is_letter_node c__law_are_roles) := by kernel_rfl
abbrev s__law_judged : Stmt := topS 52
theorem sc__law_judged : FnScope ["thing", "answer"] ["thing"] (defScope s__law_judged) := ⟨rfl, rfl, rfl, by decide +kernel, rfl, by decide +kernel, by decide +kernel⟩
theorem den__law_judged (c__law_is_web : DSp) (c_is_web : DSp) : dB (dR 24) 24 (gmOf ["thing", "answer"] (defScope s__law_judged) [("_law_is_web", 1, c__law_is_web), ("is_web", 1, c_is_web)] []) (defBody s__law_judged) = some (b__law_judged c__law_is_web c_is_web) := by kernel_rfl
abbrev s__law_letter_at : Stmt := topS 53
theorem sc__law_letter_at : FnScope ["jar", "web"] ["jar", "web"] (defScope s__law_letter_at) := ⟨rfl, rfl, rfl, by decide +kernel, rfl, by decide +kernel, by decide +kernel⟩
theorem den__law_letter_at (c__law_pick : DSp) : dB (dR 24) 24 (gmOf ["jar", "web"] (defScope s__law_letter_at) [("_law_pick", 2, c__law_pick)] []) (defBody s__law_letter_at) = some (b__law_letter_at c__law_pick) := by kernel_rfl
abbrev s__law_other_next : Stmt := topS 54
theorem sc__law_other_next : FnScope ["jar", "web", "whole", "at", "node", "goal", "place", "moves", "index", "move"] ["jar", "web", "whole"] (defScope s__law_other_next) := ⟨rfl, rfl, rfl, by decide +kernel, rfl, by decide +kernel, by decide +kernel⟩
theorem den__law_other_next (c__law_put : DSp) (c__law_pick : DSp) (c__law_letter_at : DSp) : dB (dR 24) 24 (gmOf ["jar", "web", "whole", "at", "node", "goal", "place", "moves", "index", "move"] (defScope s__law_other_next) [("_law_put", 3, c__law_put), ("_law_pick", 2, c__law_pick), ("_law_letter_at", 2, c__law_letter_at)] []) (defBody s__law_other_next) = some (b__law_other_next c__law_put c__law_pick c__law_letter_at) := by kernel_rfl
abbrev s__law_other_speaker : Stmt := topS 55
theorem sc__law_other_speaker : FnScope ["jar", "web", "at", "node", "words", "name", "way", "fresh"] ["jar", "web"] (defScope s__law_other_speaker) := ⟨rfl, rfl, rfl, by decide +kernel, rfl, by decide +kernel, by decide +kernel⟩
theorem den__law_other_speaker (c__law_put : DSp) (c__law_pick : DSp) (c__law_letter_at : DSp) : dB (dR 24) 24 (gmOf ["jar", "web", "at", "node", "words", "name", "way", "fresh"] (defScope s__law_other_speaker) [("_law_put", 3, c__law_put), ("_law_pick", 2, c__law_pick), ("_law_letter_at", 2, c__law_letter_at)] []) (defBody s__law_other_speaker) = some (b__law_other_speaker c__law_put c__law_pick c__law_letter_at) := by kernel_rfl
abbrev s__law_other_role : Stmt := topS 56
theorem sc__law_other_role : FnScope ["jar", "web", "words", "old", "fresh", "nodes", "node", "sender", "receiver", "name"] ["jar", "web"] (defScope s__law_other_role) := ⟨rfl, rfl, rfl, by decide +kernel, rfl, by decide +kernel, by decide +kernel⟩
theorem den__law_other_role (c__law_pick : DSp) : dB (dR 24) 24 (gmOf ["jar", "web", "words", "old", "fresh", "nodes", "node", "sender", "receiver", "name"] (defScope s__law_other_role) [("_law_pick", 2, c__law_pick)] []) (defBody s__law_other_role) = some (b__law_other_role c__law_pick) := by kernel_rfl
abbrev s__law_node_more : Stmt := topS 57
theorem sc__law_node_more : FnScope ["jar", "web", "many", "shift", "nodes", "node", "moves", "label", "low", "high", "goal", "goals", "at"] ["jar", "web"] (defScope s__law_node_more) := ⟨rfl, rfl, rfl, by decide +kernel, rfl, by decide +kernel, by decide +kernel⟩
theorem den__law_node_more (c__law_pick : DSp) : dB (dR 24) 24 (gmOf ["jar", "web", "many", "shift", "nodes", "node", "moves", "label", "low", "high", "goal", "goals", "at"] (defScope s__law_node_more) [("_law_pick", 2, c__law_pick)] []) (defBody s__law_node_more) = some (b__law_node_more c__law_pick) := by kernel_rfl
abbrev s__law_other_end : Stmt := topS 58
theorem sc__law_other_end : FnScope ["jar", "web", "many", "letters", "last", "menu"] ["jar", "web"] (defScope s__law_other_end) := ⟨rfl, rfl, rfl, by decide +kernel, rfl, by decide +kernel, by decide +kernel⟩
theorem den__law_other_end (c__law_pick : DSp) : dB (dR 24) 24 (gmOf ["jar", "web", "many", "letters", "last", "menu"] (defScope s__law_other_end) [("_law_pick", 2, c__law_pick)] []) (defBody s__law_other_end) = some (b__law_other_end c__law_pick) := by kernel_rfl
abbrev s__law_other_moves : Stmt := topS 59
theorem sc__law_other_moves : FnScope ["jar", "web", "at", "node", "place", "label", "low", "high", "goal", "word", "menu", "moves"] ["jar", "web"] (defScope s__law_other_moves) := ⟨rfl, rfl, rfl, by decide +kernel, rfl, by decide +kernel, by decide +kernel⟩
theorem den__law_other_moves (c__law_put : DSp) (c__law_pick : DSp) (c__law_letter_at : DSp) : dB (dR 24) 24 (gmOf ["jar", "web", "at", "node", "place", "label", "low", "high", "goal", "word", "menu", "moves"] (defScope s__law_other_moves) [("_law_put", 3, c__law_put), ("_law_pick", 2, c__law_pick), ("_law_letter_at", 2, c__law_letter_at)] []) (defBody s__law_other_moves) = some (b__law_other_moves c__law_put c__law_pick c__law_letter_at) := by kernel_rfl
abbrev s__law_two_turned : Stmt := topS 60
theorem sc__law_two_turned : FnScope ["jar", "web", "one", "other"] ["jar", "web"] (defScope s__law_two_turned) := ⟨rfl, rfl, rfl, by decide +kernel, rfl, by decide +kernel, by decide +kernel⟩
theorem den__law_two_turned (c__law_put : DSp) (c__law_letter_at : DSp) : dB (dR 24) 24 (gmOf ["jar", "web", "one", "other"] (defScope s__law_two_turned) [("_law_put", 3, c__law_put), ("_law_letter_at", 2, c__law_letter_at)] []) (defBody s__law_two_turned) = some (b__law_two_turned c__law_put c__law_letter_at) := by kernel_rfl
abbrev s__law_other_shape : Stmt := topS 61
theorem sc__law_other_shape : FnScope ["jar", "web", "menu"] ["jar", "web"] (defScope s__law_other_shape) := ⟨rfl, rfl, rfl, by decide +kernel, rfl, by decide +kernel, by decide +kernel⟩
theorem den__law_other_shape (c__law_pick : DSp) : dB (dR 24) 24 (gmOf ["jar", "web", "menu"] (defScope s__law_other_shape) [("_law_pick", 2, c__law_pick)] []) (defBody s__law_other_shape) = some (b__law_other_shape c__law_pick) := by kernel_rfl
abbrev s__law_bent_web : Stmt := topS 62
theorem sc__law_bent_web : FnScope ["jar", "web", "way", "names", "at"] ["jar", "web", "way"] (defScope s__law_bent_web) := ⟨rfl, rfl, rfl, by decide +kernel, rfl, by decide +kernel, by decide +kernel⟩
theorem den__law_bent_web (c__law_other_shape : DSp) (c__law_two_turned : DSp) (c__law_other_moves : DSp) (c__law_other_end : DSp) (c__law_node_more : DSp) (c__law_pick : DSp) (c__law_name : DSp) (c__law_other_role : DSp) (c__law_other_speaker : DSp) (c__law_other_next : DSp) (c__law_spoilt : DSp) : dB (dR 24) 24 (gmOf ["jar", "web", "way", "names", "at"] (defScope s__law_bent_web) [("_law_other_shape", 2, c__law_other_shape), ("_law_two_turned", 2, c__law_two_turned), ("_law_other_moves", 2, c__law_other_moves), ("_law_other_end", 2, c__law_other_end), ("_law_node_more", 2, c__law_node_more), ("_law_pick", 2, c__law_pick), ("_law_name", 2, c__law_name), ("_law_other_role", 2, c__law_other_role), ("_law_other_speaker", 2, c__law_other_speaker), ("_law_other_next", 3, c__law_other_next), ("_law_spoilt", 2, c__law_spoilt)] []) (defBody s__law_bent_web) = some (b__law_bent_web c__law_other_shape c__law_two_turned c__law_other_moves c__law_other_end c__law_node_more c__law_pick c__law_name c__law_other_role c__law_other_speaker c__law_other_next c__law_spoilt) := by kernel_rfl
abbrev s__law_judged_web : Stmt := topS 63
theorem sc__law_judged_web : FnScope ["script", "way", "jar", "ink"] ["script", "way"] (defScope s__law_judged_web) := ⟨rfl, rfl, rfl, by decide +kernel, rfl, by decide +kernel, by decide +kernel⟩
theorem den__law_judged_web (c__law_wild_web : DSp) (c__law_pick : DSp) (c__law_hub_web : DSp) (c__law_row_web : DSp) (c__law_jar : DSp) : dB (dR 24) 24 (gmOf ["script", "way", "jar", "ink"] (defScope s__law_judged_web) [("_law_wild_web", 3, c__law_wild_web), ("_law_pick", 2, c__law_pick), ("_law_hub_web", 3, c__law_hub_web), ("_law_row_web", 2, c__law_row_web), ("_law_jar", 2, c__law_jar)] []) (defBody s__law_judged_web) = some (b__law_judged_web c__law_wild_web c__law_pick c__law_hub_web c__law_row_web c__law_jar) := by kernel_rfl
abbrev s_law : Stmt := topS 64
theorem sc_law : FnScope ["script", "jar", "web", "way", "odd"] ["script"] (defScope s_law) := ⟨rfl, rfl, rfl, by decide +kernel, rfl, by decide +kernel, by decide +kernel⟩
theorem den_law (c__law_judged : DSp) (c__law_spoilt : DSp) (c__law_odd : DSp) (c__law_bent_web : DSp) (c__law_judged_web : DSp) (c__law_pick : DSp) (c__law_jar : DSp) : dB (dR 24) 24 (gmOf ["script", "jar", "web", "way", "odd"] (defScope s_law) [("_law_judged", 1, c__law_judged), ("_law_spoilt", 2, c__law_spoilt), ("_law_odd", 1, c__law_odd), ("_law_bent_web", 3, c__law_bent_web), ("_law_judged_web", 2, c__law_judged_web), ("_law_pick", 2, c__law_pick), ("_law_jar", 2, c__law_jar)] []) (defBody s_law) = some (b_law c__law_judged c__law_spoilt c__law_odd c__law_bent_web c__law_judged_web c__law_pick c__law_jar) := by kernel_rfl
end K11
/-! K11z: the defs joined, and the law; printed by gen.py -/
namespace K11
open PySem PySem.Spec DL L2 K01 LX GR K22
open PyProof.Rows hiding St
theorem all_mk {l : PySem.W.OpenLaw} {w : World} {K : PySem.W.Frag} {h : Heap} {mg : Str → Option Value} {fa : Addr} (X : K.In h) (G : h.Ns mainGlobals mg) (hfa : mg "law" = some (.ref fa))
    (e0 : DefAt K "_law_all_joined" s__law_all_joined)
    (e1 : DefAt K "_law_is_number" s__law_is_number)
    (e2 : DefAt K "_law_is_name" s__law_is_name)
    (e3 : DefAt K "_law_is_label" s__law_is_label)
    (e4 : DefAt K "_law_is_move" s__law_is_move)
    (e5 : DefAt K "_law_is_moves" s__law_is_moves)
    (e6 : DefAt K "_law_is_letter_node" s__law_is_letter_node)
    (e7 : DefAt K "_law_are_roles" s__law_are_roles)
    (e8 : DefAt K "_law_is_web" s__law_is_web)
    (e9 : DefAt K "nexts_of" s_nexts_of)
    (e10 : DefAt K "comers_to" s_comers_to)
    (e11 : DefAt K "left_of" s_left_of)
    (e12 : DefAt K "found_from" s_found_from)
    (e13 : DefAt K "is_number" s_is_number)
    (e14 : DefAt K "is_span" s_is_span)
    (e15 : DefAt K "is_name" s_is_name)
    (e16 : DefAt K "is_label" s_is_label)
    (e17 : DefAt K "is_move" s_is_move)
    (e18 : DefAt K "is_moves" s_is_moves)
    (e19 : DefAt K "is_letter_node" s_is_letter_node)
    (e20 : DefAt K "is_end" s_is_end)
    (e21 : DefAt K "are_roles" s_are_roles)
    (e22 : DefAt K "is_web" s_is_web)
    (e23 : DefAt K "_law_judged" s__law_judged)
    (e24 : DefAt K "_law_pick" s__law_pick)
    (e25 : DefAt K "_law_odd" s__law_odd)
    (e26 : DefAt K "_law_spoilt" s__law_spoilt)
    (e27 : DefAt K "_law_other_shape" s__law_other_shape)
    (e28 : DefAt K "_law_put" s__law_put)
    (e29 : DefAt K "_law_letter_at" s__law_letter_at)
    (e30 : DefAt K "_law_two_turned" s__law_two_turned)
    (e31 : DefAt K "_law_other_moves" s__law_other_moves)
    (e32 : DefAt K "_law_other_end" s__law_other_end)
    (e33 : DefAt K "_law_node_more" s__law_node_more)
    (e34 : DefAt K "_law_name" s__law_name)
    (e35 : DefAt K "_law_other_role" s__law_other_role)
    (e36 : DefAt K "_law_other_speaker" s__law_other_speaker)
    (e37 : DefAt K "_law_other_next" s__law_other_next)
    (e38 : DefAt K "_law_bent_web" s__law_bent_web)
    (e39 : DefAt K "_law_found" s__law_found)
    (e40 : DefAt K "_law_kept_web" s__law_kept_web)
    (e41 : DefAt K "_law_mend_ends" s__law_mend_ends)
    (e42 : DefAt K "_law_split_moves" s__law_split_moves)
    (e43 : DefAt K "_law_span" s__law_span)
    (e44 : DefAt K "_law_moves" s__law_moves)
    (e45 : DefAt K "_law_two" s__law_two)
    (e46 : DefAt K "_law_wild_nodes" s__law_wild_nodes)
    (e47 : DefAt K "_law_names" s__law_names)
    (e48 : DefAt K "_law_wild_web" s__law_wild_web)
    (e49 : DefAt K "_law_hub_web" s__law_hub_web)
    (e50 : DefAt K "_law_row_web" s__law_row_web)
    (e51 : DefAt K "_law_cell" s__law_cell)
    (e52 : DefAt K "_law_jar" s__law_jar)
    (e53 : DefAt K "_law_judged_web" s__law_judged_web)
    (e54 : DefAt K "law" s_law)
    {t_GREATEST : PySem.Tok} (q_GREATEST : PySem.W.nsIn K mainGlobals "GREATEST" = some (some (.int 999999 t_GREATEST)))
    {t_FIGURES : PySem.Tok} (q_FIGURES : PySem.W.nsIn K mainGlobals "FIGURES" = some (some (.str "0123456789" t_FIGURES)))
    {t_LETTERS : PySem.Tok} (q_LETTERS : PySem.W.nsIn K mainGlobals "LETTERS" = some (some (.str "abcdefghijklmnopqrstuvwxyz" t_LETTERS)))
    {a_RESERVED : Addr} {o_RESERVED : Option Addr} {i_RESERVED : Array Value} {n_RESERVED : Nat} {l_RESERVED : Array (Option Value)} (q_RESERVED : PySem.W.nsIn K mainGlobals "RESERVED" = some (some (.ref a_RESERVED))) (r_RESERVED : K.lookup a_RESERVED = some ⟨.type "tuple", o_RESERVED, .seq i_RESERVED n_RESERVED, l_RESERVED⟩) (z_RESERVED : i_RESERVED.size ≤ sizeLine) (p_RESERVED : Paired Lit [(.str "talk"), (.str "roles"), (.str "to"), (.str "on"), (.str "round"), (.str "again"), (.str "stop"), (.str "machine"), (.str "say"), (.str "hear"), (.str "end")] i_RESERVED.toList)
    {t_MOST_ROLES : PySem.Tok} (q_MOST_ROLES : PySem.W.nsIn K mainGlobals "MOST_ROLES" = some (some (.int 5 t_MOST_ROLES)))
    {t_MOST_NODES : PySem.Tok} (q_MOST_NODES : PySem.W.nsIn K mainGlobals "MOST_NODES" = some (some (.int 61 t_MOST_NODES)))
    (n_len : PySem.W.nsIn K mainGlobals "len" = some none) (n_int : PySem.W.nsIn K mainGlobals "int" = some none) (n_str : PySem.W.nsIn K mainGlobals "str" = some none) (n_tuple : PySem.W.nsIn K mainGlobals "tuple" = some none) (n_list : PySem.W.nsIn K mainGlobals "list" = some none) (n_sum : PySem.W.nsIn K mainGlobals "sum" = some none) (n_abs : PySem.W.nsIn K mainGlobals "abs" = some none) (n_max : PySem.W.nsIn K mainGlobals "max" = some none) (n_min : PySem.W.nsIn K mainGlobals "min" = some none) (n_range : PySem.W.nsIn K mainGlobals "range" = some none) (n_isinstance : PySem.W.nsIn K mainGlobals "isinstance" = some none) (n_bool : PySem.W.nsIn K mainGlobals "bool" = some none) (n_dict : PySem.W.nsIn K mainGlobals "dict" = some none) (n_sorted : PySem.W.nsIn K mainGlobals "sorted" = some none) (n_zip : PySem.W.nsIn K mainGlobals "zip" = some none) (n_enumerate : PySem.W.nsIn K mainGlobals "enumerate" = some none) (n_reversed : PySem.W.nsIn K mainGlobals "reversed" = some none) (n_repr : PySem.W.nsIn K mainGlobals "repr" = some none) :
    ∃ fd : FuncData, (∀ (s : Shared) (v : Value), BindsTo s fd ⟨[v], []⟩ [("script", v)]) ∧ ∀ base : Heap, K.In base → base.Ns mainGlobals mg → FnOk l.prog w K mg base CX0 8 fa fd ["script"] (upF K 1 lawSp) := by
  have bl : BltOk mg := blt_of X G (by
    intro x hx
    simp only [bltNames, List.mem_cons, List.not_mem_nil, or_false] at hx
    rcases hx with rfl | rfl | rfl | rfl | rfl | rfl | rfl | rfl | rfl | rfl | rfl | rfl | rfl | rfl | rfl | rfl | rfl | rfl
    · exact n_len
    · exact n_int
    · exact n_str
    · exact n_tuple
    · exact n_list
    · exact n_sum
    · exact n_abs
    · exact n_max
    · exact n_min
    · exact n_range
    · exact n_isinstance
    · exact n_bool
    · exact n_dict
    · exact n_sorted
    · exact n_zip
    · exact n_enumerate
    · exact n_reversed
    · exact n_repr
    )
  obtain ⟨f0, fd0, F0, m0, B0, T0⟩ := e0.get (ps := ["goals"]) X G fun _ _ _ _ _ _ us hl => match us, hl with | [_], _ => rfl
  obtain ⟨f1, fd1, F1, m1, B1, T1⟩ := e1.get (ps := ["thing"]) X G fun _ _ _ _ _ _ us hl => match us, hl with | [_], _ => rfl
  obtain ⟨f2, fd2, F2, m2, B2, T2⟩ := e2.get (ps := ["thing"]) X G fun _ _ _ _ _ _ us hl => match us, hl with | [_], _ => rfl
  obtain ⟨f3, fd3, F3, m3, B3, T3⟩ := e3.get (ps := ["thing"]) X G fun _ _ _ _ _ _ us hl => match us, hl with | [_], _ => rfl
  obtain ⟨f4, fd4, F4, m4, B4, T4⟩ := e4.get (ps := ["thing", "many"]) X G fun _ _ _ _ _ _ us hl => match us, hl with | [_, _], _ => rfl
  obtain ⟨f5, fd5, F5, m5, B5, T5⟩ := e5.get (ps := ["thing", "many"]) X G fun _ _ _ _ _ _ us hl => match us, hl with | [_, _], _ => rfl
  obtain ⟨f6, fd6, F6, m6, B6, T6⟩ := e6.get (ps := ["roles", "node", "many"]) X G fun _ _ _ _ _ _ us hl => match us, hl with | [_, _, _], _ => rfl
  obtain ⟨f7, fd7, F7, m7, B7, T7⟩ := e7.get (ps := ["thing"]) X G fun _ _ _ _ _ _ us hl => match us, hl with | [_], _ => rfl
  obtain ⟨f8, fd8, F8, m8, B8, T8⟩ := e8.get (ps := ["thing"]) X G fun _ _ _ _ _ _ us hl => match us, hl with | [_], _ => rfl
  obtain ⟨f9, fd9, F9, m9, B9, T9⟩ := e9.get (ps := ["node"]) X G fun _ _ _ _ _ _ us hl => match us, hl with | [_], _ => rfl
  obtain ⟨f10, fd10, F10, m10, B10, T10⟩ := e10.get (ps := ["nodes"]) X G fun _ _ _ _ _ _ us hl => match us, hl with | [_], _ => rfl
  obtain ⟨f11, fd11, F11, m11, B11, T11⟩ := e11.get (ps := ["nodes"]) X G fun _ _ _ _ _ _ us hl => match us, hl with | [_], _ => rfl
  obtain ⟨f12, fd12, F12, m12, B12, T12⟩ := e12.get (ps := ["nodes", "start"]) X G fun _ _ _ _ _ _ us hl => match us, hl with | [_, _], _ => rfl
  obtain ⟨f13, fd13, F13, m13, B13, T13⟩ := e13.get (ps := ["thing"]) X G fun _ _ _ _ _ _ us hl => match us, hl with | [_], _ => rfl
  obtain ⟨f14, fd14, F14, m14, B14, T14⟩ := e14.get (ps := ["lo", "hi"]) X G fun _ _ _ _ _ _ us hl => match us, hl with | [_, _], _ => rfl
  obtain ⟨f15, fd15, F15, m15, B15, T15⟩ := e15.get (ps := ["thing"]) X G fun _ _ _ _ _ _ us hl => match us, hl with | [_], _ => rfl
  obtain ⟨f16, fd16, F16, m16, B16, T16⟩ := e16.get (ps := ["thing"]) X G fun _ _ _ _ _ _ us hl => match us, hl with | [_], _ => rfl
  obtain ⟨f17, fd17, F17, m17, B17, T17⟩ := e17.get (ps := ["many", "move"]) X G fun _ _ _ _ _ _ us hl => match us, hl with | [_, _], _ => rfl
  obtain ⟨f18, fd18, F18, m18, B18, T18⟩ := e18.get (ps := ["many", "moves"]) X G fun _ _ _ _ _ _ us hl => match us, hl with | [_, _], _ => rfl
  obtain ⟨f19, fd19, F19, m19, B19, T19⟩ := e19.get (ps := ["roles", "many", "node"]) X G fun _ _ _ _ _ _ us hl => match us, hl with | [_, _, _], _ => rfl
  obtain ⟨f20, fd20, F20, m20, B20, T20⟩ := e20.get (ps := ["thing"]) X G fun _ _ _ _ _ _ us hl => match us, hl with | [_], _ => rfl
  obtain ⟨f21, fd21, F21, m21, B21, T21⟩ := e21.get (ps := ["thing"]) X G fun _ _ _ _ _ _ us hl => match us, hl with | [_], _ => rfl
  obtain ⟨f22, fd22, F22, m22, B22, T22⟩ := e22.get (ps := ["thing"]) X G fun _ _ _ _ _ _ us hl => match us, hl with | [_], _ => rfl
  obtain ⟨f23, fd23, F23, m23, B23, T23⟩ := e23.get (ps := ["thing"]) X G fun _ _ _ _ _ _ us hl => match us, hl with | [_], _ => rfl
  obtain ⟨f24, fd24, F24, m24, B24, T24⟩ := e24.get (ps := ["jar", "many"]) X G fun _ _ _ _ _ _ us hl => match us, hl with | [_, _], _ => rfl
  obtain ⟨f25, fd25, F25, m25, B25, T25⟩ := e25.get (ps := ["jar"]) X G fun _ _ _ _ _ _ us hl => match us, hl with | [_], _ => rfl
  obtain ⟨f26, fd26, F26, m26, B26, T26⟩ := e26.get (ps := ["jar", "thing"]) X G fun _ _ _ _ _ _ us hl => match us, hl with | [_, _], _ => rfl
  obtain ⟨f27, fd27, F27, m27, B27, T27⟩ := e27.get (ps := ["jar", "web"]) X G fun _ _ _ _ _ _ us hl => match us, hl with | [_, _], _ => rfl
  obtain ⟨f28, fd28, F28, m28, B28, T28⟩ := e28.get (ps := ["row", "at", "item"]) X G fun _ _ _ _ _ _ us hl => match us, hl with | [_, _, _], _ => rfl
  obtain ⟨f29, fd29, F29, m29, B29, T29⟩ := e29.get (ps := ["jar", "web"]) X G fun _ _ _ _ _ _ us hl => match us, hl with | [_, _], _ => rfl
  obtain ⟨f30, fd30, F30, m30, B30, T30⟩ := e30.get (ps := ["jar", "web"]) X G fun _ _ _ _ _ _ us hl => match us, hl with | [_, _], _ => rfl
  obtain ⟨f31, fd31, F31, m31, B31, T31⟩ := e31.get (ps := ["jar", "web"]) X G fun _ _ _ _ _ _ us hl => match us, hl with | [_, _], _ => rfl
  obtain ⟨f32, fd32, F32, m32, B32, T32⟩ := e32.get (ps := ["jar", "web"]) X G fun _ _ _ _ _ _ us hl => match us, hl with | [_, _], _ => rfl
  obtain ⟨f33, fd33, F33, m33, B33, T33⟩ := e33.get (ps := ["jar", "web"]) X G fun _ _ _ _ _ _ us hl => match us, hl with | [_, _], _ => rfl
  obtain ⟨f34, fd34, F34, m34, B34, T34⟩ := e34.get (ps := ["jar", "index"]) X G fun _ _ _ _ _ _ us hl => match us, hl with | [_, _], _ => rfl
  obtain ⟨f35, fd35, F35, m35, B35, T35⟩ := e35.get (ps := ["jar", "web"]) X G fun _ _ _ _ _ _ us hl => match us, hl with | [_, _], _ => rfl
  obtain ⟨f36, fd36, F36, m36, B36, T36⟩ := e36.get (ps := ["jar", "web"]) X G fun _ _ _ _ _ _ us hl => match us, hl with | [_, _], _ => rfl
  obtain ⟨f37, fd37, F37, m37, B37, T37⟩ := e37.get (ps := ["jar", "web", "whole"]) X G fun _ _ _ _ _ _ us hl => match us, hl with | [_, _, _], _ => rfl
  obtain ⟨f38, fd38, F38, m38, B38, T38⟩ := e38.get (ps := ["jar", "web", "way"]) X G fun _ _ _ _ _ _ us hl => match us, hl with | [_, _, _], _ => rfl
  obtain ⟨f39, fd39, F39, m39, B39, T39⟩ := e39.get (ps := ["nodes", "first"]) X G fun _ _ _ _ _ _ us hl => match us, hl with | [_, _], _ => rfl
  obtain ⟨f40, fd40, F40, m40, B40, T40⟩ := e40.get (ps := ["names", "nodes"]) X G fun _ _ _ _ _ _ us hl => match us, hl with | [_, _], _ => rfl
  obtain ⟨f41, fd41, F41, m41, B41, T41⟩ := e41.get (ps := ["nodes", "goal"]) X G fun _ _ _ _ _ _ us hl => match us, hl with | [_, _], _ => rfl
  obtain ⟨f42, fd42, F42, m42, B42, T42⟩ := e42.get (ps := ["jar", "moves", "goals"]) X G fun _ _ _ _ _ _ us hl => match us, hl with | [_, _, _], _ => rfl
  obtain ⟨f43, fd43, F43, m43, B43, T43⟩ := e43.get (ps := ["jar"]) X G fun _ _ _ _ _ _ us hl => match us, hl with | [_], _ => rfl
  obtain ⟨f44, fd44, F44, m44, B44, T44⟩ := e44.get (ps := ["jar", "labels", "count", "goals"]) X G fun _ _ _ _ _ _ us hl => match us, hl with | [_, _, _, _], _ => rfl
  obtain ⟨f45, fd45, F45, m45, B45, T45⟩ := e45.get (ps := ["jar", "names"]) X G fun _ _ _ _ _ _ us hl => match us, hl with | [_, _], _ => rfl
  obtain ⟨f46, fd46, F46, m46, B46, T46⟩ := e46.get (ps := ["jar", "names", "labels", "many"]) X G fun _ _ _ _ _ _ us hl => match us, hl with | [_, _, _, _], _ => rfl
  obtain ⟨f47, fd47, F47, m47, B47, T47⟩ := e47.get (ps := ["jar", "many"]) X G fun _ _ _ _ _ _ us hl => match us, hl with | [_, _], _ => rfl
  obtain ⟨f48, fd48, F48, m48, B48, T48⟩ := e48.get (ps := ["jar", "ink", "roles"]) X G fun _ _ _ _ _ _ us hl => match us, hl with | [_, _, _], _ => rfl
  obtain ⟨f49, fd49, F49, m49, B49, T49⟩ := e49.get (ps := ["jar", "ink", "roles"]) X G fun _ _ _ _ _ _ us hl => match us, hl with | [_, _, _], _ => rfl
  obtain ⟨f50, fd50, F50, m50, B50, T50⟩ := e50.get (ps := ["ink", "many"]) X G fun _ _ _ _ _ _ us hl => match us, hl with | [_, _], _ => rfl
  obtain ⟨f51, fd51, F51, m51, B51, T51⟩ := e51.get (ps := ["script", "place"]) X G fun _ _ _ _ _ _ us hl => match us, hl with | [_, _], _ => rfl
  obtain ⟨f52, fd52, F52, m52, B52, T52⟩ := e52.get (ps := ["script", "place"]) X G fun _ _ _ _ _ _ us hl => match us, hl with | [_, _], _ => rfl
  obtain ⟨f53, fd53, F53, m53, B53, T53⟩ := e53.get (ps := ["script", "way"]) X G fun _ _ _ _ _ _ us hl => match us, hl with | [_, _], _ => rfl
  obtain ⟨f54, fd54, F54, m54, B54, T54⟩ := e54.get (ps := ["script"]) X G fun _ _ _ _ _ _ us hl => match us, hl with | [_], _ => rfl
  have ef := hfa.symm.trans m54
  cases ef
  refine ⟨fd54, fun s v => T54 s [v] rfl, fun base XB GB => ?_⟩
  have g0 : Dfn l.prog w K mg base 1 "_law_all_joined" 1 sp_all_joined := dfn_of F0 sc__law_all_joined m0 (by rfl) B0 (k := 0) .nil .nil bl (den__law_all_joined ) ok_all_joined
  have g1 : Dfn l.prog w K mg base 1 "_law_is_number" 1 sp_l_is_number := dfn_of F1 sc__law_is_number m1 (by rfl) B1 (k := 0) .nil .nil bl (den__law_is_number ) ok_l_is_number
  have g2 : Dfn l.prog w K mg base 1 "_law_is_name" 1 sp_l_is_name := dfn_of F2 sc__law_is_name m2 (by rfl) B2 (k := 0) .nil .nil bl (den__law_is_name ) ok_l_is_name
  have g3 : Dfn l.prog w K mg base 2 "_law_is_label" 1 sp_l_is_label := dfn_of F3 sc__law_is_label m3 (by rfl) B3 (k := 1) (.cons (g2.mono (by decide)) .nil) .nil bl (den__law_is_label sp_l_is_name) ok_l_is_label
  have g4 : Dfn l.prog w K mg base 3 "_law_is_move" 2 sp_l_is_move := dfn_of F4 sc__law_is_move m4 (by rfl) B4 (k := 2) (.cons (g1.mono (by decide)) (.cons (g3.mono (by decide)) .nil)) .nil bl (den__law_is_move sp_l_is_number sp_l_is_label) ok_l_is_move
  have g5 : Dfn l.prog w K mg base 4 "_law_is_moves" 2 sp_l_is_moves := dfn_of F5 sc__law_is_moves m5 (by rfl) B5 (k := 3) (.cons (g4.mono (by decide)) .nil) .nil bl (den__law_is_moves sp_l_is_move) ok_l_is_moves
  have g6 : Dfn l.prog w K mg base 5 "_law_is_letter_node" 3 sp_l_is_letter_node := dfn_of F6 sc__law_is_letter_node m6 (by rfl) B6 (k := 4) (.cons (g5.mono (by decide)) .nil) .nil bl (den__law_is_letter_node sp_l_is_moves) ok_l_is_letter_node
  have g7 : Dfn l.prog w K mg base 3 "_law_are_roles" 1 sp_l_are_roles := dfn_of F7 sc__law_are_roles m7 (by rfl) B7 (k := 2) (.cons (g3.mono (by decide)) .nil) .nil bl (den__law_are_roles sp_l_is_label) ok_l_are_roles
  have g8 : Dfn l.prog w K mg base 6 "_law_is_web" 1 sp_l_is_web := dfn_of F8 sc__law_is_web m8 (by rfl) B8 (k := 5) (.cons (g0.mono (by decide)) (.cons (g6.mono (by decide)) (.cons (g7.mono (by decide)) .nil))) .nil bl (den__law_is_web sp_all_joined sp_l_is_letter_node sp_l_are_roles) ok_l_is_web
  have g9 : Dfn l.prog w K mg base 1 "nexts_of" 1 sp_nexts_of := dfn_of F9 sc_nexts_of m9 (by rfl) B9 (k := 0) .nil .nil bl (den_nexts_of ) ok_nexts_of
  have g10 : Dfn l.prog w K mg base 2 "comers_to" 1 sp_comers_to := dfn_of F10 sc_comers_to m10 (by rfl) B10 (k := 1) (.cons (g9.mono (by decide)) .nil) .nil bl (den_comers_to sp_nexts_of) ok_comers_to
  have g11 : Dfn l.prog w K mg base 3 "left_of" 1 sp_left_of := dfn_of F11 sc_left_of m11 (by rfl) B11 (k := 2) (.cons (g10.mono (by decide)) .nil) .nil bl (den_left_of sp_comers_to) ok_left_of
  have g12 : Dfn l.prog w K mg base 2 "found_from" 2 sp_found_from := dfn_of F12 sc_found_from m12 (by rfl) B12 (k := 1) (.cons (g9.mono (by decide)) .nil) .nil bl (den_found_from sp_nexts_of) ok_found_from
  have g13 : Dfn l.prog w K mg base 1 "is_number" 1 sp_is_number := dfn_of F13 sc_is_number m13 (by rfl) B13 (k := 0) .nil .nil bl (den_is_number ) ok_is_number
  have g14 : Dfn l.prog w K mg base 2 "is_span" 2 sp_is_span := dfn_of F14 sc_is_span m14 (by rfl) B14 (k := 1) (.cons (g13.mono (by decide)) .nil) (.cons (glb_int X G q_GREATEST) .nil) bl (den_is_span sp_is_number) ok_is_span
  have g15 : Dfn l.prog w K mg base 1 "is_name" 1 sp_is_name := dfn_of F15 sc_is_name m15 (by rfl) B15 (k := 0) .nil (.cons (glb_str X G q_FIGURES) (.cons (glb_str X G q_LETTERS) .nil)) bl (den_is_name ) ok_is_name
  have g16 : Dfn l.prog w K mg base 2 "is_label" 1 sp_is_label := dfn_of F16 sc_is_label m16 (by rfl) B16 (k := 1) (.cons (g15.mono (by decide)) .nil) (.cons (glb_tup X G q_RESERVED r_RESERVED z_RESERVED p_RESERVED) .nil) bl (den_is_label sp_is_name) ok_is_label
  have g17 : Dfn l.prog w K mg base 3 "is_move" 2 sp_is_move := dfn_of F17 sc_is_move m17 (by rfl) B17 (k := 2) (.cons (g13.mono (by decide)) (.cons (g14.mono (by decide)) (.cons (g16.mono (by decide)) .nil))) .nil bl (den_is_move sp_is_number sp_is_span sp_is_label) ok_is_move
  have g18 : Dfn l.prog w K mg base 4 "is_moves" 2 sp_is_moves := dfn_of F18 sc_is_moves m18 (by rfl) B18 (k := 3) (.cons (g17.mono (by decide)) .nil) .nil bl (den_is_moves sp_is_move) ok_is_moves
  have g19 : Dfn l.prog w K mg base 5 "is_letter_node" 3 sp_is_letter_node := dfn_of F19 sc_is_letter_node m19 (by rfl) B19 (k := 4) (.cons (g18.mono (by decide)) .nil) .nil bl (den_is_letter_node sp_is_moves) ok_is_letter_node
  have g20 : Dfn l.prog w K mg base 1 "is_end" 1 sp_is_end := dfn_of F20 sc_is_end m20 (by rfl) B20 (k := 0) .nil .nil bl (den_is_end ) ok_is_end
  have g21 : Dfn l.prog w K mg base 3 "are_roles" 1 sp_are_roles := dfn_of F21 sc_are_roles m21 (by rfl) B21 (k := 2) (.cons (g16.mono (by decide)) .nil) (.cons (glb_int X G q_MOST_ROLES) .nil) bl (den_are_roles sp_is_label) ok_are_roles
  have g22 : Dfn l.prog w K mg base 6 "is_web" 1 sp_is_web := dfn_of F22 sc_is_web m22 (by rfl) B22 (k := 5) (.cons (g11.mono (by decide)) (.cons (g12.mono (by decide)) (.cons (g19.mono (by decide)) (.cons (g20.mono (by decide)) (.cons (g21.mono (by decide)) .nil))))) (.cons (glb_int X G q_MOST_NODES) .nil) bl (den_is_web sp_left_of sp_found_from sp_is_letter_node sp_is_end sp_are_roles) ok_is_web
  have g23 : Dfn l.prog w K mg base 7 "_law_judged" 1 sp_judged := dfn_of F23 sc__law_judged m23 (by rfl) B23 (k := 6) (.cons (g8.mono (by decide)) (.cons (g22.mono (by decide)) .nil)) .nil bl (den__law_judged sp_l_is_web sp_is_web) ok_judged
  have g24 : Dfn l.prog w K mg base 1 "_law_pick" 2 sp_pick := dfn_of F24 sc__law_pick m24 (by rfl) B24 (k := 0) .nil .nil bl (den__law_pick ) ok_pick
  have g25 : Dfn l.prog w K mg base 2 "_law_odd" 1 sp_odd := dfn_of F25 sc__law_odd m25 (by rfl) B25 (k := 1) (.cons (g24.mono (by decide)) .nil) .nil bl (den__law_odd sp_pick) ok_odd
  have g26 : Dfn l.prog w K mg base 3 "_law_spoilt" 2 sp_spoilt := dfn_of F26 sc__law_spoilt m26 (by rfl) B26 (k := 2) (.cons (g24.mono (by decide)) (.cons (g25.mono (by decide)) .nil)) .nil bl (den__law_spoilt sp_pick sp_odd) ok_spoilt
  have g27 : Dfn l.prog w K mg base 2 "_law_other_shape" 2 sp_other_shape := dfn_of F27 sc__law_other_shape m27 (by rfl) B27 (k := 1) (.cons (g24.mono (by decide)) .nil) .nil bl (den__law_other_shape sp_pick) ok_other_shape
  have g28 : Dfn l.prog w K mg base 1 "_law_put" 3 sp_put := dfn_of F28 sc__law_put m28 (by rfl) B28 (k := 0) .nil .nil bl (den__law_put ) ok_put
  have g29 : Dfn l.prog w K mg base 2 "_law_letter_at" 2 sp_letter_at := dfn_of F29 sc__law_letter_at m29 (by rfl) B29 (k := 1) (.cons (g24.mono (by decide)) .nil) .nil bl (den__law_letter_at sp_pick) ok_letter_at
  have g30 : Dfn l.prog w K mg base 3 "_law_two_turned" 2 sp_two_turned := dfn_of F30 sc__law_two_turned m30 (by rfl) B30 (k := 2) (.cons (g28.mono (by decide)) (.cons (g29.mono (by decide)) .nil)) .nil bl (den__law_two_turned sp_put sp_letter_at) ok_two_turned
  have g31 : Dfn l.prog w K mg base 3 "_law_other_moves" 2 sp_other_moves := dfn_of F31 sc__law_other_moves m31 (by rfl) B31 (k := 2) (.cons (g28.mono (by decide)) (.cons (g24.mono (by decide)) (.cons (g29.mono (by decide)) .nil))) .nil bl (den__law_other_moves sp_put sp_pick sp_letter_at) ok_other_moves
  have g32 : Dfn l.prog w K mg base 2 "_law_other_end" 2 sp_other_end := dfn_of F32 sc__law_other_end m32 (by rfl) B32 (k := 1) (.cons (g24.mono (by decide)) .nil) .nil bl (den__law_other_end sp_pick) ok_other_end
  have g33 : Dfn l.prog w K mg base 2 "_law_node_more" 2 sp_node_more := dfn_of F33 sc__law_node_more m33 (by rfl) B33 (k := 1) (.cons (g24.mono (by decide)) .nil) .nil bl (den__law_node_more sp_pick) ok_node_more
  have g34 : Dfn l.prog w K mg base 2 "_law_name" 2 sp_name := dfn_of F34 sc__law_name m34 (by rfl) B34 (k := 1) (.cons (g24.mono (by decide)) .nil) .nil bl (den__law_name sp_pick) ok_name
  have g35 : Dfn l.prog w K mg base 2 "_law_other_role" 2 sp_other_role := dfn_of F35 sc__law_other_role m35 (by rfl) B35 (k := 1) (.cons (g24.mono (by decide)) .nil) .nil bl (den__law_other_role sp_pick) ok_other_role
  have g36 : Dfn l.prog w K mg base 3 "_law_other_speaker" 2 sp_other_speaker := dfn_of F36 sc__law_other_speaker m36 (by rfl) B36 (k := 2) (.cons (g28.mono (by decide)) (.cons (g24.mono (by decide)) (.cons (g29.mono (by decide)) .nil))) .nil bl (den__law_other_speaker sp_put sp_pick sp_letter_at) ok_other_speaker
  have g37 : Dfn l.prog w K mg base 3 "_law_other_next" 3 sp_other_next := dfn_of F37 sc__law_other_next m37 (by rfl) B37 (k := 2) (.cons (g28.mono (by decide)) (.cons (g24.mono (by decide)) (.cons (g29.mono (by decide)) .nil))) .nil bl (den__law_other_next sp_put sp_pick sp_letter_at) ok_other_next
  have g38 : Dfn l.prog w K mg base 4 "_law_bent_web" 3 sp_bent_web := dfn_of F38 sc__law_bent_web m38 (by rfl) B38 (k := 3) (.cons (g27.mono (by decide)) (.cons (g30.mono (by decide)) (.cons (g31.mono (by decide)) (.cons (g32.mono (by decide)) (.cons (g33.mono (by decide)) (.cons (g24.mono (by decide)) (.cons (g34.mono (by decide)) (.cons (g35.mono (by decide)) (.cons (g36.mono (by decide)) (.cons (g37.mono (by decide)) (.cons (g26.mono (by decide)) .nil))))))))))) .nil bl (den__law_bent_web sp_other_shape sp_two_turned sp_other_moves sp_other_end sp_node_more sp_pick sp_name sp_other_role sp_other_speaker sp_other_next sp_spoilt) ok_bent_web
  have g39 : Dfn l.prog w K mg base 1 "_law_found" 2 sp_found := dfn_of F39 sc__law_found m39 (by rfl) B39 (k := 0) .nil .nil bl (den__law_found ) ok_found
  have g40 : Dfn l.prog w K mg base 2 "_law_kept_web" 2 sp_kept_web := dfn_of F40 sc__law_kept_web m40 (by rfl) B40 (k := 1) (.cons (g39.mono (by decide)) .nil) .nil bl (den__law_kept_web sp_found) ok_kept_web
  have g41 : Dfn l.prog w K mg base 2 "_law_mend_ends" 2 sp_mend_ends := dfn_of F41 sc__law_mend_ends m41 (by rfl) B41 (k := 1) (.cons (g39.mono (by decide)) .nil) .nil bl (den__law_mend_ends sp_found) ok_mend_ends
  have g42 : Dfn l.prog w K mg base 2 "_law_split_moves" 3 sp_split_moves := dfn_of F42 sc__law_split_moves m42 (by rfl) B42 (k := 1) (.cons (g24.mono (by decide)) .nil) .nil bl (den__law_split_moves sp_pick) ok_split_moves
  have g43 : Dfn l.prog w K mg base 2 "_law_span" 1 sp_span := dfn_of F43 sc__law_span m43 (by rfl) B43 (k := 1) (.cons (g24.mono (by decide)) .nil) .nil bl (den__law_span sp_pick) ok_span
  have g44 : Dfn l.prog w K mg base 3 "_law_moves" 4 sp_moves := dfn_of F44 sc__law_moves m44 (by rfl) B44 (k := 2) (.cons (g24.mono (by decide)) (.cons (g43.mono (by decide)) .nil)) .nil bl (den__law_moves sp_pick sp_span) ok_moves
  have g45 : Dfn l.prog w K mg base 2 "_law_two" 2 sp_two := dfn_of F45 sc__law_two m45 (by rfl) B45 (k := 1) (.cons (g24.mono (by decide)) .nil) .nil bl (den__law_two sp_pick) ok_two
  have g46 : Dfn l.prog w K mg base 4 "_law_wild_nodes" 4 sp_wild_nodes := dfn_of F46 sc__law_wild_nodes m46 (by rfl) B46 (k := 3) (.cons (g24.mono (by decide)) (.cons (g42.mono (by decide)) (.cons (g44.mono (by decide)) (.cons (g45.mono (by decide)) .nil)))) .nil bl (den__law_wild_nodes sp_pick sp_split_moves sp_moves sp_two) ok_wild_nodes
  have g47 : Dfn l.prog w K mg base 3 "_law_names" 2 sp_names := dfn_of F47 sc__law_names m47 (by rfl) B47 (k := 2) (.cons (g34.mono (by decide)) .nil) .nil bl (den__law_names sp_name) ok_names
  have g48 : Dfn l.prog w K mg base 5 "_law_wild_web" 3 sp_wild_web := dfn_of F48 sc__law_wild_web m48 (by rfl) B48 (k := 4) (.cons (g40.mono (by decide)) (.cons (g41.mono (by decide)) (.cons (g46.mono (by decide)) (.cons (g24.mono (by decide)) (.cons (g47.mono (by decide)) .nil))))) .nil bl (den__law_wild_web sp_kept_web sp_mend_ends sp_wild_nodes sp_pick sp_names) ok_wild_web
  have g49 : Dfn l.prog w K mg base 4 "_law_hub_web" 3 sp_hub_web := dfn_of F49 sc__law_hub_web m49 (by rfl) B49 (k := 3) (.cons (g40.mono (by decide)) (.cons (g41.mono (by decide)) (.cons (g34.mono (by decide)) (.cons (g24.mono (by decide)) (.cons (g42.mono (by decide)) (.cons (g44.mono (by decide)) (.cons (g47.mono (by decide)) .nil))))))) .nil bl (den__law_hub_web sp_kept_web sp_mend_ends sp_name sp_pick sp_split_moves sp_moves sp_names) ok_hub_web
  have g50 : Dfn l.prog w K mg base 4 "_law_row_web" 2 sp_row_web := dfn_of F50 sc__law_row_web m50 (by rfl) B50 (k := 3) (.cons (g40.mono (by decide)) (.cons (g34.mono (by decide)) (.cons (g47.mono (by decide)) .nil))) .nil bl (den__law_row_web sp_kept_web sp_name sp_names) ok_row_web
  have g51 : Dfn l.prog w K mg base 1 "_law_cell" 2 sp_cell := dfn_of F51 sc__law_cell m51 (by rfl) B51 (k := 0) .nil .nil bl (den__law_cell ) ok_cell
  have g52 : Dfn l.prog w K mg base 2 "_law_jar" 2 sp_jar := dfn_of F52 sc__law_jar m52 (by rfl) B52 (k := 1) (.cons (g51.mono (by decide)) .nil) .nil bl (den__law_jar sp_cell) ok_jar
  have g53 : Dfn l.prog w K mg base 6 "_law_judged_web" 2 sp_judged_web := dfn_of F53 sc__law_judged_web m53 (by rfl) B53 (k := 5) (.cons (g48.mono (by decide)) (.cons (g24.mono (by decide)) (.cons (g49.mono (by decide)) (.cons (g50.mono (by decide)) (.cons (g52.mono (by decide)) .nil))))) .nil bl (den__law_judged_web sp_wild_web sp_pick sp_hub_web sp_row_web sp_jar) ok_judged_web
  exact fnok_of F54 sc_law (k := 7) (.cons (g23.mono (by decide)) (.cons (g26.mono (by decide)) (.cons (g25.mono (by decide)) (.cons (g38.mono (by decide)) (.cons (g53.mono (by decide)) (.cons (g24.mono (by decide)) (.cons (g52.mono (by decide)) .nil))))))) .nil bl (den_law sp_judged sp_spoilt sp_odd sp_bent_web sp_judged_web sp_pick sp_jar) ok_law
end K11
open PySem PySem.W PyProof.Rows
set_option maxHeartbeats 0 in
theorem PySem.Challenge.cw_swapwarrant_k11_webs_judged_holds : PySem.Challenge.rw_swapwarrant_k11_webs_judged.Holds := by
  w_on; o_law; k_head; (case hw => w_witness2)
  k_fill
  refine L2.walk_of (l := PySem.Challenge.rw_swapwarrant_k11_webs_judged) (n := 63) (k := 8) (x := "script") (CX := fun _ => L2.CX0) (sp := fun w => DL.upF _ 1 DL.lawSp) rfl (by decide) rfl ⟨rfl, by decide, by decide⟩ (fun w h Y => PySem.W.kIn_of Y) ?F (fun _ _ a ns hl hO hS => DL.law_entry hl hO hS _) (fun _ _ _ _ _ h => h)
  case F =>
    intro w mg fa h KX G hmg
    refine' K11.all_mk KX G hmg (DL.defAt ?a0 ?l0 ?c0 ?k0) (DL.defAt ?a1 ?l1 ?c1 ?k1) (DL.defAt ?a2 ?l2 ?c2 ?k2) (DL.defAt ?a3 ?l3 ?c3 ?k3) (DL.defAt ?a4 ?l4 ?c4 ?k4) (DL.defAt ?a5 ?l5 ?c5 ?k5) (DL.defAt ?a6 ?l6 ?c6 ?k6) (DL.defAt ?a7 ?l7 ?c7 ?k7) (DL.defAt ?a8 ?l8 ?c8 ?k8) (DL.defAt ?a9 ?l9 ?c9 ?k9) (DL.defAt ?a10 ?l10 ?c10 ?k10) (DL.defAt ?a11 ?l11 ?c11 ?k11) (DL.defAt ?a12 ?l12 ?c12 ?k12) (DL.defAt ?a13 ?l13 ?c13 ?k13) (DL.defAt ?a14 ?l14 ?c14 ?k14) (DL.defAt ?a15 ?l15 ?c15 ?k15) (DL.defAt ?a16 ?l16 ?c16 ?k16) (DL.defAt ?a17 ?l17 ?c17 ?k17) (DL.defAt ?a18 ?l18 ?c18 ?k18) (DL.defAt ?a19 ?l19 ?c19 ?k19) (DL.defAt ?a20 ?l20 ?c20 ?k20) (DL.defAt ?a21 ?l21 ?c21 ?k21) (DL.defAt ?a22 ?l22 ?c22 ?k22) (DL.defAt ?a23 ?l23 ?c23 ?k23) (DL.defAt ?a24 ?l24 ?c24 ?k24) (DL.defAt ?a25 ?l25 ?c25 ?k25) (DL.defAt ?a26 ?l26 ?c26 ?k26) (DL.defAt ?a27 ?l27 ?c27 ?k27) (DL.defAt ?a28 ?l28 ?c28 ?k28) (DL.defAt ?a29 ?l29 ?c29 ?k29) (DL.defAt ?a30 ?l30 ?c30 ?k30) (DL.defAt ?a31 ?l31 ?c31 ?k31) (DL.defAt ?a32 ?l32 ?c32 ?k32) (DL.defAt ?a33 ?l33 ?c33 ?k33) (DL.defAt ?a34 ?l34 ?c34 ?k34) (DL.defAt ?a35 ?l35 ?c35 ?k35) (DL.defAt ?a36 ?l36 ?c36 ?k36) (DL.defAt ?a37 ?l37 ?c37 ?k37) (DL.defAt ?a38 ?l38 ?c38 ?k38) (DL.defAt ?a39 ?l39 ?c39 ?k39) (DL.defAt ?a40 ?l40 ?c40 ?k40) (DL.defAt ?a41 ?l41 ?c41 ?k41) (DL.defAt ?a42 ?l42 ?c42 ?k42) (DL.defAt ?a43 ?l43 ?c43 ?k43) (DL.defAt ?a44 ?l44 ?c44 ?k44) (DL.defAt ?a45 ?l45 ?c45 ?k45) (DL.defAt ?a46 ?l46 ?c46 ?k46) (DL.defAt ?a47 ?l47 ?c47 ?k47) (DL.defAt ?a48 ?l48 ?c48 ?k48) (DL.defAt ?a49 ?l49 ?c49 ?k49) (DL.defAt ?a50 ?l50 ?c50 ?k50) (DL.defAt ?a51 ?l51 ?c51 ?k51) (DL.defAt ?a52 ?l52 ?c52 ?k52) (DL.defAt ?a53 ?l53 ?c53 ?k53) (DL.defAt ?a54 ?l54 ?c54 ?k54) ?q_GREATEST ?q_FIGURES ?q_LETTERS ?q_RESERVED ?r_RESERVED ?z_RESERVED ?p_RESERVED ?q_MOST_ROLES ?q_MOST_NODES ?n_len ?n_int ?n_str ?n_tuple ?n_list ?n_sum ?n_abs ?n_max ?n_min ?n_range ?n_isinstance ?n_bool ?n_dict ?n_sorted ?n_zip ?n_enumerate ?n_reversed ?n_repr
    (case a0 => k_is); (case l0 => k_is); (case c0 => k_is); (case k0 => k_is); (case a1 => k_is); (case l1 => k_is); (case c1 => k_is); (case k1 => k_is); (case a2 => k_is); (case l2 => k_is); (case c2 => k_is); (case k2 => k_is); (case a3 => k_is); (case l3 => k_is); (case c3 => k_is); (case k3 => k_is); (case a4 => k_is); (case l4 => k_is); (case c4 => k_is); (case k4 => k_is); (case a5 => k_is); (case l5 => k_is); (case c5 => k_is); (case k5 => k_is); (case a6 => k_is); (case l6 => k_is); (case c6 => k_is); (case k6 => k_is); (case a7 => k_is); (case l7 => k_is); (case c7 => k_is); (case k7 => k_is); (case a8 => k_is); (case l8 => k_is); (case c8 => k_is); (case k8 => k_is); (case a9 => k_is); (case l9 => k_is); (case c9 => k_is); (case k9 => k_is); (case a10 => k_is); (case l10 => k_is); (case c10 => k_is); (case k10 => k_is); (case a11 => k_is); (case l11 => k_is); (case c11 => k_is); (case k11 => k_is); (case a12 => k_is); (case l12 => k_is); (case c12 => k_is); (case k12 => k_is); (case a13 => k_is); (case l13 => k_is); (case c13 => k_is); (case k13 => k_is); (case a14 => k_is); (case l14 => k_is); (case c14 => k_is); (case k14 => k_is); (case a15 => k_is); (case l15 => k_is); (case c15 => k_is); (case k15 => k_is); (case a16 => k_is); (case l16 => k_is); (case c16 => k_is); (case k16 => k_is); (case a17 => k_is); (case l17 => k_is); (case c17 => k_is); (case k17 => k_is); (case a18 => k_is); (case l18 => k_is); (case c18 => k_is); (case k18 => k_is); (case a19 => k_is); (case l19 => k_is); (case c19 => k_is); (case k19 => k_is); (case a20 => k_is); (case l20 => k_is); (case c20 => k_is); (case k20 => k_is); (case a21 => k_is); (case l21 => k_is); (case c21 => k_is); (case k21 => k_is); (case a22 => k_is); (case l22 => k_is); (case c22 => k_is); (case k22 => k_is); (case a23 => k_is); (case l23 => k_is); (case c23 => k_is); (case k23 => k_is); (case a24 => k_is); (case l24 => k_is); (case c24 => k_is); (case k24 => k_is); (case a25 => k_is); (case l25 => k_is); (case c25 => k_is); (case k25 => k_is); (case a26 => k_is); (case l26 => k_is); (case c26 => k_is); (case k26 => k_is); (case a27 => k_is); (case l27 => k_is); (case c27 => k_is); (case k27 => k_is); (case a28 => k_is); (case l28 => k_is); (case c28 => k_is); (case k28 => k_is); (case a29 => k_is); (case l29 => k_is); (case c29 => k_is); (case k29 => k_is); (case a30 => k_is); (case l30 => k_is); (case c30 => k_is); (case k30 => k_is); (case a31 => k_is); (case l31 => k_is); (case c31 => k_is); (case k31 => k_is); (case a32 => k_is); (case l32 => k_is); (case c32 => k_is); (case k32 => k_is); (case a33 => k_is); (case l33 => k_is); (case c33 => k_is); (case k33 => k_is); (case a34 => k_is); (case l34 => k_is); (case c34 => k_is); (case k34 => k_is); (case a35 => k_is); (case l35 => k_is); (case c35 => k_is); (case k35 => k_is); (case a36 => k_is); (case l36 => k_is); (case c36 => k_is); (case k36 => k_is); (case a37 => k_is); (case l37 => k_is); (case c37 => k_is); (case k37 => k_is); (case a38 => k_is); (case l38 => k_is); (case c38 => k_is); (case k38 => k_is); (case a39 => k_is); (case l39 => k_is); (case c39 => k_is); (case k39 => k_is); (case a40 => k_is); (case l40 => k_is); (case c40 => k_is); (case k40 => k_is); (case a41 => k_is); (case l41 => k_is); (case c41 => k_is); (case k41 => k_is); (case a42 => k_is); (case l42 => k_is); (case c42 => k_is); (case k42 => k_is); (case a43 => k_is); (case l43 => k_is); (case c43 => k_is); (case k43 => k_is); (case a44 => k_is); (case l44 => k_is); (case c44 => k_is); (case k44 => k_is); (case a45 => k_is); (case l45 => k_is); (case c45 => k_is); (case k45 => k_is); (case a46 => k_is); (case l46 => k_is); (case c46 => k_is); (case k46 => k_is); (case a47 => k_is); (case l47 => k_is); (case c47 => k_is); (case k47 => k_is); (case a48 => k_is); (case l48 => k_is); (case c48 => k_is); (case k48 => k_is); (case a49 => k_is); (case l49 => k_is); (case c49 => k_is); (case k49 => k_is); (case a50 => k_is); (case l50 => k_is); (case c50 => k_is); (case k50 => k_is); (case a51 => k_is); (case l51 => k_is); (case c51 => k_is); (case k51 => k_is); (case a52 => k_is); (case l52 => k_is); (case c52 => k_is); (case k52 => k_is); (case a53 => k_is); (case l53 => k_is); (case c53 => k_is); (case k53 => k_is); (case a54 => k_is); (case l54 => k_is); (case c54 => k_is); (case k54 => k_is)
    (case q_GREATEST => k_is); (case q_FIGURES => k_is); (case q_LETTERS => k_is); (case q_RESERVED => k_is); (case r_RESERVED => k_is); (case z_RESERVED => decide +kernel); (case p_RESERVED => exact (.cons (.str _ _) (.cons (.str _ _) (.cons (.str _ _) (.cons (.str _ _) (.cons (.str _ _) (.cons (.str _ _) (.cons (.str _ _) (.cons (.str _ _) (.cons (.str _ _) (.cons (.str _ _) (.cons (.str _ _) .nil)))))))))))); (case q_MOST_ROLES => k_is); (case q_MOST_NODES => k_is)
    (case n_len => k_is); (case n_int => k_is); (case n_str => k_is); (case n_tuple => k_is); (case n_list => k_is); (case n_sum => k_is); (case n_abs => k_is); (case n_max => k_is); (case n_min => k_is); (case n_range => k_is); (case n_isinstance => k_is); (case n_bool => k_is); (case n_dict => k_is); (case n_sorted => k_is); (case n_zip => k_is); (case n_enumerate => k_is); (case n_reversed => k_is); (case n_repr => k_is)
