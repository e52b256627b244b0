import PyProof.Rows.All
import Wide.All
import OpenK.AllK
import Wide.FinOn
import HandS.ForMost
import HandS.Flow
import HandS.TupAny
import HandS.Deep
import HandS.Small
import HandS.TupLen
import HandS.WordsDict
import HandS.IsInst
import HandS.Conv
import HandS.ListItems
import HandS.SortInts
import HandS.Rev
import HandS.TryOnly
import HandS.Zip
import HandS.Strs
import HandS.Defaults
import PySem.Challenge.RW_swapwarrant_k66_posts_used
set_option Elab.async false
set_option linter.all false
set_option maxRecDepth 100000
set_option maxHeartbeats 8000000
/-! DLa: a data layer over the hand layer: deep data D, a heap Mh of what may change, and the relation to V and Hp. -/
namespace DL
open PySem PySem.Spec L2
open PyProof.Rows hiding St

/-- data: tuples by value (ktp: one that the module's top made), what may change by its address -/
inductive D where
  | non
  | bl (b : Bool)
  | int (i : Int)
  | str (x : Str)
  | tup (ds : List D)
  | ktp (ds : List D)
  | rol (ds : List D)
  | ref (a : Addr)

/-- what may change -/
inductive MO where
  | lst (ds : List D)
  | dk (kvs : List (Key × D))
  | dt (kvs : List (List Key × D))

abbrev Mh := Addr → Option MO
def mup (M : Mh) (a : Addr) (o : MO) : Mh := fun b => if b = a then some o else M b
@[simp] theorem mup_same {M : Mh} {a : Addr} {o : MO} : mup M a o a = some o := if_pos rfl
theorem mup_ne {M : Mh} {a b : Addr} {o : MO} (h : b ≠ a) : mup M a o b = M b := if_neg h

abbrev Ev := List (Option D)
abbrev PQ := D → Mh → Prop
abbrev DT := Ev → Mh → PQ → Prop
abbrev DB := Ev → Mh → (Bool → Mh → Prop) → Prop
abbrev DA := Ev → Mh → (List D → Mh → Prop) → Prop
structure De where
  nx : Ev → Mh → Prop
  rt : PQ
  bk : Ev → Mh → Prop := fun _ _ => False
  ct : Ev → Mh → Prop := fun _ _ => False
abbrev DS := De → Ev → Mh → Prop

section
variable (K : PySem.W.Frag) (H : Hp)
/-- a list that is never written -/
def SqF (a : Addr) (xs : List V) : Prop :=
  (∃ o, H a = some (.frz o (.lst xs))) ∨
    ∃ (o : Obj) (its : Array Value) (n : Nat), K.lookup a = some o ∧ o.cls = .type "list" ∧ o.dict = none ∧ o.data = .seq its n ∧ its.size ≤ sizeLine ∧ Vals xs its.toList
/-- a tuple that is known to its object, which has no dict -/
def SqN (a : Addr) (xs : List V) : Prop :=
  (∃ o, H a = some (.frz o (.tup xs)) ∧ o.dict = none) ∨
    ∃ (o : Obj) (its : Array Value) (n : Nat), K.lookup a = some o ∧ o.cls = .type "tuple" ∧ o.dict = none ∧ o.data = .seq its n ∧ its.size ≤ sizeLine ∧ Vals xs its.toList
mutual
inductive DR : D → V → Prop
  | non : DR .non .non
  | bl (b : Bool) : DR (.bl b) (.bl b)
  | int (i : Int) : DR (.int i) (.int i)
  | str (x : Str) : DR (.str x) (.str x)
  | tup {a : Addr} {vs : List V} {ds : List D} : H a = some (.tup vs) → DRs ds vs → DR (.tup ds) (.ref a)
  | ktp {a : Addr} {vs : List V} {ds : List D} : SqN K H a vs → DRs ds vs → DR (.ktp ds) (.ref a)
  | rol {a : Addr} {vs : List V} {ds : List D} : SqF K H a vs → DRs ds vs → DR (.rol ds) (.ref a)
  | ref (a : Addr) : DR (.ref a) (.ref a)
inductive DRs : List D → List V → Prop
  | nil : DRs [] []
  | cons {d : D} {v : V} {ds : List D} {vs : List V} : DR d v → DRs ds vs → DRs (d :: ds) (v :: vs)
end
/-- a table of values -/
abbrev DKs {κ : Type} : List (κ × D) → List (κ × V) → Prop := Paired fun p q => p.1 = q.1 ∧ DR K H p.2 q.2
def MR (a : Addr) : MO → Prop
  | .lst ds => ∃ vs, H a = some (.lst vs) ∧ DRs K H ds vs
  | .dk kvs => ∃ ws, H a = some (.dK ws) ∧ DKs K H kvs ws
  | .dt kvs => ∃ ws, H a = some (.dT ws) ∧ DKs K H kvs ws
/-- what stands for a changing thing -/
def IsM : HO → Prop
  | .lst _ => True
  | .dK _ => True
  | .dT _ => True
  | _ => False
def HR (M : Mh) : Prop := ∀ a o, M a = some o → MR K H a o
/-- slots -/
def ER (ρ : Ev) (σ : St) : Prop := ρ.length = σ.length ∧ ∀ (i : Nat) (d : D), ρ[i]? = some (some d) → ∃ v, σ[i]? = some (some v) ∧ DR K H d v
end
/-- the tuples and what is frozen stand -/
structure Ext (K : PySem.W.Frag) (H H' : Hp) : Prop where
  tup : ∀ a vs, H a = some (.tup vs) → H' a = some (.tup vs)
  frz : ∀ a o u, H a = some (.frz o u) → H' a = some (.frz o u)

section
variable {K : PySem.W.Frag} {H H1 H2 : Hp}
theorem Ext.refl (K : PySem.W.Frag) (H : Hp) : Ext K H H := ⟨fun _ _ h => h, fun _ _ _ h => h⟩
theorem Ext.trans (x : Ext K H H1) (y : Ext K H1 H2) : Ext K H H2 := ⟨fun a vs h => y.tup a vs (x.tup a vs h), fun a o u h => y.frz a o u (x.frz a o u h)⟩
theorem Ext.of_ne {p : Addr} {o : HO} (ht : ∀ xs, H p ≠ some (.tup xs)) (hf : ∀ ob u, H p ≠ some (.frz ob u)) : Ext K H (upd H p o) := by
  have nt : ∀ a xs, H a = some (.tup xs) → a ≠ p := fun a xs e z => ht xs (z ▸ e)
  have nf : ∀ a ob u, H a = some (.frz ob u) → a ≠ p := fun a ob u e z => hf ob u (z ▸ e)
  exact ⟨fun a vs q => by rw [upd_ne (nt a _ q)]; exact q, fun a ob u q => by rw [upd_ne (nf a ob u q)]; exact q⟩
theorem Ext.sqT (x : Ext K H H1) {a : Addr} {vs : List V} (q : SqT K H a vs) : SqT K H1 a vs := by
  rcases q with (q | ⟨ob, q⟩) | q
  · exact .inl (.inl (x.tup _ _ q))
  · exact .inl (.inr ⟨ob, x.frz _ _ _ q⟩)
  · exact .inr q
theorem Ext.fresh {p : Addr} {o : HO} (h : H p = none) : Ext K H (upd H p o) := .of_ne (fun xs z => by rw [h] at z; cases z) fun ob u z => by rw [h] at z; cases z
theorem Ext.lst {p : Addr} {xs : List V} {o : HO} (h : H p = some (.lst xs)) : Ext K H (upd H p o) := .of_ne (fun xs z => by rw [h] at z; cases z) fun ob u z => by rw [h] at z; cases z
theorem Ext.isM {p : Addr} {u o : HO} (h : H p = some u) (m : IsM u) : Ext K H (upd H p o) := .of_ne (fun xs z => by rw [h] at z; cases z; exact m) fun ob u z => by rw [h] at z; cases z; exact m
theorem SqF.mono {a : Addr} {xs : List V} (x : Ext K H H1) (h : SqF K H a xs) : SqF K H1 a xs := by
  rcases h with ⟨o, h⟩ | h
  · exact .inl ⟨o, x.frz _ _ _ h⟩
  · exact .inr h
theorem SqN.mono {a : Addr} {xs : List V} (x : Ext K H H1) (h : SqN K H a xs) : SqN K H1 a xs := by
  rcases h with ⟨o, h, d⟩ | h
  · exact .inl ⟨o, x.frz _ _ _ h, d⟩
  · exact .inr h
theorem SqN.t {a : Addr} {xs : List V} (h : SqN K H a xs) : SqT K H a xs := by
  rcases h with ⟨o, h, d⟩ | ⟨o, its, n, h1, h2, h3, h4, h5, h6⟩
  · exact .inl (.inr ⟨o, h⟩)
  · exact .inr ⟨o, its, n, h1, h2, h4, h5, h6⟩
theorem SqF.seq {a : Addr} {xs : List V} (h : SqF K H a xs) : SqL K H a xs := by
  rcases h with ⟨o, h⟩ | h
  · exact .inl (.inr ⟨o, h⟩)
  · exact .inr h
mutual
theorem DR.mono (x : Ext K H H1) : ∀ {d : D} {v : V}, DR K H d v → DR K H1 d v
  | _, _, .non => .non
  | _, _, .bl b => .bl b
  | _, _, .int i => .int i
  | _, _, .str z => .str z
  | _, _, .tup h r => .tup (x.tup _ _ h) (DRs.mono x r)
  | _, _, .ktp h r => .ktp (h.mono x) (DRs.mono x r)
  | _, _, .rol h r => .rol (h.mono x) (DRs.mono x r)
  | _, _, .ref a => .ref a
theorem DRs.mono (x : Ext K H H1) : ∀ {ds : List D} {vs : List V}, DRs K H ds vs → DRs K H1 ds vs
  | _, _, .nil => .nil
  | _, _, .cons h r => .cons (DR.mono x h) (DRs.mono x r)
end
theorem DRs.length : ∀ {ds : List D} {vs : List V}, DRs K H ds vs → ds.length = vs.length
  | _, _, .nil => rfl
  | _, _, .cons _ r => by rw [List.length_cons, List.length_cons, r.length]
theorem DRs.get : ∀ {ds : List D} {vs : List V} {i : Nat} {d : D}, DRs K H ds vs → ds[i]? = some d → ∃ v, vs[i]? = some v ∧ DR K H d v
  | _, _, _, _, .nil, e => by simp at e
  | _, _, 0, _, .cons h _, e => by
    simp only [List.getElem?_cons_zero, Option.some.injEq] at e
    exact ⟨_, rfl, e ▸ h⟩
  | _, _, i + 1, _, .cons _ r, e => by
    simp only [List.getElem?_cons_succ] at e
    obtain ⟨v, h1, h2⟩ := DRs.get r e
    exact ⟨v, by simpa using h1, h2⟩
theorem DRs.get' : ∀ {ds : List D} {vs : List V} {i : Nat} {v : V}, DRs K H ds vs → vs[i]? = some v → ∃ d, ds[i]? = some d ∧ DR K H d v
  | _, _, _, _, .nil, e => by simp at e
  | _, _, 0, _, .cons h _, e => by
    simp only [List.getElem?_cons_zero, Option.some.injEq] at e
    exact ⟨_, rfl, e ▸ h⟩
  | _, _, i + 1, _, .cons _ r, e => by
    simp only [List.getElem?_cons_succ] at e
    obtain ⟨v, h1, h2⟩ := DRs.get' r e
    exact ⟨v, by simpa using h1, h2⟩
theorem DRs.append : ∀ {ds es : List D} {vs ws : List V}, DRs K H ds vs → DRs K H es ws → DRs K H (ds ++ es) (vs ++ ws)
  | _, _, _, _, .nil, s => s
  | _, _, _, _, .cons h r, s => .cons h (DRs.append r s)
theorem DRs.nil_of {ds : List D} {vs : List V} (r : DRs K H ds vs) (e : vs = []) : ds = [] := by
  subst e
  cases r
  rfl
theorem DRs.drop : ∀ {ds : List D} {vs : List V} (n : Nat), DRs K H ds vs → DRs K H (ds.drop n) (vs.drop n)
  | _, _, 0, r => r
  | _, _, _ + 1, .nil => .nil
  | _, _, n + 1, .cons _ r => DRs.drop n r
theorem DRs.take : ∀ {ds : List D} {vs : List V} (n : Nat), DRs K H ds vs → DRs K H (ds.take n) (vs.take n)
  | _, _, 0, _ => .nil
  | _, _, _ + 1, .nil => .nil
  | _, _, n + 1, .cons h r => .cons h (DRs.take n r)
theorem DRs.set : ∀ {ds : List D} {vs : List V} (i : Nat) {d : D} {v : V}, DRs K H ds vs → DR K H d v → DRs K H (ds.set i d) (vs.set i v)
  | _, _, _, _, _, .nil, _ => .nil
  | _, _, 0, _, _, .cons _ r, q => .cons q r
  | _, _, i + 1, _, _, .cons h r, q => .cons h (DRs.set i r q)
theorem DRs.erase : ∀ {ds : List D} {vs : List V} (i : Nat), DRs K H ds vs → DRs K H (ds.eraseIdx i) (vs.eraseIdx i)
  | _, _, _, .nil => .nil
  | _, _, 0, .cons _ r => r
  | _, _, i + 1, .cons h r => .cons h (DRs.erase i r)
theorem DRs.dropLast {ds : List D} {vs : List V} (r : DRs K H ds vs) : DRs K H ds.dropLast vs.dropLast := by
  rw [List.dropLast_eq_take, List.dropLast_eq_take, r.length]; exact r.take _
theorem DRs.one {d : D} {v : V} (h : DR K H d v) : DRs K H [d] [v] := .cons h .nil
theorem DRs.two {d e : D} {v w : V} (h : DR K H d v) (g : DR K H e w) : DRs K H [d, e] [v, w] := .cons h (.cons g .nil)

theorem ER.mono {ρ : Ev} {σ : St} (x : Ext K H H1) (e : ER K H ρ σ) : ER K H1 ρ σ := ⟨e.1, fun i d h => let ⟨v, h1, h2⟩ := e.2 i d h; ⟨v, h1, h2.mono x⟩⟩
theorem ER.set {ρ : Ev} {σ : St} {i : Nat} {d : D} {v : V} (e : ER K H ρ σ) (h : DR K H d v) : ER K H (ρ.set i (some d)) (σ.set i (some v)) := by
  refine ⟨by rw [List.length_set, List.length_set, e.1], fun j c q => ?_⟩
  by_cases hj : i = j
  · subst hj
    rw [List.getElem?_set] at q
    by_cases hl : i < ρ.length
    · rw [if_pos rfl, if_pos hl] at q
      cases q
      exact ⟨v, by rw [List.getElem?_set, if_pos rfl, if_pos (by rw [← e.1]; exact hl)], h⟩
    · rw [if_pos rfl, if_neg hl] at q
      cases q
  · rw [List.getElem?_set_ne hj] at q
    obtain ⟨w, h1, h2⟩ := e.2 j c q
    exact ⟨w, by rw [List.getElem?_set_ne hj]; exact h1, h2⟩

theorem DKs.mono {κ : Type} {kvs : List (κ × D)} {ws : List (κ × V)} (x : Ext K H H1) (h : DKs K H kvs ws) : DKs K H1 kvs ws := Paired.mapP h fun _ _ z => ⟨z.1, z.2.mono x⟩
/-- what M speaks of is there -/
theorem MR.there {a : Addr} {o : MO} (h : MR K H a o) : ∃ u, H a = some u ∧ IsM u := by
  cases o with
  | lst ds => obtain ⟨vs, q, _⟩ := h; exact ⟨_, q, trivial⟩
  | dk ds => obtain ⟨vs, q, _⟩ := h; exact ⟨_, q, trivial⟩
  | dt ds => obtain ⟨vs, q, _⟩ := h; exact ⟨_, q, trivial⟩
theorem HR.free {M : Mh} {p : Addr} (r : HR K H M) (h : H p = none) : M p = none := by
  cases e : M p with
  | none => rfl
  | some o =>
    obtain ⟨u, q, _⟩ := (r p _ e).there
    rw [h] at q; cases q
theorem MR.keep {a : Addr} {o : MO} (h : MR K H a o) (x : Ext K H H1) (k : ∀ u, IsM u → H a = some u → H1 a = some u) : MR K H1 a o := by
  cases o with
  | lst ds => obtain ⟨vs, q, d⟩ := h; exact ⟨vs, k _ trivial q, d.mono x⟩
  | dk ds => obtain ⟨vs, q, d⟩ := h; exact ⟨vs, k _ trivial q, d.mono x⟩
  | dt ds => obtain ⟨vs, q, d⟩ := h; exact ⟨vs, k _ trivial q, d.mono x⟩
/-- the objects of M elsewhere stand -/
theorem HR.keep {M : Mh} (r : HR K H M) (x : Ext K H H1) (k : ∀ a u, (M a).isSome = true → IsM u → H a = some u → H1 a = some u) : HR K H1 M := fun a o e =>
  (r a o e).keep x fun u m q => k a u (by rw [e]; rfl) m q
/-- something new that M does not speak of -/
theorem HR.fresh {M : Mh} {p : Addr} {o : HO} (r : HR K H M) (h : H p = none) : HR K (upd H p o) M :=
  r.keep (.fresh h) fun a vs _ _ e => by rw [upd_ne (ne_of_none e h)]; exact e
/-- a place is written -/
theorem HR.put {M : Mh} {p : Addr} {mo : MO} {o : HO} (r : HR K H M) (x : Ext K H (upd H p o)) (d : MR K (upd H p o) p mo) : HR K (upd H p o) (mup M p mo) := fun a o e => by
  by_cases z : a = p
  · subst z
    rw [mup_same] at e; cases e
    exact d
  · rw [mup_ne z] at e
    exact (r a o e).keep x fun u _ q => by rw [upd_ne z]; exact q
/-- a new list -/
theorem HR.new {M : Mh} {p : Addr} {ds : List D} {vs : List V} (r : HR K H M) (h : H p = none) (d : DRs K H ds vs) : HR K (upd H p (.lst vs)) (mup M p (.lst ds)) :=
  r.put (.fresh h) ⟨vs, upd_same, d.mono (.fresh h)⟩
/-- a list is written -/
theorem HR.write {M : Mh} {p : Addr} {ds : List D} {vs xs : List V} (r : HR K H M) (h : H p = some (.lst xs)) (d : DRs K H ds vs) : HR K (upd H p (.lst vs)) (mup M p (.lst ds)) :=
  r.put (.lst h) ⟨vs, upd_same, d.mono (.lst h)⟩
end
end DL
/-! DLb: rules of the data layer for expressions and tests. -/
namespace DL
open PySem PySem.Spec L2
open PyProof.Rows hiding St

/-! ### transformers over data, seen as the hand layer's readings -/
def up (K : PySem.W.Frag) (w : DT) : TE := fun σ H Q => ∃ ρ M P, ER K H ρ σ ∧ HR K H M ∧ w ρ M P ∧ ∀ d M' v H', P d M' → Ext K H H' → DR K H' d v → HR K H' M' → Q v H'
def upB (K : PySem.W.Frag) (w : DB) : TT := fun σ H Q => ∃ ρ M P, ER K H ρ σ ∧ HR K H M ∧ w ρ M P ∧ ∀ b M' H', P b M' → Ext K H H' → HR K H' M' → Q b H'
def upA (K : PySem.W.Frag) (w : DA) : TA := fun σ H Q => ∃ ρ M P, ER K H ρ σ ∧ HR K H M ∧ w ρ M P ∧ ∀ ds M' vs H', P ds M' → Ext K H H' → DRs K H' ds vs → HR K H' M' → Q vs H'
/-- operations on values -/
def up1 (K : PySem.W.Frag) (r : D → Mh → PQ → Prop) : V → Hp → VK → Prop := fun v H Q => ∃ x M P, DR K H x v ∧ HR K H M ∧ r x M P ∧ ∀ d M' v' H', P d M' → Ext K H H' → DR K H' d v' → HR K H' M' → Q v' H'
def up2 (K : PySem.W.Frag) (r : D → D → Mh → PQ → Prop) : R2 := fun v u H Q => ∃ x y M P, DR K H x v ∧ DR K H y u ∧ HR K H M ∧ r x y M P ∧ ∀ d M' v' H', P d M' → Ext K H H' → DR K H' d v' → HR K H' M' → Q v' H'
def upL (K : PySem.W.Frag) (r : List D → Mh → PQ → Prop) : List V → Hp → VK → Prop := fun vs H Q => ∃ xs M P, DRs K H xs vs ∧ HR K H M ∧ r xs M P ∧ ∀ d M' v' H', P d M' → Ext K H H' → DR K H' d v' → HR K H' M' → Q v' H'
def upM (K : PySem.W.Frag) (r : D → List D → Mh → PQ → Prop) : V → List V → Hp → VK → Prop := fun v vs H Q => ∃ x xs M P, DR K H x v ∧ DRs K H xs vs ∧ HR K H M ∧ r x xs M P ∧ ∀ d M' v' H', P d M' → Ext K H H' → DR K H' d v' → HR K H' M' → Q v' H'
abbrev Dx (X : Cx) (e : Expr) (w : DT) : Prop := PE X e (up X.K w)
abbrev Dt (X : Cx) (e : Expr) (w : DB) : Prop := PT X e (upB X.K w)
abbrev Da (X : Cx) (es : List Expr) (w : DA) : Prop := PA X es (upA X.K w)
theorem pe_wk {X : Cx} {e : Expr} {t t' : TE} (h : PE X e t) (k : ∀ σ H Q, t' σ H Q → t σ H Q) : PE X e t' := ⟨fun pins s σ H Q I q => h.run pins s σ H Q I (k σ H Q q)⟩
theorem pt_wk {X : Cx} {e : Expr} {t t' : TT} (h : PT X e t) (k : ∀ σ H Q, t' σ H Q → t σ H Q) : PT X e t' := ⟨fun pins s σ H Q I q => h.run pins s σ H Q I (k σ H Q q)⟩
theorem pa_wk {X : Cx} {es : List Expr} {t t' : TA} (h : PA X es t) (k : ∀ σ H Q, t' σ H Q → t σ H Q) : PA X es t' := ⟨fun pos pins s σ H Q I q => h.run pos pins s σ H Q I (k σ H Q q)⟩

/-! ### the combinators -/
def slot : Ev → Nat → Option D
  | [], _ => none
  | x :: _, 0 => x
  | _ :: r, n + 1 => slot r n
theorem slot_get : ∀ {ρ : Ev} {i : Nat} {d : D}, slot ρ i = some d → ρ[i]? = some (some d)
  | x :: _, 0, d, h => by simpa [slot] using h
  | _ :: r, n + 1, d, h => by
    have := slot_get (ρ := r) (i := n) (d := d) h
    simpa using this
def eVar (i : Nat) : DT := fun ρ M P => match slot ρ i with
  | some d => P d M
  | none => False
def eC (d : D) : DT := fun _ M P => P d M
def eBin (r : D → D → Mh → PQ → Prop) (a b : DT) : DT := fun ρ M P => a ρ M fun x M1 => b ρ M1 fun y M2 => r x y M2 P
def eUn (r : D → Mh → PQ → Prop) (a : DT) : DT := fun ρ M P => a ρ M fun x M1 => r x M1 P
/-- a comparison's answer -/
abbrev Cmp := D → D → Mh → (Bool → Prop) → Prop
def eCmp (r : Cmp) (a b : DT) : DT := fun ρ M P => a ρ M fun x M1 => b ρ M1 fun y M2 => r x y M2 fun k => P (.bl k) M2
def bCmp (r : Cmp) (a b : DT) : DB := fun ρ M P => a ρ M fun x M1 => b ρ M1 fun y M2 => r x y M2 fun k => P k M2
/-- truth -/
def truD (x : D) (M : Mh) (P : Bool → Prop) : Prop := match x with
  | .non => P false
  | .bl b => P b
  | .int i => P (i != 0)
  | .str z => z.length ≤ sizeLine ∧ P ((z.length : Int) != 0)
  | .tup ds => P (!ds.isEmpty)
  | .ktp ds => P (!ds.isEmpty)
  | .rol ds => P (!ds.isEmpty)
  | .ref a => match M a with
    | some (.lst ds) => P (!ds.isEmpty)
    | _ => False
def bTru (a : DT) : DB := fun ρ M P => a ρ M fun x M1 => truD x M1 fun k => P k M1
def bNot (a : DB) : DB := fun ρ M P => a ρ M fun k M1 => P (!k) M1
def bAnd (a b : DB) : DB := fun ρ M P => a ρ M fun k M1 => if k = true then b ρ M1 P else P false M1
def bOr (a b : DB) : DB := fun ρ M P => a ρ M fun k M1 => if k = true then P true M1 else b ρ M1 P
def eNot (a : DT) : DT := fun ρ M P => a ρ M fun x M1 => truD x M1 fun k => P (.bl (!k)) M1
def eAnd (a b : DT) : DT := fun ρ M P => a ρ M fun x M1 => truD x M1 fun k => if k = true then b ρ M1 P else P x M1
def eOr (a b : DT) : DT := fun ρ M P => a ρ M fun x M1 => truD x M1 fun k => if k = true then P x M1 else b ρ M1 P
def eIf (c : DB) (a b : DT) : DT := fun ρ M P => c ρ M fun k M1 => if k = true then a ρ M1 P else b ρ M1 P
def aNil : DA := fun _ M P => P [] M
def aCons (a : DT) (r : DA) : DA := fun ρ M P => a ρ M fun x M1 => r ρ M1 fun xs M2 => P (x :: xs) M2
def eTup (a : DA) : DT := fun ρ M P => a ρ M fun xs M1 => xs.length ≤ sizeLine ∧ P (.tup xs) M1
def eLst (a : DA) : DT := fun ρ M P => a ρ M fun xs M1 => xs.length ≤ sizeLine ∧ ∀ p, M1 p = none → P (.ref p) (mup M1 p (.lst xs))
/-- f(..) by what f promises -/
def eCall (sp : List D → Mh → PQ → Prop) (a : DA) : DT := fun ρ M P => a ρ M fun xs M1 => sp xs M1 P
/-- o.m(..) -/
def eMet (r : D → List D → Mh → PQ → Prop) (o : DT) (a : DA) : DT := fun ρ M P => o ρ M fun x M1 => a ρ M1 fun xs M2 => r x xs M2 P

section
variable {X : Cx}
theorem dx_var {i : Nat} {x : Str} {pos : Pos} (hN : X.N[i]? = some x) (hv : Vis X.env.scope x) (hd : (x == ("__debug__" : Str)) = false) (hcd : (x == ("__classdict__" : Str)) = false) : Dx X (.Name x pos) (eVar i) :=
  pe_wk (pe_var hN hv hd hcd) fun σ H Q ⟨ρ, M, P, er, hr, w, k⟩ => by
    unfold eVar at w
    cases e : slot ρ i with
    | none => rw [e] at w; exact w.elim
    | some d =>
      rw [e] at w
      obtain ⟨v, h1, h2⟩ := er.2 i d (slot_get e)
      exact ⟨v, h1, k d M v H w (.refl _ _) h2 hr⟩
theorem dx_c {e : Expr} {v : V} {d : D} (h : PE X e (tC v)) (r : ∀ H, DR X.K H d v) : Dx X e (eC d) :=
  pe_wk h fun σ H Q ⟨ρ, M, P, er, hr, w, k⟩ => k d M v H w (.refl _ _) (r H) hr
theorem dx_bin {op : Operator} {r : D → D → Mh → PQ → Prop} {a b : Expr} {wa wb : DT} {pos : Pos} (ho : OpR X (binaryOp op) (up2 X.K r)) (ha : Dx X a wa) (hb : Dx X b wb) : Dx X (.BinOp a op b pos) (eBin r wa wb) :=
  pe_wk (pe_op ho ha hb) fun σ H Q ⟨ρ, M, P, er, hr, w, k⟩ =>
    ⟨ρ, M, _, er, hr, w, fun x M1 v H1 p1 e1 d1 h1 => ⟨ρ, M1, _, er.mono e1, h1, p1, fun y M2 u H2 p2 e2 d2 h2 => ⟨x, y, M2, P, d1.mono e2, d2, h2, p2, fun d M3 v3 H3 p3 e3 => k d M3 v3 H3 p3 (e1.trans (e2.trans e3))⟩⟩⟩
theorem dx_un {op : UnaryOp} {r : D → Mh → PQ → Prop} {a : Expr} {wa : DT} {pos : Pos} (ho : UnR X (unaryOp op) (up1 X.K r)) (ha : Dx X a wa) : Dx X (.UnaryOp op a pos) (eUn r wa) :=
  pe_wk (pe_un ho ha) fun σ H Q ⟨ρ, M, P, er, hr, w, k⟩ =>
    ⟨ρ, M, _, er, hr, w, fun x M1 v H1 p1 e1 d1 h1 => ⟨x, M1, P, d1, h1, p1, fun d M3 v3 H3 p3 e3 => k d M3 v3 H3 p3 (e1.trans e3)⟩⟩
/-- a comparison by values -/
def upC (K : PySem.W.Frag) (r : Cmp) : R2 := fun v u H Q => ∃ x y M P, DR K H x v ∧ DR K H y u ∧ HR K H M ∧ r x y M P ∧ ∀ k, P k → Q (.bl k) H
theorem dx_cmp {op : CmpOp} {r : Cmp} {a b : Expr} {wa wb : DT} {pos : Pos} (ho : OpR X (compareOp op) (upC X.K r)) (ha : Dx X a wa) (hb : Dx X b wb) (hm : behindInMarks op b = false) : Dx X (.Compare a [op] [b] pos) (eCmp r wa wb) :=
  pe_wk (pe_cmpR ho ha hb hm) fun σ H Q ⟨ρ, M, P, er, hr, w, k⟩ =>
    ⟨ρ, M, _, er, hr, w, fun x M1 v H1 p1 e1 d1 h1 => ⟨ρ, M1, _, er.mono e1, h1, p1, fun y M2 u H2 p2 e2 d2 h2 => ⟨x, y, M2, _, d1.mono e2, d2, h2, p2, fun c p3 => k _ M2 _ H2 p3 (e1.trans e2) (.bl c) h2⟩⟩⟩
theorem dt_cmp {op : CmpOp} {r : Cmp} {a b : Expr} {wa wb : DT} {pos : Pos} (ho : OpR X (compareOp op) (upC X.K r)) (ha : Dx X a wa) (hb : Dx X b wb) (hm : behindInMarks op b = false) : Dt X (.Compare a [op] [b] pos) (bCmp r wa wb) :=
  pt_wk (pt_cmpR ho ha hb hm) fun σ H Q ⟨ρ, M, P, er, hr, w, k⟩ =>
    ⟨ρ, M, _, er, hr, w, fun x M1 v H1 p1 e1 d1 h1 => ⟨ρ, M1, _, er.mono e1, h1, p1, fun y M2 u H2 p2 e2 d2 h2 => ⟨x, y, M2, _, d1.mono e2, d2, h2, p2, fun c p3 => ⟨c, rfl, k _ M2 H2 p3 (e1.trans e2) h2⟩⟩⟩⟩
theorem DRs.isEmpty {K : PySem.W.Frag} {H : Hp} : ∀ {ds : List D} {vs : List V}, DRs K H ds vs → ds.isEmpty = vs.isEmpty
  | _, _, .nil => rfl
  | _, _, .cons _ _ => rfl
/-- truth by values -/
theorem tru_of {K : PySem.W.Frag} {H : Hp} {x : D} {v : V} {M : Mh} {P : Bool → Prop} (d : DR K H x v) (h : HR K H M) (t : truD x M P) : ∃ k, TruV K v H k ∧ P k := by
  cases d with
  | non => exact ⟨false, rfl, t⟩
  | bl b => exact ⟨b, rfl, t⟩
  | int i => exact ⟨_, rfl, t⟩
  | str z => exact ⟨_, ⟨t.1, rfl⟩, t.2⟩
  | tup s r => exact ⟨_, .inr (.inl ⟨_, SqT.of s, rfl⟩), by rw [← r.isEmpty]; exact t⟩
  | ktp s r => exact ⟨_, .inr (.inl ⟨_, s.t, rfl⟩), by rw [← r.isEmpty]; exact t⟩
  | rol s r => exact ⟨_, .inl ⟨_, s.seq, rfl⟩, by rw [← r.isEmpty]; exact t⟩
  | ref a =>
    have t : (match M a with | some (.lst ds) => P (!ds.isEmpty) | _ => False) := t
    cases e : M a with
    | none => rw [e] at t; exact False.elim t
    | some o =>
      rw [e] at t
      cases o with
      | lst ds =>
        obtain ⟨vs, q, r⟩ := h a _ e
        exact ⟨_, .inl ⟨_, SqL.of q, rfl⟩, by rw [← r.isEmpty]; exact t⟩
      | _ => exact False.elim t
theorem dt_tru {a : Expr} {wa : DT} (ha : Dx X a wa) (he : ∀ whole, isTrue a X.env whole = (do let v ← whole; standAt a.pos; holding [v] (truthy v))) : Dt X a (bTru wa) :=
  pt_wk (pt_truth ha he) fun σ H Q ⟨ρ, M, P, er, hr, w, k⟩ =>
    ⟨ρ, M, _, er, hr, w, fun x M1 v H1 p1 e1 d1 h1 => let ⟨c, t, p⟩ := tru_of d1 h1 p1; ⟨c, t, k c M1 H1 p e1 h1⟩⟩
theorem dt_not {a : Expr} {wa : DB} {pos : Pos} (ha : Dt X a wa) : Dt X (.UnaryOp .Not a pos) (bNot wa) :=
  pt_wk (pt_not ha) fun σ H Q ⟨ρ, M, P, er, hr, w, k⟩ => ⟨ρ, M, _, er, hr, w, fun b M1 H1 p1 e1 h1 => k _ M1 H1 p1 e1 h1⟩
/-- a row of tests -/
abbrev Dw (X : Cx) (e : Expr) (w : DB) : Prop := PW X e (upB X.K w)
theorem pw_wk {e : Expr} {t t' : TT} (h : PW X e t) (k : ∀ σ H Q, t' σ H Q → t σ H Q) : PW X e t' := ⟨fun whole pins s σ H Q I q => h.run whole pins s σ H Q I (k σ H Q q)⟩
theorem dw_and {a b : Expr} {rest : List Expr} {wa wb : DB} {pos : Pos} (ha : Dt X a wa) (hb : Dw X (.BoolOp .And (b :: rest) pos) wb) : Dw X (.BoolOp .And (a :: b :: rest) pos) (bAnd wa wb) :=
  pw_wk (pw_and ha hb) fun σ H Q ⟨ρ, M, P, er, hr, w, k⟩ => ⟨ρ, M, _, er, hr, w, fun b M1 H1 p1 e1 h1 => by
    cases b with
    | true => exact ⟨ρ, M1, P, er.mono e1, h1, p1, fun c M2 H2 p2 e2 h2 => k c M2 H2 p2 (e1.trans e2) h2⟩
    | false => exact k _ M1 H1 p1 e1 h1⟩
theorem dw_or {a b : Expr} {rest : List Expr} {wa wb : DB} {pos : Pos} (ha : Dt X a wa) (hb : Dw X (.BoolOp .Or (b :: rest) pos) wb) : Dw X (.BoolOp .Or (a :: b :: rest) pos) (bOr wa wb) :=
  pw_wk (pw_or ha hb) fun σ H Q ⟨ρ, M, P, er, hr, w, k⟩ => ⟨ρ, M, _, er, hr, w, fun b M1 H1 p1 e1 h1 => by
    cases b with
    | false => exact ⟨ρ, M1, P, er.mono e1, h1, p1, fun c M2 H2 p2 e2 h2 => k c M2 H2 p2 (e1.trans e2) h2⟩
    | true => exact k _ M1 H1 p1 e1 h1⟩
theorem dx_not {a : Expr} {wa : DT} {pos : Pos} (ha : Dx X a wa) : Dx X (.UnaryOp .Not a pos) (eNot wa) :=
  pe_wk (pe_notT ha) fun σ H Q ⟨ρ, M, P, er, hr, w, k⟩ => ⟨ρ, M, _, er, hr, w, fun x M1 v H1 p1 e1 d1 h1 => let ⟨c, t, p⟩ := tru_of d1 h1 p1; ⟨c, t, k _ M1 _ H1 p e1 (.bl _) h1⟩⟩
theorem dx_and {a b : Expr} {rest : List Expr} {wa wb : DT} {pos : Pos} (ha : Dx X a wa) (hb : Dx X (.BoolOp .And (b :: rest) pos) wb) : Dx X (.BoolOp .And (a :: b :: rest) pos) (eAnd wa wb) :=
  pe_wk (pe_andT ha hb) fun σ H Q ⟨ρ, M, P, er, hr, w, k⟩ => ⟨ρ, M, _, er, hr, w, fun x M1 v H1 p1 e1 d1 h1 => by
    obtain ⟨c, t, p⟩ := tru_of d1 h1 p1
    refine ⟨c, t, ?_⟩
    cases c with
    | true => exact ⟨ρ, M1, P, er.mono e1, h1, p, fun d M2 v2 H2 p2 e2 => k d M2 v2 H2 p2 (e1.trans e2)⟩
    | false => exact k _ M1 _ H1 p e1 d1 h1⟩
theorem dx_or {a b : Expr} {rest : List Expr} {wa wb : DT} {pos : Pos} (ha : Dx X a wa) (hb : Dx X (.BoolOp .Or (b :: rest) pos) wb) : Dx X (.BoolOp .Or (a :: b :: rest) pos) (eOr wa wb) :=
  pe_wk (pe_orT ha hb) fun σ H Q ⟨ρ, M, P, er, hr, w, k⟩ => ⟨ρ, M, _, er, hr, w, fun x M1 v H1 p1 e1 d1 h1 => by
    obtain ⟨c, t, p⟩ := tru_of d1 h1 p1
    refine ⟨c, t, ?_⟩
    cases c with
    | false => exact ⟨ρ, M1, P, er.mono e1, h1, p, fun d M2 v2 H2 p2 e2 => k d M2 v2 H2 p2 (e1.trans e2)⟩
    | true => exact k _ M1 _ H1 p e1 d1 h1⟩
theorem dx_if {c a b : Expr} {wc : DB} {wa wb : DT} {pos : Pos} (hc : Dt X c wc) (ha : Dx X a wa) (hb : Dx X b wb) : Dx X (.IfExp c a b pos) (eIf wc wa wb) :=
  pe_wk (pe_ifExp hc ha hb) fun σ H Q ⟨ρ, M, P, er, hr, w, k⟩ => ⟨ρ, M, _, er, hr, w, fun c M1 H1 p1 e1 h1 => by
    cases c with
    | true => exact ⟨ρ, M1, P, er.mono e1, h1, p1, fun d M2 v2 H2 p2 e2 => k d M2 v2 H2 p2 (e1.trans e2)⟩
    | false => exact ⟨ρ, M1, P, er.mono e1, h1, p1, fun d M2 v2 H2 p2 e2 => k d M2 v2 H2 p2 (e1.trans e2)⟩⟩
theorem da_nil : Da X [] aNil := pa_wk pa_nil fun σ H Q ⟨ρ, M, P, er, hr, w, k⟩ => k [] M [] H w (.refl _ _) .nil hr
theorem da_cons {e : Expr} {es : List Expr} {wa : DT} {wr : DA} (ha : Dx X e wa) (hr : Da X es wr) (hs : starEach (e :: es) X.env = (false, eval e X.env) :: starEach es X.env) : Da X (e :: es) (aCons wa wr) :=
  pa_wk (pa_cons ha hr hs) fun σ H Q ⟨ρ, M, P, er, hr, w, k⟩ => ⟨ρ, M, _, er, hr, w, fun x M1 v H1 p1 e1 d1 h1 => ⟨ρ, M1, _, er.mono e1, h1, p1, fun xs M2 vs H2 p2 e2 d2 h2 => k _ M2 _ H2 p2 (e1.trans e2) (.cons (d1.mono e2) d2) h2⟩⟩
theorem dx_tup {es : List Expr} {wa : DA} {n : Nat} {pos : Pos} (ha : Da X es wa) : Dx X (.Tuple es n pos) (eTup wa) :=
  pe_wk (pe_tup ha) fun σ H Q ⟨ρ, M, P, er, hr, w, k⟩ => ⟨ρ, M, _, er, hr, w, fun xs M1 vs H1 p1 e1 d1 h1 => ⟨by rw [← d1.length]; exact p1.1, fun p np =>
    k _ M1 _ _ p1.2 (e1.trans (.fresh np)) (.tup upd_same (d1.mono (.fresh np))) (h1.fresh np)⟩⟩
theorem dx_lst {es : List Expr} {wa : DA} {pos : Pos} (ha : Da X es wa) : Dx X (.List es pos) (eLst wa) :=
  pe_wk (pe_lst ha) fun σ H Q ⟨ρ, M, P, er, hr, w, k⟩ => ⟨ρ, M, _, er, hr, w, fun xs M1 vs H1 p1 e1 d1 h1 => ⟨by rw [← d1.length]; exact p1.1, fun p np =>
    k _ _ _ _ (p1.2 p (h1.free np)) (e1.trans (.fresh np)) (.ref p) (h1.new np d1)⟩⟩
end
end DL
/-! DLk: dicts of the data layer. -/
namespace DL
open PySem PySem.Spec L2
open PyProof.Rows hiding St

section
variable {κ : Type} [DecidableEq κ]
def valD (kvs : List (κ × D)) (k : κ) : Option D := (kvs.find? fun kv => decide (kv.1 = k)).map (·.2)
def putD (kvs : List (κ × D)) (k : κ) (d : D) : List (κ × D) :=
  if (kvs.any fun kv => decide (kv.1 = k)) = true then kvs.map (fun kv => if kv.1 = k then (kv.1, d) else kv) else kvs ++ [(k, d)]
theorem valD_nil {k : κ} : valD ([] : List (κ × D)) k = none := rfl
theorem valD_pos {p : κ × D} {r : List (κ × D)} {k : κ} (e : p.1 = k) : valD (p :: r) k = some p.2 := by simp [valD, List.find?_cons, e]
theorem valD_neg {p : κ × D} {r : List (κ × D)} {k : κ} (e : ¬ p.1 = k) : valD (p :: r) k = valD r k := by simp [valD, List.find?_cons, e]
theorem valD_any (k : κ) : ∀ kvs : List (κ × D), (kvs.any fun kv => decide (kv.1 = k)) = (valD kvs k).isSome
  | [] => rfl
  | p :: r => by
    rw [List.any_cons]
    by_cases e : p.1 = k
    · simp only [valD_pos e, decide_eq_true e, Bool.true_or, Option.isSome_some]
    · rw [valD_neg e, decide_eq_false e, Bool.false_or]; exact valD_any k r
theorem putD_new {kvs : List (κ × D)} {k : κ} (d : D) (h : valD kvs k = none) : putD kvs k d = kvs ++ [(k, d)] := by
  unfold putD
  rw [valD_any, h]
  exact if_neg (by decide)
theorem putD_len (kvs : List (κ × D)) (k : κ) (d : D) : (putD kvs k d).length ≤ kvs.length + 1 := by
  unfold putD
  split
  · rw [List.length_map]; omega
  · rw [List.length_append, List.length_cons, List.length_nil]; omega
/-- the keys behind a put -/
theorem putD_keys (kvs : List (κ × D)) (k : κ) (d : D) : (putD kvs k d).map (·.1) = if k ∈ kvs.map (·.1) then kvs.map (·.1) else kvs.map (·.1) ++ [k] := by
  unfold putD
  have e : (kvs.any fun kv => decide (kv.1 = k)) = true ↔ k ∈ kvs.map (·.1) := by
    simp only [List.any_eq_true, decide_eq_true_eq, List.mem_map]
  by_cases h : k ∈ kvs.map (·.1)
  · rw [if_pos (e.mpr h), if_pos h, List.map_map]
    apply List.map_congr_left
    intro kv _
    show (if kv.1 = k then (kv.1, d) else kv).1 = kv.1
    split <;> rfl
  · rw [if_neg (fun z => h (e.mp z)), if_neg h, List.map_append]; rfl
theorem valD_mem {kvs : List (κ × D)} {k : κ} : (valD kvs k).isSome = decide (k ∈ kvs.map (·.1)) := by
  rw [← valD_any, Bool.eq_iff_iff]
  simp only [List.any_eq_true, decide_eq_true_eq, List.mem_map]
variable {K : PySem.W.Frag} {H : Hp}
theorem DKs.val {kvs : List (κ × D)} {ws : List (κ × V)} (h : DKs K H kvs ws) (k : κ) : (∀ d, valD kvs k = some d → ∃ v, valV ws k = some v ∧ DR K H d v) ∧ (valD kvs k).isSome = (valV ws k).isSome := by
  induction h with
  | nil => exact ⟨fun d e => (nomatch e), rfl⟩
  | @cons p q ps qs h _ ih =>
    by_cases e : p.1 = k
    · have e' : q.1 = k := h.1.symm.trans e
      rw [valD_pos e, valV_pos e']
      refine ⟨fun d z => ?_, rfl⟩
      cases z
      exact ⟨_, rfl, h.2⟩
    · have e' : ¬ q.1 = k := fun z => e (h.1.trans z)
      rw [valD_neg e, valV_neg e']
      exact ih
theorem DKs.any {kvs : List (κ × D)} {ws : List (κ × V)} (h : DKs K H kvs ws) (k : κ) : (kvs.any fun kv => decide (kv.1 = k)) = ws.any fun kv => decide (kv.1 = k) := by
  induction h with
  | nil => rfl
  | cons h _ ih => rw [List.any_cons, List.any_cons, ih, h.1]
theorem DKs.repl {kvs : List (κ × D)} {ws : List (κ × V)} (h : DKs K H kvs ws) (k : κ) {d : D} {v : V} (r : DR K H d v) : DKs K H (kvs.map fun kv => if kv.1 = k then (kv.1, d) else kv) (ws.map fun kv => if kv.1 = k then (kv.1, v) else kv) := by
  induction h with
  | nil => exact .nil
  | @cons p q ps qs h _ ih =>
    rw [List.map_cons, List.map_cons]
    refine .cons ?_ ih
    by_cases e : p.1 = k
    · rw [if_pos e, if_pos (h.1.symm.trans e)]; exact ⟨h.1, r⟩
    · rw [if_neg e, if_neg (fun z => e (h.1.trans z))]; exact h
theorem DKs.put {kvs : List (κ × D)} {ws : List (κ × V)} (h : DKs K H kvs ws) (k : κ) {d : D} {v : V} (r : DR K H d v) : DKs K H (putD kvs k d) (putK ws k v) := by
  unfold putD putK
  rw [h.any k]
  split
  · exact h.repl k r
  · exact Paired.snoc h ⟨rfl, r⟩
theorem DKs.length {kvs : List (κ × D)} {ws : List (κ × V)} (h : DKs K H kvs ws) : kvs.length = ws.length := Paired.length h
theorem DKs.keys {kvs : List (κ × D)} {ws : List (κ × V)} (h : DKs K H kvs ws) : kvs.map (·.1) = ws.map (·.1) := by
  induction h with
  | nil => rfl
  | cons h _ ih => rw [List.map_cons, List.map_cons, ih, h.1]
end

/-! ### keys -/
def keyD : D → Option Key
  | .int i => some (.inl i)
  | .str s => some (.inr s)
  | _ => none
def keysL : List D → Option (List Key)
  | [] => some []
  | d :: r => match keyD d, keysL r with
    | some k, some ks => some (k :: ks)
    | _, _ => none
def keysD : D → Option (List Key)
  | .tup ds => keysL ds
  | _ => none
def kD : Key → D
  | .inl i => .int i
  | .inr s => .str s
section
variable {K : PySem.W.Frag} {H : Hp}
theorem key_rel {d : D} {v : V} {k : Key} (r : DR K H d v) (e : keyD d = some k) : v = kV k := by
  cases r <;> cases e <;> rfl
theorem keys_rel : ∀ {ds : List D} {vs : List V} {ks : List Key}, DRs K H ds vs → keysL ds = some ks → vs = ks.map kV
  | _, _, _, .nil, e => by cases e; rfl
  | _, _, _, .cons (d := d) (ds := ds) h r, e => by
    have e : (match keyD d, keysL ds with | some k, some ks => some (k :: ks) | _, _ => none) = some _ := e
    cases e1 : keyD d with
    | none => rw [e1] at e; cases e
    | some k =>
      cases e2 : keysL ds with
      | none => rw [e1, e2] at e; cases e
      | some ks =>
        rw [e1, e2] at e
        cases e
        rw [key_rel h e1, keys_rel r e2]; rfl
theorem keyT_rel {d : D} {v : V} {ks : List Key} (r : DR K H d v) (e : keysD d = some ks) : ∃ b, v = .ref b ∧ H b = some (.tup (ks.map kV)) := by
  cases r with
  | tup s q => exact ⟨_, rfl, by rw [s, keys_rel q e]⟩
  | _ => cases e
end
def dGet (o : MO) (y : D) : Option (Option D) := match o with
  | .dk kvs => (keyD y).map (valD kvs)
  | .dt kvs => (keysD y).map (valD kvs)
  | _ => none
def dSize : MO → Nat
  | .lst ds => ds.length
  | .dk kvs => kvs.length
  | .dt kvs => kvs.length
def dPut (o : MO) (y d : D) : Option MO := match o with
  | .dk kvs => (keyD y).map fun k => .dk (putD kvs k d)
  | .dt kvs => (keysD y).map fun k => .dt (putD kvs k d)
  | _ => none
/-- the dict that x is -/
def dictD (x : D) (M : Mh) : Option MO := match x with
  | .ref a => match M a with
    | some (.dk kvs) => some (.dk kvs)
    | some (.dt kvs) => some (.dt kvs)
    | _ => none
  | _ => none
/-- its keys in order -/
def dKeys : MO → List D
  | .dk kvs => kvs.map fun kv => kD kv.1
  | .dt kvs => kvs.map fun kv => .tup (kv.1.map kD)
  | _ => []
section
variable {K : PySem.W.Frag} {H : Hp} {M : Mh}
theorem dict_of {x : D} {o : MO} (e : dictD x M = some o) : ∃ a, x = .ref a ∧ M a = some o ∧ ((∃ kvs, o = .dk kvs) ∨ ∃ kvs, o = .dt kvs) := by
  cases x with
  | ref a =>
    have e : (match M a with | some (.dk kvs) => some (MO.dk kvs) | some (.dt kvs) => some (.dt kvs) | _ => none) = some o := e
    refine ⟨a, rfl, ?_⟩
    cases q : M a with
    | none => rw [q] at e; cases e
    | some u =>
      rw [q] at e
      cases u with
      | lst _ => cases e
      | dk kvs => cases e; exact ⟨rfl, .inl ⟨_, rfl⟩⟩
      | dt kvs => cases e; exact ⟨rfl, .inr ⟨_, rfl⟩⟩
  | _ => cases e
theorem dget_of {x y : D} {o : MO} {r : Option D} {v u : V} (hr : HR K H M) (dx : DR K H x v) (dy : DR K H y u) (e : dictD x M = some o) (g : dGet o y = some r) :
    ∃ a r', v = .ref a ∧ DGet H a u r' ∧ r.isSome = r'.isSome ∧ ∀ d, r = some d → ∃ w, r' = some w ∧ DR K H d w := by
  obtain ⟨a, rfl, e1, ⟨kvs, rfl⟩ | ⟨kvs, rfl⟩⟩ := dict_of e
  · obtain ⟨ws, q, p⟩ := hr _ _ e1
    obtain ⟨k, e2, rfl⟩ := Option.map_eq_some_iff.mp g
    cases dx
    obtain rfl := key_rel dy e2
    exact ⟨a, _, rfl, DGet.k q, (p.val k).2, (p.val k).1⟩
  · obtain ⟨ws, q, p⟩ := hr _ _ e1
    obtain ⟨k, e2, rfl⟩ := Option.map_eq_some_iff.mp g
    cases dx
    obtain ⟨b, rfl, hb⟩ := keyT_rel dy e2
    exact ⟨a, _, rfl, DGet.t q hb, (p.val k).2, (p.val k).1⟩
theorem dput_of {x y d : D} {o o' : MO} {v u z : V} (hr : HR K H M) (dx : DR K H x v) (dy : DR K H y u) (dz : DR K H d z) (e : dictD x M = some o) (g : dPut o y d = some o') (l : dSize o < sizeLine) :
    ∃ a H', x = .ref a ∧ v = .ref a ∧ DPut H a u z H' ∧ Ext K H H' ∧ HR K H' (mup M a o') := by
  obtain ⟨a, rfl, e1, ⟨kvs, rfl⟩ | ⟨kvs, rfl⟩⟩ := dict_of e
  · obtain ⟨ws, q, p⟩ := hr _ _ e1
    obtain ⟨k, e2, rfl⟩ := Option.map_eq_some_iff.mp g
    cases dx
    obtain rfl := key_rel dy e2
    have x1 : Ext K H (upd H a (.dK (putK ws k z))) := .isM q trivial
    exact ⟨a, _, rfl, rfl, DPut.k q (by rw [← p.length]; exact l), x1, hr.put x1 ⟨_, upd_same, (p.put k dz).mono x1⟩⟩
  · obtain ⟨ws, q, p⟩ := hr _ _ e1
    obtain ⟨k, e2, rfl⟩ := Option.map_eq_some_iff.mp g
    cases dx
    obtain ⟨b, rfl, hb⟩ := keyT_rel dy e2
    have x1 : Ext K H (upd H a (.dT (putK ws k z))) := .isM q trivial
    exact ⟨a, _, rfl, rfl, DPut.t q hb (by rw [← p.length]; exact l), x1, hr.put x1 ⟨_, upd_same, (p.put k dz).mono x1⟩⟩
end

/-! ### {} -/
/-- a new dict: the proof says which keys it is for -/
def eDct : DT := fun _ M P => (∀ p, M p = none → P (.ref p) (mup M p (.dk []))) ∨ ∀ p, M p = none → P (.ref p) (mup M p (.dt []))
theorem dx_dct {X : Cx} {pos : Pos} : Dx X (.Dict [] [] pos) eDct :=
  ⟨fun pins s σ H Q I ⟨ρ, M, P, er, hr, w, k⟩ => by
    rcases w with w | w
    · exact pe_dnewK.run pins s σ H Q I fun p np => k _ _ _ _ (w p (hr.free np)) (.fresh np) (.ref p) (hr.put (.fresh np) ⟨[], upd_same, .nil⟩)
    · exact pe_dnewT.run pins s σ H Q I fun p np => k _ _ _ _ (w p (hr.free np)) (.fresh np) (.ref p) (hr.put (.fresh np) ⟨[], upd_same, .nil⟩)⟩
/-- {k: v} -/
def eD1 (a b : DT) : DT := fun ρ M P => ∀ p, M p = none → a ρ (mup M p (.dk [])) fun x M1 => b ρ M1 fun y M2 => M2 p = some (.dk []) ∧ match keyD x with
  | some k => P (.ref p) (mup M2 p (.dk [(k, y)]))
  | none => False
theorem dx_d1 {X : Cx} {e f : Expr} {wa wb : DT} {pos : Pos} (he : Dx X e wa) (hf : Dx X f wb) : Dx X (.Dict [some e] [f] pos) (eD1 wa wb) :=
  pe_wk (pe_disp (pps_cons he hf pps_nil) rfl rfl (by simp) (Nat.le_of_ble_eq_true rfl)) fun σ H Q ⟨ρ, M, P, er, hr, w, k⟩ => fun p np =>
    ⟨ρ, mup M p (.dk []), _, er.mono (.fresh np), hr.put (.fresh np) ⟨[], upd_same, .nil⟩, w p (hr.free np), fun x M1 v H1 p1 e1 d1 h1 =>
      ⟨ρ, M1, _, er.mono ((Ext.fresh np).trans e1), h1, p1, fun y M2 u H2 p2 e2 d2 h2 => by
        obtain ⟨q1, q2⟩ := p2
        obtain ⟨ws, hp, q⟩ := h2 _ _ q1
        cases q
        refine ⟨hp, ?_⟩
        split at q2
        · rename_i kk ek
          have hv := key_rel (d1.mono e2) ek
          have x1 : Ext X.K H2 (upd H2 p (.dK [(kk, u)])) := .isM hp trivial
          refine ⟨[(kk, u)], by rw [hv]; rfl, Nat.le_of_ble_eq_true rfl, ?_⟩
          exact k _ _ _ _ q2 (((Ext.fresh np).trans e1).trans (e2.trans x1)) (.ref p) (h2.put x1 ⟨_, upd_same, .cons ⟨rfl, d2.mono x1⟩ .nil⟩)
        · exact q2.elim⟩⟩
end DL
/-! DLc: operations of the data layer by values. -/
namespace DL
open PySem PySem.Spec L2
open PyProof.Rows hiding St

/-- the items of a list or tuple -/
def itemsD (x : D) (M : Mh) : Option (List D) := match x with
  | .tup ds => some ds
  | .ktp ds => some ds
  | .rol ds => some ds
  | .ref a => match M a with
    | some (.lst ds) => some ds
    | _ => none
  | _ => none
theorem items_of {K : PySem.W.Frag} {H : Hp} {x : D} {v : V} {M : Mh} {ds : List D} (d : DR K H x v) (h : HR K H M) (e : itemsD x M = some ds) : ∃ p vs, v = .ref p ∧ (SqL K H p vs ∨ SqT K H p vs) ∧ DRs K H ds vs := by
  cases d with
  | tup s r => cases e; exact ⟨_, _, rfl, .inr (SqT.of s), r⟩
  | ktp s r => cases e; exact ⟨_, _, rfl, .inr s.t, r⟩
  | rol s r => cases e; exact ⟨_, _, rfl, .inl s.seq, r⟩
  | ref a =>
    have e : (match M a with | some (.lst ds) => some ds | _ => none) = some ds := e
    cases q : M a with
    | none => rw [q] at e; cases e
    | some o =>
      rw [q] at e
      cases o with
      | lst es =>
        cases e
        obtain ⟨vs, q, r⟩ := h a _ q
        exact ⟨_, _, rfl, .inl (SqL.of q), r⟩
      | _ => cases e
  | _ => cases e

/-- the items of a list -/
def litemsD (x : D) (M : Mh) : Option (List D) := match x with
  | .rol ds => some ds
  | .ref a => match M a with
    | some (.lst ds) => some ds
    | _ => none
  | _ => none
theorem litems_of {K : PySem.W.Frag} {H : Hp} {x : D} {v : V} {M : Mh} {ds : List D} (d : DR K H x v) (h : HR K H M) (e : litemsD x M = some ds) : ∃ p vs, v = .ref p ∧ SqL K H p vs ∧ DRs K H ds vs := by
  cases d with
  | rol s r => cases e; exact ⟨_, _, rfl, s.seq, r⟩
  | ref a =>
    have e : (match M a with | some (.lst ds) => some ds | _ => none) = some ds := e
    cases q : M a with
    | none => rw [q] at e; cases e
    | some o =>
      rw [q] at e
      cases o with
      | lst es =>
        cases e
        obtain ⟨vs, q, r⟩ := h a _ q
        exact ⟨_, _, rfl, SqL.of q, r⟩
      | _ => cases e
  | _ => cases e
/-! ### arithmetic -/
def addD : D → D → Mh → PQ → Prop
  | .int i, .int j, M, P => P (.int (i + j)) M
  | .str a, .str b, M, P => a.length + b.length ≤ sizeLine ∧ P (.str (a ++ b)) M
  | .tup xs, .tup ys, M, P => xs.length + ys.length ≤ sizeLine ∧ P (.tup (xs ++ ys)) M
  | .ktp xs, .tup ys, M, P => xs ≠ [] ∧ ys ≠ [] ∧ xs.length + ys.length ≤ sizeLine ∧ P (.tup (xs ++ ys)) M
  | .tup xs, .ktp ys, M, P => xs ≠ [] ∧ ys ≠ [] ∧ xs.length + ys.length ≤ sizeLine ∧ P (.tup (xs ++ ys)) M
  | .ktp xs, .ktp ys, M, P => xs ≠ [] ∧ ys ≠ [] ∧ xs.length + ys.length ≤ sizeLine ∧ P (.tup (xs ++ ys)) M
  | .ref a, .ref b, M, P => ∃ xs ys, M a = some (.lst xs) ∧ M b = some (.lst ys) ∧ xs.length + ys.length ≤ sizeLine ∧ ∀ p, M p = none → P (.ref p) (mup M p (.lst (xs ++ ys)))
  | _, _, _, _ => False
def subD : D → D → Mh → PQ → Prop
  | .int i, .int j, M, P => P (.int (i - j)) M
  | _, _, _, _ => False
def mulD : D → D → Mh → PQ → Prop
  | .int i, .int j, M, P => CMul i j ∧ P (.int (i * j)) M
  | .str a, .int j, M, P => (0 ≤ j ∧ j ≤ 1) ∧ P (.str (if j = 1 then a else Str.empty)) M
  | _, _, _, _ => False
def divD : D → D → Mh → PQ → Prop
  | .int i, .int j, M, P => (0 < j ∧ j < 1073741824) ∧ P (.int (i / j)) M
  | _, _, _, _ => False
def modD : D → D → Mh → PQ → Prop
  | .int i, .int j, M, P => 0 < j ∧ P (.int (i % j)) M
  | _, _, _, _ => False
def powD : D → D → Mh → PQ → Prop
  | .int i, .int j, M, P => CPow i j ∧ P (.int (i ^ j.toNat)) M
  | _, _, _, _ => False
def negD : D → Mh → PQ → Prop
  | .int i, M, P => P (.int (-i)) M
  | _, _, _ => False

section
variable {X : Cx}
theorem od_sub : OpR X (binaryOp .Sub) (up2 X.K subD) := by
  rintro pins s σ H v u a b Q I ra rb ⟨x, y, M, P, dx, dy, hr, w, k⟩
  cases dx <;> cases dy <;> first | exact False.elim w | skip
  exact op_sub pins s σ H _ _ a b Q I ra rb ⟨_, _, rfl, rfl, k _ _ _ _ w (.refl _ _) (.int _) hr⟩
theorem iod_sub : OpR X (inplaceOp .Sub) (up2 X.K subD) := by
  rintro pins s σ H v u a b Q I ra rb ⟨x, y, M, P, dx, dy, hr, w, k⟩
  cases dx <;> cases dy <;> first | exact False.elim w | skip
  exact iop_sub pins s σ H _ _ a b Q I ra rb ⟨_, _, rfl, rfl, k _ _ _ _ w (.refl _ _) (.int _) hr⟩
theorem od_div : OpR X (binaryOp .FloorDiv) (up2 X.K divD) := by
  rintro pins s σ H v u a b Q I ra rb ⟨x, y, M, P, dx, dy, hr, w, k⟩
  cases dx <;> cases dy <;> first | exact False.elim w | skip
  exact op_fdiv pins s σ H _ _ a b Q I ra rb ⟨_, _, rfl, rfl, w.1, k _ _ _ _ w.2 (.refl _ _) (.int _) hr⟩
theorem od_mod : OpR X (binaryOp .Mod) (up2 X.K modD) := by
  rintro pins s σ H v u a b Q I ra rb ⟨x, y, M, P, dx, dy, hr, w, k⟩
  cases dx <;> cases dy <;> first | exact False.elim w | skip
  exact op_mod pins s σ H _ _ a b Q I ra rb ⟨_, _, rfl, rfl, w.1, k _ _ _ _ w.2 (.refl _ _) (.int _) hr⟩
theorem od_pow : OpR X (binaryOp .Pow) (up2 X.K powD) := by
  rintro pins s σ H v u a b Q I ra rb ⟨x, y, M, P, dx, dy, hr, w, k⟩
  cases dx <;> cases dy <;> first | exact False.elim w | skip
  exact op_pow pins s σ H _ _ a b Q I ra rb ⟨_, _, rfl, rfl, w.1, k _ _ _ _ w.2 (.refl _ _) (.int _) hr⟩
theorem ud_neg : UnR X (unaryOp .USub) (up1 X.K negD) := by
  rintro pins s σ H v a Q I ra ⟨x, M, P, dx, hr, w, k⟩
  cases dx <;> first | exact False.elim w | skip
  exact un_neg pins s σ H _ a Q I ra ⟨_, rfl, k _ _ _ _ w (.refl _ _) (.int _) hr⟩
theorem od_mul : OpR X (binaryOp .Mult) (up2 X.K mulD) := by
  rintro pins s σ H v u a b Q I ra rb ⟨x, y, M, P, dx, dy, hr, w, k⟩
  cases dx <;> cases dy <;> first | exact False.elim w | skip
  · exact op_mul pins s σ H _ _ a b Q I ra rb ⟨_, _, rfl, rfl, w.1, k _ _ _ _ w.2 (.refl _ _) (.int _) hr⟩
  · rename_i z j
    obtain ⟨⟨h0, h1⟩, w⟩ := w
    obtain ⟨t, rfl⟩ := ra
    obtain ⟨t', rfl⟩ := rb
    have hj : j = 0 ∨ j = 1 := by omega
    rcases hj with rfl | rfl
    · exact PySem.P.mul_str_none (by decide) (by decide) ⟨.str _, H, I.tok _, ⟨_, rfl⟩, k _ _ _ _ w (.refl _ _) (.str _) hr⟩
    · refine PySem.P.mul_str (by decide) (fun _ h => ?_) (fun _ h => ?_) ?_
      · simp at h
      · simp at h
      · rw [if_neg (by decide), if_pos (by simp)]
        exact ⟨.str _, H, I, ⟨_, rfl⟩, k _ _ _ _ w (.refl _ _) (.str _) hr⟩
theorem od_add : OpR X (binaryOp .Add) (up2 X.K addD) := by
  rintro pins s σ H v u a b Q I ra rb ⟨x, y, M, P, dx, dy, hr, w, k⟩
  cases dx <;> cases dy <;> first | exact False.elim w | skip
  · exact op_add pins s σ H _ _ a b Q I ra rb ⟨_, _, rfl, rfl, k _ _ _ _ w (.refl _ _) (.int _) hr⟩
  · exact op_add_str pins s σ H _ _ a b Q I ra rb ⟨_, _, rfl, rfl, w.1, k _ _ _ _ w.2 (.refl _ _) (.str _) hr⟩
  · rename_i s1 r1 _ _ _ s2 r2
    obtain ⟨hz, w⟩ := w
    refine op_catA pins s σ H _ _ a b Q I ra rb ⟨_, _, _, _, rfl, rfl, SqT.of s1, SqT.of s2, by rw [← r1.length, ← r2.length]; exact hz, fun e => ?_, fun e1 e2 => ?_, fun e1 e2 p np => ?_⟩
    · subst e
      cases r1
      exact k _ _ _ _ w (.refl _ _) (.tup s2 r2) hr
    · subst e2
      cases r2
      rw [List.append_nil] at w
      exact k _ _ _ _ w (.refl _ _) (.tup s1 r1) hr
    · exact k _ _ _ _ w (.fresh np) (.tup upd_same ((r1.append r2).mono (.fresh np))) (hr.fresh np)
  · rename_i s1 r1 _ _ _ s2 r2
    obtain ⟨n1, n2, hz, w⟩ := w
    exact op_catA pins s σ H _ _ a b Q I ra rb ⟨_, _, _, _, rfl, rfl, SqT.of s1, s2.t, by rw [← r1.length, ← r2.length]; exact hz, fun e => absurd (r1.nil_of e) n1, fun e1 e2 => absurd (r2.nil_of e2) n2, fun e1 e2 p np => k _ _ _ _ w (.fresh np) (.tup upd_same ((r1.append r2).mono (.fresh np))) (hr.fresh np)⟩
  · rename_i s1 r1 _ _ _ s2 r2
    obtain ⟨n1, n2, hz, w⟩ := w
    exact op_catA pins s σ H _ _ a b Q I ra rb ⟨_, _, _, _, rfl, rfl, s1.t, SqT.of s2, by rw [← r1.length, ← r2.length]; exact hz, fun e => absurd (r1.nil_of e) n1, fun e1 e2 => absurd (r2.nil_of e2) n2, fun e1 e2 p np => k _ _ _ _ w (.fresh np) (.tup upd_same ((r1.append r2).mono (.fresh np))) (hr.fresh np)⟩
  · rename_i s1 r1 _ _ _ s2 r2
    obtain ⟨n1, n2, hz, w⟩ := w
    exact op_catA pins s σ H _ _ a b Q I ra rb ⟨_, _, _, _, rfl, rfl, s1.t, s2.t, by rw [← r1.length, ← r2.length]; exact hz, fun e => absurd (r1.nil_of e) n1, fun e1 e2 => absurd (r2.nil_of e2) n2, fun e1 e2 p np => k _ _ _ _ w (.fresh np) (.tup upd_same ((r1.append r2).mono (.fresh np))) (hr.fresh np)⟩
  · obtain ⟨xs, ys, e1, e2, hz, w⟩ := w
    obtain ⟨vs, q1, r1⟩ := hr _ _ e1
    obtain ⟨ws, q2, r2⟩ := hr _ _ e2
    exact op_cat pins s σ H _ _ a b Q I ra rb ⟨_, _, _, _, rfl, rfl, q1, q2, by rw [← r1.length, ← r2.length]; exact hz, fun p np => k _ _ _ _ (w p (hr.free np)) (.fresh np) (.ref p) (hr.new np (r1.append r2))⟩
/-- += : ints and texts -/
def iaddD : D → D → Mh → PQ → Prop
  | .int i, .int j, M, P => P (.int (i + j)) M
  | .str a, .str b, M, P => a.length + b.length ≤ sizeLine ∧ P (.str (a ++ b)) M
  | _, _, _, _ => False
theorem iod_add : OpR X (inplaceOp .Add) (up2 X.K iaddD) := by
  rintro pins s σ H v u a b Q I ra rb ⟨x, y, M, P, dx, dy, hr, w, k⟩
  cases dx <;> cases dy <;> first | exact False.elim w | skip
  · exact iop_add pins s σ H _ _ a b Q I ra rb ⟨_, _, rfl, rfl, k _ _ _ _ w (.refl _ _) (.int _) hr⟩
  · exact iop_add_str pins s σ H _ _ a b Q I ra rb ⟨_, _, rfl, rfl, w.1, k _ _ _ _ w.2 (.refl _ _) (.str _) hr⟩
end

/-! ### equality, membership, order -/
mutual
def pd : D → PyData
  | .non => .none
  | .bl b => .bool b
  | .int i => .int i
  | .str x => .str x
  | .tup ds => .tuple (pds ds)
  | .ktp ds => .tuple (pds ds)
  | .rol ds => .list (pds ds)
  | .ref _ => .dict []
def pds : List D → List PyData
  | [] => []
  | d :: ds => pd d :: pds ds
end
def deq (x y : D) : Bool := PyData.eqv (pd x) (pd y)
def okD (x : D) : Bool := SeqAt.shaped (pd x)
/-- what == of two scalars asks nothing for -/
def scalD : D → D → Bool
  | .non, .non => true | .non, .int _ => true | .int _, .non => true | .non, .bl _ => true | .bl _, .non => true | .non, .str _ => true | .str _, .non => true
  | .int _, .int _ => true | .bl _, .bl _ => true | .str _, .str _ => true
  | .int _, .str _ => true | .str _, .int _ => true | .bl _, .str _ => true | .str _, .bl _ => true
  | _, _ => false
def eqD : Cmp := fun x y M P => ((scalD x y = true ∨ (okD x = true ∧ okD y = true)) ∧ P (deq x y)) ∨
  ∃ xs ys, litemsD x M = some xs ∧ litemsD y M = some ys ∧ (okD (.rol xs) = true ∧ okD (.rol ys) = true) ∧ P (deq (.rol xs) (.rol ys))
def neD : Cmp := fun x y M P => ((scalD x y = true ∨ (okD x = true ∧ okD y = true)) ∧ P (!deq x y)) ∨
  ∃ xs ys, litemsD x M = some xs ∧ litemsD y M = some ys ∧ (okD (.rol xs) = true ∧ okD (.rol ys) = true) ∧ P (!deq (.rol xs) (.rol ys))
def flatD : D → Bool
  | .non => true | .bl _ => true | .int _ => true | .str _ => true
  | _ => false
def memD (x : D) (ys : List D) : Bool := ys.any fun y => deq y x
def strIn (i j : Str) : Bool := !(Builtin.Str.occurrences j i 0 j.length 1).isEmpty
/-- what x in y asks of the items -/
def inOk (x : D) (ys : List D) : Prop := (flatD x = true ∧ ys.all flatD = true) ∨ (okD x = true ∧ okD (.tup ys) = true)
def inD : Cmp := fun x y M P => match dictD y M with
  | some o => match dGet o x with
    | some r => P r.isSome
    | none => False
  | none => match x, y with
    | .str i, .str j => P (strIn i j)
    | x, y => match itemsD y M with
      | some ys => inOk x ys ∧ P (memD x ys)
      | none => False
def ninD : Cmp := fun x y M P => inD x y M fun k => P (!k)
def ltD : Cmp := fun x y _ P => match x, y with
  | .int i, .int j => P (decide (i < j))
  | .str i, .str j => P (decide (i.cps.toList < j.cps.toList))
  | _, _ => False
def leD : Cmp := fun x y _ P => match x, y with
  | .int i, .int j => P (decide (i ≤ j))
  | .str i, .str j => P (!decide (j.cps.toList < i.cps.toList))
  | _, _ => False
def gtD : Cmp := fun x y _ P => match x, y with
  | .int i, .int j => P (decide (j < i))
  | .str i, .str j => P (decide (j.cps.toList < i.cps.toList))
  | _, _ => False
def geD : Cmp := fun x y _ P => match x, y with
  | .int i, .int j => P (decide (j ≤ i))
  | .str i, .str j => P (!decide (i.cps.toList < j.cps.toList))
  | _, _ => False
def isNon : D → Bool
  | .non => true
  | _ => false
def isD : Cmp := fun x y _ P => match y with
  | .non => P (isNon x)
  | _ => False
def isnD : Cmp := fun x y _ P => match y with
  | .non => P (!isNon x)
  | _ => False

section
variable {K : PySem.W.Frag} {H : Hp}
mutual
theorem dp_of : ∀ {x : D} {v : V}, DR K H x v → (pd x).canLay0 = true → Dp K H v (pd x)
  | _, _, .non, _ => .non
  | _, _, .bl b, _ => .bl b
  | _, _, .int i, _ => .int i
  | _, _, .str z, _ => .str z
  | _, _, .tup s r, h => by
    rw [pd] at h ⊢
    exact .tup (SqT.of s) (dps_of r (by simpa [PyData.canLay0] using h))
  | _, _, .ktp s r, h => by
    rw [pd] at h ⊢
    exact .tup s.t (dps_of r (by simpa [PyData.canLay0] using h))
  | _, _, .rol s r, h => by
    rw [pd] at h ⊢
    exact .lst s.seq (dps_of r (by simpa [PyData.canLay0] using h))
  | _, _, .ref a, h => by
    rw [pd] at h
    simp [PyData.canLay0] at h
theorem dps_of : ∀ {xs : List D} {vs : List V}, DRs K H xs vs → PyData.canLayAll0 (pds xs) = true → DpAll K H vs (pds xs)
  | _, _, .nil, _ => .nil
  | _, _, .cons d r, h => by
    rw [pds] at h ⊢
    simp only [PyData.canLayAll0, Bool.and_eq_true] at h
    exact .cons (dp_of d h.1) (dps_of r h.2)
end
theorem flat_eq {x y : D} {v u : V} (dx : DR K H x v) (dy : DR K H y u) (fx : flatD x = true) (fy : flatD y = true) : flatV v = true ∧ flatV u = true ∧ eqV v u = deq x y := by
  cases dx <;> cases dy <;> first | (exact absurd (show false = true from fx) Bool.false_ne_true) | (exact absurd (show false = true from fy) Bool.false_ne_true) | skip
  all_goals (refine ⟨rfl, rfl, ?_⟩; simp [eqV, deq, pd, PyData.eqv])
theorem flats : ∀ {ys : List D} {us : List V} {x : D} {v : V}, DRs K H ys us → DR K H x v → flatD x = true → ys.all flatD = true → us.all flatV = true ∧ inV v us = memD x ys
  | _, _, _, _, .nil, _, _, _ => ⟨rfl, rfl⟩
  | _, _, _, _, .cons d r, dx, fx, fy => by
    rw [List.all_cons, Bool.and_eq_true] at fy
    obtain ⟨h1, h2⟩ := flats r dx fx fy.2
    obtain ⟨h3, _, h4⟩ := flat_eq d dx fy.1 fx
    refine ⟨by rw [List.all_cons, h3, h1]; rfl, ?_⟩
    unfold inV memD at h2 ⊢
    rw [List.any_cons, List.any_cons, h4, h2]
theorem scal_eq {x y : D} {v u : V} (dx : DR K H x v) (dy : DR K H y u) (h : scalD x y = true) : scal v u = true ∧ decide (v = u) = deq x y := by
  cases dx <;> cases dy <;> first | (exact absurd (show false = true from h) Bool.false_ne_true) | skip
  all_goals (refine ⟨rfl, ?_⟩; simp [deq, pd, PyData.eqv] <;> rfl)
end

section
variable {X : Cx}
theorem cd_eq (hu : X.A.units + 64 < cLine) : OpR X (compareOp .Eq) (upC X.K eqD) := by
  rintro pins s σ H v u a b Q I ra rb ⟨x, y, M, P, dx, dy, hr, w, k⟩
  rcases w with ⟨o, w⟩ | ⟨xs, ys, e1, e2, ⟨o1, o2⟩, w⟩
  · rcases o with o | ⟨o1, o2⟩
    · obtain ⟨h1, h2⟩ := scal_eq dx dy o
      exact op_eq pins s σ H _ _ a b Q I ra rb ⟨h1, by rw [h2]; exact k _ w⟩
    · exact op_eqD hu pins s σ H _ _ a b Q I ra rb ⟨_, _, dp_of dx (SeqAt.canLay_of_shaped o1), dp_of dy (SeqAt.canLay_of_shaped o2), o1, o2, k _ w⟩
  · obtain ⟨p, us, rfl, q, r⟩ := litems_of dx hr e1
    obtain ⟨p2, us2, rfl, q2, r2⟩ := litems_of dy hr e2
    exact op_eqD hu pins s σ H _ _ a b Q I ra rb ⟨_, _, .lst q (dps_of r (SeqAt.canLay_of_shaped (d := .list (pds xs)) o1)), .lst q2 (dps_of r2 (SeqAt.canLay_of_shaped (d := .list (pds ys)) o2)), o1, o2, k _ w⟩
theorem cd_ne (hu : X.A.units + 64 < cLine) : OpR X (compareOp .NotEq) (upC X.K neD) := by
  rintro pins s σ H v u a b Q I ra rb ⟨x, y, M, P, dx, dy, hr, w, k⟩
  rcases w with ⟨o, w⟩ | ⟨xs, ys, e1, e2, ⟨o1, o2⟩, w⟩
  · rcases o with o | ⟨o1, o2⟩
    · obtain ⟨h1, h2⟩ := scal_eq dx dy o
      exact op_ne pins s σ H _ _ a b Q I ra rb ⟨h1, by rw [h2]; exact k _ w⟩
    · exact op_neD hu pins s σ H _ _ a b Q I ra rb ⟨_, _, dp_of dx (SeqAt.canLay_of_shaped o1), dp_of dy (SeqAt.canLay_of_shaped o2), o1, o2, k _ w⟩
  · obtain ⟨p, us, rfl, q, r⟩ := litems_of dx hr e1
    obtain ⟨p2, us2, rfl, q2, r2⟩ := litems_of dy hr e2
    exact op_neD hu pins s σ H _ _ a b Q I ra rb ⟨_, _, .lst q (dps_of r (SeqAt.canLay_of_shaped (d := .list (pds xs)) o1)), .lst q2 (dps_of r2 (SeqAt.canLay_of_shaped (d := .list (pds ys)) o2)), o1, o2, k _ w⟩
theorem in_cases {x y : D} {M : Mh} {P : Bool → Prop} (w : inD x y M P) : (∃ o r, dictD y M = some o ∧ dGet o x = some r ∧ P r.isSome) ∨ (∃ i j, x = .str i ∧ y = .str j ∧ P (strIn i j)) ∨ ∃ ys, itemsD y M = some ys ∧ inOk x ys ∧ P (memD x ys) := by
  unfold inD at w
  split at w
  · split at w
    · exact .inl ⟨_, _, by assumption, by assumption, w⟩
    · exact w.elim
  · split at w
    · exact .inr (.inl ⟨_, _, rfl, rfl, w⟩)
    · split at w
      · exact .inr (.inr ⟨_, by assumption, w⟩)
      · exact w.elim
theorem pds_any (x : D) : ∀ ys : List D, ((pds ys).any fun z => PyData.eqv z (pd x)) = memD x ys
  | [] => rfl
  | y :: r => by
    have := pds_any x r
    unfold memD at this ⊢
    rw [pds, List.any_cons, List.any_cons, this]; rfl
/-- in, of deep data -/
theorem op_in_deep (hu : X.A.units + 65 < cLine) {pins : List (Addr × Obj)} {s : Shared} {σ : St} {H : Hp} {x : D} {ys : List D} {v : V} {p : Addr} {us : List V} {a b : Value} {Q : VK} (I : Inv X pins σ H s) (ra : RelV v a) (rb : RelV (.ref p) b)
    (dx : DR X.K H x v) (q : SqL X.K H p us ∨ SqT X.K H p us) (r : DRs X.K H ys us) (o1 : okD x = true) (o2 : okD (.tup ys) = true) :
    (Q (.bl (memD x ys)) H → wpAny (model X.prog X.w) X.A (compareOp .In a b) (EP X pins σ Q) X.xe s) ∧ (Q (.bl (!memD x ys)) H → wpAny (model X.prog X.w) X.A (compareOp .NotIn a b) (EP X pins σ Q) X.xe s) := by
  have hl : PyData.canLayAll0 (pds ys) = true := SeqAt.canLay_of_shaped (d := .tuple (pds ys)) o2
  have hd := dps_of r hl
  have hx := dp_of dx (SeqAt.canLay_of_shaped o1)
  obtain ⟨as, r1⟩ := Dp.reads I (pd x) v a hx ra
  rw [← pds_any x ys]
  rcases q with q | q
  · obtain ⟨bs, r2⟩ := Dp.reads I (.list (pds ys)) (.ref p) b (.lst q hd) rb
    exact ⟨fun h => SeqAt.in_list_reads r2 r1 hl (SeqAt.canLay_of_shaped o1) (room_in_shaped o1 hu) ⟨.bl _, H, I, rfl, h⟩,
      fun h => SeqAt.notIn_list_reads r2 r1 hl (SeqAt.canLay_of_shaped o1) (room_in_shaped o1 hu) ⟨.bl _, H, I, rfl, h⟩⟩
  · obtain ⟨bs, r2⟩ := Dp.reads I (.tuple (pds ys)) (.ref p) b (.tup q hd) rb
    exact ⟨fun h => SeqAt.in_tuple_reads r2 r1 hl (SeqAt.canLay_of_shaped o1) (room_in_shaped o1 hu) ⟨.bl _, H, I, rfl, h⟩,
      fun h => SeqAt.notIn_tuple_reads r2 r1 hl (SeqAt.canLay_of_shaped o1) (room_in_shaped o1 hu) ⟨.bl _, H, I, rfl, h⟩⟩
theorem cd_in (hu : X.A.units + 65 < cLine) : OpR X (compareOp .In) (upC X.K inD) := by
  rintro pins s σ H v u a b Q I ra rb ⟨x, y, M, P, dx, dy, hr, w, k⟩
  rcases in_cases w with ⟨o, r, e1, e2, w⟩ | ⟨i, j, rfl, rfl, w⟩ | ⟨ys, e, f, w⟩
  · obtain ⟨d, r', rfl, g, e3, _⟩ := dget_of hr dy dx e1 e2
    obtain rfl : b = Value.ref d := rb
    exact d_in (by omega) I g ra fun s' I' => ⟨.bl _, H, I', rfl, by rw [← e3]; exact k _ w⟩
  · cases dx
    cases dy
    exact op_in_str pins s σ H _ _ a b Q I ra rb ⟨_, _, rfl, rfl, k _ w⟩
  · obtain ⟨p, us, rfl, q, r⟩ := items_of dy hr e
    rcases f with f | f
    · obtain ⟨h1, h2⟩ := flats r dx f.1 f.2
      have fx : flatV v = true := (flat_eq dx dx f.1 f.1).1
      exact op_in_seq pins s σ H _ _ a b Q I ra rb ⟨_, _, rfl, q, fx, h1, by rw [if_neg Bool.false_ne_true, h2]; exact k _ w⟩
    · exact (op_in_deep hu I ra rb dx q r f.1 f.2).1 (k _ w)
theorem cd_nin (hu : X.A.units + 65 < cLine) : OpR X (compareOp .NotIn) (upC X.K ninD) := by
  rintro pins s σ H v u a b Q I ra rb ⟨x, y, M, P, dx, dy, hr, w, k⟩
  rcases in_cases w with ⟨o, r, e1, e2, w⟩ | ⟨i, j, rfl, rfl, w⟩ | ⟨ys, e, f, w⟩
  · obtain ⟨d, r', rfl, g, e3, _⟩ := dget_of hr dy dx e1 e2
    obtain rfl : b = Value.ref d := rb
    exact d_notIn (by omega) I g ra fun s' I' => ⟨.bl _, H, I', rfl, by rw [← e3]; exact k _ w⟩
  · cases dx
    cases dy
    exact op_notin_str pins s σ H _ _ a b Q I ra rb ⟨_, _, rfl, rfl, k _ w⟩
  · obtain ⟨p, us, rfl, q, r⟩ := items_of dy hr e
    rcases f with f | f
    · obtain ⟨h1, h2⟩ := flats r dx f.1 f.2
      have fx : flatV v = true := (flat_eq dx dx f.1 f.1).1
      exact op_notIn_seq pins s σ H _ _ a b Q I ra rb ⟨_, _, rfl, q, fx, h1, by rw [if_pos rfl, h2]; exact k _ w⟩
    · exact (op_in_deep hu I ra rb dx q r f.1 f.2).2 (k _ w)
theorem cd_lt : OpR X (compareOp .Lt) (upC X.K ltD) := by
  rintro pins s σ H v u a b Q I ra rb ⟨x, y, M, P, dx, dy, hr, w, k⟩
  cases dx <;> cases dy <;> first | exact False.elim w | skip
  · exact op_lt pins s σ H _ _ a b Q I ra rb ⟨_, _, rfl, rfl, k _ w⟩
  · exact op_lt_str pins s σ H _ _ a b Q I ra rb ⟨_, _, rfl, rfl, k _ w⟩
theorem cd_le : OpR X (compareOp .LtE) (upC X.K leD) := by
  rintro pins s σ H v u a b Q I ra rb ⟨x, y, M, P, dx, dy, hr, w, k⟩
  cases dx <;> cases dy <;> first | exact False.elim w | skip
  · exact op_le pins s σ H _ _ a b Q I ra rb ⟨_, _, rfl, rfl, k _ w⟩
  · exact op_le_str pins s σ H _ _ a b Q I ra rb ⟨_, _, rfl, rfl, k _ w⟩
theorem cd_gt : OpR X (compareOp .Gt) (upC X.K gtD) := by
  rintro pins s σ H v u a b Q I ra rb ⟨x, y, M, P, dx, dy, hr, w, k⟩
  cases dx <;> cases dy <;> first | exact False.elim w | skip
  · exact op_gt pins s σ H _ _ a b Q I ra rb ⟨_, _, rfl, rfl, k _ w⟩
  · exact op_gt_str pins s σ H _ _ a b Q I ra rb ⟨_, _, rfl, rfl, k _ w⟩
theorem cd_ge : OpR X (compareOp .GtE) (upC X.K geD) := by
  rintro pins s σ H v u a b Q I ra rb ⟨x, y, M, P, dx, dy, hr, w, k⟩
  cases dx <;> cases dy <;> first | exact False.elim w | skip
  · exact op_ge pins s σ H _ _ a b Q I ra rb ⟨_, _, rfl, rfl, k _ w⟩
  · exact op_ge_str pins s σ H _ _ a b Q I ra rb ⟨_, _, rfl, rfl, k _ w⟩
theorem non_eq {K : PySem.W.Frag} {H : Hp} {x : D} {v : V} (d : DR K H x v) : decide (v = .non) = isNon x := by
  cases d <;> simp [isNon]
theorem cd_is : OpR X (compareOp .Is) (upC X.K isD) := by
  rintro pins s σ H v u a b Q I ra rb ⟨x, y, M, P, dx, dy, hr, w, k⟩
  cases dy <;> first | exact False.elim w | skip
  exact op_isN pins s σ H _ _ a b Q I ra rb ⟨rfl, by rw [non_eq dx]; exact k _ w⟩
theorem cd_isn : OpR X (compareOp .IsNot) (upC X.K isnD) := by
  rintro pins s σ H v u a b Q I ra rb ⟨x, y, M, P, dx, dy, hr, w, k⟩
  cases dy <;> first | exact False.elim w | skip
  exact op_notN pins s σ H _ _ a b Q I ra rb ⟨rfl, by rw [non_eq dx]; exact k _ w⟩
end

/-! ### built-in functions -/
def lenD : List D → Mh → PQ → Prop
  | [.str z], M, P => z.length ≤ sizeLine ∧ P (.int z.length) M
  | [x], M, P => match dictD x M with
    | some o => P (.int (dSize o)) M
    | none => match itemsD x M with
      | some ds => P (.int ds.length) M
      | none => False
  | _, _, _ => False
def intD : List D → Mh → PQ → Prop
  | [.int i], M, P => P (.int i) M
  | [.bl b], M, P => P (.int (if b then 1 else 0)) M
  | _, _, _ => False
def strD : List D → Mh → PQ → Prop
  | [.int i], M, P => i.natAbs.log2 < 1920 ∧ P (.str (toString i)) M
  | _, _, _ => False
def listD : List D → Mh → PQ → Prop
  | [x], M, P => match itemsD x M with
    | some ds => ∀ p, M p = none → P (.ref p) (mup M p (.lst ds))
    | none => False
  | _, _, _ => False
def intsOf : List D → Option (List Int)
  | [] => some []
  | .int i :: r => (intsOf r).map (i :: ·)
  | _ => none
def strsOf : List D → Option (List Str)
  | [] => some []
  | .str i :: r => (strsOf r).map (i :: ·)
  | _ => none
def tupleD : List D → Mh → PQ → Prop
  | [.tup ds], M, P => P (.tup ds) M
  | [.ktp ds], M, P => P (.ktp ds) M
  | [x], M, P => match litemsD x M with
    | some ds => P (.tup ds) M ∨ P (.ktp ds) M
    | none => False
  | _, _, _ => False
def sumD : List D → Mh → PQ → Prop
  | [x], M, P => match litemsD x M with
    | some ds => match intsOf ds with
      | some ns => P (.int ns.sum) M
      | none => False
    | none => False
  | _, _, _ => False
def absD : List D → Mh → PQ → Prop
  | [.int i], M, P => P (.int (if i < 0 then -i else i)) M
  | _, _, _ => False
def maxD : List D → Mh → PQ → Prop
  | [.int i, .int j], M, P => P (.int (if j > i then j else i)) M
  | [x], M, P => match litemsD x M with
    | some ds => match intsOf ds with
      | some ns => 0 < ns.length ∧ ∀ m, m ∈ ns → (∀ y, y ∈ ns → y ≤ m) → P (.int m) M
      | none => False
    | none => False
  | _, _, _ => False
def minD : List D → Mh → PQ → Prop
  | [.int i, .int j], M, P => P (.int (if j < i then j else i)) M
  | [x], M, P => match litemsD x M with
    | some ds => match intsOf ds with
      | some ns => 0 < ns.length ∧ ∀ m, m ∈ ns → (∀ y, y ∈ ns → m ≤ y) → P (.int m) M
      | none => False
    | none => False
  | _, _, _ => False
/-- isinstance, by the type's name -/
def isiD (T : String) (x : D) (M : Mh) (P : PQ) : Prop := match x with
  | .non => P (.bl false) M
  | .bl _ => P (.bl (T == "bool" || T == "int")) M
  | .int _ => P (.bl (T == "int")) M
  | .str _ => P (.bl (T == "str")) M
  | .tup _ => P (.bl (T == "tuple")) M
  | .ktp _ => P (.bl (T == "tuple")) M
  | .rol _ => P (.bl (T == "list")) M
  | .ref a => match M a with
    | some (.lst _) => P (.bl (T == "list")) M
    | _ => False
theorem intsOf_rel {K : PySem.W.Frag} {H : Hp} : ∀ {ds : List D} {vs : List V} {ns : List Int}, DRs K H ds vs → intsOf ds = some ns → vs = ns.map V.int
  | _, _, _, .nil, e => by cases e; rfl
  | _, _, _, .cons (d := d) h r, e => by
    cases h <;> first | (cases (show none = some _ from e); done) | skip
    unfold intsOf at e
    obtain ⟨ms, e1, rfl⟩ := Option.map_eq_some_iff.mp e
    rw [intsOf_rel r e1]; rfl
theorem strsOf_rel {K : PySem.W.Frag} {H : Hp} : ∀ {ds : List D} {vs : List V} {ns : List Str}, DRs K H ds vs → strsOf ds = some ns → vs = ns.map V.str
  | _, _, _, .nil, e => by cases e; rfl
  | _, _, _, .cons (d := d) h r, e => by
    cases h <;> first | (cases (show none = some _ from e); done) | skip
    unfold strsOf at e
    obtain ⟨ms, e1, rfl⟩ := Option.map_eq_some_iff.mp e
    rw [strsOf_rel r e1]; rfl
section
variable {X : Cx}
theorem fd_len : CallR X (.builtin "len") (upL X.K lenD) := by
  rintro pins s σ H vs us Q I r ⟨xs, M, P, dx, hr, w, k⟩
  match xs, dx with
  | [], _ => exact False.elim w
  | _ :: _ :: _, .cons d _ => cases d <;> exact False.elim w
  | [x], .cons d .nil =>
    have gen : ∀ ds, itemsD x M = some ds → P (.int ds.length) M → wpAny (model X.prog X.w) X.A (call (.builtin "len") us) (EP X pins σ Q) X.xe s := fun ds e w => by
      obtain ⟨p, ws, rfl, q, r'⟩ := items_of d hr e
      exact call_len_seq pins s σ H _ us Q I r ⟨_, _, rfl, q, by rw [← r'.length]; exact k _ _ _ _ w (.refl _ _) (.int _) hr⟩
    cases d with
    | str z => exact call_len_str pins s σ H _ us Q I r ⟨_, rfl, w.1, k _ _ _ _ w.2 (.refl _ _) (.int _) hr⟩
    | tup s1 r1 => exact gen _ rfl w
    | ktp s1 r1 => exact gen _ rfl w
    | rol s1 r1 => exact gen _ rfl w
    | ref a =>
      have w : (match dictD (.ref a) M with | some o => P (.int (dSize o)) M | none => (match itemsD (.ref a) M with | some ds => P (.int ds.length) M | none => False)) := w
      cases e0 : dictD (.ref a) M with
      | some o =>
        rw [e0] at w
        obtain ⟨a', e1, e2, ⟨kvs, rfl⟩ | ⟨kvs, rfl⟩⟩ := dict_of e0
        · cases e1
          obtain ⟨ws, q, p⟩ := hr _ _ e2
          exact call_lenD pins s σ H _ us Q I r ⟨_, _, rfl, q, by rw [← p.length]; exact k _ _ _ _ w (.refl _ _) (.int _) hr⟩
        · cases e1
          obtain ⟨ws, q, p⟩ := hr _ _ e2
          exact call_len_dT pins s σ H _ us Q I r ⟨_, _, rfl, q, by rw [← p.length]; exact k _ _ _ _ w (.refl _ _) (.int _) hr⟩
      | none =>
        rw [e0] at w
        cases e : itemsD (.ref a) M with
        | none => rw [e] at w; exact w.elim
        | some ds => rw [e] at w; exact gen _ e w
    | _ => exact False.elim w
theorem fd_int : CallR X (.type "int") (upL X.K intD) := by
  rintro pins s σ H vs us Q I r ⟨xs, M, P, dx, hr, w, k⟩
  match xs, dx with
  | [], _ => exact False.elim w
  | _ :: _ :: _, .cons d _ => cases d <;> exact False.elim w
  | [x], .cons d .nil =>
    cases d <;> first | exact False.elim w | skip
    · exact call_int1 pins s σ H _ us Q I r (.inr ⟨_, rfl, k _ _ _ _ w (.refl _ _) (.int _) hr⟩)
    · exact call_int1 pins s σ H _ us Q I r (.inl ⟨_, rfl, k _ _ _ _ w (.refl _ _) (.int _) hr⟩)
theorem fd_str : CallR X (.type "str") (upL X.K strD) := by
  rintro pins s σ H vs us Q I r ⟨xs, M, P, dx, hr, w, k⟩
  match xs, dx with
  | [], _ => exact False.elim w
  | _ :: _ :: _, .cons d _ => cases d <;> exact False.elim w
  | [x], .cons d .nil =>
    cases d <;> first | exact False.elim w | skip
    exact call_str_int pins s σ H _ us Q I r ⟨_, rfl, w.1, k _ _ _ _ w.2 (.refl _ _) (.str _) hr⟩
theorem fd_abs : CallR X (.builtin "abs") (upL X.K absD) := by
  rintro pins s σ H vs us Q I r ⟨xs, M, P, dx, hr, w, k⟩
  match xs, dx with
  | [], _ => exact False.elim w
  | _ :: _ :: _, .cons d _ => cases d <;> exact False.elim w
  | [x], .cons d .nil =>
    cases d <;> first | exact False.elim w | skip
    exact call_abs pins s σ H _ us Q I r ⟨_, rfl, k _ _ _ _ w (.refl _ _) (.int _) hr⟩
/-- tuple(list): a new one, known to its object -/
theorem call_tuple_frz : CallR X (.type "tuple") (fun xs H Q => ∃ p ys, xs = [.ref p] ∧ SqL X.K H p ys ∧ ∀ l o, H l = none → o.dict = none → Q (.ref l) (upd H l (.frz o (.tup ys)))) := by
  intro pins s σ H xs us Q I r ⟨p, ys, e, hq, q⟩
  subst e
  cases r with
  | cons rx rr =>
    cases rr
    cases rx
    obtain ⟨its, rv, pl, hz⟩ := I.list hq
    have ln := rv.length
    refine call_tuple_list pl.isList (fun hp kp => ?_) (by rw [List.size_toArray]; omega)
    have J : Inv X pins σ H { s with heap := hp } := I.kept (t' := s.toks) kp
    refine ⟨.ref hp.objs.size, _, J.laid (t' := s.toks) (o := .frz _ (.tup ys)) (fun b ob e => Heap.get?_push_of_some _ e) (Nat.le_refl _) ⟨Heap.get?_push_size _ rfl, hz, its, rv, IsTup.new _ _⟩, rfl, q _ _ (J.hok.fresh (Nat.le_refl _)) rfl⟩
theorem fd_tuple : CallR X (.type "tuple") (upL X.K tupleD) := by
  rintro pins s σ H vs us Q I r ⟨xs, M, P, dx, hr, w, k⟩
  match xs, dx with
  | [], _ => exact False.elim w
  | _ :: _ :: _, .cons d _ => cases d <;> exact False.elim w
  | [x], .cons d .nil =>
    have gen : ∀ ds, litemsD x M = some ds → P (.tup ds) M ∨ P (.ktp ds) M → wpAny (model X.prog X.w) X.A (call (.type "tuple") us) (EP X pins σ Q) X.xe s := fun ds e w => by
      obtain ⟨p, ws, rfl, q, r'⟩ := litems_of d hr e
      rcases w with w | w
      rotate_left
      · exact call_tuple_frz pins s σ H _ us Q I r ⟨_, _, rfl, q, fun l o nl od => k _ _ _ _ w (.fresh nl) (.ktp (.inl ⟨o, upd_same, od⟩) (r'.mono (.fresh nl))) (hr.fresh nl)⟩
      exact call_tuple_of pins s σ H _ us Q I r ⟨_, _, rfl, .inl ⟨q, fun l nl => k _ _ _ _ w (.fresh nl) (.tup upd_same (r'.mono (.fresh nl))) (hr.fresh nl)⟩⟩
    cases d with
    | tup s1 r1 => exact call_tuple_of pins s σ H _ us Q I r ⟨_, _, rfl, .inr ⟨SqT.of s1, k _ _ _ _ w (.refl _ _) (.tup s1 r1) hr⟩⟩
    | ktp s1 r1 => exact call_tuple_of pins s σ H _ us Q I r ⟨_, _, rfl, .inr ⟨s1.t, k _ _ _ _ w (.refl _ _) (.ktp s1 r1) hr⟩⟩
    | rol s1 r1 => exact gen _ rfl w
    | ref a =>
      have w : (match litemsD (.ref a) M with | some ds => P (.tup ds) M ∨ P (.ktp ds) M | none => False) := w
      cases e : litemsD (.ref a) M with
      | none => rw [e] at w; exact w.elim
      | some ds => rw [e] at w; exact gen _ e w
    | _ => exact False.elim w
theorem fd_list : CallR X (.type "list") (upL X.K listD) := by
  rintro pins s σ H vs us Q I r ⟨xs, M, P, dx, hr, w, k⟩
  match xs, dx with
  | [], _ => exact False.elim w
  | _ :: _ :: _, _ => exact False.elim w
  | [x], .cons d .nil =>
    have w : (match itemsD x M with | some ds => ∀ p, M p = none → P (.ref p) (mup M p (.lst ds)) | none => False) := w
    cases e : itemsD x M with
    | none => rw [e] at w; exact w.elim
    | some ds =>
      rw [e] at w
      obtain ⟨p, ws, rfl, q, r'⟩ := items_of d hr e
      exact call_list_of pins s σ H _ us Q I r ⟨_, _, rfl, q, fun l nl => k _ _ _ _ (w l (hr.free nl)) (.fresh nl) (.ref l) (hr.new nl r')⟩
theorem fd_sum (hc : X.calm = true) : CallR X (.builtin "sum") (upL X.K sumD) := by
  rintro pins s σ H vs us Q I r ⟨xs, M, P, dx, hr, w, k⟩
  match xs, dx with
  | [], _ => exact False.elim w
  | _ :: _ :: _, _ => exact False.elim w
  | [x], .cons d .nil =>
    simp only [sumD] at w
    cases e : litemsD x M with
    | none => simp only [e] at w
    | some ds =>
      simp only [e] at w
      cases f : intsOf ds with
      | none => simp only [f] at w
      | some ns =>
        simp only [f] at w
        obtain ⟨p, ws, rfl, q, r'⟩ := litems_of d hr e
        rw [intsOf_rel r' f] at q
        exact cr_sum hc pins s σ H _ us Q I r ⟨_, _, rfl, q, k _ _ _ _ w (.refl _ _) (.int _) hr⟩
theorem fd_max (hc : X.calm = true) : CallR X (.builtin "max") (upL X.K maxD) := by
  rintro pins s σ H vs us Q I r ⟨xs, M, P, dx, hr, w, k⟩
  match xs, dx with
  | [], _ => exact False.elim w
  | [x], .cons d .nil =>
    have w : (match litemsD x M with | some ds => (match intsOf ds with | some ns => 0 < ns.length ∧ ∀ m, m ∈ ns → (∀ y, y ∈ ns → y ≤ m) → P (.int m) M | none => False) | none => False) := by
      cases x <;> exact w
    cases e : litemsD x M with
    | none => simp only [e] at w
    | some ds =>
      simp only [e] at w
      cases f : intsOf ds with
      | none => simp only [f] at w
      | some ns =>
        simp only [f] at w
        obtain ⟨p, ws, rfl, q, r'⟩ := litems_of d hr e
        rw [intsOf_rel r' f] at q
        exact cr_max hc pins s σ H _ us Q I r ⟨_, _, rfl, q, w.1, fun m h1 h2 => k _ _ _ _ (w.2 m h1 h2) (.refl _ _) (.int _) hr⟩
  | _ :: _ :: _ :: _, .cons d (.cons e _) => cases d <;> cases e <;> exact False.elim w
  | [x, y], .cons d (.cons e .nil) =>
    cases d <;> cases e <;> first | exact False.elim w | skip
    exact call_max2 hc pins s σ H _ us Q I r ⟨_, _, rfl, k _ _ _ _ w (.refl _ _) (.int _) hr⟩
theorem fd_min (hc : X.calm = true) : CallR X (.builtin "min") (upL X.K minD) := by
  rintro pins s σ H vs us Q I r ⟨xs, M, P, dx, hr, w, k⟩
  match xs, dx with
  | [], _ => exact False.elim w
  | [x], .cons d .nil =>
    have w : (match litemsD x M with | some ds => (match intsOf ds with | some ns => 0 < ns.length ∧ ∀ m, m ∈ ns → (∀ y, y ∈ ns → m ≤ y) → P (.int m) M | none => False) | none => False) := by
      cases x <;> exact w
    cases e : litemsD x M with
    | none => simp only [e] at w
    | some ds =>
      simp only [e] at w
      cases f : intsOf ds with
      | none => simp only [f] at w
      | some ns =>
        simp only [f] at w
        obtain ⟨p, ws, rfl, q, r'⟩ := litems_of d hr e
        rw [intsOf_rel r' f] at q
        exact cr_min hc pins s σ H _ us Q I r ⟨_, _, rfl, q, w.1, fun m h1 h2 => k _ _ _ _ (w.2 m h1 h2) (.refl _ _) (.int _) hr⟩
  | _ :: _ :: _ :: _, .cons d (.cons e _) => cases d <;> cases e <;> exact False.elim w
  | [x, y], .cons d (.cons e .nil) =>
    cases d <;> cases e <;> first | exact False.elim w | skip
    exact call_min2 hc pins s σ H _ us Q I r ⟨_, _, rfl, k _ _ _ _ w (.refl _ _) (.int _) hr⟩
theorem tyx_of {K : PySem.W.Frag} {H : Hp} {x : D} {v : V} {M : Mh} {T : String} {P : PQ} (hT : T = "int" ∨ T = "str" ∨ T = "tuple" ∨ T = "list" ∨ T = "bool" ∨ T = "dict") (d : DR K H x v) (h : HR K H M) (w : isiD T x M P) :
    ∃ t b, TyX K H v t ∧ PySem.W.kitOne K t (.type T) = some b ∧ P (.bl b) M := by
  have fin : ∀ {n : String} {b : Bool}, TyX K H v (.type n) → P (.bl b) M → kitB n T = some b → ∃ t b, TyX K H v t ∧ PySem.W.kitOne K t (.type T) = some b ∧ P (.bl b) M :=
    fun {n b} ty w e => ⟨_, b, ty, kit_ty e, w⟩
  cases d with
  | non => exact fin (.base .non) w (by rcases hT with rfl | rfl | rfl | rfl | rfl | rfl <;> decide +kernel)
  | bl b => exact fin (.base (.bl b)) w (by rcases hT with rfl | rfl | rfl | rfl | rfl | rfl <;> decide +kernel)
  | int b => exact fin (.base (.int b)) w (by rcases hT with rfl | rfl | rfl | rfl | rfl | rfl <;> decide +kernel)
  | str b => exact fin (.base (.str b)) w (by rcases hT with rfl | rfl | rfl | rfl | rfl | rfl <;> decide +kernel)
  | tup s r => exact fin (n := "tuple") (.base (.tup s)) w (by rcases hT with rfl | rfl | rfl | rfl | rfl | rfl <;> decide +kernel)
  | ktp s r =>
    refine fin (n := "tuple") ?_ w (by rcases hT with rfl | rfl | rfl | rfl | rfl | rfl <;> decide +kernel)
    rcases s with ⟨o, s, _⟩ | ⟨o, its, n, s1, s2, _⟩
    · exact .fTuple s
    · exact .kTuple s1 s2
  | rol s r =>
    refine fin (n := "list") ?_ w (by rcases hT with rfl | rfl | rfl | rfl | rfl | rfl <;> decide +kernel)
    rcases s with ⟨o, s⟩ | ⟨o, its, n, s1, s2, _⟩
    · exact .base (.frz s)
    · exact .kList s1 s2
  | ref a =>
    have w : (match M a with | some (.lst _) => P (.bl (T == "list")) M | _ => False) := w
    cases e : M a with
    | none => rw [e] at w; exact w.elim
    | some o =>
      rw [e] at w
      cases o with
      | dk ds => exact False.elim w
      | dt ds => exact False.elim w
      | lst ds =>
        obtain ⟨vs, q, _⟩ := h a _ e
        exact fin (n := "list") (.base (.lst q)) w (by rcases hT with rfl | rfl | rfl | rfl | rfl | rfl <;> decide +kernel)
end
end DL
/-! DLl: list(d.keys()). -/
namespace DL
open PySem PySem.Spec L2
open PyProof.Rows hiding St

section
variable {prog : Program} {w : World} {A : Around} {E : Value → Shared → Prop} {s : Shared} {d r : Addr} {o : Obj} {es : Array DictEntry} {ep : Nat}
theorem rawkeys_meets (hd : (d == sysModules) = false) : MeetsIn prog w (Builtin.«dict.keys» ⟨[.ref d], []⟩) (fun _ R s => s.TypeIs (.ref d) "dict" ∧
    R (.ok (.ret (.ref s.heap.objs.size))) { s with heap := s.heap.push { cls := .type "dict_keys", data := .fields #[.ref d] } }) :=
  .of_wp fun A R s ⟨hm, h⟩ => by
    refine wpAny_bind ?_
    unfold Builtin.Dict.noArgs
    refine wpAny_bind (wpAny_notOrdered_dict hm ?_)
    show wpAny _ _ (pure d) _ _ s
    refine wpAny_pure ?_
    show wpAny _ _ (Builtin.Dict.showsAll d >>= _) _ _ s
    unfold Builtin.Dict.showsAll
    rw [if_neg (by rw [hd]; exact Bool.false_ne_true)]
    refine wpAny_bind (wpAny_pure ?_)
    exact wpAny_bind (wpAny_newObj_type (wpAny_pure ⟨_, rfl, h⟩))
theorem rawkeys_iter {v : Addr} {Q : Value → Shared → Prop} (hv : PySem.W.KdlKeysView s.heap v d) (ho : s.heap.get? d = some o) (hdat : o.data = .dict es ep)
    (hQ : Q (.ref s.heap.objs.size) { s with heap := s.heap.push { cls := .type "dict_keyiterator", data := .fields #[.ref d, .int 0 0, .int es.size 0, .int ep 0] } }) :
    wpAny (model prog w) A (pyIter (.ref v)) Q E s := by
  obtain ⟨ov, hov, hcv, hdv⟩ := id hv
  refine wpAny_pyIter_slot hv.typeIs PySem.W.kdl_slot_keys_iter (wpAny_call_entry PySem.W.kdl_slot_keys_iter hv.typeIs PySem.W.kdl_entry_keys_iter ?_ (PySem.W.kdl_args_keys_iter _))
  unfold Builtin.«dict_keys.__iter__»
  refine wpAny_bind (wpAny_pure ?_)
  refine wpAny_bind ?_
  unfold Builtin.Dict_items.dictOf
  refine wpAny_bind (wpAny_field hov hdv (x := .ref d) rfl (wpAny_pure ?_))
  refine wpAny_bind ?_
  unfold Builtin.Dict_items.newIterator
  refine wpAny_bind (wpAny_dictEntries ho hdat ?_)
  refine wpAny_bind (wpAny_dictEpoch ho hdat ?_)
  have hown : Builtin.Dict_items.ownsTuple "dict_keyiterator" = false := by decide
  simp only [hown, Bool.false_eq_true, if_false]
  refine wpAny_newObj_type (wpAny_pure ⟨_, rfl, "dict_keyiterator", _, ⟨_, Heap.get?_push_size _ rfl, rfl⟩, PySem.F.slot_dict_keyiterator_next.lookup, ?_⟩)
  simpa [rawInt] using hQ
theorem kdl_rawkeys (hx : o.ExactDict) (hd : o.data = .dict es ep) :
    PySem.W.KdlSrc prog w "dict_keys" r d es.size (fun i v => ∃ en : DictEntry, es[i]? = some en ∧ v = en.key) (fun h => PySem.W.KdlKeysView h r d ∧ h.get? d = some o) where
  type := fun _ hm => hm.1.typeIs
  there := fun _ hm => ⟨let ⟨_, ho, _⟩ := hm.1; Heap.lt_size ho, Heap.lt_size hm.2⟩
  keep := fun _ _ hm hk => ⟨let ⟨o, ho, x⟩ := hm.1; ⟨o, hk r (.inl rfl) o ho, x⟩, hk d (.inr rfl) _ hm.2⟩
  notList := by decide
  notTuple := by decide
  hint := fun _ _ _ _ hm hq => PySem.W.kdl_hint_keys hm.1.typeIs hq
  iter := fun _ _ hh hm => ⟨_, _, (fun _ _ hq => rawkeys_iter hm.1 hm.2 hd hq), walks_raw hh _ d (Nat.ne_of_lt (Heap.lt_size hm.2)) hd, ⟨⟨_, Heap.get?_push_size _ rfl, rfl, rfl⟩, Heap.get?_push_of_some _ hm.2⟩⟩
end
/-- its keys, as values that stand -/
def KeysV (H : Hp) (d : Addr) (vs : List V) : Prop := (∃ kvs, H d = some (.dK kvs) ∧ vs = kvs.map fun kv => kV kv.1) ∨ ∃ kvs bs, H d = some (.dT kvs) ∧ IsKeys H kvs bs ∧ vs = bs.map V.ref
section
variable {X : Cx} {e : Expr} {te : TE} {p apos cpos pos : Pos}
def tLK (te : TE) : TE := fun σ H Q => te σ H fun x H1 => ∃ d, x = .ref d ∧ ((∃ kvs, H1 d = some (.dK kvs)) ∨ ∃ kvs, H1 d = some (.dT kvs)) ∧ ∀ vs q, KeysV H1 d vs → H1 q = none → Q (.ref q) (upd H1 q (.lst vs))
theorem pe_listKeys (hc : X.calm = true) (he : PE X e te) (hg : Gl X "list") (hm : X.mg "list" = none) (hv : bootBuiltins "list" = some (.type "list")) (hbase : attributeBase e "keys" X.env (eval e X.env) = eval e X.env) (hline : (apos.endLine == cpos.line) = true)
    (hs : starEach [.Call (.Attribute e "keys" apos) [] [] cpos] X.env = (false, eval (.Call (.Attribute e "keys" apos) [] [] cpos) X.env) :: starEach [] X.env) :
    PE X (.Call (.Name "list" p) [.Call (.Attribute e "keys" apos) [] [] cpos] [] pos) (tLK te) := by
  refine ⟨fun pins s σ H Q I hq => ?_⟩
  refine wpAny_Call_Name_kw (ld_blt I hg hm hv ?_)
  refine PyProof.Rows.callWith_type1 ?_ hs rfl
  rw [hs]
  show wpAny _ _ (spliced ((false, eval (.Call (.Attribute e "keys" apos) [] [] cpos) X.env) :: backTo pos (starEach [] X.env))) _ _ s
  refine Calls.spliced_cons ?_
  refine wpAny_Call_method (T := "dict") (id := "dict.keys") hbase rfl hline PySem.F.plainAttrs_dict PySem.F.slot_dict_keys PySem.F.type_dict_keys (thn (he.run pins s σ H _ I hq) fun u s1 ⟨x, H1, I1, rx, d, ex, hd, q⟩ => ?_)
  subst ex
  obtain rfl : u = Value.ref d := rx
  have I2 : Inv X pins σ H1 { s1 with heap := s1.heap.push { cls := .type "dict_keys", data := .fields #[.ref d] } } := I1.kept (t' := s1.toks) fun b ob q => Heap.get?_push_of_some _ q
  rcases hd with ⟨kvs, hd⟩ | ⟨kvs, hd⟩
  · obtain ⟨hz, hs0, vs, kv, hdo⟩ := I1.hok d _ hd
    obtain ⟨ep, hat⟩ := hdo.dictAt
    have hl : kvs.length = vs.length := Paired.length kv
    refine ⟨hdo.typeIs, hdo.mapOf.noDict, ?_⟩
    show wpAny _ _ (callWith cpos (.builtin "dict.keys") [.ref d] [] []) _ X.xe s1
    refine method_meetsIn PySem.F.slot_dict_keys PySem.F.entry_dict_keys rfl (PySem.evalArgs_none ⟨rfl, hdo.typeIs, PySem.F.args_dict_keys_1 _, _, rawkeys_meets hs0, hdo.typeIs, ?_⟩)
    refine Calls.spliced_nil ?_
    refine PySem.W.kdl_call (PySem.W.kdl_keys (knd := mixKind X.prog X.w) (kvs := vs) (ep := ep)) (I1.ok.hd hc) ⟨⟨_, Heap.get?_push_size _ rfl, rfl, rfl⟩, hat.push _⟩ (by rw [← hl]; exact hz) fun h' tk acc' c' hkeep hS hacc => ?_
    refine ⟨.ref _, upd H1 _ (.lst (kvs.map fun kv => kV kv.1)), I2.laid hkeep (Nat.le_refl _) (show ObjOk X.prog X.w _ _ _ (.lst (kvs.map fun kv => kV kv.1)) from ⟨?_, acc'.toList, c', ?_, ?_⟩), rfl, q _ _ (.inl ⟨_, hd, rfl⟩) (I2.hok.fresh (Nat.le_refl _))⟩
    · rw [List.length_map]; exact hz
    · have el : acc'.toList.length = acc'.size := by simp
      refine vals_of_at (by rw [List.length_map, el, hacc.1, hl]) fun j x w h1 h2 => ?_
      obtain ⟨k, y, hky, hi⟩ := hacc.2 j w (by rw [← Array.getElem?_toList]; exact h2)
      have e1 : (kvs.map (·.1))[j]? = some k := by
        rw [KV.keys kv, List.getElem?_map, hky] <;> rfl
      have e2 : (kvs.map fun kv => kV kv.1)[j]? = some (kV k) := by
        have e3 : (kvs.map fun kv => kV kv.1) = (kvs.map (·.1)).map kV := by rw [List.map_map] <;> rfl
        rw [e3, List.getElem?_map, e1] <;> rfl
      rw [e2] at h1
      cases h1
      exact keyIs_rel hi
    · rw [Array.toArray_toList]; exact hS
  · obtain ⟨z, hs0, ks, pr, o, es, ep, ho, hx, hdt, he2, hn⟩ := (show ObjOk X.prog X.w H1 s1.heap d (.dT kvs) from I1.hok d _ hd)
    have l1 : es.size = ks.length := size_of_entries he2
    have l2 : kvs.length = ks.length := Paired.length pr
    have ty : s1.TypeIs (.ref d) "dict" := ⟨o, ho, hx.1⟩
    have hne : d ≠ s1.heap.objs.size := Nat.ne_of_lt (Heap.lt_size ho)
    refine ⟨ty, fun ob ez => ?_, ?_⟩
    · cases ez
      exact ⟨o, ho, hx.2.1⟩
    show wpAny _ _ (callWith cpos (.builtin "dict.keys") [.ref d] [] []) _ X.xe s1
    refine method_meetsIn PySem.F.slot_dict_keys PySem.F.entry_dict_keys rfl (PySem.evalArgs_none ⟨rfl, ty, PySem.F.args_dict_keys_1 _, _, rawkeys_meets hs0, ty, ?_⟩)
    refine Calls.spliced_nil ?_
    refine PySem.W.kdl_call (kdl_rawkeys hx hdt) (I1.ok.hd hc) ⟨⟨_, Heap.get?_push_size _ rfl, rfl, rfl⟩, Heap.get?_push_of_some _ ho⟩ (by omega) fun h' tk acc' c' kp e it => ?_
    have ea : acc'.toList = ks.map fun x => Value.ref x.2.1 := by
      have hl : acc'.toList.length = ks.length := by rw [Array.length_toList, it.1]; exact l1
      apply List.ext_getElem?
      intro j
      rw [List.getElem?_map]
      cases hj : acc'.toList[j]? with
      | none =>
        have h1 := List.getElem?_eq_none_iff.mp hj
        rw [List.getElem?_eq_none (by omega)]
        all_goals rfl
      | some v =>
        obtain ⟨en, hen, hv⟩ := it.2 j v (by rw [← Array.getElem?_toList]; exact hj)
        have qe := entry_at he2 j
        rw [hen] at qe
        cases hb : ks[j]? with
        | none =>
          rw [hb] at qe
          exact nomatch (show some en = none from qe)
        | some b =>
          rw [hb] at qe
          have e2 : en = entryOfKey (tupleKind (mixKind X.prog X.w)) b := Option.some.inj qe
          rw [hv, e2]
          all_goals rfl
    have eb : acc'.toList = (ks.map fun x => x.2.1).map Value.ref := by rw [ea, List.map_map]; all_goals rfl
    have rv : Vals ((ks.map fun x => x.2.1).map V.ref) acc'.toList := by rw [eb]; exact vals_refs _
    have hz : ((ks.map fun x => x.2.1).map V.ref).length ≤ sizeLine := by rw [List.length_map, List.length_map]; omega
    refine ⟨.ref _, _, I2.laid (t' := tk) (o := .lst ((ks.map fun x => x.2.1).map V.ref)) kp (Nat.le_refl _) ?_, rfl, q _ _ (.inr ⟨kvs, _, hd, isKeys_of pr, rfl⟩) (I2.hok.fresh (Nat.le_refl _))⟩
    exact ⟨hz, acc'.toList, c', rv, by rw [Array.toArray_toList]; exact e⟩
/-- list(d.keys()) by values -/
def keysLD (x : D) (M : Mh) (P : PQ) : Prop := match dictD x M with
  | some o => ∀ p, M p = none → P (.ref p) (mup M p (.lst (dKeys o)))
  | none => False
def eKs (a : DT) : DT := fun ρ M P => a ρ M fun x M1 => keysLD x M1 P
theorem keys_rels {K : PySem.W.Frag} {H : Hp} : ∀ {ks : List Key}, DRs K H (ks.map kD) (ks.map kV)
  | [] => .nil
  | .inl i :: r => .cons (.int i) keys_rels
  | .inr i :: r => .cons (.str i) keys_rels
theorem keysV_rel {K : PySem.W.Frag} {H : Hp} {M : Mh} {a : Addr} {o : MO} {vs : List V} (h : MR K H a o) (kv : KeysV H a vs) : DRs K H (dKeys o) vs := by
  cases o with
  | lst ds =>
    obtain ⟨ws, q, _⟩ := h
    rcases kv with ⟨_, e, _⟩ | ⟨_, _, e, _⟩ <;> (rw [q] at e; cases e)
  | dk kvs =>
    obtain ⟨ws, q, r⟩ := h
    rcases kv with ⟨us, e, rfl⟩ | ⟨_, _, e, _⟩
    · rw [q] at e
      cases e
      have e1 : dKeys (.dk kvs) = (kvs.map (·.1)).map kD := by
        show kvs.map _ = _
        rw [List.map_map]; rfl
      have e2 : (ws.map fun kv => kV kv.1) = (ws.map (·.1)).map kV := by rw [List.map_map]; rfl
      rw [e1, e2, r.keys]
      exact keys_rels
    · rw [q] at e; cases e
  | dt kvs =>
    obtain ⟨ws, q, r⟩ := h
    rcases kv with ⟨_, e, _⟩ | ⟨us, bs, e, ik, rfl⟩
    · rw [q] at e; cases e
    · rw [q] at e
      cases e
      have e1 : dKeys (.dt kvs) = (kvs.map (·.1)).map fun k => .tup (k.map kD) := by
        show kvs.map _ = _
        rw [List.map_map]; rfl
      rw [e1, r.keys]
      clear e1 r q
      unfold IsKeys at ik
      induction ik with
      | nil => exact .nil
      | cons h _ ih => exact .cons (.tup h keys_rels) ih
theorem dx_keys {wa : DT} (hc : X.calm = true) (he : Dx X e wa) (hg : Gl X "list") (hm : X.mg "list" = none) (hbase : attributeBase e "keys" X.env (eval e X.env) = eval e X.env) (hline : (apos.endLine == cpos.line) = true)
    (hs : starEach [.Call (.Attribute e "keys" apos) [] [] cpos] X.env = (false, eval (.Call (.Attribute e "keys" apos) [] [] cpos) X.env) :: starEach [] X.env) :
    Dx X (.Call (.Name "list" p) [.Call (.Attribute e "keys" apos) [] [] cpos] [] pos) (eKs wa) :=
  pe_wk (pe_listKeys hc he hg hm (by decide +kernel) hbase hline hs) fun σ H Q ⟨ρ, M, P, er, hr, w, k⟩ =>
    ⟨ρ, M, _, er, hr, w, fun x M1 v H1 p1 e1 d1 h1 => by
      unfold keysLD at p1
      split at p1
      · rename_i o eo
        obtain ⟨a, rfl, e2, ho⟩ := dict_of eo
        cases d1
        refine ⟨a, rfl, ?_, fun vs q kv nq => k _ _ _ _ (p1 q (h1.free nq)) (e1.trans (.fresh nq)) (.ref q) (h1.new nq (keysV_rel (M := M1) (h1 _ _ e2) kv))⟩
        rcases ho with ⟨kvs, rfl⟩ | ⟨kvs, rfl⟩
        · obtain ⟨ws, q, _⟩ := h1 _ _ e2; exact .inl ⟨_, q⟩
        · obtain ⟨ws, q, _⟩ := h1 _ _ e2; exact .inr ⟨_, q⟩
      · exact p1.elim⟩
end
end DL
/-! DLd: subscripts, slices, methods, calls, statements, loops, comprehensions of the data layer. -/
namespace DL
open PySem PySem.Spec L2
open PyProof.Rows hiding St

/-! ### subscripts -/
def ixD : D → D → Mh → PQ → Prop := fun x y M P => match dictD x M with
  | some o => match dGet o y with
    | some (some d) => P d M
    | _ => False
  | none => match y with
  | .int i => match x with
    | .str z => z.length ≤ sizeLine ∧ match atI z.cps.toList i with
      | some c => P (.str ⟨#[c]⟩) M
      | none => False
    | x => match itemsD x M with
      | some ds => match atI ds i with
        | some d => P d M
        | none => False
      | none => False
  | _ => False
theorem DRs.at {K : PySem.W.Frag} {H : Hp} {ds : List D} {vs : List V} {i : Int} {d : D} (r : DRs K H ds vs) (e : atI ds i = some d) : ∃ v, atI vs i = some v ∧ DR K H d v := by
  unfold atI at e ⊢
  rw [r.length] at e
  cases q : ixN vs.length i with
  | none => rw [q] at e; cases e
  | some j =>
    rw [q] at e
    exact r.get e
def cutD (ds : List D) (lo hi : Option Int) : List D := (ds.drop (HT.sIx ds.length 0 lo)).take (HT.sIx ds.length ds.length hi - HT.sIx ds.length 0 lo)
theorem DRs.cut {K : PySem.W.Frag} {H : Hp} {ds : List D} {vs : List V} (r : DRs K H ds vs) (lo hi : Option Int) : DRs K H (cutD ds lo hi) (cutV vs lo hi) := by
  unfold cutD cutV
  rw [r.length]
  exact (r.drop _).take _
def slD : D → Option Int → Option Int → Mh → PQ → Prop := fun x lo hi M P => match x with
  | .str z => z.length ≤ sizeLine ∧ P (.str (cutS z lo hi)) M
  | .tup ds => P (.tup (cutD ds lo hi)) M
  | .rol ds => ∀ p, M p = none → P (.ref p) (mup M p (.lst (cutD ds lo hi)))
  | .ref a => match M a with
    | some (.lst ds) => ∀ p, M p = none → P (.ref p) (mup M p (.lst (cutD ds lo hi)))
    | _ => False
  | _ => False
def oPart : Option DT → Ev → Mh → (Option Int → Mh → Prop) → Prop
  | none, _, M, P => P none M
  | some w, ρ, M, P => w ρ M fun d M1 => match d with
    | .int i => P (some i) M1
    | _ => False
def eSl (a : DT) (lo hi : Option DT) : DT := fun ρ M P => a ρ M fun x M1 => oPart lo ρ M1 fun l M2 => oPart hi ρ M2 fun h M3 => slD x l h M3 P
def upO (K : PySem.W.Frag) (w : Ev → Mh → (Option Int → Mh → Prop) → Prop) : TO := fun σ H Q => ∃ ρ M P, ER K H ρ σ ∧ HR K H M ∧ w ρ M P ∧ ∀ o M' H', P o M' → Ext K H H' → HR K H' M' → Q o H'
def setD (o i v : D) (M : Mh) (Q : Mh → Prop) : Prop := match dictD o M with
  | some ob => dSize ob < sizeLine ∧ match dPut ob i v, o with
    | some o', .ref a => Q (mup M a o')
    | _, _ => False
  | none => match o, i with
    | .ref a, .int k => match M a with
      | some (.lst ds) => match ixN ds.length k with
        | some j => Q (mup M a (.lst (ds.set j v)))
        | none => False
      | _ => False
    | _, _ => False
/-- a store by values -/
def upS2 (K : PySem.W.Frag) : TSet := fun o i v H Q => ∃ x y d M P, DR K H x o ∧ DR K H y i ∧ DR K H d v ∧ HR K H M ∧ setD x y d M P ∧ ∀ M' H', P M' → Ext K H H' → HR K H' M' → Q H'
theorem set_dl {X : Cx} (hu : X.A.units + 65 < cLine) : PSet X (upS2 X.K) := by
  rintro pins s σ H o i v ov iv u Q I ro ri rv ⟨x, y, d, M, P, dx, dy, dv, hr, w, k⟩
  unfold setD at w
  cases e0 : dictD x M with
  | some ob =>
    simp only [e0] at w
    obtain ⟨l, w⟩ := w
    cases e1 : dPut ob y d with
    | none => simp only [e1] at w
    | some o' =>
      simp only [e1] at w
      obtain ⟨a, H', rfl, rfl, g, x1, h1⟩ := dput_of hr dx dy dv e0 e1 l
      exact set_dict (by omega) pins s σ H _ i v ov iv u Q I ro ri rv ⟨a, H', rfl, g, k _ _ w x1 h1⟩
  | none =>
    simp only [e0] at w
    cases dx <;> cases dy <;> first | exact False.elim w | skip
    rename_i a j
    cases e3 : M a with
    | none => simp only [e3] at w
    | some ob =>
      simp only [e3] at w
      cases ob with
      | lst ds =>
        simp only at w
        obtain ⟨vs, q, r⟩ := hr _ _ e3
        cases e4 : ixN ds.length j with
        | none => simp only [e4] at w
        | some m =>
          simp only [e4] at w
          exact set_list pins s σ H _ _ v ov iv u Q I ro ri rv ⟨_, _, _, m, rfl, rfl, q, by rw [← r.length]; exact e4, k _ _ w (.lst q) (hr.write q (r.set m dv))⟩
      | _ => exact False.elim w

section
variable {X : Cx}
theorem xd_ix (hu : X.A.units + 65 < cLine) : IxR X (up2 X.K ixD) := by
  rintro value slice pins s σ H v u a b Q I ra rb ⟨x, y, M, P, dx, dy, hr, w, k⟩ hs
  cases e0 : dictD x M with
  | some o =>
    unfold ixD at w
    rw [e0] at w
    cases e2 : dGet o y with
    | none => simp only [e2] at w
    | some r =>
      cases r with
      | none => simp only [e2] at w
      | some d =>
        simp only [e2] at w
        obtain ⟨q, r', rfl, g, _, e3⟩ := dget_of hr dx dy e0 e2
        obtain ⟨v', rfl, dv⟩ := e3 d rfl
        obtain rfl : a = Value.ref q := ra
        exact PyProof.Rows.tail_any (dict_typeIs I g) PySem.F.slot_dict_getitem.lookup (d_getItem (by omega) I g rb fun w' s3 I3 rw' => ⟨v', H, I3, rw', k _ _ _ _ w (.refl _ _) dv hr⟩) hs
  | none =>
  unfold ixD at w
  rw [e0] at w
  cases dy <;> first | exact False.elim w | skip
  rename_i i
  have gen : ∀ ds d, itemsD x M = some ds → atI ds i = some d → P d M → wpAny (model X.prog X.w) X.A (subscriptTail value slice a b) (EP X pins σ Q) X.xe s := fun ds d e e2 w => by
    obtain ⟨p, ws, rfl, q, r⟩ := items_of dx hr e
    obtain ⟨v', h1, h2⟩ := r.at e2
    rcases q with q | q
    · exact ix_list value slice pins s σ H _ _ a b Q I ra rb ⟨_, _, _, _, rfl, rfl, q, h1, k _ _ _ _ w (.refl _ _) h2 hr⟩ hs
    · exact ix_tup value slice pins s σ H _ _ a b Q I ra rb ⟨_, _, _, _, rfl, rfl, q, h1, k _ _ _ _ w (.refl _ _) h2 hr⟩ hs
  have gen2 : (match itemsD x M with | some ds => (match atI ds i with | some d => P d M | none => False) | none => False) → wpAny (model X.prog X.w) X.A (subscriptTail value slice a b) (EP X pins σ Q) X.xe s := fun w => by
    cases e : itemsD x M with
    | none => simp only [e] at w
    | some ds =>
      simp only [e] at w
      cases e2 : atI ds i with
      | none => simp only [e2] at w
      | some d => simp only [e2] at w; exact gen ds d e e2 w
  cases dx with
  | str z =>
    obtain ⟨hz, w⟩ := w
    cases e2 : atI z.cps.toList i with
    | none => simp only [e2] at w
    | some c =>
      simp only [e2] at w
      exact ix_str value slice pins s σ H _ _ a b Q I ra rb ⟨_, _, _, rfl, rfl, hz, e2, k _ _ _ _ w (.refl _ _) (.str _) hr⟩ hs
  | _ => exact gen2 w
theorem dx_ix {a b : Expr} {wa wb : DT} {pos : Pos} (hu : X.A.units + 65 < cLine) (ha : Dx X a wa) (hb : Dx X b wb) (hs : PlainIx b) : Dx X (.Subscript a b pos) (eBin ixD wa wb) :=
  pe_wk (pe_ix (xd_ix hu) ha hb hs) fun σ H Q ⟨ρ, M, P, er, hr, w, k⟩ =>
    ⟨ρ, M, _, er, hr, w, fun x M1 v H1 p1 e1 d1 h1 => ⟨ρ, M1, _, er.mono e1, h1, p1, fun y M2 u H2 p2 e2 d2 h2 => ⟨x, y, M2, P, d1.mono e2, d2, h2, p2, fun d M3 v3 H3 p3 e3 => k d M3 v3 H3 p3 (e1.trans (e2.trans e3))⟩⟩⟩
theorem po_wk {e : Option Expr} {t t' : TO} (h : PO X e t) (k : ∀ σ H Q, t' σ H Q → t σ H Q) : PO X e t' := ⟨fun pins s σ H Q I q => h.run pins s σ H Q I (k σ H Q q)⟩
theorem do_none : PO X none (upO X.K (oPart none)) := po_wk po_none fun σ H Q ⟨ρ, M, P, er, hr, w, k⟩ => k none M H w (.refl _ _) hr
theorem do_some {e : Expr} {w : DT} (h : Dx X e w) : PO X (some e) (upO X.K (oPart (some w))) :=
  po_wk (po_some h) fun σ H Q ⟨ρ, M, P, er, hr, w, k⟩ => ⟨ρ, M, _, er, hr, w, fun d M1 v H1 p1 e1 d1 h1 => by
    cases d1 <;> first | exact False.elim p1 | skip
    exact ⟨_, rfl, k _ M1 H1 p1 e1 h1⟩⟩
theorem sd_sl : SlR X (fun v lo hi H Q => ∃ x M P, DR X.K H x v ∧ HR X.K H M ∧ slD x lo hi M P ∧ ∀ d M' v' H', P d M' → Ext X.K H H' → DR X.K H' d v' → HR X.K H' M' → Q v' H') := by
  rintro pins s σ H v a vl vu lo hi sl Q I ra hs pl pu ⟨x, M, P, dx, hr, w, k⟩
  cases dx with
  | str z => exact sl_str pins s σ H _ a vl vu lo hi sl Q I ra hs pl pu ⟨_, rfl, w.1, k _ _ _ _ w.2 (.refl _ _) (.str _) hr⟩
  | tup s1 r1 =>
    refine sl_tupA pins s σ H _ a vl vu lo hi sl Q I ra hs pl pu ⟨_, _, rfl, SqT.of s1, fun hw => ?_, fun _ p np => ?_⟩
    · refine k _ _ _ _ w (.refl _ _) (.tup s1 ?_) hr
      have := r1.cut lo hi
      rw [show cutV _ lo hi = _ from by unfold cutV; rw [hw.1, hw.2, List.drop_zero, Nat.sub_zero, List.take_length]] at this
      exact this
    · exact k _ _ _ _ w (.fresh np) (.tup upd_same ((r1.cut lo hi).mono (.fresh np))) (hr.fresh np)
  | rol s1 r1 => exact sl_list pins s σ H _ a vl vu lo hi sl Q I ra hs pl pu ⟨_, _, rfl, s1.seq, fun p np => k _ _ _ _ (w p (hr.free np)) (.fresh np) (.ref p) (hr.new np (r1.cut lo hi))⟩
  | ref l =>
    have w : (match M l with | some (.lst ds) => ∀ p, M p = none → P (.ref p) (mup M p (.lst (cutD ds lo hi))) | _ => False) := w
    cases e : M l with
    | none => rw [e] at w; exact w.elim
    | some o =>
      rw [e] at w
      cases o with
      | dk _ => exact False.elim w
      | dt _ => exact False.elim w
      | lst ds =>
        obtain ⟨vs, q, r⟩ := hr _ _ e
        exact sl_list pins s σ H _ a vl vu lo hi sl Q I ra hs pl pu ⟨_, _, rfl, SqL.of q, fun p np => k _ _ _ _ (w p (hr.free np)) (.fresh np) (.ref p) (hr.new np (r.cut lo hi))⟩
  | _ => exact False.elim w
theorem dx_sl {a : Expr} {lo hi : Option Expr} {wa : DT} {wl wh : Option DT} {p2 pos : Pos} (ha : Dx X a wa) (hl : PO X lo (upO X.K (oPart wl))) (hh : PO X hi (upO X.K (oPart wh))) : Dx X (.Subscript a (.Slice lo hi none p2) pos) (eSl wa wl wh) :=
  pe_wk (pe_slice sd_sl ha hl hh) fun σ H Q ⟨ρ, M, P, er, hr, w, k⟩ =>
    ⟨ρ, M, _, er, hr, w, fun x M1 v H1 p1 e1 d1 h1 => ⟨ρ, M1, _, er.mono e1, h1, p1, fun l M2 H2 p2 e2 h2 => ⟨ρ, M2, _, er.mono (e1.trans e2), h2, p2, fun h M3 H3 p3 e3 h3 =>
      ⟨x, M3, P, d1.mono (e2.trans e3), h3, p3, fun d M4 v4 H4 p4 e4 => k d M4 v4 H4 p4 (e1.trans (e2.trans (e3.trans e4)))⟩⟩⟩⟩

/-! ### isinstance, calls -/
def eIsi (T : String) (a : DT) : DT := fun ρ M P => a ρ M fun x M1 => isiD T x M1 P
theorem dx_isi {e : Expr} {T : String} {wa : DT} {x : Str} {p p2 pos : Pos} (hT : T = "int" ∨ T = "str" ∨ T = "tuple" ∨ T = "list" ∨ T = "bool" ∨ T = "dict") (ha : Dx X e wa) (hg : Gl X "isinstance") (hm : X.mg "isinstance" = none) (hg2 : Gl X x) (hm2 : X.mg x = none)
    (hb : bootBuiltins x = some (.type T)) (hn : x ≠ "__name__") (hdb : (x == ("__debug__" : Str)) = false)
    (he : starEach (e :: [.Name x p2]) X.env = (false, eval e X.env) :: starEach [.Name x p2] X.env) : Dx X (.Call (.Name "isinstance" p) [e, .Name x p2] [] pos) (eIsi T wa) :=
  pe_wk (pe_callB call_isi hg hm (by decide +kernel) (pa_cons ha (pa_cons (pe_bltn (v := .ty T) hg2 hm2 hb rfl hn hdb) pa_nil (by rfl)) he) (by decide) (by decide) he (by rfl)) fun σ H Q ⟨ρ, M, P, er, hr, w, k⟩ =>
    ⟨ρ, M, _, er, hr, w, fun x M1 v H1 p1 e1 d1 h1 => by
      obtain ⟨t, b, h2, h3, h4⟩ := tyx_of hT d1 h1 p1
      exact ⟨_, _, _, _, _, rfl, .ty T, h2, h3, k _ M1 _ H1 h4 e1 (.bl b) h1⟩⟩
theorem dx_fb {id : String} {x : Str} {r : List D → Mh → PQ → Prop} {e : Expr} {es : List Expr} {wa : DA} {p pos : Pos} (hc : CallR X (.builtin id) (upL X.K r)) (hg : Gl X x) (hm : X.mg x = none) (hv : bootBuiltins x = some (.builtin id)) (ha : Da X (e :: es) wa)
    (hn : x ≠ "__name__") (hdb : (x == ("__debug__" : Str)) = false) (he : starEach (e :: es) X.env = (false, eval e X.env) :: starEach es X.env) (hpl : (backTo pos (starEach es X.env)).any (·.1) = false) : Dx X (.Call (.Name x p) (e :: es) [] pos) (eCall r wa) :=
  pe_wk (pe_callB hc hg hm hv ha hn hdb he hpl) fun σ H Q ⟨ρ, M, P, er, hr, w, k⟩ =>
    ⟨ρ, M, _, er, hr, w, fun xs M1 vs H1 p1 e1 d1 h1 => ⟨xs, M1, P, d1, h1, p1, fun d M2 v2 H2 p2 e2 => k d M2 v2 H2 p2 (e1.trans e2)⟩⟩
theorem dx_ft {T : String} {x : Str} {r : List D → Mh → PQ → Prop} {e : Expr} {es : List Expr} {wa : DA} {p pos : Pos} (hc : CallR X (.type T) (upL X.K r)) (hg : Gl X x) (hm : X.mg x = none) (hv : bootBuiltins x = some (.type T)) (ha : Da X (e :: es) wa)
    (hn : x ≠ "__name__") (hdb : (x == ("__debug__" : Str)) = false) (he : starEach (e :: es) X.env = (false, eval e X.env) :: starEach es X.env) (hpl : (backTo pos (starEach es X.env)).any (·.1) = false) : Dx X (.Call (.Name x p) (e :: es) [] pos) (eCall r wa) :=
  pe_wk (pe_callTy hc hg hm hv ha hn hdb he hpl) fun σ H Q ⟨ρ, M, P, er, hr, w, k⟩ =>
    ⟨ρ, M, _, er, hr, w, fun xs M1 vs H1 p1 e1 d1 h1 => ⟨xs, M1, P, d1, h1, p1, fun d M2 v2 H2 p2 e2 => k d M2 v2 H2 p2 (e1.trans e2)⟩⟩
/-- what a def of n parameters promises -/
abbrev DSp := List D → Mh → PQ → Prop
def upF (K : PySem.W.Frag) (n : Nat) (sp : DSp) : Sp := fun vs H Q _ => vs.length = n ∧ upL K sp vs H Q
/-- a def that may be called -/
structure CallOk (X : Cx) (x : Str) (n : Nat) (sp : DSp) : Prop where
  dbg : (x == ("__debug__" : Str)) = false
  ok : ∃ f fd k ps, ∃ (dd : List D) (dvs : List V) (us : List Value) (sp0 : DSp), FnOk X.prog X.w X.K X.mg X.base CX0 k f fd ps (upF X.K ps.length sp0) ∧ Room k X.A ∧ X.mg x = some (.ref f) ∧ PySem.W.keepIn X.K (.ref f) = true ∧ Binds X.K fd ps us ∧
    Vals dvs us ∧ (∀ H, DRs X.K H dd dvs) ∧ n + dd.length = ps.length ∧ ∀ ds M P, ds.length = n → sp ds M P → sp0 (ds ++ dd) M P
def eFn (n : Nat) (sp : DSp) (a : DA) : DT := fun ρ M P => a ρ M fun xs M1 => xs.length = n ∧ sp xs M1 P
theorem dx_fn {x : Str} {n : Nat} {sp : DSp} {e : Expr} {es : List Expr} {wa : DA} {p pos : Pos} (c : CallOk X x n sp) (hg : Gl X x) (ha : Da X (e :: es) wa) (he : starEach (e :: es) X.env = (false, eval e X.env) :: starEach es X.env)
    (hpl : (backTo pos (starEach es X.env)).any (·.1) = false) : Dx X (.Call (.Name x p) (e :: es) [] pos) (eFn n sp wa) := by
  obtain ⟨f, fd, k, ps, dd, dvs, us, sp0, F, hr, hm, hk, hb, hv, hdd, hl, hi⟩ := c.ok
  exact pe_wk (pe_call F hr hg hm hk hb hv pass0 ha c.dbg he hpl) fun σ H Q ⟨ρ, M, P, er, hr, w, k⟩ =>
    ⟨ρ, M, _, er, hr, w, fun xs M1 vs H1 p1 e1 d1 h1 => by
      show upF X.K ps.length sp0 (vs ++ dvs) H1 Q E0
      have l1 := (hdd H1).length
      have l2 := d1.length
      exact ⟨by rw [List.length_append]; have := p1.1; omega, xs ++ dd, M1, P, d1.append (hdd H1), h1, hi _ _ _ p1.1 p1.2, fun d M2 v2 H2 p2 e2 => k d M2 v2 H2 p2 (e1.trans e2)⟩⟩
theorem dx_fn0 {x : Str} {n : Nat} {sp : DSp} {p pos : Pos} (c : CallOk X x n sp) (hg : Gl X x) : Dx X (.Call (.Name x p) [] [] pos) (eFn n sp aNil) := by
  obtain ⟨f, fd, k, ps, dd, dvs, us, sp0, F, hr, hm, hk, hb, hv, hdd, hl, hi⟩ := c.ok
  exact pe_wk (pe_call0 F hr hg hm hk hb hv pass0 c.dbg) fun σ H Q ⟨ρ, M, P, er, hr, w, k⟩ => by
    show upF X.K ps.length sp0 ([] ++ dvs) H Q E0
    have l1 := (hdd H).length
    exact ⟨by rw [List.nil_append]; have : ([] : List D).length = n := w.1; simp at this; omega, [] ++ dd, M, P, hdd H, hr, hi _ _ _ w.1 w.2, k⟩

/-! ### methods of lists and texts -/
def tyD (T : String) (x : D) (M : Mh) : Prop := match x with
  | .str _ => T = "str"
  | .rol _ => T = "list"
  | .ref a => match M a with
    | some (.lst _) => T = "list"
    | _ => False
  | _ => False
theorem tyv_of {K : PySem.W.Frag} {H : Hp} {x : D} {v : V} {M : Mh} {T : String} (d : DR K H x v) (h : HR K H M) (t : tyD T x M) : tyV K T v H := by
  cases d <;> first | exact False.elim t | skip
  · exact t
  · rename_i s1 r1
    exact .inl ⟨t, _, s1.seq⟩
  · rename_i a
    have t : (match M a with | some (.lst _) => T = "list" | _ => False) := t
    cases e : M a with
    | none => rw [e] at t; exact t.elim
    | some o =>
      rw [e] at t
      cases o with
      | lst ds =>
        obtain ⟨vs, q, _⟩ := h _ _ e
        exact .inl ⟨t, _, SqL.of q⟩
      | _ => exact False.elim t
def eMt (T : String) (r : D → List D → Mh → PQ → Prop) (o : DT) (a : DA) : DT := fun ρ M P => o ρ M fun x M1 => tyD T x M1 ∧ a ρ M1 fun xs M2 => r x xs M2 P
theorem dx_mt {T id : String} {name : Str} {r : D → List D → Mh → PQ → Prop} {o e : Expr} {es : List Expr} {wo : DT} {wa : DA} {apos cpos : Pos} (pa : PlainAttrs T) (sl : Slot T name id) (hty : typeOf (.builtin id) = pure (.type "method_descriptor")) (hm : MtR X id (upM X.K r)) (ho : Dx X o wo) (ha : Da X (e :: es) wa)
    (hbase : attributeBase o name X.env (eval o X.env) = eval o X.env)
    (hfew : ((backTo cpos (starEach (e :: es) X.env)).all (fun x => !x.1) && (backToKw cpos (keywordEach [] X.env)).all (fun x => x.1.isSome)
      && decide ((e :: es).length + ([] : List Keyword).length + (if ([] : List Keyword).isEmpty then 0 else 1) < 30)) = true)
    (hline : (apos.endLine == cpos.line) = true) (hs : starEach (e :: es) X.env = (false, eval e X.env) :: starEach es X.env) (hplain : (backTo cpos (starEach es X.env)).any (·.1) = false) :
    Dx X (.Call (.Attribute o name apos) (e :: es) [] cpos) (eMt T r wo wa) :=
  pe_wk (pe_bm pa sl hty hm ho ha hbase hfew hline hs hplain) fun σ H Q ⟨ρ, M, P, er, hr, w, k⟩ =>
    ⟨ρ, M, _, er, hr, w, fun x M1 v H1 p1 e1 d1 h1 => ⟨tyv_of d1 h1 p1.1, ρ, M1, _, er.mono e1, h1, p1.2, fun xs M2 vs H2 p2 e2 d2 h2 => ⟨x, xs, M2, P, d1.mono e2, d2, h2, p2, fun d M3 v3 H3 p3 e3 => k d M3 v3 H3 p3 (e1.trans (e2.trans e3))⟩⟩⟩
theorem dx_mt0 {T id : String} {name : Str} {r : D → List D → Mh → PQ → Prop} {o : Expr} {wo : DT} {apos cpos : Pos} (pa : PlainAttrs T) (sl : Slot T name id) (hty : typeOf (.builtin id) = pure (.type "method_descriptor")) (hm : MtR X id (upM X.K r)) (ho : Dx X o wo)
    (hbase : attributeBase o name X.env (eval o X.env) = eval o X.env) (hline : (apos.endLine == cpos.line) = true) : Dx X (.Call (.Attribute o name apos) [] [] cpos) (eMt T r wo aNil) :=
  pe_wk (pe_bm0 pa sl hty hm ho hbase hline) fun σ H Q ⟨ρ, M, P, er, hr, w, k⟩ =>
    ⟨ρ, M, _, er, hr, w, fun x M1 v H1 p1 e1 d1 h1 => ⟨tyv_of d1 h1 p1.1, x, [], M1, P, d1, .nil, h1, p1.2, fun d M3 v3 H3 p3 e3 => k d M3 v3 H3 p3 (e1.trans e3)⟩⟩
def appendD : D → List D → Mh → PQ → Prop
  | .ref a, [y], M, P => match M a with
    | some (.lst ds) => ds.length < sizeLine ∧ P .non (mup M a (.lst (ds ++ [y])))
    | _ => False
  | _, _, _, _ => False
def extendD : D → List D → Mh → PQ → Prop
  | .ref a, [.ref b], M, P => match M a, M b with
    | some (.lst ds), some (.lst es) => ds.length + es.length ≤ sizeLine ∧ P .non (mup M a (.lst (ds ++ es)))
    | _, _ => False
  | _, _, _, _ => False
def popD : D → List D → Mh → PQ → Prop
  | .ref a, [], M, P => match M a with
    | some (.lst ds) => match ds[ds.length - 1]? with
      | some d => P d (mup M a (.lst ds.dropLast))
      | none => False
    | _ => False
  | .ref a, [.int i], M, P => match M a with
    | some (.lst ds) => (-(2 ^ 63) ≤ i ∧ i < 2 ^ 63) ∧ match seqIndex? i ds.length with
      | some j => match ds[j]? with
        | some d => P d (mup M a (.lst (ds.eraseIdx j)))
        | none => False
      | none => False
    | _ => False
  | _, _, _, _ => False
def joinD : D → List D → Mh → PQ → Prop
  | .str z, [x], M, P => match itemsD x M with
    | some ds => match strsOf ds with
      | some ys => (ys.map (·.length)).sum + ys.length * z.length ≤ 16777216 ∧ P (.str (Txt.join z ys)) M
      | none => False
    | none => False
  | _, _, _, _ => False
theorem md_append : MtR X "list.append" (upM X.K appendD) := by
  rintro pins s σ H v vs a us Q I ra rs ⟨x, xs, M, P, dx, ds, hr, w, k⟩
  cases dx <;> first | exact False.elim w | skip
  rename_i l
  match xs, ds with
  | [], _ => exact False.elim w
  | _ :: _ :: _, _ => exact False.elim w
  | [y], .cons dy .nil =>
    have w : (match M l with | some (.lst ds) => ds.length < sizeLine ∧ P .non (mup M l (.lst (ds ++ [y]))) | _ => False) := w
    cases e : M l with
    | none => rw [e] at w; exact w.elim
    | some o =>
      rw [e] at w
      cases o with
      | dk _ => exact False.elim w
      | dt _ => exact False.elim w
      | lst es =>
        obtain ⟨ws, q, r⟩ := hr _ _ e
        exact mt_append pins s σ H _ _ a us Q I ra rs ⟨_, _, _, rfl, rfl, q, by rw [← r.length]; exact w.1, k _ _ _ _ w.2 (.lst q) .non (hr.write q (r.append (.one dy)))⟩
theorem md_extend : MtR X "list.extend" (upM X.K extendD) := by
  rintro pins s σ H v vs a us Q I ra rs ⟨x, xs, M, P, dx, ds, hr, w, k⟩
  cases dx <;> first | exact False.elim w | skip
  rename_i l
  match xs, ds with
  | [], _ => exact False.elim w
  | _ :: _ :: _, .cons dy _ => cases dy <;> exact False.elim w
  | [y], .cons dy .nil =>
    cases dy <;> first | exact False.elim w | skip
    rename_i b
    have w : (match M l, M b with | some (.lst ds), some (.lst es) => ds.length + es.length ≤ sizeLine ∧ P .non (mup M l (.lst (ds ++ es))) | _, _ => False) := w
    cases e : M l with
    | none => rw [e] at w; exact w.elim
    | some o =>
      cases e2 : M b with
      | none => rw [e, e2] at w; cases o <;> exact w.elim
      | some o2 =>
        rw [e, e2] at w
        cases o with
        | dk _ => exact False.elim w
        | dt _ => exact False.elim w
        | lst es =>
          cases o2 with
          | dk _ => exact False.elim w
          | dt _ => exact False.elim w
          | lst fs =>
            obtain ⟨ws, q, r⟩ := hr _ _ e
            obtain ⟨zs, q2, r2⟩ := hr _ _ e2
            exact mt_extend pins s σ H _ _ a us Q I ra rs ⟨_, _, _, _, rfl, rfl, q, q2, by rw [← r.length, ← r2.length]; exact w.1, k _ _ _ _ w.2 (.lst q) .non (hr.write q (r.append r2))⟩
theorem md_pop : MtR X "list.pop" (upM X.K popD) := by
  rintro pins s σ H v vs a us Q I ra rs ⟨x, xs, M, P, dx, ds, hr, w, k⟩
  cases dx <;> first | exact False.elim w | skip
  rename_i l
  match xs, ds with
  | _ :: _ :: _, .cons dy _ => cases dy <;> exact False.elim w
  | [], .nil =>
    have w : (match M l with | some (.lst ds) => (match ds[ds.length - 1]? with | some d => P d (mup M l (.lst ds.dropLast)) | none => False) | _ => False) := w
    cases e : M l with
    | none => rw [e] at w; exact w.elim
    | some o =>
      rw [e] at w
      cases o with
      | dk _ => exact False.elim w
      | dt _ => exact False.elim w
      | lst es =>
        obtain ⟨ws, q, r⟩ := hr _ _ e
        cases e2 : es[es.length - 1]? with
        | none => simp only [e2] at w
        | some d =>
          simp only [e2] at w
          obtain ⟨v', h1, h2⟩ := r.get e2
          rw [r.length] at h1
          exact mt_pop pins s σ H _ _ a us Q I ra rs ⟨_, _, _, rfl, rfl, q, h1, k _ _ _ _ w (.lst q) (h2.mono (.lst q)) (hr.write q r.dropLast)⟩
  | [y], .cons dy .nil =>
    cases dy <;> first | exact False.elim w | skip
    rename_i i
    have w : (match M l with | some (.lst ds) => (-(2 ^ 63) ≤ i ∧ i < 2 ^ 63) ∧ (match seqIndex? i ds.length with | some j => (match ds[j]? with | some d => P d (mup M l (.lst (ds.eraseIdx j))) | none => False) | none => False) | _ => False) := w
    cases e : M l with
    | none => rw [e] at w; exact w.elim
    | some o =>
      rw [e] at w
      cases o with
      | dk _ => exact False.elim w
      | dt _ => exact False.elim w
      | lst es =>
        obtain ⟨ws, q, r⟩ := hr _ _ e
        obtain ⟨hb, w⟩ := w
        cases e2 : seqIndex? i es.length with
        | none => simp only [e2] at w
        | some j =>
          simp only [e2] at w
          cases e3 : es[j]? with
          | none => simp only [e3] at w
          | some d =>
            simp only [e3] at w
            obtain ⟨v', h1, h2⟩ := r.get e3
            exact mt_popAt pins s σ H _ _ a us Q I ra rs ⟨_, _, _, _, _, rfl, rfl, q, hb.1, hb.2, by rw [← r.length]; exact e2, h1, k _ _ _ _ w (.lst q) (h2.mono (.lst q)) (hr.write q (r.erase j))⟩
theorem md_join : MtR X "str.join" (upM X.K joinD) := by
  rintro pins s σ H v vs a us Q I ra rs ⟨x, xs, M, P, dx, ds, hr, w, k⟩
  cases dx <;> first | exact False.elim w | skip
  rename_i z
  match xs, ds with
  | [], _ => exact False.elim w
  | _ :: _ :: _, _ => exact False.elim w
  | [y], .cons dy .nil =>
    simp only [joinD] at w
    cases e : itemsD y M with
    | none => simp only [e] at w
    | some es =>
      simp only [e] at w
      cases e2 : strsOf es with
      | none => simp only [e2] at w
      | some ys =>
        simp only [e2] at w
        obtain ⟨p, ws, rfl, q, r⟩ := items_of dy hr e
        rw [strsOf_rel r e2] at q
        exact mt_join pins s σ H _ _ a us Q I ra rs ⟨_, _, _, rfl, rfl, q, w.1, k _ _ _ _ w.2 (.refl _ _) (.str _) hr⟩
end
end DL
/-! DLs: sorted, of ints, texts, flat tuples of them. -/
namespace DL
open PySem PySem.Spec L2
open PyProof.Rows hiding St

/-! ### rows of ints in their order -/
theorem li_swo {α : Type} (k : α → List Int) : SrtO.Swo fun x y => decide (k x < k y) := by
  refine ⟨fun x y h => ?_, fun x y z h1 h2 => ?_⟩
  · have a := of_decide_eq_true h
    exact decide_eq_false (List.lt_asymm a)
  · have a := of_decide_eq_false h1
    have b := of_decide_eq_false h2
    exact decide_eq_false (List.not_lt.mpr (List.le_trans (List.not_lt.mp a) (List.not_lt.mp b)))
/-- a text as a row that ends itself -/
def eS (s : Str) : List Int := s.cps.toList.map (fun n : Nat => (n : Int)) ++ [-1]
theorem eS_lt : ∀ (a b : List Nat) (r q : List Int), (a.map (fun n : Nat => (n : Int)) ++ [-1]) ++ r < (b.map (fun n : Nat => (n : Int)) ++ [-1]) ++ q ↔ if a = b then r < q else a < b
  | [], [], r, q => by simp [List.cons_lt_cons_iff]
  | [], y :: b, r, q => by
    rw [if_neg (by simp)]
    have : (-1 : Int) < (y : Int) := by omega
    simp [List.cons_lt_cons_iff, this]
  | x :: a, [], r, q => by
    rw [if_neg (by simp)]
    have h1 : ¬ (x : Int) < -1 := by omega
    have h2 : ¬ (x : Int) = -1 := by omega
    simp [List.cons_lt_cons_iff, h1, h2]
  | x :: a, y :: b, r, q => by
    have ih := eS_lt a b r q
    rw [List.map_cons, List.map_cons, List.cons_append, List.cons_append, List.cons_append, List.cons_append, List.cons_lt_cons_iff, ih]
    by_cases e : x = y
    · subst e
      by_cases e2 : a = b
      · subst e2
        simp
      · have hne : ¬ (x :: a = x :: b) := by simp [e2]
        rw [if_neg e2, if_neg hne]
        have : (x :: a < x :: b) ↔ (x < x ∨ x = x ∧ a < b) := List.cons_lt_cons_iff
        rw [this]
        simp only [true_and, Int.lt_irrefl, Nat.lt_irrefl]
    · have hne : ¬ (x :: a = y :: b) := by simp [e]
      rw [if_neg hne]
      have : (x :: a < y :: b) ↔ (x < y ∨ x = y ∧ a < b) := List.cons_lt_cons_iff
      rw [this]
      have e3 : ¬ ((x : Int) = (y : Int)) := by omega
      simp only [e, e3, false_and, or_false, Int.ofNat_lt]
/-! ### items -/
inductive Kn where
  | int
  | str
def isK : Kn → Value → Prop
  | .int, v => ∃ i t, v = .int i t
  | .str, v => ∃ x t, v = .str x t
def ea : Value → List Int
  | .int i _ => [i]
  | .str x _ => eS x
  | _ => []
def tv (h : Heap) : Value → List Int
  | .ref a => match h.get? a with
    | some o => match o.data with
      | .seq xs _ => xs.toList.flatMap ea
      | _ => []
    | none => []
  | _ => []
section
variable {prog : Program} {w : World} {A : Around} {E : Value → Shared → Prop} {s : Shared}
theorem oneLt_strs (c : Bool) {a b : Str} {t u : Tok} {Q : Bool → Shared → Prop} (h : Q (decide (a.cps.toList < b.cps.toList)) s) : wpAny (model prog w) A (oneLt' c (.str a t) (.str b u)) Q E s := by
  cases c with
  | true => exact oneLt_str h
  | false => exact PySem.W.kat_one _ _ (PyProof.Rows.lt_str (Q := PySem.W.BoolBack Q) h)
theorem lex_run {b : Bool} {Q : Bool → Shared → Prop} : ∀ {ks : List Kn} {xs ys : List Value} (i : Nat), Paired isK ks xs → Paired isK ks ys → Q (decide (xs.flatMap ea < ys.flatMap ea)) s → PySem.W.KatLex prog w A b false Q (xs.zip ys) i s
  | _, _, _, i, .nil, .nil, h => PySem.W.kat_nil (by simpa using h)
  | .int :: ks, _, _, i, .cons (b := v) (l₂ := xs) h1 r1, .cons (b := u) (l₂ := ys) h2 r2, h => by
    obtain ⟨m, t, rfl⟩ := h1
    obtain ⟨n, t', rfl⟩ := h2
    refine PySem.W.kat_cons (SeqAt.EqAt.int_int m t n t' prog w _ _ ?_)
    have e : ((Value.int m t :: xs).flatMap ea < (Value.int n t' :: ys).flatMap ea) ↔ (m < n ∨ m = n ∧ xs.flatMap ea < ys.flatMap ea) := by
      rw [List.flatMap_cons, List.flatMap_cons]
      exact List.cons_lt_cons_iff
    refine PySem.W.kat_go (fun e1 => ?_) (fun e1 => ?_)
    · have ex : m = n := by simpa using e1
      subst ex
      refine PySem.W.kat_yes (lex_run (i + 1) r1 r2 ?_)
      have e2 : decide (xs.flatMap ea < ys.flatMap ea) = decide ((Value.int m t :: xs).flatMap ea < (Value.int m t' :: ys).flatMap ea) := decide_eq_decide.mpr (by rw [e]; simp)
      rw [e2]; exact h
    · have ex : ¬ m = n := by simpa using e1
      refine PySem.W.kat_no (TS.oneLt_ints _ ?_)
      have e2 : decide (m < n) = decide ((Value.int m t :: xs).flatMap ea < (Value.int n t' :: ys).flatMap ea) := decide_eq_decide.mpr (by rw [e]; simp [ex])
      rw [e2]; exact h
  | .str :: ks, _, _, i, .cons (b := v) (l₂ := xs) h1 r1, .cons (b := u) (l₂ := ys) h2 r2, h => by
    obtain ⟨m, t, rfl⟩ := h1
    obtain ⟨n, t', rfl⟩ := h2
    refine PySem.W.kat_cons (SeqAt.EqAt.str_str m t n t' prog w _ _ ?_)
    have e : ((Value.str m t :: xs).flatMap ea < (Value.str n t' :: ys).flatMap ea) ↔ (if m.cps.toList = n.cps.toList then xs.flatMap ea < ys.flatMap ea else m.cps.toList < n.cps.toList) := by
      rw [List.flatMap_cons, List.flatMap_cons]
      exact eS_lt _ _ _ _
    refine PySem.W.kat_go (fun e1 => ?_) (fun e1 => ?_)
    · have ex : m = n := by simpa using e1
      subst ex
      refine PySem.W.kat_yes (lex_run (i + 1) r1 r2 ?_)
      have e2 : decide (xs.flatMap ea < ys.flatMap ea) = decide ((Value.str m t :: xs).flatMap ea < (Value.str m t' :: ys).flatMap ea) := decide_eq_decide.mpr (by rw [e, if_pos rfl])
      rw [e2]; exact h
    · have ex : ¬ m = n := by simpa using e1
      have ex2 : ¬ m.cps.toList = n.cps.toList := fun z => ex (by cases m; cases n; simp only [Str.mk.injEq]; exact Array.toList_inj.mp z)
      refine PySem.W.kat_no (oneLt_strs _ ?_)
      have e2 : decide (m.cps.toList < n.cps.toList) = decide ((Value.str m t :: xs).flatMap ea < (Value.str n t' :: ys).flatMap ea) := decide_eq_decide.mpr (by rw [e, if_neg ex2])
      rw [e2]; exact h
/-- a flat tuple -/
def IsTp (h : Heap) (ks : List Kn) (v : Value) : Prop := ∃ a o xs n, v = .ref a ∧ h.get? a = some o ∧ o.cls = .type "tuple" ∧ o.data = .seq xs n ∧ Paired isK ks xs.toList
theorem IsTp.keeps {h h' : Heap} {ks : List Kn} {v : Value} (x : IsTp h ks v) (k : ∀ b o, h.get? b = some o → o.cls = .type "tuple" → h'.get? b = some o) : IsTp h' ks v := by
  obtain ⟨a, o, xs, n, e, ho, hc, hd, r⟩ := x
  exact ⟨a, o, xs, n, e, k a o ho hc, hc, hd, r⟩
theorem IsTp.tv {h h' : Heap} {ks : List Kn} {v : Value} (x : IsTp h ks v) (k : ∀ b o, h.get? b = some o → o.cls = .type "tuple" → h'.get? b = some o) : tv h' v = DL.tv h v := by
  obtain ⟨a, o, xs, n, rfl, ho, hc, hd, r⟩ := x
  show (match h'.get? a with | some o => _ | none => _) = (match h.get? a with | some o => _ | none => _)
  rw [ho, k a o ho hc]
theorem tup_cmp {vs : List Value} {ks : List Kn} {b : Bool} (hp : ∀ v ∈ vs, IsTp s.heap ks v) : SrtO.Cmp prog w A s (tuples' b) (fun p => p.1 ∈ vs) (SrtO.lt2 fun v u => decide (tv s.heap v < tv s.heap u)) := by
  intro p q hm hm'
  show wpAny (model prog w) A (keyLt' (tuples' b) p.1 q.1) (fun r s' => s' = s ∧ r = decide (tv s.heap p.1 < tv s.heap q.1)) (fun _ _ => False) s
  obtain ⟨a, o, xs, n, e, ho, hc, hd, r⟩ := hp _ hm
  obtain ⟨a', o', xs', n', e', ho', hc', hd', r'⟩ := hp _ hm'
  rw [e, e']
  have t1 : tv s.heap (.ref a) = xs.toList.flatMap ea := by
    show (match s.heap.get? a with | some o => _ | none => _) = _
    rw [ho]; show (match o.data with | .seq xs _ => _ | _ => _) = _
    rw [hd]
  have t2 : tv s.heap (.ref a') = xs'.toList.flatMap ea := by
    show (match s.heap.get? a' with | some o => _ | none => _) = _
    rw [ho']; show (match o'.data with | .seq xs _ => _ | _ => _) = _
    rw [hd']
  rw [t1, t2]
  refine PySem.W.kat_lt ho hd ho' hd' ?_
  have hl : xs.size = xs'.size := by
    have h1 := Paired.length r
    have h2 := Paired.length r'
    simp only [Array.length_toList] at h1 h2
    omega
  rw [show decide (xs.size < xs'.size) = false from decide_eq_false (by omega)]
  exact lex_run 0 r r' ⟨rfl, rfl⟩
theorem tup_firsts {h : Heap} {k : Kn} {ks : List Kn} : ∀ {vs : List Value}, (∀ v ∈ vs, IsTp h (k :: ks) v) → ∃ fs : List Value, PySem.W.KatTups h vs fs ∧ fs.length = vs.length ∧ ∀ f ∈ fs, isK k f
  | [], _ => ⟨[], PySem.W.KatTups.nil, rfl, fun _ hm => by simp at hm⟩
  | v :: vs, hp => by
    obtain ⟨fs, h1, h2, h3⟩ := tup_firsts (vs := vs) fun v' hm => hp v' (List.mem_cons_of_mem _ hm)
    obtain ⟨a, o, xs, n, rfl, ho, hc, hd, r⟩ := hp v List.mem_cons_self
    obtain ⟨f, fr, ex, hf⟩ : ∃ f fr, xs.toList = f :: fr ∧ isK k f := by
      generalize xs.toList = l at r
      cases r with
      | cons h _ => exact ⟨_, _, rfl, h⟩
    have e0 : xs[0]? = some f := by rw [← Array.getElem?_toList, ex]; rfl
    refine ⟨f :: fs, PySem.W.KatTups.cons ho hc hd e0 h1, by rw [List.length_cons, List.length_cons, h2], fun g hm => ?_⟩
    rcases List.mem_cons.mp hm with rfl | hm
    · exact hf
    · exact h3 g hm
theorem tup_sortable {a : Addr} {vs : List Value} {k : Kn} {ks : List Kn} (h0 : 0 < vs.length) (hp : ∀ v ∈ vs, IsTp s.heap (k :: ks) v) (ha : ∀ o, s.heap.get? a = some o → o.cls ≠ .type "tuple") : SrtO.SortableO prog w A s a vs fun v u => decide (tv s.heap v < tv s.heap u) := by
  intro h' keep
  have kk : ∀ b o, s.heap.get? b = some o → o.cls = .type "tuple" → h'.get? b = some o := fun b o e c => keep b o (fun z => by subst z; exact ha o e c) e
  have hp' : ∀ v ∈ vs, IsTp h' (k :: ks) v := fun v hm => (hp v hm).keeps kk
  obtain ⟨fs, h1, h2, h3⟩ := tup_firsts hp'
  have cmp : ∀ b, SrtO.Cmp prog w A { s with heap := h' } (tuples' b) (fun p => p.1 ∈ vs) (SrtO.lt2 fun v u => decide (tv s.heap v < tv s.heap u)) := fun b p q hm hm' => by
    have := tup_cmp (s := { s with heap := h' }) (prog := prog) (w := w) (A := A) (b := b) hp' p q hm hm'
    have e1 := (hp _ hm).tv kk
    have e2 := (hp _ hm').tv kk
    show wpAny (model prog w) A (keyLt' (tuples' b) p.1 q.1) (fun r s' => s' = _ ∧ r = decide (tv s.heap p.1 < tv s.heap q.1)) (fun _ _ => False) _
    rw [← e1, ← e2]
    exact this
  cases k with
  | int =>
    refine ⟨tuples' true, fun Q E hq => ?_, cmp _⟩
    refine PySem.W.kat_kind (T := .type "int") h1 (by omega) (fun f hm => ?_) (by rfl) ?_
    · obtain ⟨x, t, rfl⟩ := h3 f hm
      exact PySem.W.Looks.now
    · have e : (Value.type "int" != Value.type "tuple") = true := by first | decide +kernel | rfl | decide
      rw [e]
      exact hq
  | str =>
    refine ⟨tuples' true, fun Q E hq => ?_, cmp _⟩
    refine PySem.W.kat_kind (T := .type "str") h1 (by omega) (fun f hm => ?_) (by rfl) ?_
    · obtain ⟨x, t, rfl⟩ := h3 f hm
      exact PySem.W.Looks.now
    · have e : (Value.type "str" != Value.type "tuple") = true := by first | decide +kernel | rfl | decide
      rw [e]
      exact hq
end

/-! ### in data -/
def eA : D → List Int
  | .int i => [i]
  | .str s => eS s
  | _ => []
def eD : D → List Int
  | .int i => [i]
  | .str s => eS s
  | .tup ds => ds.flatMap eA
  | _ => []
def isKD : Kn → D → Prop
  | .int, d => ∃ i, d = .int i
  | .str, d => ∃ s, d = .str s
/-- what can be sorted -/
def SortK (ds : List D) : Prop := (∀ d ∈ ds, ∃ i, d = .int i) ∨ (∀ d ∈ ds, ∃ s, d = .str s) ∨ ∃ k ks, ∀ d ∈ ds, ∃ es, d = .tup es ∧ Paired isKD (k :: ks) es
def sortedD : List D → Mh → PQ → Prop
  | [x], M, P => match litemsD x M with
    | some ds => SortK ds ∧ ∀ ys p, ys.Perm ds → ys.Pairwise (fun a b => ¬ (eD b < eD a)) → M p = none → P (.ref p) (mup M p (.lst ys))
    | none => False
  | _, _, _ => False
theorem perm_map_inv {α β : Type} {f : α → β} {m n : List β} (h : m.Perm n) : ∀ l : List α, n = l.map f → ∃ l' : List α, l'.Perm l ∧ l'.map f = m := by
  induction h with
  | nil => intro l e; exact ⟨[], by rw [List.map_eq_nil_iff.mp e.symm], rfl⟩
  | cons x _ ih =>
    intro l e
    match l, e with
    | a :: r, e =>
      rw [List.map_cons] at e
      injection e with e1 e2
      obtain ⟨l', h1, h2⟩ := ih r e2
      exact ⟨a :: l', h1.cons a, by rw [List.map_cons, h2, e1]⟩
  | swap x y l0 =>
    intro l e
    match l, e with
    | a :: b :: r, e =>
      rw [List.map_cons, List.map_cons] at e
      injection e with e1 e2
      injection e2 with e2 e3
      exact ⟨b :: a :: r, List.Perm.swap a b r, by rw [List.map_cons, List.map_cons, ← e1, ← e2, ← e3]⟩
  | trans _ _ ih1 ih2 =>
    intro l e
    obtain ⟨l1, h1, h2⟩ := ih2 l e
    obtain ⟨l2, h3, h4⟩ := ih1 l1 h2.symm
    exact ⟨l2, h3.trans h1, h4⟩
section
variable {K : PySem.W.Frag} {H : Hp}
/-- a list of values and its data, side by side -/
theorem side {X : Cx} : ∀ {ds : List D} {vs : List V} {us : List Value}, DRs X.K H ds vs → Vals vs us → ∃ zs : List (D × V × Value), zs.map (·.1) = ds ∧ zs.map (·.2.2) = us ∧ ∀ z ∈ zs, DR X.K H z.1 z.2.1 ∧ RelV z.2.1 z.2.2
  | _, _, _, .nil, .nil => ⟨[], rfl, rfl, fun _ h => by simp at h⟩
  | _, _, _, .cons (d := d) (v := v) h r, .cons (b := u) h2 r2 => by
    obtain ⟨zs, e1, e2, e3⟩ := side (X := X) r r2
    refine ⟨(d, v, u) :: zs, by rw [List.map_cons, e1], by rw [List.map_cons, e2], fun z hz => ?_⟩
    rcases List.mem_cons.mp hz with rfl | hz
    · exact ⟨h, h2⟩
    · exact e3 z hz
theorem unside {X : Cx} : ∀ {zs : List (D × V × Value)}, (∀ z ∈ zs, DR X.K H z.1 z.2.1 ∧ RelV z.2.1 z.2.2) → DRs X.K H (zs.map (·.1)) (zs.map (·.2.1)) ∧ Vals (zs.map (·.2.1)) (zs.map (·.2.2))
  | [], _ => ⟨.nil, .nil⟩
  | z :: zs, h => by
    obtain ⟨h1, h2⟩ := unside (X := X) (zs := zs) fun y hy => h y (List.mem_cons_of_mem _ hy)
    have h0 := h z List.mem_cons_self
    exact ⟨.cons h0.1 h1, .cons h0.2 h2⟩
theorem ea_rel {d : D} {v : V} {u : Value} (r : DR K H d v) (q : RelV v u) (c : ∃ k, isKD k d) : ea u = eA d := by
  obtain ⟨k, c⟩ := c
  cases k with
  | int =>
    obtain ⟨i, rfl⟩ := c
    cases r
    obtain ⟨t, rfl⟩ := q
    rfl
  | str =>
    obtain ⟨i, rfl⟩ := c
    cases r
    obtain ⟨t, rfl⟩ := q
    rfl
theorem isK_rel {d : D} {v : V} {u : Value} {k : Kn} (r : DR K H d v) (q : RelV v u) (c : isKD k d) : isK k u := by
  cases k with
  | int =>
    obtain ⟨i, rfl⟩ := c
    cases r
    obtain ⟨t, rfl⟩ := q
    exact ⟨_, _, rfl⟩
  | str =>
    obtain ⟨i, rfl⟩ := c
    cases r
    obtain ⟨t, rfl⟩ := q
    exact ⟨_, _, rfl⟩
theorem flat_rel : ∀ {ks : List Kn} {es : List D} {vs : List V} {us : List Value}, Paired isKD ks es → DRs K H es vs → Vals vs us → Paired isK ks us ∧ us.flatMap ea = es.flatMap eA
  | _, _, _, _, .nil, .nil, .nil => ⟨.nil, rfl⟩
  | _, _, _, _, .cons c p, .cons h r, .cons h2 r2 => by
    obtain ⟨q1, q2⟩ := flat_rel p r r2
    exact ⟨.cons (isK_rel h h2 c) q1, by rw [List.flatMap_cons, List.flatMap_cons, q2, ea_rel h h2 ⟨_, c⟩]⟩
end
section
variable {X : Cx}
theorem tp_rel {pins : List (Addr × Obj)} {σ : St} {H : Hp} {s : Shared} (I : Inv X pins σ H s) {d : D} {v : V} {u : Value} {ks : List Kn} {es : List D} (r : DR X.K H d v) (q : RelV v u) (e : d = .tup es) (c : Paired isKD ks es) : IsTp s.heap ks u ∧ tv s.heap u = eD d := by
  subst e
  cases r with
  | tup h r' =>
    rename_i a vs
    obtain rfl : u = Value.ref a := q
    obtain ⟨its, rv, ⟨o, ho, hc, n, hd⟩, _⟩ := I.tuple (SqT.of h)
    obtain ⟨k1, k2⟩ := flat_rel c r' rv
    refine ⟨⟨a, o, its.toArray, n, rfl, ho, hc, hd, by simpa using k1⟩, ?_⟩
    show (match s.heap.get? a with | some o => _ | none => _) = _
    rw [ho]
    show (match o.data with | .seq xs _ => _ | _ => _) = _
    rw [hd]
    simpa [eD] using k2
theorem fd_sorted : CallR X (.builtin "sorted") (upL X.K sortedD) := by
  rintro pins s σ H vs us Q I r ⟨xs, M, P, dx, hr, w, k⟩
  match xs, dx with
  | [], _ => exact False.elim w
  | _ :: _ :: _, _ => exact False.elim w
  | [x], .cons d .nil =>
    simp only [sortedD] at w
    cases e : litemsD x M with
    | none => simp only [e] at w
    | some ds =>
      simp only [e] at w
      obtain ⟨sk, w⟩ := w
      obtain ⟨p, ws, rfl, q, r'⟩ := litems_of d hr e
      obtain ⟨its, rv, hl, hz⟩ := I.list q
      rw [Vals.ref1 r]
      obtain ⟨zs, z1, z2, z3⟩ := side (X := X) r' rv
      have fin : ∀ (kv : Value → List Int), (∀ z ∈ zs, kv z.2.2 = eD z.1) → (2 ≤ its.length → ∀ (h₁ : Heap) (a : Addr), h₁.get? a = some (seqObj "list" its.toArray 0) → (∀ b o, s.heap.get? b = some o → b ≠ a ∧ h₁.get? b = some o) → SrtO.SortableO X.prog X.w X.A.in1.in1 { s with heap := h₁ } a its fun v u => decide (kv v < kv u)) →
          wpAny (model X.prog X.w) X.A (call (.builtin "sorted") [.ref p]) (EP X pins σ Q) X.xe s := fun kv hk hs => by
        refine SrtO.sorted_ord (li_swo kv) hl.isList (by rw [← rv.length]; exact hz) hs fun out h1 h2 => ?_
        obtain ⟨zs', p1, p2⟩ := perm_map_inv h2.perm zs z2.symm
        have z3' : ∀ z ∈ zs', DR X.K H z.1 z.2.1 ∧ RelV z.2.1 z.2.2 := fun z hz => z3 z (p1.mem_iff.mp hz)
        obtain ⟨u1, u2⟩ := unside (X := X) z3'
        rw [p2] at u2
        have hys : (zs'.map (·.1)).Perm ds := by rw [← z1]; exact p1.map _
        have hpw : (zs'.map (·.1)).Pairwise (fun a b => ¬ (eD b < eD a)) := by
          rw [← p2] at h1
          have h1 := List.pairwise_map.mp h1
          refine List.pairwise_map.mpr (List.Pairwise.imp_of_mem (fun {a b} ma mb hab => ?_) h1)
          have := of_decide_eq_false hab
          rw [hk a (p1.mem_iff.mp ma), hk b (p1.mem_iff.mp mb)] at this
          exact this
        obtain ⟨ep, he'⟩ := PyProof.Rows.sortedAll_at s.heap its out.toArray
        have hlen : (zs'.map (·.2.1)).length ≤ sizeLine := by
          have : (zs'.map (·.2.1)).length = ws.length := by
            rw [List.length_map, p1.length_eq, ← r'.length, ← z1, List.length_map]
          rw [this]; exact hz
        have np := I.hok.fresh (Nat.le_succ s.heap.objs.size)
        exact ⟨.ref _, upd H (s.heap.objs.size + 1) (.lst (zs'.map (·.2.1))), I.laid (t' := s.toks) (fun _ _ => PyProof.Rows.sortedAll_old) (Nat.le_succ _) ⟨hlen, out, ep, u2, he'⟩, rfl,
          k _ _ _ _ (w _ _ hys hpw (hr.free np)) (.fresh np) (.ref _) (hr.new np u1)⟩
      have mem_ds : ∀ z ∈ zs, z.1 ∈ ds := fun z hz => by rw [← z1]; exact List.mem_map_of_mem hz
      rcases sk with sk | sk | ⟨kn, ks, sk⟩
      · have hi : ∀ z ∈ zs, ∃ i t, z.1 = .int i ∧ z.2.2 = Value.int i t := fun z hz => by
          obtain ⟨i, e1⟩ := sk _ (mem_ds z hz)
          obtain ⟨h1, h2⟩ := z3 z hz
          rw [e1] at h1
          generalize z.2.1 = vv at h1 h2
          cases h1
          obtain ⟨t, e2⟩ := h2
          exact ⟨i, t, e1, e2⟩
        have hI : IntsAre its (its.map SrtO.iv) := SrtO.ints_iv fun v hv => by
          rw [← z2] at hv
          obtain ⟨z, hz, rfl⟩ := List.mem_map.mp hv
          obtain ⟨i, t, _, e2⟩ := hi z hz
          exact ⟨i, t, e2⟩
        refine fin ea (fun z hz => ?_) fun h2 h₁ a _ _ => ?_
        · obtain ⟨i, t, e1, e2⟩ := hi z hz
          rw [e1, e2]; rfl
        · have := SrtO.ints_sortable (prog := X.prog) (w := X.w) (A := X.A.in1.in1) (s := { s with heap := h₁ }) (a := a) hI h2
          intro h' keep
          obtain ⟨κ, c1, c2⟩ := this h' keep
          refine ⟨κ, c1, fun p q hm hm' => ?_⟩
          have c3 := c2 p q hm hm'
          obtain ⟨i, t, e1⟩ := SrtO.ints_mem hI _ hm
          obtain ⟨j, t', e2⟩ := SrtO.ints_mem hI _ hm'
          refine wpAny_mono c3 (fun r' s' hh => ⟨hh.1, hh.2.trans ?_⟩) fun _ _ z => z
          show SrtO.ltIv p.1 q.1 = decide (ea p.1 < ea q.1)
          rw [e1, e2]
          show decide (i < j) = decide ([i] < [j])
          refine decide_eq_decide.mpr ?_
          rw [List.cons_lt_cons_iff]
          simp
      · have hi : ∀ z ∈ zs, ∃ i t, z.1 = .str i ∧ z.2.2 = Value.str i t := fun z hz => by
          obtain ⟨i, e1⟩ := sk _ (mem_ds z hz)
          obtain ⟨h1, h2⟩ := z3 z hz
          rw [e1] at h1
          generalize z.2.1 = vv at h1 h2
          cases h1
          obtain ⟨t, e2⟩ := h2
          exact ⟨i, t, e1, e2⟩
        have hS : ∀ v ∈ its, ∃ i t, v = Value.str i t := fun v hv => by
          rw [← z2] at hv
          obtain ⟨z, hz, rfl⟩ := List.mem_map.mp hv
          obtain ⟨i, t, _, e2⟩ := hi z hz
          exact ⟨i, t, e2⟩
        have hA : ∀ l : List Value, (∀ v ∈ l, ∃ i t, v = Value.str i t) → ∃ ss, StrsAre l ss := fun l => by
          induction l with
          | nil => exact fun _ => ⟨[], .nil⟩
          | cons v l ih =>
            intro h
            obtain ⟨i, t, rfl⟩ := h v List.mem_cons_self
            obtain ⟨ss, hs⟩ := ih fun u hu => h u (List.mem_cons_of_mem _ hu)
            exact ⟨i :: ss, .cons i t hs⟩
        refine fin ea (fun z hz => ?_) fun h2 h₁ a _ _ => ?_
        · obtain ⟨i, t, e1, e2⟩ := hi z hz
          rw [e1, e2]; rfl
        · intro h' keep
          refine ⟨oneType', fun Q' E' hq => ?_, fun p q hm hm' => ?_⟩
          · obtain ⟨ss, hs⟩ := hA its hS
            generalize its = l at hs h2
            match l, hs, h2 with
            | v1 :: v2 :: rest, hs, _ =>
              rw [keyKind_strs hs]
              exact wpAny_pure hq
            | [], _, h => exact absurd h (by decide)
            | [v], _, h => exact absurd h (by simp)
          · obtain ⟨i, t, e1⟩ := hS _ hm
            obtain ⟨j, t', e2⟩ := hS _ hm'
            show wpAny (model X.prog X.w) _ (keyLt' oneType' p.1 q.1) (fun r s' => s' = _ ∧ r = decide (ea p.1 < ea q.1)) (fun _ _ => False) _
            rw [e1, e2, keyLt'_oneType]
            refine oneLt_str ⟨rfl, decide_eq_decide.mpr ?_⟩
            have := eS_lt i.cps.toList j.cps.toList [] []
            rw [List.append_nil, List.append_nil] at this
            show i.cps.toList < j.cps.toList ↔ eS i < eS j
            rw [eS, eS, this]
            by_cases e : i.cps.toList = j.cps.toList
            · rw [if_pos e, e]
              exact ⟨fun h => absurd h (List.lt_irrefl _), fun h => absurd h (List.lt_irrefl _)⟩
            · rw [if_neg e]
      · have hi : ∀ z ∈ zs, IsTp s.heap (kn :: ks) z.2.2 ∧ tv s.heap z.2.2 = eD z.1 := fun z hz => by
          obtain ⟨es, e1, c⟩ := sk _ (mem_ds z hz)
          exact tp_rel I (z3 z hz).1 (z3 z hz).2 e1 c
        have hT : ∀ v ∈ its, IsTp s.heap (kn :: ks) v := fun v hv => by
          rw [← z2] at hv
          obtain ⟨z, hz, rfl⟩ := List.mem_map.mp hv
          exact (hi z hz).1
        refine fin (tv s.heap) (fun z hz => (hi z hz).2) fun h2 h₁ a ha kk => ?_
        have kk' : ∀ b o, s.heap.get? b = some o → o.cls = .type "tuple" → h₁.get? b = some o := fun b o e _ => (kk b o e).2
        have := tup_sortable (prog := X.prog) (w := X.w) (A := X.A.in1.in1) (s := { s with heap := h₁ }) (a := a) (vs := its) (k := kn) (ks := ks) (by omega) (fun v hm => (hT v hm).keeps kk') fun o e => by
          have e' : some o = some (seqObj "list" its.toArray 0) := e.symm.trans ha
          cases e'
          intro c
          exact absurd (Value.type.inj c) (by decide)
        intro h' keep
        obtain ⟨κ, c1, c2⟩ := this h' keep
        refine ⟨κ, c1, fun p q hm hm' => wpAny_mono (c2 p q hm hm') (fun r' s' hh => ⟨hh.1, hh.2.trans ?_⟩) fun _ _ z => z⟩
        show decide (tv h₁ p.1 < tv h₁ q.1) = decide (tv s.heap p.1 < tv s.heap q.1)
        rw [(hT _ hm).tv kk', (hT _ hm').tv kk']
end
end DL
/-! DLr: list(reversed(x)). -/
namespace DL
open PySem PySem.Spec L2 RT
open PyProof.Rows hiding St

theorem nolen_rt : typeLookup (.type "reversed") "__len__" = pure none := by rw [typeLookup_type, builtinLookup_eq_fast]; kernel_rfl
theorem hint_rt : typeLookup (.type "reversed") "__length_hint__" = pure (some (.builtin "reversed.__length_hint__")) := by rw [typeLookup_type, builtinLookup_eq_fast]; kernel_rfl
section
variable {prog : Program} {w : World} {A : Around} {E : Value → Shared → Prop} {s : Shared}
theorem hintq_lri {it : Addr} {Q : Bool → Shared → Prop} (hT : s.TypeIs (.ref it) "list_reverseiterator") (h : Q false s) : wpAny (model prog w) A (Builtin.List.listLengthHint (.ref it)) Q E s := by
  unfold Builtin.List.listLengthHint
  refine wpAny_bind (wpAny_specialOf hT nolen_lri ?_)
  show wpAny _ A (specialOf (Value.ref it) (Str.ofString "__length_hint__") >>= _) _ _ _
  refine wpAny_bind (wpAny_specialOf hT hint_lri ?_)
  generalize hid : ("list_reverseiterator.__length_hint__" : String) = id0
  wp_delta
  rw [show splitId id0 = some ("list_reverseiterator", "__length_hint__") from by subst hid; decide +kernel]
  subst hid
  refine wpAny_bind (wpAny_isInstance (b := true) hT (by rw [isSubtype_type]; kernel_rfl) ?_)
  exact wpAny_pure h
theorem plain_rt_hint : plainId "reversed.__length_hint__" = true := by decide +kernel
theorem slot_rt_hint : Slot "reversed" "__length_hint__" "reversed.__length_hint__" :=
  .of (owner := "reversed") (n := "__length_hint__") (by rw [typeLookup_type, builtinLookup_eq_fast]; kernel_rfl) (by decide +kernel) (by decide +kernel) (by decide +kernel)
    (by first | exact .inl (by decide +kernel) | exact .inr (by decide +kernel)) (by rw [isSubtype_type]; kernel_rfl)
theorem entry_rt_hint : entryFor table "reversed.__length_hint__" = some Builtin.«reversed.__length_hint__» := entryFor_of_tree (by kernel_rfl)
theorem args_rt_hint (a : Value) : argsOk "reversed.__length_hint__" ⟨[a], []⟩ := by
  unfold argsOk; rw [signature?_of (id := "reversed.__length_hint__") (n := ['_', '_', 't', 'n', 'i', 'h', '_', 'h', 't', 'g', 'n', 'e', 'l', '_', '_']) (o := ['d', 'e', 's', 'r', 'e', 'v', 'e', 'r']) (by kernel_rfl) owner_rt]; kernel_rfl
theorem bind_rt_hint (self : Value) : bindSpecial (.builtin "reversed.__length_hint__") self = pure (.builtin "reversed.__length_hint__", [self]) := by
  unfold bindSpecial
  rw [show typeOf (.builtin "reversed.__length_hint__") = pure (.type "method_descriptor") from by show builtinType _ = _; rw [builtinType_eq_fast]; kernel_rfl]
  rfl
theorem hintq_rt {it t : Addr} {items : Array Value} {Q : Bool → Shared → Prop} (hit : IsRt s.heap it t ((items.size : Int) - 1)) (ht : IsTup s.heap t items) (hz : items.size ≤ sizeLine) (h : ∀ b tk, Q b { s with toks := tk }) :
    wpAny (model prog w) A (Builtin.List.listLengthHint (.ref it)) Q E s := by
  have hT := hit.typeIs
  obtain ⟨o, ho, hc, hd⟩ := id hit
  unfold Builtin.List.listLengthHint
  refine wpAny_bind (wpAny_specialOf hT nolen_rt ?_)
  show wpAny _ A (specialOf (Value.ref it) (Str.ofString "__length_hint__") >>= _) _ _ _
  refine wpAny_bind (wpAny_specialOf hT hint_rt ?_)
  generalize hid : ("reversed.__length_hint__" : String) = id0
  wp_delta
  rw [show splitId id0 = some ("reversed", "__length_hint__") from by subst hid; decide +kernel]
  subst hid
  refine wpAny_bind (wpAny_isInstance (b := true) hT (by rw [isSubtype_type]; kernel_rfl) ?_)
  try rw [if_neg (by decide)]
  try dsimp only
  rw [if_neg (by decide +kernel)]
  refine wpAny_bind (wpAny_rule ?_)
  rw [bind_rt_hint]
  refine wpAny_bind (wpAny_pure ?_)
  refine wpAny_bind (wpAny_attempt (wpAny_call_entry slot_rt_hint hT entry_rt_hint ?_ (args_rt_hint _)))
  unfold Builtin.«reversed.__length_hint__»
  refine wpAny_bind (wpAny_of_eq (a := Value.ref it) rfl ?_)
  try dsimp only
  refine wpAny_bind (wpAny_field ho hd (x := .ref t) rfl ?_)
  try dsimp only
  have hne : ¬ (Value.ref t == Value.none) = true := fun z => by
    have := eq_of_beq z
    cases this
  rw [if_neg hne]
  have hz' := hz
  rw [sizeLine_eq] at hz'
  refine wpAny_bind (len_tuple ht (by omega) ?_)
  refine wpAny_bind (wpAny_of_eq (a := some ((items.size : Nat) : Int)) rfl ?_)
  try dsimp only
  refine wpAny_bind (wpAny_field (s := { s with toks := s.toks + 1 + 1 }) ho hd (x := rawInt ((items.size : Int) - 1)) rfl ?_)
  show wpAny _ _ (if (items.size : Int) < ((items.size : Int) - 1) + 1 then _ else _) _ _ _
  rw [if_neg (by omega)]
  unfold retInt
  refine wpAny_bind (wpAny_mkInt (wpAny_pure ⟨_, rfl, ?_⟩))
  refine wpAny_bind (wpAny_of_eq (a := some (((items.size : Int) - 1) + 1)) rfl ?_)
  try dsimp only
  rw [if_neg (by
    simp only [Builtin.List.listFitsIndex, Bool.not_eq_true', Bool.and_eq_false_iff, decide_eq_false_iff_not]
    omega)]
  rw [if_neg (by omega)]
  rw [if_neg (by
    simp only [Builtin.List.listTooLong, decide_eq_true_eq]
    omega)]
  exact wpAny_pure (h _ _)
/-- a walk over reversed(a tuple) -/
theorem walks_tupRev (hh : A.handled = none) (I t : Addr) (hne : t ≠ I) (items : Array Value) (hz : items.size ≤ sizeLine) :
    Walks prog w A I [I, t] [I] items.size (fun i v => items[items.size - 1 - i]? = some v) (fun i h => i ≤ items.size ∧ IsRt h I t ((items.size : Int) - 1 - (i : Int)) ∧ IsTup h t items) where
  sub := fun b hb => by simp at hb; simp [hb]
  frame := fun _ _ _ x hk => ⟨x.1, x.2.1.at fun o e => hk I (by simp) o e, by obtain ⟨o, ho, r⟩ := x.2.2; exact ⟨o, hk t (by simp) o ho, r⟩⟩
  item := fun i s Q E hi x hQ => by
    have e : (items.size : Int) - 1 - (i : Int) = ((items.size - 1 - i : Nat) : Int) := by omega
    have hit := x.2.1
    rw [e] at hit
    have hx : items[items.size - 1 - i]? = some (items[items.size - 1 - i]'(by omega)) := Array.getElem?_eq_getElem (by omega)
    refine next_rt_item hit x.2.2 hx hz fun h' hit' hs' => ?_
    have e2 : ((items.size - 1 - i : Nat) : Int) - 1 = (items.size : Int) - 1 - ((i + 1 : Nat) : Int) := by omega
    rw [e2] at hit'
    obtain ⟨o, ho, r⟩ := x.2.2
    exact hQ _ h' (s.toks + 1) hx ⟨hi, hit', ⟨o, (hs'.2 t hne).trans ho, r⟩⟩ fun b o hb eo => hs'.extBut b o (fun h => hb (by simp [h])) eo
  done := fun s Q E x hQ => by
    have e : (items.size : Int) - 1 - (items.size : Int) = -1 := by omega
    have hit := x.2.1
    rw [e] at hit
    exact next_rt_end hh hit fun h' he' => hQ h' s.toks fun b o hb eo => he' b o (fun h => hb (by simp [h])) eo
  self := fun _ _ _ _ x hQ => iter_rt x.2.1 hQ

/-- list(it), it an iterator that gives itself -/
theorem self_extend {T : String} {it d : Addr} {n : Nat} {P : Nat → Value → Prop} {St : Nat → Heap → Prop} {R : Result → Shared → Prop} (W : Walks prog w A.in1 it [it, d] [it] n P St) (hh : A.handled = none) (hT : ∀ s : Shared, St 0 s.heap → s.TypeIs (.ref it) T) (n1 : T ≠ "list") (n2 : T ≠ "tuple")
    (hint : ∀ (A : Around) (E : Value → Shared → Prop) (s : Shared) (Q : Bool → Shared → Prop), St 0 s.heap → (∀ b tk, Q b { s with toks := tk }) → wpAny (model prog w) A (Builtin.List.listLengthHint (.ref it)) Q E s)
    (st : St 0 s.heap) (S : Addr) (hSr : S ≠ it) (hSd : S ≠ d) (res : Value) (c₀ : Nat) (hS : s.heap.get? S = some { cls := .type "list", data := .seq #[] c₀ })
    (hR : ∀ h' tk acc' c', (∀ b o, b ≠ S → b ≠ it → s.heap.get? b = some o → h'.get? b = some o) → h'.get? S = some { cls := .type "list", dict := none, data := .seq acc' c', slots := #[] } → ItemsOf P acc' n → R (.ok (.ret res)) { s with heap := h', toks := tk }) (hn : n ≤ sizeLine) :
    wpAny (model prog w) A.in1 (Builtin.List.listExtendWith (.ref S) (.ref it) res)
      (fun fin s' => match fin with | .done f => R (.ok f) s' | .again c' => c'.quiet = true ∧ codeAny (model prog w) A c' R s') (fun e s' => R (.error e) s') s := by
  have hSf : S ∉ [it, d] := by simp only [List.mem_cons, List.not_mem_nil, or_false, not_or]; exact ⟨hSr, hSd⟩
  have key : ∀ (h : Heap) (c₁ tk : Nat), St 0 h → (∀ b o, b ≠ S → b ≠ it → s.heap.get? b = some o → h.get? b = some o) →
      h.get? S = some { cls := .type "list", data := .seq #[] c₁ } → codeAny (model prog w) A (.builtin "list.extend.loop" ⟨[.ref S, .ref it, res], []⟩) R { s with heap := h, toks := tk } := by
    intro h c₁ tk hst hk hS₁
    refine codeAny_extend_loopS W.toS hn S hSf res n 0 _ #[] c₁ rfl (Nat.zero_le _) hst hS₁ (ItemsOf.nil _) fun s' acc' c' hm hS' hacc => ?_
    rw [Moved.eq_with hm]
    refine hR s'.heap s'.toks acc' c' (fun b o hb hb2 e => hm.heap b o (fun hmem => ?_) (hk b o hb hb2 e)) hS' hacc
    rcases List.mem_cons.mp hmem with e' | hmem
    · exact hb e'
    · exact hb2 (List.mem_singleton.mp hmem)
  have b1 : (Value.type T == Value.type "list") = false := beq_eq_false_iff_ne.mpr fun e => n1 (Value.type.inj e)
  have b2 : (Value.type T == Value.type "tuple") = false := beq_eq_false_iff_ne.mpr fun e => n2 (Value.type.inj e)
  unfold Builtin.List.listExtendWith
  refine wpAny_bind (wpAny_typeOf (T := T) (hT s st) ?_)
  have h1 : Builtin.List.listSameRef (.ref S) (.ref it) = false := by simp [Builtin.List.listSameRef, hSr]
  simp only [h1, b1, b2, Bool.or_false, Bool.false_eq_true, if_false]
  refine wpAny_bind (W.self _ _ _ _ st ?_)
  refine wpAny_bind (wpAny_holding (hint _ _ _ _ st fun b tk => ?_))
  refine wpAny_ite_split (fun _ => ?_) (fun _ => wpAny_pure ⟨plainId_quiet PySem.F.plain_extend_loop _, key _ c₀ _ st (fun b o _ _ e => e) hS⟩)
  refine wpAny_bind (wpAny_rule ?_)
  refine wpAny_bind ?_
  show wpAny _ _ (updateSeq S (·.push .none) >>= fun _ => updateSeq S (·.pop)) _ _ _
  refine wpAny_bind (wpAny_updateSeq (s := { s with toks := tk }) hS rfl ?_)
  have hS₂ := Heap.get?_update_self (Obj.mapSeq (·.push Value.none)) hS rfl
  refine wpAny_updateSeq (hz := by seq_fits) hS₂ rfl ?_
  have hS₃ := Heap.get?_update_self (Obj.mapSeq (·.pop)) hS₂ rfl
  refine wpAny_pure ⟨plainId_quiet PySem.F.plain_extend_loop _, key _ _ _ ?_ (fun b o hb _ e => ?_) hS₃⟩
  · refine W.frame 0 _ _ st fun b hb o e => ?_
    have hbS : b ≠ S := fun h => hSf (h ▸ hb)
    exact (Heap.get?_update_other _ _ (Ne.symm hbS)).trans ((Heap.get?_update_other _ _ (Ne.symm hbS)).trans e)
  · exact (Heap.get?_update_other _ _ (Ne.symm hb)).trans ((Heap.get?_update_other _ _ (Ne.symm hb)).trans e)
theorem self_init {T : String} {it d : Addr} {n : Nat} {P : Nat → Value → Prop} {St : Nat → Heap → Prop} {R : Result → Shared → Prop} (W : Walks prog w A.in1 it [it, d] [it] n P St) (hh : A.handled = none) (hT : ∀ s : Shared, St 0 s.heap → s.TypeIs (.ref it) T) (n1 : T ≠ "list") (n2 : T ≠ "tuple")
    (hint : ∀ (A : Around) (E : Value → Shared → Prop) (s : Shared) (Q : Bool → Shared → Prop), St 0 s.heap → (∀ b tk, Q b { s with toks := tk }) → wpAny (model prog w) A (Builtin.List.listLengthHint (.ref it)) Q E s)
    (st : St 0 s.heap) (S : Addr) (hSr : S ≠ it) (hSd : S ≠ d) (hS : s.heap.get? S = some { cls := .type "list", data := .seq #[] })
    (hR : ∀ h' tk acc' c', (∀ b o, b ≠ S → b ≠ it → s.heap.get? b = some o → h'.get? b = some o) → h'.get? S = some { cls := .type "list", dict := none, data := .seq acc' c', slots := #[] } → ItemsOf P acc' n → R (.ok (.ret .none)) { s with heap := h', toks := tk }) (hn : n ≤ sizeLine) :
    wpAny (model prog w) A.in1 (Builtin.«list.__init__» ⟨[.ref S, .ref it], []⟩)
      (fun fin s' => match fin with | .done f => R (.ok f) s' | .again c' => c'.quiet = true ∧ codeAny (model prog w) A c' R s') (fun e s' => R (.error e) s') s := by
  show wpAny _ _ (do let old ← Builtin.List.listItems (.ref S); Builtin.List.listUpdate (.ref S) (fun _ => #[]); letGo old.toList.reverse; Builtin.List.listExtendWith (.ref S) (.ref it) .none) _ _ s
  refine wpAny_bind ?_
  unfold Builtin.List.listItems
  refine wpAny_bind (wpAny_seqItems hS rfl (wpAny_pure ?_))
  show wpAny _ _ (updateSeq S (fun _ => #[]) >>= fun _ => letGo (#[] : Array Value).toList.reverse >>= fun _ => Builtin.List.listExtendWith (.ref S) (.ref it) .none) _ _ s
  refine wpAny_bind (wpAny_updateSeq hS rfl ?_)
  have hS₂ := Heap.get?_update_self (Obj.mapSeq (fun _ => (#[] : Array Value))) hS rfl
  have oth : ∀ b o, b ≠ S → s.heap.get? b = some o → (s.heap.update S (Obj.mapSeq (fun _ => (#[] : Array Value)))).get? b = some o :=
    fun b o hb e => (Heap.get?_update_other _ _ (Ne.symm hb)).trans e
  refine wpAny_bind (wpAny_letGo ?_)
  refine self_extend W hh hT n1 n2 hint (W.frame 0 _ _ st fun b hb o e => oth b o (fun z => ?_) e) S hSr hSd .none _ hS₂ (fun h' tk acc' c' hk hS' hacc => ?_) hn
  · rcases List.mem_cons.mp hb with h | h
    · exact hSr (z.symm.trans h)
    · exact hSd (z.symm.trans (List.mem_singleton.mp h))
  · exact hR h' tk acc' c' (fun b o hb hb2 e => hk b o hb hb2 (oth b o hb e)) hS' hacc
theorem self_list {T : String} {it d : Addr} {n : Nat} {P : Nat → Value → Prop} {St : Nat → Heap → Prop} {Q : Value → Shared → Prop} (W : Walks prog w A.in1.in1 it [it, d] [it] n P St) (hh : A.handled = none) (hT : ∀ s : Shared, St 0 s.heap → s.TypeIs (.ref it) T) (n1 : T ≠ "list") (n2 : T ≠ "tuple")
    (hint : ∀ (A : Around) (E : Value → Shared → Prop) (s : Shared) (Q : Bool → Shared → Prop), St 0 s.heap → (∀ b tk, Q b { s with toks := tk }) → wpAny (model prog w) A (Builtin.List.listLengthHint (.ref it)) Q E s)
    (st : St 0 s.heap) (l1 : it < s.heap.objs.size) (l2 : d < s.heap.objs.size) (hn : n ≤ sizeLine)
    (hQ : ∀ h' tk acc' c', (∀ b o, b ≠ it → s.heap.get? b = some o → h'.get? b = some o) → h'.get? s.heap.objs.size = some { cls := .type "list", dict := none, data := .seq acc' c', slots := #[] } → ItemsOf P acc' n → Q (.ref s.heap.objs.size) { s with heap := h', toks := tk }) :
    wpAny (model prog w) A (call (.type "list") [.ref it]) Q E s := by
  refine callType_codes (Q₁ := fun obj s₁ => obj = .ref s.heap.objs.size ∧ s₁ = { s with heap := s.heap.push { cls := .type "list", data := .seq #[] } }) PySem.F.called_list (PySem.F.typeCall_list_1 _) PySem.F.entry_list_init
    (code_list_new _ ⟨rfl, rfl⟩) fun obj s₁ h₁ => ?_
  obtain ⟨rfl, rfl⟩ := h₁
  have hS : (s.heap.push { cls := .type "list", data := .seq #[] }).get? s.heap.objs.size = some { cls := .type "list", data := .seq #[] } := Heap.get?_push_size _ rfl
  refine ⟨⟨_, hS, rfl⟩, PySem.F.args_list_init_2 _ _, self_init (A := A.in1) W hh hT n1 n2 hint (W.frame 0 _ _ st fun b _ o e => Heap.get?_push_of_some _ e) _ (Nat.ne_of_gt l1) (Nat.ne_of_gt l2) hS (fun h' tk acc' c' hk hS' hacc => ?_) hn⟩
  exact ⟨rfl, hQ h' tk acc' c' (fun b o hb e => hk b o (Nat.ne_of_lt (Heap.lt_size e)) hb (Heap.get?_push_of_some _ e)) hS' hacc⟩
end
/-- list(reversed(x)) by values -/
def eRv (a : DT) : DT := fun ρ M P => a ρ M fun x M1 => match itemsD x M1 with
  | some ds => ∀ p, M1 p = none → P (.ref p) (mup M1 p (.lst ds.reverse))
  | none => False
theorem DRs.rev {K : PySem.W.Frag} {H : Hp} : ∀ {ds : List D} {vs : List V}, DRs K H ds vs → DRs K H ds.reverse vs.reverse
  | _, _, .nil => .nil
  | _, _, .cons h r => by rw [List.reverse_cons, List.reverse_cons]; exact (DRs.rev r).append (.one h)
section
variable {X : Cx}
def tRv (K : PySem.W.Frag) (te : TE) : TE := fun σ H Q => te σ H fun v H1 => ∃ (a : Addr) (xs : List V), v = .ref a ∧ (SqL K H1 a xs ∨ SqT K H1 a xs) ∧ ∀ q, H1 q = none → Q (.ref q) (upd H1 q (.lst xs.reverse))
theorem pe_listRev {e : Expr} {te : TE} {p p2 pos pos2 : Pos} (hc : X.calm = true) (hg : Gl X "list") (hm : X.mg "list" = none) (hg2 : Gl X "reversed") (hm2 : X.mg "reversed" = none) (he : PE X e te)
    (hs : starEach [e] X.env = (false, eval e X.env) :: starEach [] X.env)
    (hs2 : starEach [.Call (.Name "reversed" p2) [e] [] pos2] X.env = (false, eval (.Call (.Name "reversed" p2) [e] [] pos2) X.env) :: starEach [] X.env := by rfl) :
    PE X (.Call (.Name "list" p) [.Call (.Name "reversed" p2) [e] [] pos2] [] pos) (tRv X.K te) := by
  refine ⟨fun pins s σ H Q I h => ?_⟩
  refine Call_ (ld_blt I hg hm (by decide +kernel : bootBuiltins "list" = some (.type "list")) (PyProof.Rows.callWith_type1 (args_cons (Call_ (ld_blt I hg2 hm2 PyProof.Rows.boot_reversed (PyProof.Rows.callWith_type1 (args_cons (thn (he.run pins s σ H _ I h) fun u s1 ⟨v, H1, I1, r1, q1⟩ => args_nil ?_) hs) hs rfl))) hs2) hs2 rfl))
  obtain ⟨a, xs, ev, hq, q⟩ := q1
  subst ev
  obtain rfl : u = Value.ref a := r1
  have fin : ∀ (its : List Value) (s2 : Shared) (H2 : s2.heap.objs.size = s1.heap.objs.size + 1) (h' : Heap) (tk c' : Nat) (acc : Array Value), Vals xs its → xs.length ≤ sizeLine → Inv X pins σ H1 s2 → (∀ b ∈ [s1.heap.objs.size], FpOk X pins H1 b) →
      (∀ b o, b ≠ s1.heap.objs.size → s2.heap.get? b = some o → h'.get? b = some o) → h'.get? s2.heap.objs.size = some { cls := .type "list", dict := none, data := .seq acc c', slots := #[] } → ItemsOf (fun i v => its.toArray[its.toArray.size - 1 - i]? = some v) acc its.toArray.size →
      EP X pins σ Q (.ref s2.heap.objs.size) { s2 with heap := h', toks := tk } := fun its s2 H2 h' tk c' acc rv hz I2 hf hk hD hi =>
    ⟨.ref s2.heap.objs.size, upd H1 s2.heap.objs.size (.lst xs.reverse), I2.turnedNew (t' := tk) (ch := [s1.heap.objs.size]) (fun b o hb e => hk b o (fun z => hb (by simp [z])) e) hf (Nat.le_refl _)
      ⟨by rw [List.length_reverse]; exact hz, acc.toList, c', vals_rev rv hi, by rw [Array.toArray_toList]; exact hD⟩, rfl, q _ (I2.hok.fresh (Nat.le_refl _))⟩
  rcases hq with hq | hq
  · obtain ⟨its, rv, p', hz⟩ := I1.list hq
    refine call_reversed_list p'.isList (args_nil ?_)
    have k0 : ∀ b o, s1.heap.get? b = some o → (s1.heap.push (revObj a ((its.toArray.size : Int) - 1))).get? b = some o := fun b o e => Heap.get?_push_of_some _ e
    have I2 : Inv X pins σ H1 { s1 with heap := s1.heap.push (revObj a ((its.toArray.size : Int) - 1)) } := I1.kept (t' := s1.toks) k0
    have hf := I1.fpOk (H' := H1) (b := s1.heap.objs.size) (Nat.le_refl _) (I1.hok.fresh (Nat.le_refl _))
    have hl := p'.isList
    obtain ⟨ol, hol, _⟩ := id hl
    have hne : a ≠ s1.heap.objs.size := Nat.ne_of_lt (Heap.lt_size hol)
    have hn : its.toArray.size ≤ sizeLine := by rw [List.size_toArray, ← rv.length]; exact hz
    have hit : (s1.heap.push (revObj a ((its.toArray.size : Int) - 1))).IsRevIter s1.heap.objs.size a ((its.toArray.size : Int) - 1 - ((0 : Nat) : Int)) := by
      rw [show (its.toArray.size : Int) - 1 - ((0 : Nat) : Int) = (its.toArray.size : Int) - 1 by omega]
      exact ⟨_, Heap.get?_push_size _ rfl, rfl, rfl⟩
    have W := Walks.listRev (prog := X.prog) (w := X.w) (A := X.A.in1.in1) (I1.ok.hd hc) s1.heap.objs.size a hne its.toArray
    have sz : (s1.heap.push (revObj a ((its.toArray.size : Int) - 1))).objs.size = s1.heap.objs.size + 1 := size_push' ..
    have la := Heap.lt_size hol
    refine self_list (T := "list_reverseiterator") (s := { s1 with heap := s1.heap.push (revObj a ((its.toArray.size : Int) - 1)) }) W (I1.ok.hd hc) (fun s st => st.2.1.typeIs) (by decide) (by decide)
      (fun A E s Q st h => hintq_lri st.2.1.typeIs (h false s.toks)) ⟨Nat.zero_le _, hit, hl.push _⟩ (by show s1.heap.objs.size < (s1.heap.push _).objs.size; rw [sz]; omega) (by show a < (s1.heap.push _).objs.size; rw [sz]; exact Nat.lt_succ_of_lt la) hn fun h' tk acc c' hk hS hi => ?_
    exact fin its _ (size_push' ..) h' tk c' acc rv hz I2 (fun b hb => by rw [List.mem_singleton.mp hb]; exact hf) hk hS hi
  · obtain ⟨its, rv, p', hz⟩ := I1.tuple hq
    have hn : its.toArray.size ≤ sizeLine := by rw [List.size_toArray, ← rv.length]; exact hz
    have hz63 : (its.toArray.size : Int) < 2 ^ 63 := by
      have := hn
      rw [sizeLine_eq] at this
      omega
    refine call_reversed_tup p' (fun A E Q k => len_tuple p' hz63 k) (args_nil ?_)
    have k0 : ∀ b o, s1.heap.get? b = some o → (s1.heap.push (rtObj a ((its.toArray.size : Int) - 1))).get? b = some o := fun b o e => Heap.get?_push_of_some _ e
    have I2 : Inv X pins σ H1 { s1 with heap := s1.heap.push (rtObj a ((its.toArray.size : Int) - 1)), toks := s1.toks + 1 + 1 } := I1.kept (t' := s1.toks + 1 + 1) k0
    have hf := I1.fpOk (H' := H1) (b := s1.heap.objs.size) (Nat.le_refl _) (I1.hok.fresh (Nat.le_refl _))
    obtain ⟨ol, hol, ho2⟩ := id p'
    have hne : a ≠ s1.heap.objs.size := Nat.ne_of_lt (Heap.lt_size hol)
    have hit : IsRt (s1.heap.push (rtObj a ((its.toArray.size : Int) - 1))) s1.heap.objs.size a ((its.toArray.size : Int) - 1 - ((0 : Nat) : Int)) := by
      rw [show (its.toArray.size : Int) - 1 - ((0 : Nat) : Int) = (its.toArray.size : Int) - 1 by omega]
      exact ⟨_, Heap.get?_push_size _ rfl, rfl, rfl⟩
    have W := walks_tupRev (prog := X.prog) (w := X.w) (A := X.A.in1.in1) (I1.ok.hd hc) s1.heap.objs.size a hne its.toArray hn
    have sz : (s1.heap.push (rtObj a ((its.toArray.size : Int) - 1))).objs.size = s1.heap.objs.size + 1 := size_push' ..
    have la := Heap.lt_size hol
    refine self_list (T := "reversed") (s := { s1 with heap := s1.heap.push (rtObj a ((its.toArray.size : Int) - 1)), toks := s1.toks + 1 + 1 }) W (I1.ok.hd hc) (fun s st => st.2.1.typeIs) (by decide) (by decide)
      (fun A E s Q st h => hintq_rt (by have := st.2.1; rw [show (its.toArray.size : Int) - 1 - ((0 : Nat) : Int) = (its.toArray.size : Int) - 1 by omega] at this; exact this) st.2.2 hn h) ⟨Nat.zero_le _, hit, ⟨ol, Heap.get?_push_of_some _ hol, ho2⟩⟩ (by show s1.heap.objs.size < (s1.heap.push _).objs.size; rw [sz]; omega) (by show a < (s1.heap.push _).objs.size; rw [sz]; exact Nat.lt_succ_of_lt la) hn fun h' tk acc c' hk hS hi => ?_
    exact fin its _ (size_push' ..) h' tk c' acc rv hz I2 (fun b hb => by rw [List.mem_singleton.mp hb]; exact hf) hk hS hi
theorem dx_rev {e : Expr} {wa : DT} {p p2 pos pos2 : Pos} (hc : X.calm = true) (hg : Gl X "list") (hm : X.mg "list" = none) (hg2 : Gl X "reversed") (hm2 : X.mg "reversed" = none) (he : Dx X e wa)
    (hs : starEach [e] X.env = (false, eval e X.env) :: starEach [] X.env) : Dx X (.Call (.Name "list" p) [.Call (.Name "reversed" p2) [e] [] pos2] [] pos) (eRv wa) :=
  pe_wk (pe_listRev hc hg hm hg2 hm2 he hs) fun σ H Q ⟨ρ, M, P, er, hr, w, k⟩ =>
    ⟨ρ, M, _, er, hr, w, fun x M1 v H1 p1 e1 d1 h1 => by
      split at p1
      · rename_i ds eo
        obtain ⟨a, vs, rfl, q, r⟩ := items_of d1 h1 eo
        exact ⟨a, vs, rfl, q, fun z nz => k _ _ _ _ (p1 z (h1.free nz)) (e1.trans (.fresh nz)) (.ref z) (h1.new nz r.rev)⟩
      · exact p1.elim⟩
end

/-! ### tuple(reversed(x)) -/
section
variable {prog : Program} {w : World} {A : Around} {E : Value → Shared → Prop} {s : Shared}
theorem iadd_rt {it t S : Addr} {items : Array Value} {R : Result → Shared → Prop} (hh : A.handled = none) (hit : IsRt s.heap it t ((items.size : Int) - 1)) (ht : IsTup s.heap t items) (hne : t ≠ it) (hn : items.size ≤ sizeLine)
    (hSi : S ≠ it) (hSl : S ≠ t) (hS : s.heap.get? S = some { cls := .type "list", data := .seq ([] : List Value).toArray })
    (hR : ∀ h' tk acc' c', (∀ b o, b ≠ S → b ≠ it → s.heap.get? b = some o → h'.get? b = some o) → h'.get? S = some { cls := .type "list", dict := none, data := .seq acc' c', slots := #[] } → ItemsOf (fun i v => items[items.size - 1 - i]? = some v) acc' items.size → R (.ok (.ret (.ref S))) { s with heap := h', toks := tk }) :
    codeAny (model prog w) A (.builtin "list.__iadd__" ⟨[.ref S, .ref it], []⟩) R s := by
  have W := walks_tupRev (prog := prog) (w := w) (A := A.in1) hh it t hne items hn
  refine codeAny_builtin F.entry_list_iadd ?_
  rw [Around.under_plainId F.plain_list_iadd _]
  show wpAny _ A.in1 (Builtin.List.listExtendWith (.ref S) (.ref it) (.ref S)) _ _ _
  have hit1 : IsRt s.heap it t ((items.size : Int) - 1 - ((0 : Nat) : Int)) := by
    rw [show (items.size : Int) - 1 - ((0 : Nat) : Int) = (items.size : Int) - 1 by omega]
    exact hit
  exact self_extend (T := "reversed") (s := s) (R := R) W hh (fun s st => st.2.1.typeIs) (by decide) (by decide)
    (fun A E s Q st h => hintq_rt (by have := st.2.1; rw [show (items.size : Int) - 1 - ((0 : Nat) : Int) = (items.size : Int) - 1 by omega] at this; exact this) st.2.2 hn h)
    ⟨Nat.zero_le _, hit1, ht⟩ S hSi hSl (.ref S) _ hS hR hn
theorem collect_rt {it t : Addr} {items : Array Value} {Q : List Value → Shared → Prop} (hh : A.handled = none) (hit : IsRt s.heap it t ((items.size : Int) - 1)) (ht : IsTup s.heap t items) (hne : t ≠ it) (hn : items.size ≤ sizeLine)
    (hQ : ∀ (h' : Heap) (tk : Nat) (acc : Array Value), (∀ b o, b ≠ it → s.heap.get? b = some o → h'.get? b = some o) → ItemsOf (fun i v => items[items.size - 1 - i]? = some v) acc items.size → Q acc.toList { s with heap := h', toks := tk }) :
    wpAny (model prog w) A (collect (.ref it)) Q E s := by
  obtain ⟨oi, hoi, _⟩ := id hit
  obtain ⟨ol, hol, _⟩ := id ht
  have hSi : s.heap.objs.size ≠ it := Nat.ne_of_gt (Heap.lt_size hoi)
  have hSl : s.heap.objs.size ≠ t := Nat.ne_of_gt (Heap.lt_size hol)
  unfold collect
  refine wpAny_bind (wpAny_runValue (codeAny_builtin F.entry_proto_collect ?_))
  rw [Around.under_plainId F.plain_proto_collect _]
  show wpAny _ A.in1 (newList [] >>= fun l' => again (.builtin "list.__iadd__" ⟨[l', .ref it], []⟩)) _ _ s
  refine wpAny_bind (wpAny_newObj_type ?_)
  have hS₁ : (s.heap.push { cls := .type "list", data := .seq ([] : List Value).toArray }).get? s.heap.objs.size = some { cls := .type "list", data := .seq ([] : List Value).toArray } := Heap.get?_push_size _ rfl
  have hit1 : IsRt (s.heap.push { cls := .type "list", data := .seq ([] : List Value).toArray }) it t ((items.size : Int) - 1) := hit.at fun o e => Heap.get?_push_of_some _ e
  have ht1 : IsTup (s.heap.push { cls := .type "list", data := .seq ([] : List Value).toArray }) t items := by
    obtain ⟨o, ho, r⟩ := ht
    exact ⟨o, Heap.get?_push_of_some _ ho, r⟩
  refine wpAny_pure ⟨plainId_quiet F.plain_list_iadd _, iadd_rt (s := { s with heap := s.heap.push { cls := .type "list", data := .seq ([] : List Value).toArray } }) hh hit1 ht1 hne hn hSi hSl hS₁ fun h' tk acc' c' hk hS' hacc => ?_⟩
  show wpAny _ A (load s.heap.objs.size >>= _) _ _ _
  refine wpAny_bind (wpAny_load hS' ?_)
  refine wpAny_pure ?_
  exact hQ h' tk acc' (fun b o hb e => hk b o (fun z => absurd (Heap.lt_size e) (by rw [z]; exact Nat.lt_irrefl _)) hb (Heap.get?_push_of_some _ e)) hacc
theorem code_tuple_new_rt {it t : Addr} {items : Array Value} {Q₁ : Value → Shared → Prop} (hh : A.handled = none) (hit : IsRt s.heap it t ((items.size : Int) - 1)) (ht : IsTup s.heap t items) (hne : t ≠ it) (hn : items.size ≤ sizeLine)
    (h : ∀ (h' : Heap) (tk : Nat) (acc : Array Value), (∀ b o, b ≠ it → s.heap.get? b = some o → h'.get? b = some o) → ItemsOf (fun i v => items[items.size - 1 - i]? = some v) acc items.size →
      Q₁ (.ref h'.objs.size) { s with heap := h'.push { cls := .type "tuple", data := .seq acc }, toks := tk }) :
    codeAny (model prog w) A (.call (.builtin "tuple.__new__") ⟨[.type "tuple", .ref it], []⟩) (wants Q₁ E) s := by
  refine codeAny_of_tree ?_
  show wpAny _ A.in1 (do checkBuiltinCall "tuple.__new__" ⟨[.type "tuple", .ref it], []⟩; again (.builtin "tuple.__new__" ⟨[.type "tuple", .ref it], []⟩)) _ _ s
  refine wpAny_bind (wpAny_of_eq (F.newCall_tuple_1 _) (wpAny_pure ⟨plainId_quiet F.plain_tuple_new _, codeAny_builtin F.entry_tuple_new ?_⟩))
  rw [Around.under_plainId F.plain_tuple_new _]
  have hsub := sub_tuple_self
  have hinit := init_tuple_lookup
  have hmh := madeHere_tuple
  have hTI : s.TypeIs (.ref it) "reversed" := hit.typeIs
  have hh1 : A.in1.handled = none := hh
  wp_walk using wpAny_typeOf hTI, collect_rt (A := A.in1) hh1 hit ht hne hn
  intro h' tk acc hk hacc
  show wpAny _ _ (Builtin.Tuple.tupleExact acc.toList.toArray >>= fun v => ret v) _ _ _
  unfold Builtin.Tuple.tupleExact
  refine wpAny_bind (wpAny_newObj_type ?_ (by show acc.toList.toArray.size ≤ sizeLine; simp only [Array.toArray_toList]; rw [hacc.1]; exact hn))
  refine wpAny_pure ?_
  have e : acc.toList.toArray = acc := by simp
  rw [e]
  exact h h' tk acc hk hacc
theorem call_tuple_rt {it t : Addr} {items : Array Value} {Q : Value → Shared → Prop} (hh : A.handled = none) (hit : IsRt s.heap it t ((items.size : Int) - 1)) (ht : IsTup s.heap t items) (hne : t ≠ it) (hn : items.size ≤ sizeLine)
    (hQ : ∀ (h' : Heap) (tk : Nat) (acc : Array Value), (∀ b o, b ≠ it → s.heap.get? b = some o → h'.get? b = some o) → ItemsOf (fun i v => items[items.size - 1 - i]? = some v) acc items.size →
      Q (.ref h'.objs.size) { s with heap := h'.push { cls := .type "tuple", data := .seq acc }, toks := tk }) :
    wpAny (model prog w) A (call (.type "tuple") [.ref it]) Q E s := by
  refine callType_codes (Q₁ := fun obj s₁ => s₁.TypeIs obj "tuple" ∧ Q obj s₁) F.called_tuple (F.typeCall_tuple_1 _) F.entry_object_init
    (code_tuple_new_rt (A := A.in1) hh hit ht hne hn fun h' tk acc hk hacc => ⟨⟨_, Heap.get?_push_size _ rfl, rfl⟩, hQ h' tk acc hk hacc⟩) fun obj s₁ h₁ => ?_
  exact ⟨h₁.1, F.args_object_init_2 obj _, object_init_meets F.called_tuple.init.lookup F.called_tuple.made (by decide) prog w A.in1 _ s₁ ⟨h₁.1, rfl, h₁.2⟩⟩
end
/-- tuple(reversed(x)) by values -/
def eTr (a : DT) : DT := fun ρ M P => a ρ M fun x M1 => match itemsD x M1 with
  | some ds => P (.tup ds.reverse) M1
  | none => False
section
variable {X : Cx}
def tTr (K : PySem.W.Frag) (te : TE) : TE := fun σ H Q => te σ H fun v H1 => ∃ (a : Addr) (xs : List V), v = .ref a ∧ (SqL K H1 a xs ∨ SqT K H1 a xs) ∧ ∀ q, H1 q = none → Q (.ref q) (upd H1 q (.tup xs.reverse))
theorem pe_tupRevA {e : Expr} {te : TE} {p p2 pos pos2 : Pos} (hc : X.calm = true) (hg : Gl X "tuple") (hm : X.mg "tuple" = none) (hg2 : Gl X "reversed") (hm2 : X.mg "reversed" = none) (he : PE X e te)
    (hs : starEach [e] X.env = (false, eval e X.env) :: starEach [] X.env)
    (hs2 : starEach [.Call (.Name "reversed" p2) [e] [] pos2] X.env = (false, eval (.Call (.Name "reversed" p2) [e] [] pos2) X.env) :: starEach [] X.env := by rfl) :
    PE X (.Call (.Name "tuple" p) [.Call (.Name "reversed" p2) [e] [] pos2] [] pos) (tTr X.K te) := by
  refine ⟨fun pins s σ H Q I h => ?_⟩
  refine Call_ (ld_blt I hg hm (by decide +kernel : bootBuiltins "tuple" = some (.type "tuple")) (PyProof.Rows.callWith_type1 (args_cons (Call_ (ld_blt I hg2 hm2 PyProof.Rows.boot_reversed (PyProof.Rows.callWith_type1 (args_cons (thn (he.run pins s σ H _ I h) fun u s1 ⟨v, H1, I1, r1, q1⟩ => args_nil ?_) hs) hs rfl))) hs2) hs2 rfl))
  obtain ⟨a, xs, ev, hq, q⟩ := q1
  subst ev
  obtain rfl : u = Value.ref a := r1
  rcases hq with hq | hq
  · obtain ⟨its, rv, p', hz⟩ := I1.list hq
    refine call_reversed_list p'.isList (args_nil ?_)
    have k0 : ∀ b o, s1.heap.get? b = some o → (s1.heap.push (revObj a ((its.toArray.size : Int) - 1))).get? b = some o := fun b o e => Heap.get?_push_of_some _ e
    have I2 : Inv X pins σ H1 { s1 with heap := s1.heap.push (revObj a ((its.toArray.size : Int) - 1)) } := I1.kept (t' := s1.toks) k0
    obtain ⟨f0, f1, f2, f3, f4, f5⟩ := I1.fpOk (H' := H1) (b := s1.heap.objs.size) (Nat.le_refl _) (I1.hok.fresh (Nat.le_refl _))
    have hl := p'.isList
    obtain ⟨ol, hol, _⟩ := id hl
    have hne : a ≠ s1.heap.objs.size := Nat.ne_of_lt (Heap.lt_size hol)
    have hn : its.toArray.size ≤ sizeLine := by rw [List.size_toArray, ← rv.length]; exact hz
    refine call_tuple_rev (s := { s1 with heap := s1.heap.push (revObj a ((its.toArray.size : Int) - 1)) }) (I1.ok.hd hc) ⟨_, Heap.get?_push_size _ rfl, rfl, rfl⟩ (hl.push _) hne hn fun h' tk acc hk hi => ?_
    have I3 : Inv X pins σ H1 { s1 with heap := h', toks := tk } := I2.turned (t' := tk) (fun b o hb e => hk b o hb e) f0 f1 f3 f4 f5
    refine ⟨.ref h'.objs.size, upd H1 h'.objs.size (.tup xs.reverse), I3.laid (t' := tk) (fun c o e => Heap.get?_push_of_some _ e) (Nat.le_refl _) (show ObjOk X.prog X.w _ _ _ (.tup xs.reverse) from ⟨by rw [List.length_reverse]; exact hz, acc.toList, vals_rev rv hi, ?_⟩), rfl, q _ (I3.hok.fresh (Nat.le_refl _))⟩
    rw [Array.toArray_toList]
    exact IsTup.new _ _
  · obtain ⟨its, rv, p', hz⟩ := I1.tuple hq
    have hn : its.toArray.size ≤ sizeLine := by rw [List.size_toArray, ← rv.length]; exact hz
    have hz63 : (its.toArray.size : Int) < 2 ^ 63 := by
      have := hn
      rw [sizeLine_eq] at this
      omega
    refine call_reversed_tup p' (fun A E Q k => len_tuple p' hz63 k) (args_nil ?_)
    have k0 : ∀ b o, s1.heap.get? b = some o → (s1.heap.push (rtObj a ((its.toArray.size : Int) - 1))).get? b = some o := fun b o e => Heap.get?_push_of_some _ e
    have I2 : Inv X pins σ H1 { s1 with heap := s1.heap.push (rtObj a ((its.toArray.size : Int) - 1)), toks := s1.toks + 1 + 1 } := I1.kept (t' := s1.toks + 1 + 1) k0
    obtain ⟨f0, f1, f2, f3, f4, f5⟩ := I1.fpOk (H' := H1) (b := s1.heap.objs.size) (Nat.le_refl _) (I1.hok.fresh (Nat.le_refl _))
    obtain ⟨ol, hol, ho2⟩ := id p'
    have hne : a ≠ s1.heap.objs.size := Nat.ne_of_lt (Heap.lt_size hol)
    refine call_tuple_rt (s := { s1 with heap := s1.heap.push (rtObj a ((its.toArray.size : Int) - 1)), toks := s1.toks + 1 + 1 }) (I1.ok.hd hc) ⟨_, Heap.get?_push_size _ rfl, rfl, rfl⟩ ⟨ol, Heap.get?_push_of_some _ hol, ho2⟩ hne hn fun h' tk acc hk hi => ?_
    have I3 : Inv X pins σ H1 { s1 with heap := h', toks := tk } := I2.turned (t' := tk) (fun b o hb e => hk b o hb e) f0 f1 f3 f4 f5
    refine ⟨.ref h'.objs.size, upd H1 h'.objs.size (.tup xs.reverse), I3.laid (t' := tk) (fun c o e => Heap.get?_push_of_some _ e) (Nat.le_refl _) (show ObjOk X.prog X.w _ _ _ (.tup xs.reverse) from ⟨by rw [List.length_reverse]; exact hz, acc.toList, vals_rev rv hi, ?_⟩), rfl, q _ (I3.hok.fresh (Nat.le_refl _))⟩
    rw [Array.toArray_toList]
    exact IsTup.new _ _
theorem dx_trev {e : Expr} {wa : DT} {p p2 pos pos2 : Pos} (hc : X.calm = true) (hg : Gl X "tuple") (hm : X.mg "tuple" = none) (hg2 : Gl X "reversed") (hm2 : X.mg "reversed" = none) (he : Dx X e wa)
    (hs : starEach [e] X.env = (false, eval e X.env) :: starEach [] X.env) : Dx X (.Call (.Name "tuple" p) [.Call (.Name "reversed" p2) [e] [] pos2] [] pos) (eTr wa) :=
  pe_wk (pe_tupRevA hc hg hm hg2 hm2 he hs) fun σ H Q ⟨ρ, M, P, er, hr, w, k⟩ =>
    ⟨ρ, M, _, er, hr, w, fun x M1 v H1 p1 e1 d1 h1 => by
      split at p1
      · rename_i ds eo
        obtain ⟨a, vs, rfl, q, r⟩ := items_of d1 h1 eo
        exact ⟨a, vs, rfl, q, fun z nz => k _ _ _ _ p1 (e1.trans (.fresh nz)) (.tup upd_same (r.rev.mono (.fresh nz))) (h1.fresh nz)⟩
      · exact p1.elim⟩
end
end DL
/-! DLe: statements, loops, comprehensions of the data layer. -/
namespace DL
open PySem PySem.Spec L2
open PyProof.Rows hiding St

/-- the slots at a def's entry -/
def startD (n : Nat) (ds : List D) : Ev := ds.map some ++ List.replicate (n - ds.length) none
structure EndsOk (K : PySem.W.Frag) (H : Hp) (P : De) (D : Ends) : Prop where
  nx : ∀ ρ M σ H', P.nx ρ M → Ext K H H' → ER K H' ρ σ → HR K H' M → D.nx σ H'
  rt : ∀ d M v H', P.rt d M → Ext K H H' → DR K H' d v → HR K H' M → D.rt v H'
  bk : ∀ ρ M σ H', P.bk ρ M → Ext K H H' → ER K H' ρ σ → HR K H' M → D.bk σ H'
  ct : ∀ ρ M σ H', P.ct ρ M → Ext K H H' → ER K H' ρ σ → HR K H' M → D.ct σ H'
theorem EndsOk.mono {K : PySem.W.Frag} {H H1 : Hp} {P : De} {D : Ends} (o : EndsOk K H P D) (x : Ext K H H1) : EndsOk K H1 P D :=
  ⟨fun ρ M σ H' p e => o.nx ρ M σ H' p (x.trans e), fun d M v H' p e => o.rt d M v H' p (x.trans e), fun ρ M σ H' p e => o.bk ρ M σ H' p (x.trans e), fun ρ M σ H' p e => o.ct ρ M σ H' p (x.trans e)⟩
def upS (K : PySem.W.Frag) (w : DS) : TS := fun D σ H => ∃ ρ M P, ER K H ρ σ ∧ HR K H M ∧ w P ρ M ∧ EndsOk K H P D
abbrev Ds (X : Cx) (s : Stmt) (w : DS) : Prop := PS X s (upS X.K w)
abbrev Dss (X : Cx) (s : List Stmt) (w : DS) : Prop := PSs X s (upS X.K w)
theorem ps_wk {X : Cx} {e : Stmt} {t t' : TS} (h : PS X e t) (k : ∀ D σ H, t' D σ H → t D σ H) : PS X e t' := ⟨fun pins s σ H Q I q => h.run pins s σ H Q I (k Q σ H q)⟩
theorem pss_wk {X : Cx} {e : List Stmt} {t t' : TS} (h : PSs X e t) (k : ∀ D σ H, t' D σ H → t D σ H) : PSs X e t' := ⟨fun pins s σ H Q I q => h.run pins s σ H Q I (k Q σ H q)⟩

abbrev DG := D → Ev → Mh → (Ev → Mh → Prop) → Prop
abbrev DGs := List D → Ev → Mh → (Ev → Mh → Prop) → Prop
def upG (K : PySem.W.Frag) (g : DG) : TG := fun v σ H Q => ∃ d ρ M P, DR K H d v ∧ ER K H ρ σ ∧ HR K H M ∧ g d ρ M P ∧ ∀ ρ' M' σ' H', P ρ' M' → Ext K H H' → ER K H' ρ' σ' → HR K H' M' → Q σ' H'
def upGs (K : PySem.W.Frag) (g : DGs) : TGs := fun vs σ H Q => ∃ ds ρ M P, DRs K H ds vs ∧ ER K H ρ σ ∧ HR K H M ∧ g ds ρ M P ∧ ∀ ρ' M' σ' H', P ρ' M' → Ext K H H' → ER K H' ρ' σ' → HR K H' M' → Q σ' H'
abbrev Dg (X : Cx) (tg : Expr) (g : DG) : Prop := PG X tg (upG X.K g)
abbrev Dgs (X : Cx) (ts : List Expr) (g : DGs) : Prop := PGs X ts (upGs X.K g)
theorem pg_wk {X : Cx} {e : Expr} {t t' : TG} (h : PG X e t) (k : ∀ v σ H Q, t' v σ H Q → t v σ H Q) : PG X e t' := ⟨fun pins s σ H v u Q I r q => h.run pins s σ H v u Q I r (k v σ H Q q)⟩
theorem pgs_wk {X : Cx} {e : List Expr} {t t' : TGs} (h : PGs X e t) (k : ∀ v σ H Q, t' v σ H Q → t v σ H Q) : PGs X e t' := ⟨fun pins s σ H v u Q I r q => h.run pins s σ H v u Q I r (k v σ H Q q)⟩

def gN (i : Nat) : DG := fun d ρ M Q => Q (ρ.set i (some d)) M
def gsN : DGs := fun ds ρ M Q => match ds with
  | [] => Q ρ M
  | _ => False
def gsC (g : DG) (r : DGs) : DGs := fun ds ρ M Q => match ds with
  | d :: ds => g d ρ M fun ρ1 M1 => r ds ρ1 M1 Q
  | [] => False
def gT (n : Nat) (g : DGs) : DG := fun d ρ M Q => match d with
  | .tup ds => ds.length = n ∧ g ds ρ M Q
  | .ktp ds => ds.length = n ∧ g ds ρ M Q
  | .ref a => match M a with
    | some (.lst ds) => ds.length = n ∧ g ds ρ M Q
    | _ => False
  | _ => False
def gS (o i : DT) : DG := fun v ρ M Q => o ρ M fun x M1 => i ρ M1 fun y M2 => setD x y v M2 fun M3 => Q ρ M3

/-! ### statements -/
def sNil : DS := fun P ρ M => P.nx ρ M
def sSeq (a b : DS) : DS := fun P ρ M => a { P with nx := fun ρ1 M1 => b P ρ1 M1 } ρ M
def sIf (c : DB) (a b : DS) : DS := fun P ρ M => c ρ M fun k M1 => if k = true then a P ρ M1 else b P ρ M1
def sAsg (e : DT) (g : DG) : DS := fun P ρ M => e ρ M fun d M1 => g d ρ M1 P.nx
def sExp (e : DT) : DS := fun P ρ M => e ρ M fun _ M1 => P.nx ρ M1
def sRet (e : DT) : DS := fun P ρ M => e ρ M P.rt
def sRetN : DS := fun P _ M => P.rt .non M
def sBrk : DS := fun P ρ M => P.bk ρ M
def sCnt : DS := fun P ρ M => P.ct ρ M
def sAug (i : Nat) (r : D → D → Mh → PQ → Prop) (e : DT) : DS := fun P ρ M => match slot ρ i with
  | some x => e ρ M fun y M1 => r x y M1 fun z M2 => P.nx (ρ.set i (some z)) M2
  | none => False
def whileD (c : DB) (b : DS) (P : De) : Nat → Ev → Mh → Prop
  | 0, _, _ => False
  | n + 1, ρ, M => c ρ M fun t M1 => if t = true then b { P with nx := whileD c b P n, ct := whileD c b P n, bk := P.nx } ρ M1 else P.nx ρ M1
def sWh (c : DB) (b : DS) : DS := fun P ρ M => ∃ n, whileD c b P n ρ M
/-- what a loop walks: items, and what must stay true of the heap meanwhile -/
abbrev DI := Ev → Mh → (List D → (Mh → Prop) → Mh → Prop) → Prop
def forD (g : DG) (b : DS) (chk : Mh → Prop) (P : De) : List D → Ev → Mh → Prop
  | [], ρ, M => chk M ∧ P.nx ρ M
  | d :: ds, ρ, M => chk M ∧ g d ρ M fun ρ1 M1 => b { P with nx := forD g b chk P ds, ct := forD g b chk P ds, bk := P.nx } ρ1 M1
def sFor (it : DI) (g : DG) (b : DS) : DS := fun P ρ M => it ρ M fun items chk M1 => forD g b chk P items ρ M1
def sParN (i j : Nat) (a b : DT) : DS := fun P ρ M => a ρ M fun x M1 => b ρ M1 fun y M2 => P.nx ((ρ.set i (some x)).set j (some y)) M2

structure WalkJ (K : PySem.W.Frag) (H0 : Hp) (items : List D) (chk : Mh → Prop) (J : It) : Prop where
  stop : ∀ i H M, Ext K H0 H → HR K H M → chk M → items.length ≤ i → J.stop i H
  go : ∀ i H M d, Ext K H0 H → HR K H M → chk M → items[i]? = some d → J.go i H
  yld : ∀ i H M d x H', Ext K H0 H → HR K H M → chk M → items[i]? = some d → J.yld i H x H' → Ext K H H' ∧ HR K H' M ∧ (∀ p vs, H p = some (.lst vs) → H' p = some (.lst vs)) ∧ DR K H' d x
def upI (K : PySem.W.Frag) (w : DI) : TI := fun σ H R => ∃ ρ M P, ER K H ρ σ ∧ HR K H M ∧ w ρ M P ∧ ∀ items chk M' H' J, P items chk M' → Ext K H H' → HR K H' M' → WalkJ K H' items chk J → R J H'
abbrev Di (X : Cx) (tg it : Expr) (w : DI) : Prop := PI X tg it (upI X.K w)
def seqP (x : D) (M : Mh) (P : List D → (Mh → Prop) → Mh → Prop) : Prop := match x with
  | .tup ds => P ds (fun _ => True) M
  | .ktp ds => P ds (fun _ => True) M
  | .rol ds => P ds (fun _ => True) M
  | .str z => P (z.cps.toList.map fun c => .str ⟨#[c]⟩) (fun _ => True) M
  | .ref a => match M a with
    | some (.lst ds) => P ds (fun M' => M' a = some (.lst ds)) M
    | _ => False
  | _ => False
def iSeq (e : DT) : DI := fun ρ M P => e ρ M fun x M1 => seqP x M1 P
def rngI (lo : Int) (n : Nat) : List D := (List.range n).map fun (k : Nat) => .int (lo + (k : Int))
def iRg1 (a : DA) : DI := fun ρ M P => a ρ M fun xs M1 => match xs with
  | [.int j] => (-(2 ^ 62) ≤ j ∧ j < 2 ^ 62) ∧ P (rngI 0 j.toNat) (fun _ => True) M1
  | _ => False
def iRg2 (a : DA) : DI := fun ρ M P => a ρ M fun xs M1 => match xs with
  | [.int i, .int j] => (-(2 ^ 62) ≤ i ∧ i < 2 ^ 62 ∧ -(2 ^ 62) ≤ j ∧ j < 2 ^ 62) ∧ P (rngI i (j - i).toNat) (fun _ => True) M1
  | _ => False

/-- range with a step above 0, of small numbers -/
def rngC (lo c : Int) (n : Nat) : List D := (List.range n).map fun (k : Nat) => .int (lo + (k : Int) * c)
def stepN (i j c : Int) : Nat := (Builtin.Range.rangeSize i j c).toNat
theorem stepN_lt {i j c : Int} {k : Nat} (h : 0 < c) (hk : k < stepN i j c) : i + (k : Int) * c < j := by
  unfold stepN Builtin.Range.rangeSize at hk
  rw [if_pos h] at hk
  split at hk
  · have h1 : (k : Int) ≤ (j - i - 1) / c := by omega
    have h2 : (k : Int) * c ≤ (j - i - 1) / c * c := Int.mul_le_mul_of_nonneg_right h1 (Int.le_of_lt h)
    have h3 := Int.ediv_mul_le (j - i - 1) (show c ≠ 0 by omega)
    omega
  · simp at hk
theorem stepN_le {i j c : Int} (h : 0 < c) (h0 : 0 ≤ i) (h1 : 0 ≤ j) : (stepN i j c : Int) ≤ j := by
  by_cases z : stepN i j c = 0
  · omega
  · have := stepN_lt (i := i) (j := j) (c := c) (k := stepN i j c - 1) h (by omega)
    have h2 : ((stepN i j c - 1 : Nat) : Int) * 1 ≤ ((stepN i j c - 1 : Nat) : Int) * c := Int.mul_le_mul_of_nonneg_left (by omega) (by omega)
    omega
theorem stepN_size {i j c : Int} (h : 0 < c) : Builtin.Range.rangeSize i j c = (stepN i j c : Int) := by
  unfold stepN
  have : 0 ≤ Builtin.Range.rangeSize i j c := by
    unfold Builtin.Range.rangeSize
    rw [if_pos h]
    split
    · have := Int.ediv_nonneg (show 0 ≤ j - i - 1 by omega) (Int.le_of_lt h)
      omega
    · exact Int.le_refl _
  omega
theorem stepN_ok {i j c : Int} (h0 : 0 ≤ i ∧ i < 1073741824 ∧ 0 ≤ j ∧ j < 1073741824 ∧ 0 < c ∧ c < 1073741824) : RgC i j c (stepN i j c) := by
  obtain ⟨a, b, d, e, f, g⟩ := h0
  refine ⟨by omega, by omega, ?_, stepN_size f⟩
  unfold Builtin.Range.small
  rw [stepN_size f]
  have := stepN_le f a d
  simp only [Builtin.Range.rangeFitsLong, Bool.and_eq_true, Bool.or_eq_true, decide_eq_true_eq, beq_iff_eq, show c > 0 from f, if_true]
  omega
def iRg3 (a : DA) : DI := fun ρ M P => a ρ M fun xs M1 => match xs with
  | [.int i, .int j, .int c] => (0 ≤ i ∧ i < 1073741824 ∧ 0 ≤ j ∧ j < 1073741824 ∧ 0 < c ∧ c < 1073741824) ∧ P (rngC i c (stepN i j c)) (fun _ => True) M1
  | _ => False

section
variable {K : PySem.W.Frag} {H0 : Hp}
theorem wj_list {a : Addr} {ds : List D} : WalkJ K H0 ds (fun M => M a = some (.lst ds)) (Itl K a) where
  stop := fun i H M x h c hl => by
    obtain ⟨vs, q, r⟩ := h a _ c
    exact ⟨vs, SqL.of q, by rw [← r.length]; exact hl⟩
  go := fun i H M d x h c e => by
    obtain ⟨vs, q, r⟩ := h a _ c
    obtain ⟨v, h1, _⟩ := r.get e
    exact ⟨vs, v, SqL.of q, h1⟩
  yld := fun i H M d y H' x h c e w => by
    obtain ⟨rfl, w⟩ := w
    obtain ⟨vs, q, r⟩ := h a _ c
    obtain ⟨v, h1, h2⟩ := r.get e
    have := w _ (SqL.of q)
    rw [h1] at this; cases this
    exact ⟨.refl _ _, h, fun _ _ z => z, h2⟩
theorem wj_rol {a : Addr} {ds : List D} {vs : List V} (s : SqF K H0 a vs) (r : DRs K H0 ds vs) : WalkJ K H0 ds (fun _ => True) (Itl K a) where
  stop := fun i H M x h c hl => ⟨vs, (s.mono x).seq, by rw [← r.length]; exact hl⟩
  go := fun i H M d x h c e => by
    obtain ⟨v, h1, _⟩ := r.get e
    exact ⟨vs, v, (s.mono x).seq, h1⟩
  yld := fun i H M d y H' x h c e w => by
    obtain ⟨rfl, w⟩ := w
    obtain ⟨v, h1, h2⟩ := r.get e
    have := w _ (s.mono x).seq
    rw [h1] at this; cases this
    exact ⟨.refl _ _, h, fun _ _ z => z, h2.mono x⟩
theorem wj_tup {a : Addr} {ds : List D} {vs : List V} (s : SqT K H0 a vs) (r : DRs K H0 ds vs) : WalkJ K H0 ds (fun _ => True) (Itt K a) where
  stop := fun i H M x h c hl => ⟨vs, x.sqT s, by rw [← r.length]; exact hl⟩
  go := fun i H M d x h c e => by
    obtain ⟨v, h1, _⟩ := r.get e
    exact ⟨vs, v, x.sqT s, h1⟩
  yld := fun i H M d y H' x h c e w => by
    obtain ⟨rfl, w⟩ := w
    obtain ⟨v, h1, h2⟩ := r.get e
    have := w _ (x.sqT s)
    rw [h1] at this; cases this
    exact ⟨.refl _ _, h, fun _ _ z => z, h2.mono x⟩
theorem wj_str {z : Str} : WalkJ K H0 (z.cps.toList.map fun c => .str ⟨#[c]⟩) (fun _ => True) (Its z) where
  stop := fun i H M x h c hl => by
    show z.cps.size ≤ i
    simpa using hl
  go := fun i H M d x h c e => by
    show i < z.cps.size
    have := (List.getElem?_eq_some_iff.mp e).1
    simpa using this
  yld := fun i H M d y H' x h c e w => by
    obtain ⟨rfl, k, e2, rfl⟩ := w
    refine ⟨.refl _ _, h, fun _ _ z => z, ?_⟩
    rw [List.getElem?_map, Array.getElem?_toList, e2] at e
    cases e
    exact .str _
theorem rng_get {lo : Int} {n i : Nat} {d : D} (e : (rngI lo n)[i]? = some d) : i < n ∧ d = .int (lo + i) := by
  unfold rngI at e
  rw [List.getElem?_map] at e
  by_cases h : i < n
  · rw [List.getElem?_range h] at e
    cases e
    exact ⟨h, rfl⟩
  · rw [List.getElem?_eq_none (by simpa using h)] at e
    cases e
theorem wj_rng {lo : Int} {n : Nat} : WalkJ K H0 (rngI lo n) (fun _ => True) (Itr lo n) where
  stop := fun i H M x h c hl => by
    show n ≤ i
    simpa [rngI] using hl
  go := fun i H M d x h c e => (rng_get e).1
  yld := fun i H M d y H' x h c e w => by
    obtain ⟨rfl, rfl⟩ := w
    rw [(rng_get e).2]
    exact ⟨.refl _ _, h, fun _ _ z => z, .int _⟩
theorem rngC_get {lo c : Int} {n i : Nat} {d : D} (e : (rngC lo c n)[i]? = some d) : i < n ∧ d = .int (lo + (i : Int) * c) := by
  unfold rngC at e
  rw [List.getElem?_map] at e
  by_cases h : i < n
  · rw [List.getElem?_range h] at e
    cases e
    exact ⟨h, rfl⟩
  · rw [List.getElem?_eq_none (by simpa using h)] at e
    cases e
theorem rngC_len {lo c : Int} {n : Nat} : (rngC lo c n).length = n := by simp [rngC]
theorem wj_rngC {lo c : Int} {n : Nat} : WalkJ K H0 (rngC lo c n) (fun _ => True) (Itc lo c n) where
  stop := fun i H M x h q hl => by
    show n ≤ i
    simpa [rngC] using hl
  go := fun i H M d x h q e => (rngC_get e).1
  yld := fun i H M d y H' x h q e w => by
    obtain ⟨rfl, rfl⟩ := w
    rw [(rngC_get e).2]
    exact ⟨.refl _ _, h, fun _ _ z => z, .int _⟩
end

section
variable {X : Cx}
theorem di_seq {tg l : Expr} {wl : DT} (hl : Dx X l wl) : Di X tg l (iSeq wl) := by
  refine ⟨fun pins s σ H R I h => ?_⟩
  obtain ⟨ρ, M, P, er, hr, w, k⟩ := h
  refine thn (hl.run pins s σ H (fun v H1 => ∃ d M1, seqP d M1 P ∧ Ext X.K H H1 ∧ DR X.K H1 d v ∧ HR X.K H1 M1) I ⟨ρ, M, _, er, hr, w, fun d M1 v H1 p e d1 h1 => ⟨d, M1, p, e, d1, h1⟩⟩) ?_
  rintro u s1 ⟨v, H1, I1, r1, d, M1, p, e, d1, h1⟩
  have lists : ∀ a vs J, u = .ref a → SqL X.K H1 a vs → J = Itl X.K a → R J H1 → wpAny (model X.prog X.w) X.A (pyIter u) (PIE X pins σ tg R) X.xe s1 := fun a vs J eu q ej qR => by
    subst eu ej
    obtain ⟨its, rv, pl, hz⟩ := I1.list q
    exact wpAny_pyIter_list pl.isList (pi_one (tk := s1.toks) I1 _ (turn_list a _) ⟨_, Heap.get?_push_size _ rfl, rfl, rfl⟩ qR)
  cases d1 with
  | tup s2 r2 =>
    obtain ⟨its, rv, pl, hz⟩ := I1.tuple (SqT.of s2)
    cases r1
    exact wpAny_pyIter_tuple (show s1.heap.IsTuple _ its.toArray from pl) (pi_one (tk := s1.toks) I1 _ (turn_tuple _ _) ⟨_, Heap.get?_push_size _ rfl, rfl, rfl⟩ (k _ _ _ _ _ p e h1 (wj_tup (SqT.of s2) r2)))
  | ktp s2 r2 =>
    obtain ⟨its, rv, pl, hz⟩ := I1.tuple s2.t
    cases r1
    exact wpAny_pyIter_tuple (show s1.heap.IsTuple _ its.toArray from pl) (pi_one (tk := s1.toks) I1 _ (turn_tuple _ _) ⟨_, Heap.get?_push_size _ rfl, rfl, rfl⟩ (k _ _ _ _ _ p e h1 (wj_tup s2.t r2)))
  | rol s2 r2 => exact lists _ _ _ r1 s2.seq rfl (k _ _ _ _ _ p e h1 (wj_rol s2 r2))
  | str z =>
    obtain ⟨t, rfl⟩ := r1
    have q := k _ _ _ _ _ p e h1 wj_str
    cases ha : z.cps.all (· < 128)
    · exact wpAny_pyIter_wide ha (pi_one (tk := s1.toks) I1 _ (turn_str _ z t "str_iterator" (.inr rfl)) ⟨_, Heap.get?_push_size _ rfl, rfl, rfl⟩ q)
    · exact wpAny_pyIter_ascii ha (pi_one (tk := s1.toks) I1 _ (turn_str _ z t "str_ascii_iterator" (.inl rfl)) ⟨_, Heap.get?_push_size _ rfl, rfl, rfl⟩ q)
  | ref a =>
    have p : (match M1 a with | some (.lst ds) => P ds (fun M' => M' a = some (.lst ds)) M1 | _ => False) := p
    cases e2 : M1 a with
    | none => rw [e2] at p; exact p.elim
    | some o =>
      rw [e2] at p
      cases o with
      | dk _ => exact False.elim p
      | dt _ => exact False.elim p
      | lst ds =>
        obtain ⟨vs, q, r⟩ := h1 _ _ e2
        exact lists _ _ _ r1 (SqL.of q) rfl (k _ _ _ _ _ p e h1 wj_list)
  | _ => exact False.elim p
theorem pi_wk {tg e : Expr} {t t' : TI} (h : PI X tg e t) (k : ∀ σ H Q, t' σ H Q → t σ H Q) : PI X tg e t' := ⟨fun pins s σ H R I q => h.run pins s σ H R I (k σ H R q)⟩
theorem di_rg1 {tg a : Expr} {wa : DA} {p pos : Pos} (hg : Gl X "range") (hm : X.mg "range" = none) (ha : Da X [a] wa) (hs : starEach [a] X.env = [(false, eval a X.env)]) : Di X tg (.Call (.Name "range" p) [a] [] pos) (iRg1 wa) :=
  pi_wk (pi_range1 hg hm ha hs) fun σ H R ⟨ρ, M, P, er, hr, w, k⟩ => ⟨ρ, M, _, er, hr, w, fun xs M1 vs H1 p1 e1 d1 h1 => by
    match xs, d1 with
    | [], _ => exact False.elim p1
    | [x], .cons d .nil =>
      cases d <;> first | exact False.elim p1 | skip
      exact ⟨_, rfl, p1.1.1, p1.1.2, k _ _ _ _ _ p1.2 e1 h1 wj_rng⟩
    | x :: _ :: _, .cons d _ => cases d <;> exact False.elim p1⟩
theorem di_rg2 {tg a b : Expr} {wa : DA} {p pos : Pos} (hg : Gl X "range") (hm : X.mg "range" = none) (ha : Da X [a, b] wa) (hs : starEach [a, b] X.env = [(false, eval a X.env), (false, eval b X.env)]) (hs2 : starEach [b] X.env = [(false, eval b X.env)]) :
    Di X tg (.Call (.Name "range" p) [a, b] [] pos) (iRg2 wa) :=
  pi_wk (pi_range2 hg hm ha hs hs2) fun σ H R ⟨ρ, M, P, er, hr, w, k⟩ => ⟨ρ, M, _, er, hr, w, fun xs M1 vs H1 p1 e1 d1 h1 => by
    match xs, d1 with
    | [], _ => exact False.elim p1
    | [x], .cons d .nil => cases d <;> exact False.elim p1
    | [x, y], .cons d (.cons d2 .nil) =>
      cases d <;> cases d2 <;> first | exact False.elim p1 | skip
      exact ⟨_, _, rfl, p1.1, k _ _ _ _ _ p1.2 e1 h1 wj_rng⟩
    | x :: y :: _ :: _, .cons d (.cons d2 _) => cases d <;> cases d2 <;> exact False.elim p1⟩
theorem di_rg3 {tg a b c : Expr} {wa : DA} {p pos : Pos} (hg : Gl X "range") (hm : X.mg "range" = none) (ha : Da X [a, b, c] wa) (hs : starEach [a, b, c] X.env = (false, eval a X.env) :: starEach [b, c] X.env) (hpl : (backTo pos (starEach [b, c] X.env)).any (·.1) = false) :
    Di X tg (.Call (.Name "range" p) [a, b, c] [] pos) (iRg3 wa) :=
  pi_wk (pi_range3 hg hm ha hs hpl) fun σ H R ⟨ρ, M, P, er, hr, w, k⟩ => ⟨ρ, M, _, er, hr, w, fun xs M1 vs H1 p1 e1 d1 h1 => by
    match xs, d1 with
    | [], _ => exact False.elim p1
    | [x], .cons d .nil => cases d <;> exact False.elim p1
    | [x, y], .cons d (.cons d2 .nil) => cases d <;> cases d2 <;> exact False.elim p1
    | [x, y, z], .cons d (.cons d2 (.cons d3 .nil)) =>
      cases d <;> cases d2 <;> first | exact False.elim p1 | skip
      cases d3 <;> first | exact False.elim p1 | skip
      exact ⟨_, _, _, _, rfl, stepN_ok p1.1, k _ _ _ _ _ p1.2 e1 h1 wj_rngC⟩
    | x :: y :: z :: _ :: _, .cons d (.cons d2 (.cons d3 _)) => cases d <;> cases d2 <;> first | exact False.elim p1 | (cases d3 <;> exact False.elim p1)⟩

/-! ### targets -/
theorem dg_nm {i : Nat} {x : Str} {pos : Pos} (hN : X.N.Nodup) (hi : X.N[i]? = some x) (hx : Loc X.env.scope x) (hf : X.fn x = true ∨ X.env.scope.names.lookup x = some .local) : Dg X (.Name x pos) (gN i) :=
  pg_wk (pg_name hN hi hx hf) fun v σ H Q ⟨d, ρ, M, P, dv, er, hr, w, k⟩ => k _ M _ H w (.refl _ _) (er.set dv) hr
theorem dgs_nil : Dgs X [] gsN := pgs_wk pgs_nil fun vs σ H Q ⟨ds, ρ, M, P, dv, er, hr, w, k⟩ => by
  cases dv with
  | nil => exact ⟨rfl, k _ M _ H w (.refl _ _) er hr⟩
  | cons _ _ => exact False.elim w
theorem dgs_cons {e : Expr} {es : List Expr} {t : DG} {u : DGs} (h1 : Dg X e t) (h2 : Dgs X es u) (hs : (assignEach (e :: es) X.env).map (·.2) = assign e X.env :: (assignEach es X.env).map (·.2)) : Dgs X (e :: es) (gsC t u) :=
  pgs_wk (pgs_cons h1 h2 hs) fun vs σ H Q ⟨ds, ρ, M, P, dv, er, hr, w, k⟩ => by
    cases dv with
    | nil => exact False.elim w
    | cons d r => exact ⟨_, _, rfl, _, ρ, M, _, d, er, hr, w, fun ρ1 M1 σ1 H1 p1 e1 er1 hr1 => ⟨_, ρ1, M1, P, r.mono e1, er1, hr1, p1, fun ρ2 M2 σ2 H2 p2 e2 => k ρ2 M2 σ2 H2 p2 (e1.trans e2)⟩⟩
theorem dg_tup {es : List Expr} {n k : Nat} {g : DGs} {pos : Pos} (hc : X.calm = true) (h : Dgs X es g) (hn : (assignEach es X.env).length = n) (hst : (assignEach es X.env).findIdx? (·.1) = none) : Dg X (.Tuple es k pos) (gT n g) :=
  ⟨fun pins s σ H v u Q I rv ⟨d, ρ, M, P, dv, er, hr, w, k⟩ => by
    cases dv with
    | tup s r => exact (pg_tup hc h hn hst).run pins _ σ H _ u Q I rv ⟨_, _, rfl, SqT.of s, by rw [← r.length]; exact w.1, _, ρ, M, P, r, er, hr, w.2, k⟩
    | ktp s r => exact (pg_tup hc h hn hst).run pins _ σ H _ u Q I rv ⟨_, _, rfl, s.t, by rw [← r.length]; exact w.1, _, ρ, M, P, r, er, hr, w.2, k⟩
    | ref a =>
      have w : (match M a with | some (.lst ds) => ds.length = n ∧ g ds ρ M P | _ => False) := w
      cases e : M a with
      | none => rw [e] at w; exact w.elim
      | some o =>
        rw [e] at w
        cases o with
        | dk _ => exact False.elim w
        | dt _ => exact False.elim w
        | lst ds =>
          obtain ⟨vs, q, r⟩ := hr _ _ e
          exact (pg_lst hc h hn hst).run pins _ σ H _ u Q I rv ⟨_, _, rfl, SqL.of q, by rw [← r.length]; exact w.1, _, ρ, M, P, r, er, hr, w.2, k⟩
    | _ => exact False.elim w⟩
theorem dg_sub {o i : Expr} {wo wi : DT} {pos : Pos} (hu : X.A.units + 65 < cLine) (ho : Dx X o wo) (hi : Dx X i wi)
    (ha : ∀ v, assign (.Subscript o i pos) X.env v = (do
      let ov ← holding [v] (eval o X.env)
      let iv ← holding [v, ov] (eval i X.env)
      standAt pos
      holding [v, ov, iv] (setItem ov iv v)
      release [v, ov, iv] [])) : Dg X (.Subscript o i pos) (gS wo wi) :=
  pg_wk (pg_sub ho hi (set_dl hu) ha) fun v σ H Q ⟨d, ρ, M, P, dv, er, hr, w, k⟩ =>
    ⟨ρ, M, _, er, hr, w, fun x M1 v1 H1 p1 e1 d1 h1 => ⟨ρ, M1, _, er.mono e1, h1, p1, fun y M2 v2 H2 p2 e2 d2 h2 =>
      ⟨x, y, d, M2, _, d1.mono e2, d2, dv.mono (e1.trans e2), h2, p2, fun M3 H3 p3 e3 h3 => k _ _ _ _ p3 (e1.trans (e2.trans e3)) (er.mono (e1.trans (e2.trans e3))) h3⟩⟩⟩

/-! ### statements -/
theorem dss_nil : Dss X [] sNil := pss_wk pss_nil fun D σ H ⟨ρ, M, P, er, hr, w, k⟩ => k.nx _ _ _ _ w (.refl _ _) er hr
theorem dss_cons {s : Stmt} {r : List Stmt} {a b : DS} (h1 : Ds X s a) (h2 : Dss X r b) : Dss X (s :: r) (sSeq a b) :=
  pss_wk (pss_cons h1 h2) fun D σ H ⟨ρ, M, P, er, hr, w, k⟩ => ⟨ρ, M, _, er, hr, w, ⟨fun ρ1 M1 σ1 H1 p1 e1 er1 hr1 => ⟨ρ1, M1, P, er1, hr1, p1, k.mono e1⟩, k.rt, k.bk, k.ct⟩⟩
theorem ds_if {c : Expr} {p q : List Stmt} {wc : DB} {a b : DS} {pos : Pos} (hc : Dt X c wc) (ha : Dss X p a) (hb : Dss X q b) : Ds X (.If c p q pos) (sIf wc a b) :=
  ps_wk (ps_if hc ha hb) fun D σ H ⟨ρ, M, P, er, hr, w, k⟩ => ⟨ρ, M, _, er, hr, w, fun b M1 H1 p1 e1 h1 => by
    cases b with
    | true => exact ⟨ρ, M1, P, er.mono e1, h1, p1, k.mono e1⟩
    | false => exact ⟨ρ, M1, P, er.mono e1, h1, p1, k.mono e1⟩⟩
theorem ds_asg {tg e : Expr} {we : DT} {g : DG} {pos : Pos} (he : Dx X e we) (hg : Dg X tg g) (hs : swapsWithSole [tg] e pos.line X.env = pure false) (hw : swappedStores [tg] e X.env = pure none)
    (h1 : (assignEach [tg] X.env).map (·.2) = [assign tg X.env]) : Ds X (.Assign [tg] e pos) (sAsg we g) :=
  ps_wk (ps_asg he hg hs hw h1) fun D σ H ⟨ρ, M, P, er, hr, w, k⟩ => ⟨ρ, M, _, er, hr, w, fun d M1 v H1 p1 e1 d1 h1 => ⟨d, ρ, M1, P.nx, d1, er.mono e1, h1, p1, fun ρ2 M2 σ2 H2 p2 e2 => k.nx ρ2 M2 σ2 H2 p2 (e1.trans e2)⟩⟩
theorem ds_set {i : Nat} {x : Str} {e : Expr} {we : DT} {pos pos' : Pos} (hN : X.N.Nodup) (hi : X.N[i]? = some x) (hx : Loc X.env.scope x) (he : Dx X e we) (hs : swapsWith e (some (.Name x pos')) pos.line X.env = pure false) (hf : X.fn x = true ∨ X.env.scope.names.lookup x = some .local) :
    Ds X (.Assign [.Name x pos'] e pos) (sAsg we (gN i)) :=
  ps_wk (ps_set hN hi hx he hs hf) fun D σ H ⟨ρ, M, P, er, hr, w, k⟩ => ⟨ρ, M, _, er, hr, w, fun d M1 v H1 p1 e1 d1 h1 => k.nx _ _ _ _ p1 e1 ((er.mono e1).set d1) h1⟩
theorem ds_exp {e : Expr} {we : DT} {pos : Pos} (he : Dx X e we) (hs : swapsWith e none pos.line X.env = pure false) : Ds X (.Expr e pos) (sExp we) :=
  ps_wk (ps_expr he hs) fun D σ H ⟨ρ, M, P, er, hr, w, k⟩ => ⟨ρ, M, _, er, hr, w, fun d M1 v H1 p1 e1 d1 h1 => k.nx _ _ _ _ p1 e1 (er.mono e1) h1⟩
theorem ds_ret {e : Expr} {we : DT} {pos : Pos} (he : Dx X e we) : Ds X (.Return (some e) pos) (sRet we) :=
  ps_wk (ps_ret he) fun D σ H ⟨ρ, M, P, er, hr, w, k⟩ => ⟨ρ, M, _, er, hr, w, fun d M1 v H1 p1 e1 d1 h1 => k.rt _ _ _ _ p1 e1 d1 h1⟩
theorem ds_retN {pos : Pos} : Ds X (.Return none pos) sRetN := ps_wk ps_retN fun D σ H ⟨ρ, M, P, er, hr, w, k⟩ => k.rt _ _ _ _ w (.refl _ _) .non hr
theorem ds_pass {pos : Pos} : Ds X (.Pass pos) sNil := ps_wk ps_pass fun D σ H ⟨ρ, M, P, er, hr, w, k⟩ => k.nx _ _ _ _ w (.refl _ _) er hr
theorem ds_brk {pos : Pos} : Ds X (.Break pos) sBrk := ps_wk ps_break fun D σ H ⟨ρ, M, P, er, hr, w, k⟩ => k.bk _ _ _ _ w (.refl _ _) er hr
theorem ds_cnt {pos : Pos} : Ds X (.Continue pos) sCnt := ps_wk ps_continue fun D σ H ⟨ρ, M, P, er, hr, w, k⟩ => k.ct _ _ _ _ w (.refl _ _) er hr
theorem ds_aug {i : Nat} {x : Str} {e : Expr} {we : DT} {op : Operator} {r : D → D → Mh → PQ → Prop} {pos pos' : Pos} (hN : X.N.Nodup) (hi : X.N[i]? = some x) (hx : Loc X.env.scope x) (he : Dx X e we) (ho : OpR X (inplaceOp op) (up2 X.K r)) (hf : X.fn x = true ∨ X.env.scope.names.lookup x = some .local) :
    Ds X (.AugAssign (.Name x pos') op e pos) (sAug i r we) :=
  ps_wk (ps_aug hN hi hx he ho hf) fun D σ H ⟨ρ, M, P, er, hr, w, k⟩ => by
    unfold sAug at w
    cases e0 : slot ρ i with
    | none => rw [e0] at w; exact w.elim
    | some d =>
      rw [e0] at w
      obtain ⟨v, h1, h2⟩ := er.2 i d (slot_get e0)
      exact ⟨v, h1, ρ, M, _, er, hr, w, fun y M1 u H1 p1 e1 d1 hr1 => ⟨_, y, M1, _, h2.mono e1, d1, hr1, p1, fun z M2 v2 H2 p2 e2 d2 hr2 => k.nx _ _ _ _ p2 (e1.trans e2) ((er.mono (e1.trans e2)).set d2) hr2⟩⟩
theorem ds_par {i j : Nat} {x y : Str} {a b : Expr} {wa wb : DT} {px py pt pos : Pos} {kt k2 pt2} (hc : X.calm = true) (hN : X.N.Nodup) (hi : X.N[i]? = some x) (hj : X.N[j]? = some y) (hij : i ≠ j)
    (hx : X.env.scope.names.lookup x = some .local) (hy : X.env.scope.names.lookup y = some .local) (ha : Dx X a wa) (hb : Dx X b wb) (hs1 : starEach (a :: [b]) X.env = (false, eval a X.env) :: starEach [b] X.env) (hs2 : starEach (b :: []) X.env = (false, eval b X.env) :: starEach [] X.env)
    (hw : swappedStores [.Tuple [.Name x px, .Name y py] kt pt] (.Tuple [a, b] k2 pt2) X.env = pure (some [x, y])) :
    Ds X (.Assign [.Tuple [.Name x px, .Name y py] kt pt] (.Tuple [a, b] k2 pt2) pos) (sParN i j wa wb) :=
  ps_wk (ps_par hc hN hi hj hij hx hy (pa_cons ha (pa_cons hb pa_nil hs2) hs1) hw) fun D σ H ⟨ρ, M, P, er, hr, w, k⟩ =>
    ⟨ρ, M, _, er, hr, w, fun x M1 v H1 p1 e1 d1 h1 => ⟨ρ, M1, _, er.mono e1, h1, p1, fun y M2 u H2 p2 e2 d2 h2 => ⟨v, u, rfl, k.nx _ _ _ _ p2 (e1.trans e2) (((er.mono (e1.trans e2)).set (d1.mono e2)).set d2) h2⟩⟩⟩
theorem ds_wh {c : Expr} {body : List Stmt} {wc : DB} {wb : DS} {pos : Pos} (hp : PassesOwn (model X.prog X.w) X.A X.env X.xe) (hc : Dt X c wc) (hb : Dss X body wb) : Ds X (.While c body [] pos) (sWh wc wb) :=
  ps_wk (ps_while hp hc hb) fun D σ H ⟨ρ, M, P, er, hr, ⟨n, w⟩, k⟩ => by
    refine ⟨fun n σ1 H1 => ∃ ρ1 M1, ER X.K H1 ρ1 σ1 ∧ HR X.K H1 M1 ∧ Ext X.K H H1 ∧ whileD wc wb P n ρ1 M1, ⟨n, ρ, M, er, hr, .refl _ _, w⟩, ?_⟩
    rintro n σ1 H1 ⟨ρ1, M1, er1, hr1, x1, w1⟩
    cases n with
    | zero => exact False.elim w1
    | succ n =>
      refine ⟨ρ1, M1, _, er1, hr1, w1, fun t M2 H2 p2 e2 h2 => ?_⟩
      cases t with
      | false => exact k.nx _ _ _ _ p2 (x1.trans e2) (er1.mono e2) h2
      | true =>
        refine ⟨fun σ3 H3 => ∃ ρ3 M3, ER X.K H3 ρ3 σ3 ∧ HR X.K H3 M3 ∧ Ext X.K H H3 ∧ whileD wc wb P n ρ3 M3, fun σ3 H3 h => ⟨n, Nat.lt_succ_self n, h⟩, ρ1, M2, _, er1.mono e2, h2, p2, ?_⟩
        have x2 := x1.trans e2
        exact ⟨fun ρ3 M3 σ3 H3 p3 e3 er3 h3 => ⟨ρ3, M3, er3, h3, x2.trans e3, p3⟩, (k.mono x2).rt, fun ρ3 M3 σ3 H3 p3 e3 er3 h3 => k.nx _ _ _ _ p3 (x2.trans e3) er3 h3, fun ρ3 M3 σ3 H3 p3 e3 er3 h3 => ⟨ρ3, M3, er3, h3, x2.trans e3, p3⟩⟩
theorem ds_for {tg it : Expr} {body : List Stmt} {wi : DI} {g : DG} {wb : DS} {pos : Pos} (hp : PassesOwn (model X.prog X.w) X.A X.env X.xe) (hc : X.calm = true) (hi : Di X tg it wi) (hg : Dg X tg g) (hb : Dss X body wb)
    (hs : ∀ x, foldedSetIterable it X.env x = pure x) : Ds X (.For tg it body [] pos) (sFor wi g wb) :=
  ps_wk (ps_for hp hc hi hg hb hs) fun D σ H ⟨ρ, M, P, er, hr, w, k⟩ => by
    refine ⟨ρ, M, _, er, hr, w, fun items chk M1 H1 J p1 e1 h1 wj => ?_⟩
    refine ⟨fun i m σ2 H2 => ∃ ρ2 M2, ER X.K H2 ρ2 σ2 ∧ HR X.K H2 M2 ∧ Ext X.K H1 H2 ∧ m = items.length - i ∧ i ≤ items.length ∧ forD g wb chk P (items.drop i) ρ2 M2,
      ⟨items.length, ρ, M1, er.mono e1, h1, .refl _ _, rfl, Nat.zero_le _, p1⟩, ?_⟩
    rintro i m σ2 H2 ⟨ρ2, M2, er2, h2, x2, rfl, hi, w2⟩
    by_cases hl : i < items.length
    · have ed : items.drop i = items[i] :: items.drop (i + 1) := List.drop_eq_getElem_cons hl
      have eg : items[i]? = some items[i] := List.getElem?_eq_getElem hl
      rw [ed] at w2
      obtain ⟨c2, w2⟩ := w2
      refine .inr ⟨wj.go i H2 M2 _ x2 h2 c2 eg, fun σ3 H3 => ∃ ρ3 M3, ER X.K H3 ρ3 σ3 ∧ HR X.K H3 M3 ∧ Ext X.K H1 H3 ∧ forD g wb chk P (items.drop (i + 1)) ρ3 M3, ?_, ?_⟩
      · rintro σ3 H3 ⟨ρ3, M3, a, b, c, d⟩
        exact ⟨items.length - (i + 1), by omega, ρ3, M3, a, b, c, rfl, hl, d⟩
      · intro x H3 hy
        obtain ⟨e3, h3, _, d3⟩ := wj.yld i H2 M2 _ x H3 x2 h2 c2 eg hy
        refine ⟨_, ρ2, M2, _, d3, er2.mono e3, h3, w2, fun ρ4 M4 σ4 H4 p4 e4 er4 h4 => ⟨ρ4, M4, _, er4, h4, p4, ?_⟩⟩
        have x4 : Ext X.K H1 H4 := x2.trans (e3.trans e4)
        exact ⟨fun ρ5 M5 σ5 H5 p5 e5 er5 h5 => ⟨ρ5, M5, er5, h5, x4.trans e5, p5⟩, (k.mono (e1.trans x4)).rt, fun ρ5 M5 σ5 H5 p5 e5 er5 h5 => k.nx _ _ _ _ p5 (e1.trans (x4.trans e5)) er5 h5, fun ρ5 M5 σ5 H5 p5 e5 er5 h5 => ⟨ρ5, M5, er5, h5, x4.trans e5, p5⟩⟩
    · have ei : i = items.length := by omega
      rw [ei, List.drop_length] at w2
      exact .inl ⟨wj.stop i H2 M2 x2 h2 w2.1 (by omega), k.nx _ _ _ _ w2.2 (e1.trans x2) er2 h2⟩

/-! ### comprehensions -/
end
inductive Tg where
  | nm (i : Nat)
  | tp (is : List Nat)
def Tg.slots : Tg → List Nat
  | .nm i => [i]
  | .tp is => is
def gNms : List Nat → TGs
  | [] => gNil
  | i :: r => gCons (gName i) (gNms r)
def tgV (K : PySem.W.Frag) : Tg → TG
  | .nm i => gName i
  | .tp is => gTup K is.length (gNms is)
def setsD : List Nat → List D → Ev → Option Ev
  | [], [], ρ => some ρ
  | i :: is, d :: ds, ρ => setsD is ds (ρ.set i (some d))
  | _, _, _ => none
def tgD : Tg → D → Ev → Option Ev
  | .nm i, d, ρ => some (ρ.set i (some d))
  | .tp is, .tup ds, ρ => setsD is ds ρ
  | _, _, _ => none
def wipeD (ρ : Ev) : List Nat → Ev
  | [] => ρ
  | v :: vs => (wipeD ρ vs).set v none
def bYes : DB := fun _ M P => P true M
def lcLoop (p : Addr) (chk : Mh → Prop) (t : Tg) (tt : DB) (te : DT) (ρ : Ev) (P : PQ) : List D → Mh → Prop
  | [], M => chk M ∧ P (.ref p) M
  | d :: ds, M => chk M ∧ match tgD t d ρ with
    | none => False
    | some ρ1 => tt ρ1 M fun k M1 => if k = true then te ρ1 M1 fun y M2 => (match M2 p with
        | some (.lst acc) => acc.length < sizeLine ∧ lcLoop p chk t tt te ρ P ds (mup M2 p (.lst (acc ++ [y])))
        | _ => False) else lcLoop p chk t tt te ρ P ds M1
def eLC (it : DI) (t : Tg) (tt : DB) (te : DT) (vs : List Nat) : DT := fun ρ M P => it ρ M fun items chk M1 => ∀ p, M1 p = none → lcLoop p chk t tt te (wipeD ρ vs) P items (mup M1 p (.lst []))
section
variable {K : PySem.W.Frag} {H : Hp}
theorem ER.unset {ρ : Ev} {σ : St} (e : ER K H ρ σ) (i : Nat) : ER K H (ρ.set i none) (σ.set i none) := by
  refine ⟨by rw [List.length_set, List.length_set, e.1], fun j c q => ?_⟩
  by_cases hj : i = j
  · subst hj
    rw [List.getElem?_set, if_pos rfl] at q
    split at q <;> cases q
  · rw [List.getElem?_set_ne hj] at q
    obtain ⟨w, h1, h2⟩ := e.2 j c q
    exact ⟨w, by rw [List.getElem?_set_ne hj]; exact h1, h2⟩
theorem ER.wipe {ρ : Ev} {σ : St} (e : ER K H ρ σ) : ∀ vs, ER K H (wipeD ρ vs) (wipe σ vs)
  | [] => e
  | v :: vs => (ER.wipe e vs).unset v
theorem wipe_get {j : Nat} : ∀ (vs : List Nat) (σ : St), (wipe σ vs)[j]? = if j ∈ vs then (if j < σ.length then some none else none) else σ[j]?
  | [], σ => by simp [wipe]
  | v :: vs, σ => by
    show ((wipe σ vs).set v none)[j]? = _
    rw [List.getElem?_set, wipe_length, wipe_get vs σ]
    by_cases hv : v = j
    · subst hv
      simp
    · have hv' : ¬ j = v := fun e => hv e.symm
      simp [hv, hv']
theorem wipe_set {i : Nat} {vs : List Nat} {σ : St} {x : Option V} (h : i ∈ vs) : wipe (σ.set i x) vs = wipe σ vs := by
  apply List.ext_getElem?
  intro j
  rw [wipe_get, wipe_get, List.length_set]
  by_cases hj : j ∈ vs
  · rw [if_pos hj, if_pos hj]
  · rw [if_neg hj, if_neg hj, List.getElem?_set_ne]
    intro e
    exact hj (e ▸ h)
theorem wipe_wipe {vs : List Nat} {σ : St} : wipe (wipe σ vs) vs = wipe σ vs := by
  apply List.ext_getElem?
  intro j
  rw [wipe_get, wipe_length, wipe_get]
  by_cases hj : j ∈ vs
  · rw [if_pos hj, if_pos hj]
  · rw [if_neg hj, if_neg hj]
theorem sets_ok : ∀ {is : List Nat} {ds : List D} {vs : List V} {ρ ρ1 : Ev} {σ : St} {own : List Nat} {Q : St → Hp → Prop}, setsD is ds ρ = some ρ1 → DRs K H ds vs → ER K H ρ σ → (∀ i ∈ is, i ∈ own) →
    (∀ σ1, ER K H ρ1 σ1 → wipe σ1 own = wipe σ own → Q σ1 H) → is.length = vs.length ∧ gNms is vs σ H Q
  | [], [], _, ρ, ρ1, σ, own, Q, e, .nil, er, _, k => by
    cases e
    exact ⟨rfl, rfl, k σ er rfl⟩
  | i :: is, d :: ds, _, ρ, ρ1, σ, own, Q, e, .cons h r, er, ho, k => by
    obtain ⟨h1, h2⟩ := sets_ok (Q := Q) (show setsD is ds (ρ.set i (some d)) = some ρ1 from e) r (er.set h) (fun j hj => ho j (List.mem_cons_of_mem _ hj)) fun σ1 er1 hw => k σ1 er1 (hw.trans (wipe_set (ho i List.mem_cons_self)))
    exact ⟨by rw [List.length_cons, List.length_cons, h1], _, _, rfl, h2⟩
theorem tg_ok {t : Tg} {d : D} {v : V} {ρ ρ1 : Ev} {σ : St} {own : List Nat} {Q : St → Hp → Prop} (e : tgD t d ρ = some ρ1) (dv : DR K H d v) (er : ER K H ρ σ) (ho : ∀ i ∈ t.slots, i ∈ own)
    (k : ∀ σ1, ER K H ρ1 σ1 → wipe σ1 own = wipe σ own → Q σ1 H) : tgV K t v σ H Q := by
  cases t with
  | nm i =>
    cases e
    exact k _ (er.set dv) (wipe_set (ho i (List.mem_singleton.mpr rfl)))
  | tp is =>
    cases dv <;> first | (cases (show none = some ρ1 from e); done) | skip
    rename_i s r
    obtain ⟨h1, h2⟩ := sets_ok (Q := Q) (show setsD is _ ρ = some ρ1 from e) r er ho k
    exact ⟨_, _, rfl, SqT.of s, h1.symm, h2⟩
/-- a comprehension's reading -/
theorem lc_ok {wi : DI} {t : Tg} {tt : DB} {te : DT} {own : List Nat} {σ : St} {Q : VK} (ho : ∀ i ∈ t.slots, i ∈ own) (h : up K (eLC wi t tt te own) σ H Q) : tLc (upI K wi) (tgV K t) (upB K tt) (up K te) own σ H Q := by
  obtain ⟨ρ, M, P, er, hr, w, k⟩ := h
  refine ⟨ρ, M, _, er, hr, w, fun items chk M1 H1 J p1 e1 h1 wj D nD => ?_⟩
  refine ⟨fun i m H2 => ∃ M2, HR K H2 M2 ∧ Ext K H1 H2 ∧ m = items.length - i ∧ i ≤ items.length ∧ lcLoop D chk t tt te (wipeD ρ own) P (items.drop i) M2,
    ⟨items.length, _, h1.new nD .nil, .fresh nD, rfl, Nat.zero_le _, p1 D (h1.free nD)⟩, ?_⟩
  rintro i m H2 ⟨M2, h2, x2, rfl, hi, w2⟩
  by_cases hl : i < items.length
  · have ed : items.drop i = items[i] :: items.drop (i + 1) := List.drop_eq_getElem_cons hl
    have eg : items[i]? = some items[i] := List.getElem?_eq_getElem hl
    rw [ed] at w2
    obtain ⟨c2, w2⟩ := w2
    refine .inr ⟨wj.go i H2 M2 _ x2 h2 c2 eg, fun H3 => ∃ M3, HR K H3 M3 ∧ Ext K H1 H3 ∧ lcLoop D chk t tt te (wipeD ρ own) P (items.drop (i + 1)) M3, ?_, ?_⟩
    · rintro H3 ⟨M3, a, b, c⟩
      exact ⟨items.length - (i + 1), by omega, M3, a, b, rfl, hl, c⟩
    · intro x H3 hy
      obtain ⟨e3, h3, _, d3⟩ := wj.yld i H2 M2 _ x H3 x2 h2 c2 eg hy
      cases et : tgD t items[i] (wipeD ρ own) with
      | none => simp only [et] at w2
      | some ρ1 =>
        simp only [et] at w2
        have er3 : ER K H3 (wipeD ρ own) (wipe σ own) := (er.mono (e1.trans (x2.trans e3))).wipe own
        refine tg_ok et d3 er3 ho fun σ4 er4 hw4 => ⟨hw4.trans wipe_wipe, ρ1, M2, _, er4, h3, w2, fun b M5 H5 p5 e5 h5 => ?_⟩
        cases b with
        | false => exact ⟨M5, h5, x2.trans (e3.trans e5), p5⟩
        | true =>
          refine ⟨ρ1, M5, _, er4.mono e5, h5, p5, fun y M6 u H6 p6 e6 d6 h6 => ?_⟩
          cases em : M6 D with
          | none => simp only [em] at p6
          | some o =>
            simp only [em] at p6
            cases o with
            | dk _ => exact False.elim p6
            | dt _ => exact False.elim p6
            | lst acc =>
              simp only at p6
              obtain ⟨vs, q, r⟩ := h6 _ _ em
              exact ⟨vs, q, by rw [← r.length]; exact p6.1, _, h6.write q (r.append (.one d6)), x2.trans (e3.trans (e5.trans (e6.trans (.lst q)))), p6.2⟩
  · have ei : i = items.length := by omega
    rw [ei, List.drop_length] at w2
    exact .inl ⟨wj.stop i H2 M2 x2 h2 w2.1 (by omega), k _ _ _ _ w2.2 (e1.trans x2) (.ref D) h2⟩
end
section
variable {X : Cx}
/-- the parts of a comprehension -/
structure LcOk (X : Cx) (elt tg : Expr) (ifs : List Expr) (scope : Scope) (t : Tg) (tt : DB) (te : DT) : Prop where
  tg : ∀ (s : Shared) (H : Hp) (C : Addr) (cl : List (Str × Addr)) (fp : List Addr), PG (X.blk s H scope (compEnvC scope cl C X.env) fp) tg (tgV X.K t)
  ts : ∀ (s : Shared) (H : Hp) (C : Addr) (cl : List (Str × Addr)) (fp : List Addr), PTs (X.blk s H scope (compEnvC scope cl C X.env) fp) ifs (upB X.K tt)
  el : ∀ (s : Shared) (H : Hp) (C : Addr) (cl : List (Str × Addr)) (fp : List Addr), PE (X.blk s H scope (compEnvC scope cl C X.env) fp) elt (up X.K te)
theorem dx_lc {elt tg iter : Expr} {ifs : List Expr} {scope : Scope} {own : List (Str × Nat)} {pos : Pos} {wi : DI} {t : Tg} {tt : DB} {te : DT} (hc : X.calm = true) (hN : X.N.Nodup) (hi : Di X tg iter wi) (ok : BlkOk X.N X.env.scope scope own)
    (L : LcOk X elt tg ifs scope t tt te) (ho : ∀ i ∈ t.slots, i ∈ own.map (·.2)) (hs : ∀ x, foldedSetIterable iter X.env x = pure x) : Dx X (.ListComp elt [⟨tg, iter, ifs, 0⟩] scope pos) (eLC wi t tt te (own.map (·.2))) :=
  pe_wk (pe_lc hc hN hi ok L.tg L.ts L.el hs) fun σ H Q h => lc_ok ho h
theorem ds_lc {i : Nat} {y : Str} {py : Pos} {elt tg iter : Expr} {ifs : List Expr} {scope : Scope} {own : List (Str × Nat)} {pos spos : Pos} {wi : DI} {t : Tg} {tt : DB} {te : DT} (hc : X.calm = true) (hN : X.N.Nodup) (hy : X.N[i]? = some y) (hyl : X.env.scope.names.lookup y = some .local)
    (hsw : swapsWith (.ListComp elt [⟨tg, iter, ifs, 0⟩] scope pos) (some (.Name y py)) spos.line X.env = pure true) (hi : Di X tg iter wi) (ok : BlkOk X.N X.env.scope scope own)
    (L : LcOk X elt tg ifs scope t tt te) (ho : ∀ i ∈ t.slots, i ∈ own.map (·.2)) (hs : ∀ x, foldedSetIterable iter X.env x = pure x) :
    Ds X (.Assign [.Name y py] (.ListComp elt [⟨tg, iter, ifs, 0⟩] scope pos) spos) (sAsg (eLC wi t tt te (own.map (·.2))) (gN i)) :=
  ps_wk (ps_setLc hc hN hy hyl hsw hi ok L.tg L.ts L.el hs) fun D σ H ⟨ρ, M, P, er, hr, w, k⟩ =>
    lc_ok ho ⟨ρ, M, _, er, hr, w, fun d M1 v H1 p1 e1 d1 h1 => k.nx _ _ _ _ p1 e1 ((er.mono e1).set d1) h1⟩
end
end DL
/-! DLi: zip, x.index(y), list(range(..)). -/
namespace DL
open PySem PySem.Spec L2
open PyProof.Rows hiding St

/-! ### x.index(y) -/
def seqK (x : D) (M : Mh) : Prop := match x with
  | .ktp _ => True
  | .rol _ => True
  | .ref a => match M a with
    | some (.lst _) => True
    | _ => False
  | _ => False
def kitemsD (x : D) (M : Mh) : Option (List D) := match x with
  | .ktp ds => some ds
  | x => litemsD x M
def indexD (x y : D) (M : Mh) (P : PQ) : Prop := ∃ ds j z, kitemsD x M = some ds ∧ okD (.tup ds) = true ∧ okD y = true ∧ ds[j]? = some z ∧ deq z y = true ∧ (∀ m z', m < j → ds[m]? = some z' → deq z' y = false) ∧ P (.int (j : Nat)) M
def eIx (o a : DT) : DT := fun ρ M P => o ρ M fun x M1 => seqK x M1 ∧ a ρ M1 fun y M2 => indexD x y M2 P
theorem pds_get : ∀ (ds : List D) (j : Nat), (pds ds)[j]? = (ds[j]?).map pd
  | [], _ => by simp [pds]
  | d :: r, 0 => by simp [pds]
  | d :: r, j + 1 => by simpa [pds] using pds_get r j
section
variable {X : Cx}
theorem call_ix_list (hu : X.A.units + 65 < cLine) {pins : List (Addr × Obj)} {s : Shared} {σ : St} {H : Hp} {p : Addr} {vs : List V} {ds : List D} {y : D} {yv : V} {u : Value} {j : Nat} {z : D} {Q : VK} (I : Inv X pins σ H s) (q : SqL X.K H p vs) (r : DRs X.K H ds vs) (dy : DR X.K H y yv) (ry : RelV yv u)
    (o1 : okD (.tup ds) = true) (o2 : okD y = true) (hz : ds[j]? = some z) (he : deq z y = true) (hn : ∀ m z', m < j → ds[m]? = some z' → deq z' y = false) (k : Q (.int (j : Nat)) H) : wpAny (model X.prog X.w) X.A (call (.builtin "list.index") [.ref p, u]) (EP X pins σ Q) X.xe s := by
  have o1' : SeqAt.shaped (.list (pds ds)) = true := by
    unfold okD SeqAt.shaped at o1
    unfold SeqAt.shaped
    simpa [pd, PyData.canLay0, PyData.depth] using o1
  refine mt_indexD hu pins s σ H (.ref p) [yv] (.ref p) [u] Q I rfl (.cons ry .nil) ⟨p, yv, pd y, pds ds, j, pd z, rfl, rfl, .lst q (dps_of r (SeqAt.canLay_of_shaped (d := .tuple (pds ds)) o1)), dp_of dy (SeqAt.canLay_of_shaped o2), o1', o2, by rw [pds_get, hz]; rfl, he, fun m z' hm e => ?_, k⟩
  rw [pds_get] at e
  obtain ⟨w, hw, rfl⟩ := Option.map_eq_some_iff.mp e
  exact hn m w hm hw
theorem call_ix_tup (hu : X.A.units + 65 < cLine) {pins : List (Addr × Obj)} {s : Shared} {σ : St} {H : Hp} {p : Addr} {vs : List V} {ds : List D} {y : D} {yv : V} {u : Value} {j : Nat} {z : D} {Q : VK} (I : Inv X pins σ H s) (q : SqT X.K H p vs) (r : DRs X.K H ds vs) (dy : DR X.K H y yv) (ry : RelV yv u)
    (o1 : okD (.tup ds) = true) (o2 : okD y = true) (hz : ds[j]? = some z) (he : deq z y = true) (hn : ∀ m z', m < j → ds[m]? = some z' → deq z' y = false) (k : Q (.int (j : Nat)) H) : wpAny (model X.prog X.w) X.A (call (.builtin "tuple.index") [.ref p, u]) (EP X pins σ Q) X.xe s := by
  obtain ⟨bs, r1⟩ := Dp.reads I (pd y) yv u (dp_of dy (SeqAt.canLay_of_shaped o2)) ry
  have hxs : PyData.canLayAll0 (pds ds) = true := SeqAt.canLay_of_shaped (d := .tuple (pds ds)) o1
  have hroom : X.A.units + 1 + min (PyData.depthAll (pds ds)) (pd y).depth < cLine := room_in_shaped o2 hu
  obtain ⟨its, rv, pl, hlen⟩ := I.tuple q
  obtain ⟨⟨cls, dd, dt, sls⟩, ho, hc, n, hdt⟩ := pl
  dsimp only at hc hdt
  subst hc
  subst hdt
  obtain ⟨as, h4⟩ := Dp.readsAll I (pds ds) vs its (dps_of r hxs) rv
  have hm' : its.map (SeqAt.readOf s.heap) = pds ds := SeqAt.readsAll_map (pds ds) its as hxs h4
  have spot : ∀ (m : Nat) (hm : m < its.toArray.size), ∃ w, ds[m]? = some w ∧ SeqAt.readOf s.heap its.toArray[m] = pd w := fun m hm => by
    have lm : m < its.length := by rw [List.size_toArray] at hm; exact hm
    have e1 : (its.map (SeqAt.readOf s.heap))[m]? = some (SeqAt.readOf s.heap its[m]) := by rw [List.getElem?_map, List.getElem?_eq_getElem lm]; rfl
    rw [hm', pds_get] at e1
    obtain ⟨w, hw, e2⟩ := Option.map_eq_some_iff.mp e1
    exact ⟨w, hw, by rw [List.getElem_toArray]; exact e2.symm⟩
  have jl : j < its.toArray.size := by
    have l1 := r.length
    have l2 := rv.length
    have := (List.getElem?_eq_some_iff.mp hz).1
    rw [List.size_toArray]; omega
  refine call_meets PySem.F.slot_tuple_index ⟨_, ho, rfl⟩ PySem.F.entry_tuple_index (PySem.F.args_tuple_index_2 _ _) (TI.tuple_indexAt p its.toArray n dd sls u (fun v => PyData.eqv (SeqAt.readOf s.heap v) (pd y)) j jl ?_ ?_)
    ⟨ho, SeqAt.items_eqAt (vs := its.toArray) (show ReadsAll s.heap its.toArray.toList (pds ds) as from h4) r1 hxs (SeqAt.canLay_of_shaped o2) hroom, ⟨.int (j : Nat), H, I.tok _, ⟨_, rfl⟩, k⟩⟩
  · obtain ⟨w, hw, e⟩ := spot j jl
    rw [hz] at hw
    cases hw
    show PyData.eqv (SeqAt.readOf s.heap its.toArray[j]) (pd y) = true
    rw [e]; exact he
  · intro m hm hmj
    obtain ⟨w, hw, e⟩ := spot m hm
    show PyData.eqv (SeqAt.readOf s.heap its.toArray[m]) (pd y) = false
    rw [e]; exact hn m w hmj hw
theorem dx_idx {o e : Expr} {wo we : DT} {apos cpos : Pos} (hu : X.A.units + 65 < cLine) (ho : Dx X o wo) (he : Dx X e we) (hbase : attributeBase o "index" X.env (eval o X.env) = eval o X.env)
    (hfew : ((backTo cpos (starEach [e] X.env)).all (fun x => !x.1) && (backToKw cpos (keywordEach [] X.env)).all (fun x => x.1.isSome)
      && decide (([e] : List Expr).length + ([] : List Keyword).length + (if ([] : List Keyword).isEmpty then 0 else 1) < 30)) = true)
    (hline : (apos.endLine == cpos.line) = true) (hs : starEach [e] X.env = (false, eval e X.env) :: starEach [] X.env) : Dx X (.Call (.Attribute o "index" apos) [e] [] cpos) (eIx wo we) := by
  refine ⟨fun pins s σ H Q I h => ?_⟩
  obtain ⟨ρ, M, P, er, hr, w, k⟩ := h
  refine wpAny_Call_method_late hbase hfew hline rfl (thn (ho.run pins s σ H (fun v H1 => ∃ x M1, (seqK x M1 ∧ we ρ M1 fun y M2 => indexD x y M2 P) ∧ Ext X.K H H1 ∧ DR X.K H1 x v ∧ HR X.K H1 M1) I ⟨ρ, M, _, er, hr, w, fun x M1 v H1 p1 e1 d1 h1 => ⟨x, M1, p1, e1, d1, h1⟩⟩) ?_)
  rintro v s1 ⟨xv, H1, I1, r1, x, M1, ⟨sk, w1⟩, e1, d1, h1⟩
  have da : Da X [e] (aCons we aNil) := da_cons he da_nil hs
  have hA := da.run cpos pins s1 σ H1 (fun vs H2 => ∃ y M2, indexD x y M2 P ∧ Ext X.K H1 H2 ∧ DRs X.K H2 [y] vs ∧ HR X.K H2 M2) I1 ⟨ρ, M1, (fun xs M2 => match xs with
    | [y] => indexD x y M2 P
    | _ => False), er.mono e1, h1, w1, fun ds M2 vs H2 p2 e2 d2 h2 => by
      match ds, p2, d2 with
      | [y], p2, d2 => exact ⟨y, M2, p2, e2, d2, h2⟩⟩
  rw [hs] at hA ⊢
  have fin : ∀ id, (∀ (us : List Value) (s2 : Shared) (y : D) (yv : V) (u : Value) (H2 : Hp) (M2 : Mh), us = [u] → Inv X pins σ H2 s2 → indexD x y M2 P → Ext X.K H1 H2 → DR X.K H2 y yv → RelV yv u → HR X.K H2 M2 → wpAny (model X.prog X.w) X.A (call (.builtin id) (v :: us)) (EP X pins σ Q) X.xe s2) →
      wpAny (model X.prog X.w) X.A (callWith cpos (.builtin id) [v] (backTo cpos ((false, eval e X.env) :: starEach [] X.env)) (backToKw cpos (keywordEach [] X.env))) (EP X pins σ Q) X.xe s1 := fun id hcall => by
    refine Calls.callWith_builtin rfl (Calls.evalArgs_plain ?_)
    refine thn hA fun us s2 ⟨vs, H2, I2, r2, y, M2, p2, e2, d2, h2⟩ => ?_
    cases d2 with
    | cons dy dt =>
      cases dt
      cases r2 with
      | cons ry rt =>
        cases rt
        exact hcall _ s2 y _ _ H2 M2 rfl I2 p2 e2 dy ry h2
  have asList : ∀ p vs, v = .ref p → SqL X.K H1 p vs → (∀ H2 M2 y, Ext X.K H1 H2 → HR X.K H2 M2 → indexD x y M2 P → ∃ ds ws j z, SqL X.K H2 p ws ∧ DRs X.K H2 ds ws ∧ okD (.tup ds) = true ∧ okD y = true ∧ ds[j]? = some z ∧ deq z y = true ∧ (∀ m z', m < j → ds[m]? = some z' → deq z' y = false) ∧ P (.int (j : Nat)) M2) →
      ∃ T id, PlainAttrs T ∧ Slot T "index" id ∧ typeOf (.builtin id) = pure (.type "method_descriptor") ∧ s1.TypeIs v T ∧ (∀ a, v = .ref a → ∃ ob, s1.heap.get? a = some ob ∧ ob.dict = none) ∧
        wpAny (model X.prog X.w) X.A (callWith cpos (.builtin id) [v] (backTo cpos ((false, eval e X.env) :: starEach [] X.env)) (backToKw cpos (keywordEach [] X.env))) (EP X pins σ Q) X.xe s1 := fun p vs ev q g => by
    subst ev
    obtain ⟨its, _, pl, _⟩ := I1.list q
    refine ⟨"list", "list.index", PySem.F.plainAttrs_list, PySem.F.slot_list_index, PySem.F.type_list_index, pl.isList.typeIs, fun a ea => ?_, fin _ fun us s2 y yv u H2 M2 eu I2 p2 e2 dy ry h2 => ?_⟩
    · cases ea
      obtain ⟨ob, n, g1, g2, g3, _⟩ := pl
      exact ⟨ob, g1, g3⟩
    · subst eu
      obtain ⟨ds, ws, j, z, q2, r2, o1, o2, hz, hd, hn, pj⟩ := g H2 M2 y e2 h2 p2
      exact call_ix_list hu I2 q2 r2 dy ry o1 o2 hz hd hn (k _ _ _ _ pj (e1.trans e2) (.int _) h2)
  cases d1 with
  | ktp sn rr =>
    cases r1
    obtain ⟨its, rv, pl, hlen⟩ := I1.tuple sn.t
    refine ⟨"tuple", "tuple.index", PySem.F.plainAttrs_tuple, PySem.F.slot_tuple_index, PySem.F.type_tuple_index, (let ⟨ob, g1, g2, _⟩ := pl; ⟨ob, g1, g2⟩), fun a ea => ?_, fin _ fun us s2 y yv u H2 M2 eu I2 p2 e2 dy ry h2 => ?_⟩
    · cases ea
      rcases sn with ⟨ob, g, gd⟩ | ⟨ob, its, n, g, _, gd, _⟩
      · exact ⟨ob, (I1.hok _ _ g).1, gd⟩
      · exact ⟨ob, I1.kIn _ _ g, gd⟩
    · subst eu
      obtain ⟨ds, j, z, hk, o1, o2, hz, hd, hn, pj⟩ := p2
      cases hk
      exact call_ix_tup hu I2 (e2.sqT sn.t) (rr.mono e2) dy ry o1 o2 hz hd hn (k _ _ _ _ pj (e1.trans e2) (.int _) h2)
  | rol sf rr =>
    cases r1
    exact asList _ _ rfl sf.seq fun H2 M2 y e2 h2 ⟨ds, j, z, hk, r⟩ => by
      cases hk
      exact ⟨_, _, j, z, (sf.mono e2).seq, rr.mono e2, r⟩
  | ref a =>
    cases r1
    have sk : (match M1 a with | some (.lst _) => True | _ => False) := sk
    cases ea : M1 a with
    | none => rw [ea] at sk; exact sk.elim
    | some ob =>
      rw [ea] at sk
      cases ob with
      | lst ls =>
        obtain ⟨vs, q, rr⟩ := h1 _ _ ea
        refine asList a vs rfl (SqL.of q) fun H2 M2 y e2 h2 ⟨ds, j, z, hk, r⟩ => ?_
        have hk : (match M2 a with | some (.lst ds) => some ds | _ => none) = some ds := hk
        cases eb : M2 a with
        | none => rw [eb] at hk; cases hk
        | some ob2 =>
          rw [eb] at hk
          cases ob2 with
          | lst l2 =>
            cases hk
            obtain ⟨vs2, q2, rr2⟩ := h2 _ _ eb
            exact ⟨_, _, j, z, SqL.of q2, rr2, r⟩
          | _ => cases hk
      | _ => exact sk.elim
  | _ => exact sk.elim
end

/-! ### zip(x, y) -/
def titemsD : D → Option (List D)
  | .tup ds => some ds
  | .ktp ds => some ds
  | _ => none
def zipD (as bs : List D) : List D := List.zipWith (fun a b => .tup [a, b]) as bs
/-- x stands as it stood -/
def lchk (x : D) (M M' : Mh) : Prop := litemsD x M' = litemsD x M
def zipP (x y : D) (M : Mh) (P : List D → (Mh → Prop) → Mh → Prop) : Prop := match titemsD x, titemsD y with
  | some as, some bs => P (zipD as bs) (fun _ => True) M
  | _, _ => match litemsD x M, litemsD y M with
    | some as, some bs => P (zipD as bs) (fun M' => lchk x M M' ∧ lchk y M M') M
    | _, _ => False
def iZip2 (a b : DT) : DI := fun ρ M P => a ρ M fun x M1 => b ρ M1 fun y M2 => zipP x y M2 P
theorem zipD_get {as bs : List D} {i : Nat} {d : D} (h : (zipD as bs)[i]? = some d) : ∃ a b, as[i]? = some a ∧ bs[i]? = some b ∧ d = .tup [a, b] := by
  unfold zipD at h
  rw [List.getElem?_zipWith] at h
  cases ha : as[i]? with
  | none => rw [ha] at h; cases h
  | some a =>
    cases hb : bs[i]? with
    | none => rw [ha, hb] at h; cases h
    | some b =>
      rw [ha, hb] at h
      cases h
      exact ⟨a, b, rfl, rfl, rfl⟩
theorem zipD_len (as bs : List D) : (zipD as bs).length = min as.length bs.length := by unfold zipD; rw [List.length_zipWith]
section
variable {K : PySem.W.Frag} {H0 : Hp}
theorem wj_zip {a b : Addr} {as bs : List D} {chk : Mh → Prop} (fa : ∀ H M, Ext K H0 H → HR K H M → chk M → ∃ xs, SqL K H a xs ∧ DRs K H as xs) (fb : ∀ H M, Ext K H0 H → HR K H M → chk M → ∃ xs, SqL K H b xs ∧ DRs K H bs xs) : WalkJ K H0 (zipD as bs) chk (Itz K a b) where
  stop := fun i H M x h c hl => by
    obtain ⟨xs, q1, r1⟩ := fa H M x h c
    obtain ⟨ys, q2, r2⟩ := fb H M x h c
    refine ⟨xs, ys, q1, q2, ?_⟩
    rw [zipD_len, r1.length, r2.length] at hl
    omega
  go := fun i H M d x h c e => by
    obtain ⟨xs, q1, r1⟩ := fa H M x h c
    obtain ⟨ys, q2, r2⟩ := fb H M x h c
    obtain ⟨a, b, e1, e2, rfl⟩ := zipD_get e
    obtain ⟨v, g1, _⟩ := r1.get e1
    obtain ⟨u, g2, _⟩ := r2.get e2
    exact ⟨xs, ys, v, u, q1, q2, g1, g2⟩
  yld := fun i H M d y H' x h c e w => by
    obtain ⟨xs, q1, r1⟩ := fa H M x h c
    obtain ⟨ys, q2, r2⟩ := fb H M x h c
    obtain ⟨a, b, e1, e2, rfl⟩ := zipD_get e
    obtain ⟨v, g1, d1⟩ := r1.get e1
    obtain ⟨u, g2, d2⟩ := r2.get e2
    obtain ⟨T, v', u', rfl, nT, rfl, f1, f2⟩ := w
    have z1 := f1 _ q1
    have z2 := f2 _ q2
    rw [g1] at z1
    rw [g2] at z2
    cases z1
    cases z2
    refine ⟨.fresh nT, h.fresh nT, fun p vs q => ?_, .tup upd_same (.two (d1.mono (.fresh nT)) (d2.mono (.fresh nT)))⟩
    rw [upd_ne fun z => by rw [z, nT] at q; cases q]; exact q
theorem wj_zipT {a b : Addr} {as bs : List D} {xs ys : List V} (q1 : SqT K H0 a xs) (r1 : DRs K H0 as xs) (q2 : SqT K H0 b ys) (r2 : DRs K H0 bs ys) : WalkJ K H0 (zipD as bs) (fun _ => True) (RZ.ItzT K a b) where
  stop := fun i H M x h c hl => by
    refine ⟨xs, ys, x.sqT q1, x.sqT q2, ?_⟩
    rw [zipD_len, r1.length, r2.length] at hl
    omega
  go := fun i H M d x h c e => by
    obtain ⟨a, b, e1, e2, rfl⟩ := zipD_get e
    obtain ⟨v, g1, _⟩ := r1.get e1
    obtain ⟨u, g2, _⟩ := r2.get e2
    exact ⟨xs, ys, v, u, x.sqT q1, x.sqT q2, g1, g2⟩
  yld := fun i H M d y H' x h c e w => by
    obtain ⟨a, b, e1, e2, rfl⟩ := zipD_get e
    obtain ⟨v, g1, d1⟩ := r1.get e1
    obtain ⟨u, g2, d2⟩ := r2.get e2
    obtain ⟨T, v', u', rfl, nT, rfl, f1, f2⟩ := w
    have z1 := f1 _ (x.sqT q1)
    have z2 := f2 _ (x.sqT q2)
    rw [g1] at z1
    rw [g2] at z2
    cases z1
    cases z2
    refine ⟨.fresh nT, h.fresh nT, fun p vs q => ?_, .tup upd_same (.two ((d1.mono x).mono (.fresh nT)) ((d2.mono x).mono (.fresh nT)))⟩
    rw [upd_ne fun z => by rw [z, nT] at q; cases q]; exact q
end
section
variable {X : Cx}
theorem litems_sq {K : PySem.W.Frag} {H0 H : Hp} {x : D} {v : V} {p : Addr} {M M' : Mh} {ds : List D} (d : DR K H0 x v) (ev : v = .ref p) (x1 : Ext K H0 H) (h : HR K H M') (e : litemsD x M = some ds) (c : lchk x M M') : ∃ xs, SqL K H p xs ∧ DRs K H ds xs := by
  unfold lchk at c
  rw [e] at c
  obtain ⟨p', vs, e1, q, r⟩ := litems_of (d.mono x1) h c
  rw [ev] at e1
  cases e1
  exact ⟨vs, q, r⟩
theorem titems_sq {K : PySem.W.Frag} {H : Hp} {x : D} {v : V} {ds : List D} (d : DR K H x v) (e : titemsD x = some ds) : ∃ p xs, v = .ref p ∧ SqT K H p xs ∧ DRs K H ds xs := by
  cases d with
  | tup s r => cases e; exact ⟨_, _, rfl, .of s, r⟩
  | ktp s r => cases e; exact ⟨_, _, rfl, s.t, r⟩
  | _ => cases e
theorem di_zip {a b : Expr} {wa wb : DT} {elts : List Expr} {kk : Nat} {p pos tpos : Pos} (hg : Gl X "zip") (hm : X.mg "zip" = none) (ha : Dx X a wa) (hb : Dx X b wb) (hs : starEach [a, b] X.env = (false, eval a X.env) :: starEach [b] X.env) (hs2 : starEach [b] X.env = (false, eval b X.env) :: starEach [] X.env)
    (hpl : (backTo pos (starEach [b] X.env)).any (·.1) = false) : Di X (.Tuple elts kk tpos) (.Call (.Name "zip" p) [a, b] [] pos) (iZip2 wa wb) :=
  pi_wk (RZ.pi_zipA hg hm (da_cons ha (da_cons hb da_nil hs2) hs) hs hpl) fun σ H R ⟨ρ, M, P, er, hr, w, k⟩ => by
    refine ⟨ρ, M, (fun xs M1 => match xs with
      | [x, y] => zipP x y M1 P
      | _ => False), er, hr, w, fun xs M1 vs H1 p1 e1 d1 h1 => ?_⟩
    match xs, p1, d1 with
    | [x, y], p1, .cons dx (.cons dy .nil) =>
      have p1 : zipP x y M1 P := p1
      unfold zipP at p1
      split at p1
      · rename_i as bs ea eb
        obtain ⟨pa, xs, rfl, q1, r1⟩ := titems_sq dx ea
        obtain ⟨pb, ys, rfl, q2, r2⟩ := titems_sq dy eb
        exact ⟨pa, pb, xs, ys, rfl, .inr ⟨q1, q2, k _ _ _ _ _ p1 e1 h1 (wj_zipT q1 r1 q2 r2)⟩⟩
      · split at p1
        · rename_i as bs ea eb
          obtain ⟨pa, xs, rfl, q1, r1⟩ := litems_of dx h1 ea
          obtain ⟨pb, ys, rfl, q2, r2⟩ := litems_of dy h1 eb
          exact ⟨pa, pb, xs, ys, rfl, .inl ⟨q1, q2, k _ _ _ _ _ p1 e1 h1 (wj_zip (fun H M x h c => litems_sq dx rfl x h ea c.1) fun H M x h c => litems_sq dy rfl x h eb c.2)⟩⟩
        · exact p1.elim

/-! ### list(range(n)) -/
def eLr (a : DT) : DT := fun ρ M P => a ρ M fun x M1 => match x with
  | .int j => (-(2 ^ 62) ≤ j ∧ j ≤ 16777216) ∧ ∀ p, M1 p = none → P (.ref p) (mup M1 p (.lst (rngI 0 j.toNat)))
  | _ => False
theorem rgV_dr {K : PySem.W.Frag} {H : Hp} (j : Int) : DRs K H (rngI 0 j.toNat) (rgV 0 j) := by
  unfold rngI rgV
  rw [show (j - 0).toNat = j.toNat by omega]
  generalize List.range j.toNat = l
  induction l with
  | nil => exact .nil
  | cons a r ih => exact .cons (.int _) ih
theorem dx_lr {a : Expr} {wa : DT} {p p2 pos pos2 : Pos} (hc : X.calm = true) (hg : Gl X "list") (hm : X.mg "list" = none) (hg2 : Gl X "range") (hm2 : X.mg "range" = none) (ha : Dx X a wa) (na : starEach [a] X.env = (false, eval a X.env) :: starEach [] X.env)
    (na2 : starEach [.Call (.Name "range" p2) [a] [] pos2] X.env = (false, eval (.Call (.Name "range" p2) [a] [] pos2) X.env) :: starEach [] X.env) : Dx X (.Call (.Name "list" p) [.Call (.Name "range" p2) [a] [] pos2] [] pos) (eLr wa) :=
  pe_wk (pe_listRg hc hg hm (prg_1 hg2 hm2 ha na) na2) fun σ H Q ⟨ρ, M, P, er, hr, w, k⟩ => ⟨ρ, M, _, er, hr, w, fun x M1 v H1 p1 e1 d1 h1 => by
    cases d1 <;> first | exact False.elim p1 | skip
    rename_i j
    exact ⟨j, rfl, ⟨by decide, by decide, p1.1.1, by omega, by omega⟩, fun q nq => k _ _ _ _ (p1.2 q (h1.free nq)) (e1.trans (.fresh nq)) (.ref q) (h1.new nq (rgV_dr j))⟩⟩
end
end DL
/-! DLf: from the syntax to its transformer, and that this is right. -/
namespace DL
open PySem PySem.Spec L2
open PyProof.Rows hiding St

/-- what is known where a piece of code runs -/
structure Gm where
  N : List Str
  sc : Scope
  st : Str → Bool
  fns : List (Str × Nat × DSp)
  glb : List (Str × D)

def bltNames : List Str := ["len", "int", "str", "tuple", "list", "sum", "abs", "max", "min", "range", "isinstance", "bool", "dict", "sorted", "zip", "enumerate", "reversed", "repr"]
/-- the def of this name that takes so many -/
def fnAt (l : List (Str × Nat × DSp)) (x : Str) (n : Nat) : Option DSp := (l.find? fun e => e.1 == x && e.2.1 == n).map (·.2.2)
structure XOk (X : Cx) (G : Gm) : Prop where
  nd : X.N.Nodup
  hN : X.N = G.N
  sc : X.env.scope = G.sc
  calm : X.calm = true
  hu : X.A.units + 65 < cLine
  pass : PassesOwn (model X.prog X.w) X.A X.env X.xe
  fns : ∀ x n sp, fnAt G.fns x n = some sp → CallOk X x n sp
  glb : ∀ x d, G.glb.lookup x = some d → ∃ u v, X.mg x = some u ∧ RelV v u ∧ ∀ H, DR X.K H d v
  blt : ∀ x ∈ bltNames, X.mg x = none
  st : ∀ x, G.st x = true → Loc X.env.scope x ∧ (X.fn x = true ∨ X.env.scope.names.lookup x = some .local)

def ixOf : List Str → Str → Option Nat
  | [], _ => none
  | y :: r, x => if y == x then some 0 else (ixOf r x).map (· + 1)
theorem ixOf_get : ∀ {N : List Str} {x : Str} {i : Nat}, ixOf N x = some i → N[i]? = some x
  | [], _, _, h => by cases h
  | y :: r, x, i, h => by
    unfold ixOf at h
    split at h
    · cases h
      rename_i e
      rw [eq_of_beq e]; rfl
    · obtain ⟨j, e, rfl⟩ := Option.map_eq_some_iff.mp h
      simpa using ixOf_get e
def okName (x : Str) : Bool := !(x == ("__debug__" : Str)) && !(x == ("__classdict__" : Str))
def visB (sc : Scope) (x : Str) : Bool := match sc.names.lookup x with
  | some .local => true | some .cell => true | some .free => true
  | _ => false
theorem vis_of {sc : Scope} {x : Str} (h : visB sc x = true) : Vis sc x := by
  unfold visB at h
  split at h
  · exact .inl (by assumption)
  · exact .inr (.inl (by assumption))
  · exact .inr (.inr (by assumption))
  · cases h
def glB (sc : Scope) (x : Str) : Bool := match sc.names.lookup x with
  | some .globalImplicit => true
  | _ => false
theorem gl_of {X : Cx} {G : Gm} (O : XOk X G) {x : Str} (h : glB G.sc x = true) : Gl X x := by
  unfold glB at h
  split at h
  · show X.env.scope.names.lookup x = _
    rw [O.sc]; assumption
  · cases h
def starB : Expr → Bool
  | .Starred .. => true
  | _ => false
theorem star_of {e : Expr} {es : List Expr} {env : Env} (h : starB e = false) : starEach (e :: es) env = (false, eval e env) :: starEach es env := by
  cases e <;> first | rfl | cases h
theorem stars_of {pos : Pos} {env : Env} : ∀ {es : List Expr}, es.all (fun e => !starB e) = true → (backTo pos (starEach es env)).any (·.1) = false
  | [], _ => rfl
  | e :: es, h => by
    rw [List.all_cons, Bool.and_eq_true] at h
    rw [star_of (by simpa using h.1)]
    show (false || (backTo pos (starEach es env)).any (·.1)) = false
    rw [stars_of h.2]; rfl
theorem stars_all {pos : Pos} {env : Env} : ∀ {es : List Expr}, es.all (fun e => !starB e) = true → (backTo pos (starEach es env)).all (fun x => !x.1) = true
  | [], _ => rfl
  | e :: es, h => by
    rw [List.all_cons, Bool.and_eq_true] at h
    rw [star_of (by simpa using h.1)]
    show (true && (backTo pos (starEach es env)).all (fun x => !x.1)) = true
    rw [stars_all h.2]; rfl
def sliceB : Expr → Bool
  | .Slice .. => true
  | _ => false
theorem plain_of {b : Expr} (h : sliceB b = false) : PlainIx b := by
  intro o i
  cases b <;> first | rfl | cases h
def setB : Expr → Bool
  | .Set .. => true
  | _ => false
theorem folded_of {e : Expr} {env : Env} (h : setB e = false) : ∀ x, foldedSetIterable e env x = pure x := by
  intro x
  cases e <;> first | rfl | cases h
theorem marks_of {op : CmpOp} {e : Expr} (h : setB e = false) : behindInMarks op e = false := by
  cases e <;> first | rfl | cases h
def compB : Expr → Bool
  | .ListComp .. => true | .SetComp .. => true | .DictComp .. => true
  | _ => false
theorem swaps_of {e : Expr} {t : Option Expr} {l : Nat} {env : Env} (h : compB e = false) : swapsWith e t l env = pure false := by
  cases e <;> first | rfl | cases h
/-- a test that is its value's truth -/
def truB : Expr → Bool
  | .UnaryOp .. => false | .BoolOp .. => false | .IfExp .. => false | .Compare .. => false
  | _ => true
theorem tru_plain {e : Expr} {env : Env} (h : truB e = true) : ∀ whole, isTrue e env whole = (do let v ← whole; standAt e.pos; holding [v] (truthy v)) := by
  intro whole
  cases e <;> first | rfl | cases h
def superB : Expr → Bool
  | .Call .. => true
  | _ => false
theorem base_of {o : Expr} {m : Str} {env : Env} {t : Sem Value} (h : superB o = false) : attributeBase o m env t = t := by
  cases o <;> first | rfl | cases h

def binR : Operator → Option (D → D → Mh → PQ → Prop)
  | .Add => some addD | .Sub => some subD | .Mult => some mulD | .FloorDiv => some divD | .Mod => some modD | .Pow => some powD
  | _ => none
def augR : Operator → Option (D → D → Mh → PQ → Prop)
  | .Add => some iaddD | .Sub => some subD
  | _ => none
def cmpR : CmpOp → Option Cmp
  | .Eq => some eqD | .NotEq => some neD | .Lt => some ltD | .LtE => some leD | .Gt => some gtD | .GtE => some geD | .In => some inD | .NotIn => some ninD | .Is => some isD | .IsNot => some isnD
def fnR (x : Str) : Option (Bool × String × DSp) :=
  if x == "len" then some (true, "len", lenD) else if x == "int" then some (false, "int", intD) else if x == "str" then some (false, "str", strD)
  else if x == "tuple" then some (false, "tuple", tupleD) else if x == "list" then some (false, "list", listD) else if x == "sum" then some (true, "sum", sumD)
  else if x == "abs" then some (true, "abs", absD) else if x == "max" then some (true, "max", maxD) else if x == "min" then some (true, "min", minD) else if x == "sorted" then some (true, "sorted", sortedD) else none
def tyR (x : Str) : Option String :=
  if x == "int" then some "int" else if x == "str" then some "str" else if x == "tuple" then some "tuple" else if x == "list" then some "list" else if x == "bool" then some "bool" else if x == "dict" then some "dict" else none
def mtR (x : Str) : Option (String × (D → List D → Mh → PQ → Prop)) :=
  if x == "append" then some ("list", appendD) else if x == "extend" then some ("list", extendD) else if x == "pop" then some ("list", popD) else if x == "join" then some ("str", joinD) else none

def andE : BoolOp → DT → DT → DT
  | .And => eAnd
  | .Or => eOr
def andB : BoolOp → DB → DB → DB
  | .And => bAnd
  | .Or => bOr
/-- the recursion, given from outside -/
structure Rc where
  e : Gm → Expr → Option DT
  b : Gm → Expr → Option DB
section
variable (r : Rc)
def dAs (G : Gm) : List Expr → Option DA
  | [] => some aNil
  | e :: es => if starB e then none else match r.e G e, dAs G es with
    | some w, some u => some (aCons w u)
    | _, _ => none
def dOpt (G : Gm) : Option Expr → Option (Option DT)
  | none => some none
  | some e => (r.e G e).map some
def tupTg : Expr → Bool
  | .Tuple .. => true
  | _ => false
def dIt0 (G : Gm) (it : Expr) : Option DI := match it with
  | .Call (.Name f _) [a] [] _ => if f == "range" then (if glB G.sc f && !starB a then (dAs r G [a]).map iRg1 else none) else (r.e G it).map iSeq
  | .Call (.Name f _) [a, b] [] _ => if f == "range" then (if glB G.sc f && !starB a && !starB b then (dAs r G [a, b]).map iRg2 else none) else (r.e G it).map iSeq
  | .Call (.Name f _) [a, b, c] [] _ => if f == "range" then (if glB G.sc f && !starB a && !starB b && !starB c then (dAs r G [a, b, c]).map iRg3 else none) else (r.e G it).map iSeq
  | it => (r.e G it).map iSeq
def dIt (G : Gm) (tg it : Expr) : Option DI := match it with
  | .Call (.Name f _) [a, b] [] _ => if f == "zip" then (if tupTg tg && glB G.sc f && !starB a && !starB b then (match r.e G a, r.e G b with
      | some x, some y => some (iZip2 x y)
      | _, _ => none) else none) else dIt0 r G it
  | it => dIt0 r G it
def ownOf (N : List Str) (scope : Scope) : List (Str × Nat) := scope.names.filterMap fun (x, k) => if k == .local || k == .cell then (ixOf N x).map (x, ·) else none
def tgNms (N : List Str) (st : Str → Bool) : List Expr → Option (List Nat)
  | [] => some []
  | .Name x _ :: r => if st x then match ixOf N x, tgNms N st r with
    | some i, some is => some (i :: is)
    | _, _ => none else none
  | _ => none
def tgOf (N : List Str) (st : Str → Bool) : Expr → Option Tg
  | .Name x _ => if st x then (ixOf N x).map .nm else none
  | .Tuple es _ _ => (tgNms N st es).map .tp
  | _ => none
def Gm.blk (G : Gm) (scope : Scope) : Gm := { G with sc := relS scope G.sc, st := fun x => match scope.names.lookup x with | some .local => true | some .cell => true | _ => false }
def dTs (G : Gm) : List Expr → Option DB
  | [] => some bYes
  | [c] => r.b G c
  | _ => none
def dLc (G : Gm) (elt tg it : Expr) (ifs : List Expr) (scope : Scope) : Option DT :=
  match dIt r G tg it, tgOf G.N (G.blk scope).st tg, dTs r (G.blk scope) ifs, r.e (G.blk scope) elt with
  | some wi, some t, some tt, some te =>
    if blkC G.N G.sc scope (ownOf G.N scope) && t.slots.all (fun i => (ownOf G.N scope).map (·.2) |>.contains i) && !setB it then some (eLC wi t tt te ((ownOf G.N scope).map (·.2))) else none
  | _, _, _, _ => none
/-- special forms -/
def dX (G : Gm) : Expr → Option DT
  | .Dict [] [] _ => some eDct
  | .Dict [some k] [v] _ => match r.e G k, r.e G v with
    | some a, some b => some (eD1 a b)
    | _, _ => none
  | .Call (.Name f _) [.Call (.Attribute o m apos) [] [] cpos] [] _ => if (f == "list") && (m == "keys") && glB G.sc f && !superB o && (apos.endLine == cpos.line) then (r.e G o).map eKs else none
  | .Call (.Name f _) [.Call (.Name g _) [e] [] _] [] _ => if (f == "list") && (g == "reversed") && glB G.sc f && glB G.sc g && !starB e then (r.e G e).map eRv
    else if (f == "tuple") && (g == "reversed") && glB G.sc f && glB G.sc g && !starB e then (r.e G e).map eTr
    else if (f == "list") && (g == "range") && glB G.sc f && glB G.sc g && !starB e then (r.e G e).map eLr else none
  | .Call (.Attribute o m apos) [e] [] cpos => if (m == "index") && !superB o && (apos.endLine == cpos.line) && !starB e then (match r.e G o, r.e G e with
    | some x, some y => some (eIx x y)
    | _, _ => none) else none
  | _ => none
def dE0 (G : Gm) : Expr → Option DT
  | .Name x _ => if okName x then (if visB G.sc x then (ixOf G.N x).map eVar else if glB G.sc x then (G.glb.lookup x).map eC else none) else none
  | .Constant c _ _ => match c with
    | .int i => some (eC (.int i)) | .bool b => some (eC (.bl b)) | .none => some (eC .non) | .str x => some (eC (.str x))
    | _ => none
  | .BinOp a op b _ => match binR op, r.e G a, r.e G b with
    | some f, some x, some y => some (eBin f x y)
    | _, _, _ => none
  | .UnaryOp op a _ => match op with
    | .USub => (r.e G a).map (eUn negD)
    | .Not => (r.e G a).map eNot
    | _ => none
  | .Compare a [op] [b] _ => if setB b then none else match cmpR op, r.e G a, r.e G b with
    | some f, some x, some y => some (eCmp f x y)
    | _, _, _ => none
  | .BoolOp _ [a] _ => r.e G a
  | .BoolOp op (a :: b :: rest) pos => match r.e G a, r.e G (.BoolOp op (b :: rest) pos) with
    | some x, some y => some (andE op x y)
    | _, _ => none
  | .IfExp c a b _ => match r.b G c, r.e G a, r.e G b with
    | some z, some x, some y => some (eIf z x y)
    | _, _, _ => none
  | .Tuple es _ _ => (dAs r G es).map eTup
  | .List es _ => (dAs r G es).map eLst
  | .Subscript a (.Slice lo hi none _) _ => match r.e G a, dOpt r G lo, dOpt r G hi with
    | some x, some l, some h => some (eSl x l h)
    | _, _, _ => none
  | .Subscript a b _ => if sliceB b then none else match r.e G a, r.e G b with
    | some x, some y => some (eBin ixD x y)
    | _, _ => none
  | .Call (.Name f _) args [] _ => if glB G.sc f then (match fnAt G.fns f args.length with
      | some sp => if args.all (fun e => !starB e) then (dAs r G args).map (eFn args.length sp) else none
      | none => if f == "isinstance" then (match args with
          | [e, .Name t _] => if starB e || !glB G.sc t then none else match tyR t, r.e G e with
            | some T, some w => some (eIsi T w)
            | _, _ => none
          | _ => none)
        else match fnR f, args with
          | some (_, _, sp), _ :: _ => if args.all (fun e => !starB e) then (dAs r G args).map (eCall sp) else none
          | _, _ => none) else none
  | .Call (.Attribute o m apos) args [] cpos => if (apos.endLine == cpos.line) && !superB o && args.all (fun e => !starB e) && decide (args.length < 30) then (match mtR m, r.e G o, dAs r G args with
      | some (T, f), some w, some a => some (eMt T f w a)
      | _, _, _ => none) else none
  | .ListComp elt [⟨tg, it, ifs, 0⟩] scope _ => dLc r G elt tg it ifs scope
  | _ => none
def dE1 (G : Gm) (e : Expr) : Option DT := match dX r G e with
  | some w => some w
  | none => dE0 r G e
def dB1 (G : Gm) : Expr → Option DB
  | .UnaryOp .Not a _ => (r.b G a).map bNot
  | .Compare a [op] [b] _ => if setB b then none else match cmpR op, r.e G a, r.e G b with
    | some f, some x, some y => some (bCmp f x y)
    | _, _, _ => none
  | .BoolOp _ [a] _ => r.b G a
  | .BoolOp op (a :: b :: rest) pos => match r.b G a, r.b G (.BoolOp op (b :: rest) pos) with
    | some x, some y => some (andB op x y)
    | _, _ => none
  | e => if truB e then (r.e G e).map bTru else none
end
def dR : Nat → Rc
  | 0 => ⟨fun _ _ => none, fun _ _ => none⟩
  | n + 1 => ⟨dE1 (dR n), dB1 (dR n)⟩

/-! ### it is right -/
/-- tests: a row of and, or stands also where 'whole' is another -/
structure RcOk (r : Rc) : Prop where
  e : ∀ (X : Cx) (G : Gm) (e : Expr) (w : DT), XOk X G → r.e G e = some w → Dx X e w
  b : ∀ (X : Cx) (G : Gm) (e : Expr) (w : DB), XOk X G → r.b G e = some w → Dt X e w
  w : ∀ (X : Cx) (G : Gm) (op : BoolOp) (es : List Expr) (pos : Pos) (w : DB), XOk X G → r.b G (.BoolOp op es pos) = some w → Dw X (.BoolOp op es pos) w
section
variable {X : Cx} {G : Gm} {r : Rc}
theorem as_ok (R : RcOk r) (O : XOk X G) : ∀ {es : List Expr} {w : DA}, dAs r G es = some w → Da X es w
  | [], _, h => by cases h; exact da_nil
  | e :: es, w, h => by
    unfold dAs at h
    split at h
    · cases h
    · rename_i hs
      split at h
      · cases h
        rename_i h1 h2
        exact da_cons (R.e X G _ _ O h1) (as_ok R O h2) (star_of (by simpa using hs))
      · cases h
theorem opt_ok (R : RcOk r) (O : XOk X G) : ∀ {o : Option Expr} {w : Option DT}, dOpt r G o = some w → PO X o (upO X.K (oPart w))
  | none, _, h => by cases h; exact do_none
  | some e, w, h => by
    obtain ⟨u, h1, rfl⟩ := Option.map_eq_some_iff.mp h
    exact do_some (R.e X G _ _ O h1)
theorem seq_ok (R : RcOk r) (O : XOk X G) {tg it : Expr} {w : DI} (h : (r.e G it).map iSeq = some w) : Di X tg it w := by
  obtain ⟨u, h1, rfl⟩ := Option.map_eq_some_iff.mp h
  exact di_seq (R.e X G _ _ O h1)
theorem it0_ok (R : RcOk r) (O : XOk X G) {tg it : Expr} {w : DI} (h : dIt0 r G it = some w) : Di X tg it w := by
  unfold dIt0 at h
  split at h
  · rename_i f p a pos
    by_cases hf : (f == "range") = true
    · rw [if_pos hf] at h
      have ef : f = "range" := eq_of_beq hf
      subst ef
      split at h
      · rename_i hc
        simp only [Bool.and_eq_true, Bool.not_eq_true'] at hc
        obtain ⟨u, h1, rfl⟩ := Option.map_eq_some_iff.mp h
        exact di_rg1 (gl_of O hc.1) (O.blt _ (by decide +kernel)) (as_ok R O h1) (by rw [star_of hc.2]; rfl)
      · cases h
    · rw [if_neg hf] at h
      exact seq_ok R O h
  · rename_i f p a b pos
    by_cases hf : (f == "range") = true
    · rw [if_pos hf] at h
      have ef : f = "range" := eq_of_beq hf
      subst ef
      split at h
      · rename_i hc
        simp only [Bool.and_eq_true, Bool.not_eq_true'] at hc
        obtain ⟨u, h1, rfl⟩ := Option.map_eq_some_iff.mp h
        exact di_rg2 (gl_of O hc.1.1) (O.blt _ (by decide +kernel)) (as_ok R O h1) (by rw [star_of hc.1.2, star_of hc.2]; rfl) (by rw [star_of hc.2]; rfl)
      · cases h
    · rw [if_neg hf] at h
      exact seq_ok R O h
  · rename_i f p a b c pos
    by_cases hf : (f == "range") = true
    · rw [if_pos hf] at h
      have ef : f = "range" := eq_of_beq hf
      subst ef
      split at h
      · rename_i hc
        simp only [Bool.and_eq_true, Bool.not_eq_true'] at hc
        obtain ⟨u, h1, rfl⟩ := Option.map_eq_some_iff.mp h
        exact di_rg3 (gl_of O hc.1.1.1) (O.blt _ (by decide +kernel)) (as_ok R O h1) (by rw [star_of hc.1.1.2]) (by rw [star_of hc.1.2, star_of hc.2]; rfl)
      · cases h
    · rw [if_neg hf] at h
      exact seq_ok R O h
  · exact seq_ok R O h
theorem it_ok (R : RcOk r) (O : XOk X G) {tg it : Expr} {w : DI} (h : dIt r G tg it = some w) : Di X tg it w := by
  unfold dIt at h
  split at h
  · rename_i f p a b pos
    by_cases hf : (f == "zip") = true
    · rw [if_pos hf] at h
      have ef : f = "zip" := eq_of_beq hf
      subst ef
      split at h
      · rename_i hc
        simp only [Bool.and_eq_true, Bool.not_eq_true'] at hc
        obtain ⟨⟨⟨c1, c2⟩, c3⟩, c4⟩ := hc
        split at h
        · rename_i x y h1 h2
          cases h
          cases tg <;> first | (cases c1; done) | skip
          exact di_zip (gl_of O c2) (O.blt _ (by decide +kernel)) (R.e X G _ _ O h1) (R.e X G _ _ O h2) (star_of c3) (star_of c4) (by rw [star_of c4]; rfl)
        · cases h
      · cases h
    · rw [if_neg hf] at h
      exact it0_ok R O h
  · exact it0_ok R O h
end

section
variable {X : Cx} {G : Gm} {r : Rc}
theorem blk_ok (O : XOk X G) {scope : Scope} {own : List (Str × Nat)} (ok : BlkOk X.N X.env.scope scope own) (s : Shared) (H : Hp) (C : Addr) (cl : List (Str × Addr)) (fp : List Addr) :
    XOk (X.blk s H scope (compEnvC scope cl C X.env) fp) (G.blk scope) where
  nd := O.nd
  hN := O.hN
  sc := by
    show relS scope X.env.scope = relS scope G.sc
    rw [O.sc]
  calm := O.calm
  hu := O.hu
  pass := PassesOwn.never
  fns := fun x n sp h => ⟨(O.fns x n sp h).dbg, (O.fns x n sp h).ok⟩
  glb := O.glb
  blt := O.blt
  st := fun x h => by
    have h : (match scope.names.lookup x with | some .local => true | some .cell => true | _ => false) = true := h
    split at h
    · rename_i e
      have e2 := lookup_relS_keep (sc := X.env.scope) (by decide) e
      exact ⟨.inl e2, .inr e2⟩
    · rename_i e
      have e2 := lookup_relS_keep (sc := X.env.scope) (by decide) e
      exact ⟨.inr e2, .inl (by show (scope.names.lookup x == some NameKind.cell) = true; rw [e]; rfl)⟩
    · cases h
theorem nms_ok (O : XOk X G) {st : Str → Bool} (hst : st = G.st) : ∀ {es : List Expr} {is : List Nat}, tgNms G.N st es = some is → PGs X es (gNms is) ∧ (assignEach es X.env).length = is.length ∧ (assignEach es X.env).findIdx? (·.1) = none
  | [], _, h => by cases h; exact ⟨pgs_nil, rfl, rfl⟩
  | e :: es, is, h => by
    cases e with
    | Name x p =>
      unfold tgNms at h
      split at h
      · rename_i hx
        split at h
        · cases h
          rename_i h1 h2
          obtain ⟨g1, g2, g3⟩ := nms_ok O hst h2
          rw [hst] at hx
          obtain ⟨hl, hf⟩ := O.st x hx
          refine ⟨pgs_cons (pg_name O.nd (by rw [O.hN]; exact ixOf_get h1) hl hf) g1 (by rfl), by show (assignEach es X.env).length + 1 = _; rw [g2]; rfl, ?_⟩
          show ((false, _) :: assignEach es X.env).findIdx? (·.1) = none
          rw [List.findIdx?_cons, g3]; rfl
        · cases h
      · cases h
    | _ => cases h
theorem tgv_ok (O : XOk X G) {tg : Expr} {t : Tg} (h : tgOf G.N G.st tg = some t) : PG X tg (tgV X.K t) := by
  cases tg with
  | Name x p =>
    have h : (if G.st x then (ixOf G.N x).map Tg.nm else none) = some t := h
    split at h
    · rename_i hx
      obtain ⟨i, h1, rfl⟩ := Option.map_eq_some_iff.mp h
      obtain ⟨hl, hf⟩ := O.st x hx
      exact pg_name O.nd (by rw [O.hN]; exact ixOf_get h1) hl hf
    · cases h
  | Tuple es k p =>
    have h : (tgNms G.N G.st es).map Tg.tp = some t := h
    obtain ⟨is, h1, rfl⟩ := Option.map_eq_some_iff.mp h
    obtain ⟨g1, g2, g3⟩ := nms_ok O rfl h1
    exact pg_tup O.calm g1 g2 g3
  | _ => cases h
theorem ts_ok (R : RcOk r) (O : XOk X G) {ifs : List Expr} {w : DB} (h : dTs r G ifs = some w) : PTs X ifs (upB X.K w) := by
  match ifs with
  | [] =>
    cases h
    exact ⟨fun pins s σ H Q I ⟨ρ, M, P, er, hr, w, k⟩ => pts_nil.run pins s σ H Q I (k _ M H w (.refl _ _) hr)⟩
  | [c] => exact pts_one (R.b X G _ _ O h)
  | _ :: _ :: _ => cases h
theorem lcp_ok (R : RcOk r) (O : XOk X G) {elt tg it : Expr} {ifs : List Expr} {scope : Scope} {w : DT} (h : dLc r G elt tg it ifs scope = some w) :
    ∃ wi t tt te, w = eLC wi t tt te ((ownOf G.N scope).map (·.2)) ∧ Di X tg it wi ∧ BlkOk X.N X.env.scope scope (ownOf G.N scope) ∧ LcOk X elt tg ifs scope t tt te ∧ (∀ i ∈ t.slots, i ∈ (ownOf G.N scope).map (·.2)) ∧ setB it = false := by
  unfold dLc at h
  split at h
  · rename_i wi t tt te h1 h2 h3 h4
    split at h
    · rename_i hc
      cases h
      simp only [Bool.and_eq_true, List.all_eq_true, Bool.not_eq_true'] at hc
      have ok : BlkOk X.N X.env.scope scope (ownOf G.N scope) := by
        rw [O.hN, O.sc]; exact blkOk_by hc.1.1
      have O' := fun s H C cl fp => blk_ok O ok s H C cl fp
      refine ⟨wi, t, tt, te, rfl, it_ok R O h1, ok, ⟨fun s H C cl fp => ?_, fun s H C cl fp => ts_ok R (O' s H C cl fp) h3, fun s H C cl fp => R.e _ _ _ _ (O' s H C cl fp) h4⟩, fun i hi => by simpa using hc.1.2 i hi, hc.2⟩
      exact tgv_ok (O' s H C cl fp) h2
    · cases h
  · cases h
theorem bin_ok (O : XOk X G) {op : Operator} {f : D → D → Mh → PQ → Prop} (h : binR op = some f) : OpR X (binaryOp op) (up2 X.K f) := by
  cases op <;> first | (cases h; done) | skip
  all_goals (cases h)
  all_goals first | exact od_add | exact od_sub | exact od_mul | exact od_mod | exact od_pow | exact od_div
theorem aug_ok {op : Operator} {f : D → D → Mh → PQ → Prop} (h : augR op = some f) : OpR X (inplaceOp op) (up2 X.K f) := by
  cases op <;> first | (cases h; done) | skip
  all_goals (cases h)
  all_goals first | exact iod_add | exact iod_sub
theorem cmp_ok (O : XOk X G) {op : CmpOp} {f : Cmp} (h : cmpR op = some f) : OpR X (compareOp op) (upC X.K f) := by
  have hu : X.A.units + 64 < cLine := Nat.lt_of_succ_lt O.hu
  cases op <;> cases h
  all_goals first | exact cd_eq hu | exact cd_ne hu | exact cd_lt | exact cd_le | exact cd_gt | exact cd_ge | exact cd_is | exact cd_isn | exact cd_in O.hu | exact cd_nin O.hu
theorem fnR_ok (O : XOk X G) {f : Str} {b : Bool} {id : String} {sp : DSp} {e : Expr} {es : List Expr} {wa : DA} {p pos : Pos} (h : fnR f = some (b, id, sp)) (hg : Gl X f) (ha : Da X (e :: es) wa)
    (he : starEach (e :: es) X.env = (false, eval e X.env) :: starEach es X.env) (hpl : (backTo pos (starEach es X.env)).any (·.1) = false) : Dx X (.Call (.Name f p) (e :: es) [] pos) (eCall sp wa) := by
  unfold fnR at h
  have eqf : ∀ {z : Str}, (f == z) = true → f = z := fun h => eq_of_beq h
  by_cases c1 : (f == "len") = true
  · rw [if_pos c1] at h; cases h; have := eqf c1; subst this
    exact dx_fb fd_len hg (O.blt _ (by decide +kernel)) (by decide +kernel) ha (by decide +kernel) (by decide +kernel) he hpl
  rw [if_neg c1] at h
  by_cases c2 : (f == "int") = true
  · rw [if_pos c2] at h; cases h; have := eqf c2; subst this
    exact dx_ft fd_int hg (O.blt _ (by decide +kernel)) (by decide +kernel) ha (by decide +kernel) (by decide +kernel) he hpl
  rw [if_neg c2] at h
  by_cases c3 : (f == "str") = true
  · rw [if_pos c3] at h; cases h; have := eqf c3; subst this
    exact dx_ft fd_str hg (O.blt _ (by decide +kernel)) (by decide +kernel) ha (by decide +kernel) (by decide +kernel) he hpl
  rw [if_neg c3] at h
  by_cases c4 : (f == "tuple") = true
  · rw [if_pos c4] at h; cases h; have := eqf c4; subst this
    exact dx_ft fd_tuple hg (O.blt _ (by decide +kernel)) (by decide +kernel) ha (by decide +kernel) (by decide +kernel) he hpl
  rw [if_neg c4] at h
  by_cases c5 : (f == "list") = true
  · rw [if_pos c5] at h; cases h; have := eqf c5; subst this
    exact dx_ft fd_list hg (O.blt _ (by decide +kernel)) (by decide +kernel) ha (by decide +kernel) (by decide +kernel) he hpl
  rw [if_neg c5] at h
  by_cases c6 : (f == "sum") = true
  · rw [if_pos c6] at h; cases h; have := eqf c6; subst this
    exact dx_fb (fd_sum O.calm) hg (O.blt _ (by decide +kernel)) (by decide +kernel) ha (by decide +kernel) (by decide +kernel) he hpl
  rw [if_neg c6] at h
  by_cases c7 : (f == "abs") = true
  · rw [if_pos c7] at h; cases h; have := eqf c7; subst this
    exact dx_fb fd_abs hg (O.blt _ (by decide +kernel)) (by decide +kernel) ha (by decide +kernel) (by decide +kernel) he hpl
  rw [if_neg c7] at h
  by_cases c8 : (f == "max") = true
  · rw [if_pos c8] at h; cases h; have := eqf c8; subst this
    exact dx_fb (fd_max O.calm) hg (O.blt _ (by decide +kernel)) (by decide +kernel) ha (by decide +kernel) (by decide +kernel) he hpl
  rw [if_neg c8] at h
  by_cases c9 : (f == "min") = true
  · rw [if_pos c9] at h; cases h; have := eqf c9; subst this
    exact dx_fb (fd_min O.calm) hg (O.blt _ (by decide +kernel)) (by decide +kernel) ha (by decide +kernel) (by decide +kernel) he hpl
  rw [if_neg c9] at h
  by_cases c10 : (f == "sorted") = true
  · rw [if_pos c10] at h; cases h; have := eqf c10; subst this
    exact dx_fb fd_sorted hg (O.blt _ (by decide +kernel)) (by decide +kernel) ha (by decide +kernel) (by decide +kernel) he hpl
  rw [if_neg c10] at h
  cases h
theorem tyR_ok (O : XOk X G) {e : Expr} {t : Str} {T : String} {w : DT} {p p2 pos : Pos} (h : tyR t = some T) (he : Dx X e w) (hg : Gl X "isinstance") (hg2 : Gl X t) (hs : starB e = false) : Dx X (.Call (.Name "isinstance" p) [e, .Name t p2] [] pos) (eIsi T w) := by
  unfold tyR at h
  have eqf : ∀ {z : Str}, (t == z) = true → t = z := fun h => eq_of_beq h
  by_cases c1 : (t == "int") = true
  · rw [if_pos c1] at h; cases h; have := eqf c1; subst this
    exact dx_isi (by simp) he hg (O.blt _ (by decide +kernel)) hg2 (O.blt _ (by decide +kernel)) (by decide +kernel) (by decide +kernel) (by decide +kernel) (star_of hs)
  rw [if_neg c1] at h
  by_cases c2 : (t == "str") = true
  · rw [if_pos c2] at h; cases h; have := eqf c2; subst this
    exact dx_isi (by simp) he hg (O.blt _ (by decide +kernel)) hg2 (O.blt _ (by decide +kernel)) (by decide +kernel) (by decide +kernel) (by decide +kernel) (star_of hs)
  rw [if_neg c2] at h
  by_cases c3 : (t == "tuple") = true
  · rw [if_pos c3] at h; cases h; have := eqf c3; subst this
    exact dx_isi (by simp) he hg (O.blt _ (by decide +kernel)) hg2 (O.blt _ (by decide +kernel)) (by decide +kernel) (by decide +kernel) (by decide +kernel) (star_of hs)
  rw [if_neg c3] at h
  by_cases c4 : (t == "list") = true
  · rw [if_pos c4] at h; cases h; have := eqf c4; subst this
    exact dx_isi (by simp) he hg (O.blt _ (by decide +kernel)) hg2 (O.blt _ (by decide +kernel)) (by decide +kernel) (by decide +kernel) (by decide +kernel) (star_of hs)
  rw [if_neg c4] at h
  by_cases c5 : (t == "bool") = true
  · rw [if_pos c5] at h; cases h; have := eqf c5; subst this
    exact dx_isi (by simp) he hg (O.blt _ (by decide +kernel)) hg2 (O.blt _ (by decide +kernel)) (by decide +kernel) (by decide +kernel) (by decide +kernel) (star_of hs)
  rw [if_neg c5] at h
  by_cases c6 : (t == "dict") = true
  · rw [if_pos c6] at h; cases h; have := eqf c6; subst this
    exact dx_isi (by simp) he hg (O.blt _ (by decide +kernel)) hg2 (O.blt _ (by decide +kernel)) (by decide +kernel) (by decide +kernel) (by decide +kernel) (star_of hs)
  rw [if_neg c6] at h
  cases h
theorem mtd_ok (R : RcOk r) (O : XOk X G) {T id : String} {name : Str} {f : D → List D → Mh → PQ → Prop} {o : Expr} {args : List Expr} {wo : DT} {wa : DA} {apos cpos : Pos} (pa : PlainAttrs T) (sl : Slot T name id) (hty : typeOf (.builtin id) = pure (.type "method_descriptor"))
    (hm : MtR X id (upM X.K f)) (ho : Dx X o wo) (ha : dAs r G args = some wa) (hline : (apos.endLine == cpos.line) = true) (hb : superB o = false) (hs : args.all (fun e => !starB e) = true) (hl : args.length < 30) : Dx X (.Call (.Attribute o name apos) args [] cpos) (eMt T f wo wa) := by
  cases args with
  | nil => cases ha; exact dx_mt0 pa sl hty hm ho (base_of hb) hline
  | cons e es =>
    have hs' := hs
    rw [List.all_cons, Bool.and_eq_true] at hs'
    refine dx_mt pa sl hty hm ho (as_ok R O ha) (base_of hb) ?_ hline (star_of (by simpa using hs'.1)) (stars_of hs'.2)
    rw [stars_all hs]
    show (true && true && decide ((e :: es).length + 0 + 0 < 30)) = true
    rw [decide_eq_true (by omega)]; rfl
theorem mtR_ok (R : RcOk r) (O : XOk X G) {T : String} {name : Str} {f : D → List D → Mh → PQ → Prop} {o : Expr} {args : List Expr} {wo : DT} {wa : DA} {apos cpos : Pos} (h : mtR name = some (T, f)) (ho : Dx X o wo) (ha : dAs r G args = some wa)
    (hline : (apos.endLine == cpos.line) = true) (hb : superB o = false) (hs : args.all (fun e => !starB e) = true) (hl : args.length < 30) : Dx X (.Call (.Attribute o name apos) args [] cpos) (eMt T f wo wa) := by
  unfold mtR at h
  have eqf : ∀ {z : Str}, (name == z) = true → name = z := fun h => eq_of_beq h
  by_cases c1 : (name == "append") = true
  · rw [if_pos c1] at h; cases h; have := eqf c1; subst this
    exact mtd_ok R O PySem.F.plainAttrs_list PySem.F.slot_list_append PySem.F.type_list_append md_append ho ha hline hb hs hl
  rw [if_neg c1] at h
  by_cases c2 : (name == "extend") = true
  · rw [if_pos c2] at h; cases h; have := eqf c2; subst this
    exact mtd_ok R O PySem.F.plainAttrs_list PySem.F.slot_list_extend PySem.F.type_list_extend md_extend ho ha hline hb hs hl
  rw [if_neg c2] at h
  by_cases c3 : (name == "pop") = true
  · rw [if_pos c3] at h; cases h; have := eqf c3; subst this
    exact mtd_ok R O PySem.F.plainAttrs_list PySem.F.slot_list_pop PySem.F.type_list_pop md_pop ho ha hline hb hs hl
  rw [if_neg c3] at h
  by_cases c4 : (name == "join") = true
  · rw [if_pos c4] at h; cases h; have := eqf c4; subst this
    exact mtd_ok R O PySem.F.plainAttrs_str PySem.F.slot_str_join PySem.F.type_str_join md_join ho ha hline hb hs hl
  rw [if_neg c4] at h
  cases h
theorem x_ok (R : RcOk r) (O : XOk X G) {e : Expr} {w : DT} (h : dX r G e = some w) : Dx X e w := by
  unfold dX at h
  split at h
  · cases h
    exact dx_dct
  · split at h
    · cases h
      rename_i h1 h2
      exact dx_d1 (R.e X G _ _ O h1) (R.e X G _ _ O h2)
    · cases h
  · split at h
    · rename_i hc
      simp only [Bool.and_eq_true, Bool.not_eq_true'] at hc
      obtain ⟨⟨⟨⟨c1, c2⟩, c3⟩, c4⟩, c5⟩ := hc
      obtain ⟨u, h1, rfl⟩ := Option.map_eq_some_iff.mp h
      have e1 := eq_of_beq c1
      have e2 := eq_of_beq c2
      subst e1 e2
      exact dx_keys O.calm (R.e X G _ _ O h1) (gl_of O c3) (O.blt _ (by decide +kernel)) (base_of c4) c5 rfl
    · cases h
  · split at h
    · rename_i hc
      simp only [Bool.and_eq_true, Bool.not_eq_true'] at hc
      obtain ⟨⟨⟨⟨c1, c2⟩, c3⟩, c4⟩, c5⟩ := hc
      obtain ⟨u, h1, rfl⟩ := Option.map_eq_some_iff.mp h
      have e1 := eq_of_beq c1
      have e2 := eq_of_beq c2
      subst e1 e2
      exact dx_rev O.calm (gl_of O c3) (O.blt _ (by decide +kernel)) (gl_of O c4) (O.blt _ (by decide +kernel)) (R.e X G _ _ O h1) (star_of c5)
    · split at h
      · rename_i hc
        simp only [Bool.and_eq_true, Bool.not_eq_true'] at hc
        obtain ⟨⟨⟨⟨c1, c2⟩, c3⟩, c4⟩, c5⟩ := hc
        obtain ⟨u, h1, rfl⟩ := Option.map_eq_some_iff.mp h
        have e1 := eq_of_beq c1
        have e2 := eq_of_beq c2
        subst e1 e2
        exact dx_trev O.calm (gl_of O c3) (O.blt _ (by decide +kernel)) (gl_of O c4) (O.blt _ (by decide +kernel)) (R.e X G _ _ O h1) (star_of c5)
      · split at h
        · rename_i hc
          simp only [Bool.and_eq_true, Bool.not_eq_true'] at hc
          obtain ⟨⟨⟨⟨c1, c2⟩, c3⟩, c4⟩, c5⟩ := hc
          obtain ⟨u, h1, rfl⟩ := Option.map_eq_some_iff.mp h
          have e1 := eq_of_beq c1
          have e2 := eq_of_beq c2
          subst e1 e2
          exact dx_lr O.calm (gl_of O c3) (O.blt _ (by decide +kernel)) (gl_of O c4) (O.blt _ (by decide +kernel)) (R.e X G _ _ O h1) (star_of c5) (star_of rfl)
        · cases h
  · split at h
    · rename_i hc
      simp only [Bool.and_eq_true, Bool.not_eq_true'] at hc
      obtain ⟨⟨⟨c1, c2⟩, c3⟩, c4⟩ := hc
      have e1 := eq_of_beq c1
      subst e1
      split at h
      · rename_i x y h1 h2
        cases h
        refine dx_idx O.hu (R.e X G _ _ O h1) (R.e X G _ _ O h2) (base_of c2) ?_ c3 (star_of c4)
        rw [stars_all (by simpa using c4)]
        rfl
      · cases h
    · cases h
  · cases h
theorem e0_ok (R : RcOk r) (O : XOk X G) {e : Expr} {w : DT} (h : dE0 r G e = some w) : Dx X e w := by
  unfold dE0 at h
  split at h
  · -- a name
    rename_i x p
    by_cases c : okName x = true
    · rw [if_pos c] at h
      unfold okName at c
      simp only [Bool.and_eq_true, Bool.not_eq_true'] at c
      by_cases v : visB G.sc x = true
      · rw [if_pos v] at h
        obtain ⟨i, h1, rfl⟩ := Option.map_eq_some_iff.mp h
        exact dx_var (by rw [O.hN]; exact ixOf_get h1) (by rw [O.sc]; exact vis_of v) c.1 c.2
      · rw [if_neg v] at h
        by_cases g : glB G.sc x = true
        · rw [if_pos g] at h
          obtain ⟨d, h1, rfl⟩ := Option.map_eq_some_iff.mp h
          obtain ⟨u, vv, h2, h3, h4⟩ := O.glb x d h1
          exact dx_c (pe_glob (gl_of O g) h2 h3 c.1) h4
        · rw [if_neg g] at h; cases h
    · rw [if_neg c] at h; cases h
  · split at h <;> cases h
    · exact dx_c pe_int fun H => .int _
    · exact dx_c pe_bl fun H => .bl _
    · exact dx_c pe_non fun H => .non
    · exact dx_c pe_str fun H => .str _
  · split at h
    · cases h
      rename_i h1 h2 h3
      exact dx_bin (bin_ok O h1) (R.e X G _ _ O h2) (R.e X G _ _ O h3)
    · cases h
  · split at h
    · obtain ⟨u, h1, rfl⟩ := Option.map_eq_some_iff.mp h
      exact dx_un ud_neg (R.e X G _ _ O h1)
    · obtain ⟨u, h1, rfl⟩ := Option.map_eq_some_iff.mp h
      exact dx_not (R.e X G _ _ O h1)
    · cases h
  · split at h
    · cases h
    · rename_i hs
      split at h
      · cases h
        rename_i h1 h2 h3
        exact dx_cmp (cmp_ok O h1) (R.e X G _ _ O h2) (R.e X G _ _ O h3) (marks_of (by simpa using hs))
      · cases h
  · exact pe_one (R.e X G _ _ O h)
  · rename_i op _ _ _ _
    split at h
    · cases h
      rename_i h1 h2
      cases op with
      | And => exact dx_and (R.e X G _ _ O h1) (R.e X G _ _ O h2)
      | Or => exact dx_or (R.e X G _ _ O h1) (R.e X G _ _ O h2)
    · cases h
  · split at h
    · cases h
      rename_i h1 h2 h3
      exact dx_if (R.b X G _ _ O h1) (R.e X G _ _ O h2) (R.e X G _ _ O h3)
    · cases h
  · obtain ⟨u, h1, rfl⟩ := Option.map_eq_some_iff.mp h
    exact dx_tup (as_ok R O h1)
  · obtain ⟨u, h1, rfl⟩ := Option.map_eq_some_iff.mp h
    exact dx_lst (as_ok R O h1)
  · split at h
    · cases h
      rename_i h1 h2 h3
      exact dx_sl (R.e X G _ _ O h1) (opt_ok R O h2) (opt_ok R O h3)
    · cases h
  · split at h
    · cases h
    · rename_i hs
      split at h
      · cases h
        rename_i h1 h2
        exact dx_ix O.hu (R.e X G _ _ O h1) (R.e X G _ _ O h2) (plain_of (by simpa using hs))
      · cases h
  · -- a call of a name
    rename_i f p args pos
    by_cases g : glB G.sc f = true
    · rw [if_pos g] at h
      have hg := gl_of O g
      split at h
      · rename_i sp hf
        split at h
        · rename_i hs
          obtain ⟨u, h1, rfl⟩ := Option.map_eq_some_iff.mp h
          have c := O.fns _ _ _ hf
          cases args with
          | nil => cases h1; exact dx_fn0 c hg
          | cons e es =>
            rw [List.all_cons, Bool.and_eq_true] at hs
            exact dx_fn c hg (as_ok R O h1) (star_of (by simpa using hs.1)) (stars_of hs.2)
        · cases h
      · by_cases ci : (f == "isinstance") = true
        · rw [if_pos ci] at h
          have := eq_of_beq ci
          subst this
          split at h
          · split at h
            · cases h
            · rename_i hs
              simp only [Bool.or_eq_true, not_or, Bool.not_eq_true, Bool.not_eq_true', Bool.not_eq_false] at hs
              split at h
              · cases h
                rename_i h1 h2
                exact tyR_ok O h1 (R.e X G _ _ O h2) hg (gl_of O (by simpa using hs.2)) hs.1
              · cases h
          · cases h
        · rw [if_neg ci] at h
          split at h
          · rename_i h0 _hn
            split at h
            · rename_i hs
              obtain ⟨u, h1, rfl⟩ := Option.map_eq_some_iff.mp h
              rw [List.all_cons, Bool.and_eq_true] at hs
              exact fnR_ok O h0 hg (as_ok R O h1) (star_of (by simpa using hs.1)) (stars_of hs.2)
            · cases h
          · cases h
    · rw [if_neg g] at h; cases h
  · -- a method
    split at h
    · rename_i hc
      simp only [Bool.and_eq_true, Bool.not_eq_true', decide_eq_true_eq] at hc
      obtain ⟨⟨⟨c1, c2⟩, c3⟩, c4⟩ := hc
      split at h
      · cases h
        rename_i h1 h2 h3
        exact mtR_ok R O h1 (R.e X G _ _ O h2) h3 c1 c2 c3 c4
      · cases h
    · cases h
  · obtain ⟨wi, t, tt, te, rfl, h1, h2, h3, h4, h5⟩ := lcp_ok R O h
    exact dx_lc O.calm O.nd h1 h2 h3 h4 (folded_of h5)
  · cases h
theorem e1_ok (R : RcOk r) (O : XOk X G) {e : Expr} {w : DT} (h : dE1 r G e = some w) : Dx X e w := by
  unfold dE1 at h
  split at h
  · rename_i hx
    cases h
    exact x_ok R O hx
  · exact e0_ok R O h
theorem w1_ok (R : RcOk r) (O : XOk X G) {op : BoolOp} {es : List Expr} {pos : Pos} {w : DB} (h : dB1 r G (.BoolOp op es pos) = some w) : Dw X (.BoolOp op es pos) w := by
  match es with
  | [] => cases h
  | [a] =>
    have := R.b X G _ _ O h
    cases op with
    | And => exact pw_and1 this
    | Or => exact pw_or1 this
  | a :: b :: rest =>
    have h : (match r.b G a, r.b G (.BoolOp op (b :: rest) pos) with | some x, some y => some (andB op x y) | _, _ => none) = some w := h
    split at h
    · cases h
      rename_i h1 h2
      cases op with
      | And => exact dw_and (R.b X G _ _ O h1) (R.w X G _ _ _ _ O h2)
      | Or => exact dw_or (R.b X G _ _ O h1) (R.w X G _ _ _ _ O h2)
    · cases h
theorem b1_ok (R : RcOk r) (O : XOk X G) {e : Expr} {w : DB} (h : dB1 r G e = some w) : Dt X e w := by
  unfold dB1 at h
  split at h
  · obtain ⟨u, h1, rfl⟩ := Option.map_eq_some_iff.mp h
    exact dt_not (R.b X G _ _ O h1)
  · split at h
    · cases h
    · rename_i hs
      split at h
      · cases h
        rename_i h1 h2 h3
        exact dt_cmp (cmp_ok O h1) (R.e X G _ _ O h2) (R.e X G _ _ O h3) (marks_of (by simpa using hs))
      · cases h
  · exact (w1_ok (op := _) (es := [_]) R O h).pt
  · exact (w1_ok (es := _ :: _ :: _) R O h).pt
  · split at h
    · rename_i ht
      obtain ⟨u, h1, rfl⟩ := Option.map_eq_some_iff.mp h
      exact dt_tru (R.e X G _ _ O h1) (tru_plain ht)
    · cases h
theorem dR_ok : ∀ n, RcOk (dR n)
  | 0 => ⟨fun _ _ _ _ _ h => (nomatch h), fun _ _ _ _ _ h => (nomatch h), fun _ _ _ _ _ _ _ h => (nomatch h)⟩
  | n + 1 => ⟨fun _ _ _ _ O h => e1_ok (dR_ok n) O h, fun _ _ _ _ O h => b1_ok (dR_ok n) O h, fun _ _ _ _ _ _ O h => w1_ok (dR_ok n) O h⟩
end
end DL
/-! DLg: statements from the syntax; a def by its body. -/
namespace DL
open PySem PySem.Spec L2
open PyProof.Rows hiding St

def lcSw (sc : Scope) (x : Str) (l1 l2 : Nat) (scope : Scope) : Bool := (match sc.names.lookup x with | some .local => true | _ => false) && (match sc.kind with | .function => true | _ => false) && (l1 == l2) && !(scope.names.any fun (n, k) => n == x && (k == .local || k == .cell))
theorem swapsSole_of {t e : Expr} {l : Nat} {env : Env} (h : compB e = false) : swapsWithSole [t] e l env = pure false := swaps_of h
def isTupB : Expr → Bool
  | .Tuple .. => true
  | _ => false
section
variable (r : Rc)
def dGs (G : Gm) : List Expr → Option DGs
  | [] => some gsN
  | .Name x _ :: es => if G.st x then match ixOf G.N x, dGs G es with
    | some i, some g => some (gsC (gN i) g)
    | _, _ => none else none
  | _ => none
def dG (G : Gm) : Expr → Option DG
  | .Name x _ => if G.st x then (ixOf G.N x).map gN else none
  | .Tuple es _ _ => (dGs G es).map (gT es.length)
  | .Subscript o i _ => if sliceB i then none else match r.e G o, r.e G i with
    | some x, some y => some (gS x y)
    | _, _ => none
  | _ => none
/-- a statement, its blocks given from outside -/
def dS1 (bl : Gm → List Stmt → Option DS) (G : Gm) : Stmt → Option DS
  | .Assign [.Name x p'] e pos => if G.st x then (match e with
      | .ListComp elt [⟨tg, it, ifs, 0⟩] scope pos2 => if lcSw G.sc x p'.line pos2.line scope then
          (match ixOf G.N x, dLc r G elt tg it ifs scope with
          | some i, some w => some (sAsg w (gN i))
          | _, _ => none) else none
      | e => if compB e then none else match ixOf G.N x, r.e G e with
        | some i, some w => some (sAsg w (gN i))
        | _, _ => none) else none
  | .Assign [.Tuple ts kt pt] e pos => if isTupB e || compB e then none else match dG r G (.Tuple ts kt pt), r.e G e with
    | some g, some w => some (sAsg w g)
    | _, _ => none
  | .Assign [.Subscript o i p] e pos => if compB e then none else match dG r G (.Subscript o i p), r.e G e with
    | some g, some w => some (sAsg w g)
    | _, _ => none
  | .AugAssign (.Name x _) op e _ => if G.st x then (match ixOf G.N x, augR op, r.e G e with
    | some i, some f, some w => some (sAug i f w)
    | _, _, _ => none) else none
  | .Expr e _ => if compB e then none else (r.e G e).map sExp
  | .Return (some e) _ => (r.e G e).map sRet
  | .Return none _ => some sRetN
  | .If c p q _ => match r.b G c, bl G p, bl G q with
    | some w, some a, some b => some (sIf w a b)
    | _, _, _ => none
  | .While c p [] _ => match r.b G c, bl G p with
    | some w, some a => some (sWh w a)
    | _, _ => none
  | .For tg it p [] _ => if setB it then none else match dIt r G tg it, dG r G tg, bl G p with
    | some w, some g, some a => some (sFor w g a)
    | _, _, _ => none
  | .Pass _ => some sNil
  | .Break _ => some sBrk
  | .Continue _ => some sCnt
  | _ => none
def dSs1 (bl : Gm → List Stmt → Option DS) (G : Gm) : List Stmt → Option DS
  | [] => some sNil
  | s :: ss => match dS1 r bl G s, dSs1 bl G ss with
    | some a, some b => some (sSeq a b)
    | _, _ => none
def dB : Nat → Gm → List Stmt → Option DS
  | 0 => fun _ _ => none
  | n + 1 => dSs1 r (dB n)
end

section
variable {X : Cx} {G : Gm} {r : Rc}
theorem gs_ok (O : XOk X G) : ∀ {es : List Expr} {g : DGs}, dGs G es = some g → Dgs X es g ∧ (assignEach es X.env).length = es.length ∧ (assignEach es X.env).findIdx? (·.1) = none
  | [], _, h => by cases h; exact ⟨dgs_nil, rfl, rfl⟩
  | e :: es, g, h => by
    cases e with
    | Name x p =>
      unfold dGs at h
      split at h
      · rename_i hx
        split at h
        · cases h
          rename_i h1 h2
          obtain ⟨g1, g2, g3⟩ := gs_ok O h2
          obtain ⟨hl, hf⟩ := O.st x hx
          refine ⟨dgs_cons (dg_nm O.nd (by rw [O.hN]; exact ixOf_get h1) hl hf) g1 (by rfl), by show (assignEach es X.env).length + 1 = _; rw [g2]; rfl, ?_⟩
          show ((false, _) :: assignEach es X.env).findIdx? (·.1) = none
          rw [List.findIdx?_cons, g3]; rfl
        · cases h
      · cases h
    | _ => cases h
theorem g_ok (R : RcOk r) (O : XOk X G) {tg : Expr} {g : DG} (h : dG r G tg = some g) : Dg X tg g := by
  unfold dG at h
  split at h
  · split at h
    · rename_i hx
      obtain ⟨i, h1, rfl⟩ := Option.map_eq_some_iff.mp h
      obtain ⟨hl, hf⟩ := O.st _ hx
      exact dg_nm O.nd (by rw [O.hN]; exact ixOf_get h1) hl hf
    · cases h
  · obtain ⟨u, h1, rfl⟩ := Option.map_eq_some_iff.mp h
    obtain ⟨g1, g2, g3⟩ := gs_ok O h1
    exact dg_tup O.calm g1 g2 g3
  · rename_i o i p
    split at h
    · cases h
    · rename_i hs
      split at h
      · cases h
        rename_i h1 h2
        refine dg_sub O.hu (R.e X G _ _ O h1) (R.e X G _ _ O h2) fun v => ?_
        cases i <;> first | rfl | (exact (hs rfl).elim)
      · cases h
  · cases h
theorem swapS_of {t e : Expr} {env : Env} (h : isTupB t = false ∨ isTupB e = false) (hl : ∀ es p, t ≠ .List es p) : swappedStores [t] e env = pure none := by
  rcases h with h | h
  · cases t <;> first | rfl | (cases h; done) | (exact absurd rfl (hl _ _))
  · cases t <;> first | rfl | (exact absurd rfl (hl _ _)) | skip
    cases e <;> first | rfl | cases h
theorem s1_ok (R : RcOk r) {bl : Gm → List Stmt → Option DS} (B : ∀ (b : List Stmt) (w : DS), bl G b = some w → Dss X b w) (O : XOk X G) {s : Stmt} {w : DS} (h : dS1 r bl G s = some w) : Ds X s w := by
  unfold dS1 at h
  split at h
  · -- name = e
    rename_i x p' e pos
    by_cases hx : G.st x = true
    · rw [if_pos hx] at h
      obtain ⟨hl, hf⟩ := O.st _ hx
      split at h
      · rename_i elt tg it ifs scope pos2
        split at h
        · rename_i hc
          unfold lcSw at hc
          simp only [Bool.and_eq_true] at hc
          obtain ⟨⟨⟨c1, c0⟩, c2⟩, c3⟩ := hc
          split at h
          · cases h
            rename_i h1 h2
            obtain ⟨wi, t, tt, te, rfl, l1, l2, l3, l4, l5⟩ := lcp_ok R O h2
            have hloc : X.env.scope.names.lookup x = some .local := by
              rw [O.sc]
              split at c1
              · assumption
              · cases c1
            have hk : X.env.scope.kind = .function := by
              rw [O.sc]
              split at c0
              · assumption
              · cases c0
            exact ds_lc O.calm O.nd (by rw [O.hN]; exact ixOf_get h1) hloc (sw_true hk hloc c2 (by simpa using c3)) l1 l2 l3 l4 (folded_of l5)
          · cases h
        · cases h
      · split at h
        · cases h
        · rename_i hs
          split at h
          · cases h
            rename_i h1 h2
            exact ds_set O.nd (by rw [O.hN]; exact ixOf_get h1) hl (R.e X G _ _ O h2) (swaps_of (by simpa using hs)) hf
          · cases h
    · rw [if_neg hx] at h; cases h
  · split at h
    · cases h
    · rename_i hs
      simp only [Bool.or_eq_true, not_or, Bool.not_eq_true] at hs
      split at h
      · cases h
        rename_i h1 h2
        exact ds_asg (R.e X G _ _ O h2) (g_ok R O h1) (swapsSole_of hs.2) (swapS_of (.inr hs.1) fun _ _ z => nomatch z) (by rfl)
      · cases h
  · split at h
    · cases h
    · rename_i hs
      split at h
      · cases h
        rename_i h1 h2
        exact ds_asg (R.e X G _ _ O h2) (g_ok R O h1) (swapsSole_of (by simpa using hs)) (swapS_of (.inl rfl) fun _ _ z => nomatch z) (by rfl)
      · cases h
  · split at h
    · rename_i hx
      obtain ⟨hl, hf⟩ := O.st _ hx
      split at h
      · cases h
        rename_i h1 h2 h3
        exact ds_aug O.nd (by rw [O.hN]; exact ixOf_get h1) hl (R.e X G _ _ O h3) (aug_ok h2) hf
      · cases h
    · cases h
  · split at h
    · cases h
    · rename_i hs
      obtain ⟨u, h1, rfl⟩ := Option.map_eq_some_iff.mp h
      exact ds_exp (R.e X G _ _ O h1) (swaps_of (by simpa using hs))
  · obtain ⟨u, h1, rfl⟩ := Option.map_eq_some_iff.mp h
    exact ds_ret (R.e X G _ _ O h1)
  · cases h; exact ds_retN
  · split at h
    · cases h
      rename_i h1 h2 h3
      exact ds_if (R.b X G _ _ O h1) (B _ _ h2) (B _ _ h3)
    · cases h
  · split at h
    · cases h
      rename_i h1 h2
      exact ds_wh O.pass (R.b X G _ _ O h1) (B _ _ h2)
    · cases h
  · split at h
    · cases h
    · rename_i hs
      split at h
      · cases h
        rename_i h1 h2 h3
        exact ds_for O.pass O.calm (it_ok R O h1) (g_ok R O h2) (B _ _ h3) (folded_of (by simpa using hs))
      · cases h
  · cases h; exact ds_pass
  · cases h; exact ds_brk
  · cases h; exact ds_cnt
  · cases h
theorem ss1_ok (R : RcOk r) {bl : Gm → List Stmt → Option DS} (B : ∀ (b : List Stmt) (w : DS), bl G b = some w → Dss X b w) (O : XOk X G) : ∀ {ss : List Stmt} {w : DS}, dSs1 r bl G ss = some w → Dss X ss w
  | [], _, h => by cases h; exact dss_nil
  | s :: ss, w, h => by
    unfold dSs1 at h
    split at h
    · cases h
      rename_i h1 h2
      exact dss_cons (s1_ok R B O h1) (ss1_ok R B O h2)
    · cases h
theorem b_ok (R : RcOk r) (O : XOk X G) : ∀ (n : Nat) (b : List Stmt) (w : DS), dB r n G b = some w → Dss X b w
  | 0, _, _, h => by cases h
  | n + 1, b, w, h => ss1_ok R (b_ok R O n) O h
end

/-! ### a def -/
def stOf (sc : Scope) (x : Str) : Bool := match sc.names.lookup x with
  | some .local => true
  | some .cell => true
  | _ => false
/-- the context of a def's body -/
def gmOf (N : List Str) (sc : Scope) (fns : List (Str × Nat × DSp)) (glb : List (Str × D)) : Gm := ⟨N, sc, stOf sc, fns, glb⟩
section
variable {P : Program} {w : World} {K : PySem.W.Frag} {mg : Str → Option Value} {base : Heap}
/-- a def of the module, known by its promise -/
structure Dfn (P : Program) (w : World) (K : PySem.W.Frag) (mg : Str → Option Value) (base : Heap) (k : Nat) (x : Str) (n : Nat) (sp : DSp) : Prop where
  dbg : (x == ("__debug__" : Str)) = false
  ok : ∃ f fd ps, ∃ (dd : List D) (dvs : List V) (us : List Value) (sp0 : DSp), FnOk P w K mg base CX0 k f fd ps (upF K ps.length sp0) ∧ mg x = some (.ref f) ∧ PySem.W.keepIn K (.ref f) = true ∧ Binds K fd ps us ∧
    Vals dvs us ∧ (∀ H, DRs K H dd dvs) ∧ n + dd.length = ps.length ∧ ∀ ds M P, ds.length = n → sp ds M P → sp0 (ds ++ dd) M P
theorem Dfn.mono {j k : Nat} {x : Str} {n : Nat} {sp : DSp} (d : Dfn P w K mg base j x n sp) (h : j ≤ k) : Dfn P w K mg base k x n sp :=
  ⟨d.dbg, let ⟨f, fd, ps, dd, dvs, us, sp0, F, r⟩ := d.ok; ⟨f, fd, ps, dd, dvs, us, sp0, F.mono h, r⟩⟩
/-- a weaker promise -/
theorem Dfn.imp {k : Nat} {x : Str} {n : Nat} {sp sp' : DSp} (d : Dfn P w K mg base k x n sp) (h : ∀ ds M P, sp' ds M P → sp ds M P) : Dfn P w K mg base k x n sp' :=
  ⟨d.dbg, let ⟨f, fd, ps, dd, dvs, us, sp0, F, a, b, c, d, e, g, i⟩ := d.ok; ⟨f, fd, ps, dd, dvs, us, sp0, F, a, b, c, d, e, g, fun ds M P l q => i ds M P l (h ds M P q)⟩⟩
def FnsOk (P : Program) (w : World) (K : PySem.W.Frag) (mg : Str → Option Value) (base : Heap) (k : Nat) (l : List (Str × Nat × DSp)) : Prop := ∀ x n sp, fnAt l x n = some sp → Dfn P w K mg base k x n sp
theorem FnsOk.nil {k : Nat} : FnsOk P w K mg base k [] := fun _ _ _ h => nomatch h
theorem FnsOk.cons {k : Nat} {x : Str} {n : Nat} {sp : DSp} {l : List (Str × Nat × DSp)} (d : Dfn P w K mg base k x n sp) (h : FnsOk P w K mg base k l) : FnsOk P w K mg base k ((x, n, sp) :: l) := fun y m s e => by
  unfold fnAt at e
  rw [List.find?_cons] at e
  by_cases c : (x == y && n == m) = true
  · simp only [c] at e
    cases e
    rw [Bool.and_eq_true] at c
    have c1 := eq_of_beq c.1
    have c2 := eq_of_beq c.2
    subst c1 c2
    exact d
  · simp only [Bool.eq_false_iff.mpr c] at e
    exact h y m s e
def GlbOk (K : PySem.W.Frag) (mg : Str → Option Value) (l : List (Str × D)) : Prop := ∀ x d, l.lookup x = some d → ∃ u v, mg x = some u ∧ RelV v u ∧ ∀ H, DR K H d v
theorem GlbOk.nil : GlbOk K mg [] := fun _ _ h => nomatch h
theorem GlbOk.cons {x : Str} {d : D} {l : List (Str × D)} (c : ∃ u v, mg x = some u ∧ RelV v u ∧ ∀ H, DR K H d v) (h : GlbOk K mg l) : GlbOk K mg ((x, d) :: l) := fun y e q => by
  rw [List.lookup_cons] at q
  by_cases b : (y == x) = true
  · rw [b] at q
    cases q
    rw [eq_of_beq b]
    exact c
  · rw [Bool.eq_false_iff.mpr b] at q
    exact h y e q
def BltOk (mg : Str → Option Value) : Prop := ∀ x ∈ bltNames, mg x = none

theorem start_er {K : PySem.W.Frag} {H : Hp} {N : List Str} {ds : List D} {vs : List V} (r : DRs K H ds vs) : ER K H (startD N.length ds) (L2.start N vs) := by
  unfold startD L2.start
  refine ⟨by simp [r.length], fun i d e => ?_⟩
  by_cases h : i < ds.length
  · rw [List.getElem?_append_left (by simpa using h), List.getElem?_map] at e
    cases q : ds[i]? with
    | none => rw [q] at e; cases e
    | some d' =>
      rw [q] at e
      cases e
      obtain ⟨v, h1, h2⟩ := r.get q
      refine ⟨v, ?_, h2⟩
      rw [List.getElem?_append_left (by rw [List.length_map, ← r.length]; exact h), List.getElem?_map, h1]; rfl
  · rw [List.getElem?_append_right (by simpa using h), List.getElem?_replicate] at e
    split at e <;> cases e
/-- THE RULE for a def: its body's transformer, and that its promise follows -/
theorem fnok_of {x qual : Str} {st : Stmt} {f : Addr} {fd : FuncData} {N ps : List Str} {k m : Nat} {b : DS} {sp : DSp} {fns : List (Str × Nat × DSp)} {glb : List (Str × D)} (F : Fun K x qual st f fd) (S : FnScope N ps (defScope st))
    (hfs : FnsOk P w K mg base k fns) (hgl : GlbOk K mg glb) (hbl : BltOk mg) (hden : dB (dR m) m (gmOf N (defScope st) fns glb) (defBody st) = some b)
    (hsp : ∀ ds M P, sp ds M P → b { nx := fun _ M' => P .non M', rt := P } (startD N.length ds) M) : FnOk P w K mg base CX0 (k + 1) f fd ps (upF K ps.length sp) := by
  refine F.ok S (fun vs H Q E h => h.1) (fun cdv A outer s H vs Q E hr h => ?_)
  obtain ⟨hl, ds, M, PP, dr, h1, w1, k1⟩ := h
  have O : XOk (cxOf CX0 P w K mg base N qual (defScope st) f cdv A outer s H E).nox (gmOf N (defScope st) fns glb) := {
    nd := S.nd
    hN := rfl
    sc := rfl
    calm := rfl
    hu := by
      have := hr.un
      show (A.deeper _).units + 65 < cLine
      omega
    pass := PassesOwn.never
    fns := fun y n sp' e => ⟨(hfs y n sp' e).dbg, let ⟨f', fd', ps', dd, dvs, us, sp0, F', r⟩ := (hfs y n sp' e).ok; ⟨f', fd', k, ps', dd, dvs, us, sp0, F', hr, r⟩⟩
    glb := hgl
    blt := hbl
    st := fun y e => by
      have e : stOf (defScope st) y = true := e
      unfold stOf at e
      split at e
      · exact ⟨.inl (by assumption), .inl rfl⟩
      · exact ⟨.inr (by assumption), .inl rfl⟩
      · cases e }
  refine ⟨_, b_ok (dR_ok m) O m _ _ hden, startD N.length ds, M, _, start_er dr, h1, hsp ds M PP w1, ⟨fun ρ M' σ' H' p e er hr' => k1 _ _ _ _ p e .non hr', fun d M' v H' p e dv hr' => k1 _ _ _ _ p e dv hr', fun _ _ _ _ p => p.elim, fun _ _ _ _ p => p.elim⟩⟩
theorem dfn_of {x qual : Str} {st : Stmt} {f : Addr} {fd : FuncData} {N ps : List Str} {k m : Nat} {b : DS} {sp : DSp} {fns : List (Str × Nat × DSp)} {glb : List (Str × D)} (F : Fun K x qual st f fd) (S : FnScope N ps (defScope st)) (hm : mg x = some (.ref f))
    (hd : (x == ("__debug__" : Str)) = false) (hb : Binds K fd ps []) (hfs : FnsOk P w K mg base k fns) (hgl : GlbOk K mg glb) (hbl : BltOk mg) (hden : dB (dR m) m (gmOf N (defScope st) fns glb) (defBody st) = some b)
    (hsp : ∀ ds M P, sp ds M P → b { nx := fun _ M' => P .non M', rt := P } (startD N.length ds) M) : Dfn P w K mg base (k + 1) x ps.length sp :=
  ⟨hd, f, fd, ps, [], [], [], sp, fnok_of F S hfs hgl hbl hden hsp, hm, F.kp, hb, .nil, fun _ => .nil, rfl, fun ds M P _ h => by rw [List.append_nil]; exact h⟩

theorem FunD.okN {dvs0 : List V} {x qual : Str} {st : Stmt} {f : Addr} {fd : FuncData} {N ps : List Str} {k : Nat} {sp : Sp} (F : FunD K x qual (defArgs st) (defBody st) (defScope st) dvs0 [] f fd) (S : FnScope N ps (defScope st)) (len : ∀ vs H Q E, sp vs H Q E → vs.length = ps.length)
    (hbody : ∀ (cdv : Value) (A : Around) (outer : List Env) (s : Shared) (H : Hp) (vs : List V) (Q : VK) (E : XK), Room k (A.deeper (envOfC qual (defScope st) s.heap.objs.size f cdv)) → sp vs H Q E →
      ∃ t, PSs (cxOf CX0 P w K mg base N qual (defScope st) f cdv A outer s H E).nox (defBody st) t ∧ t { nx := fun _ H' => Q .non H', rt := Q } (L2.start N vs) H) : FnOk P w K mg base CX0 (k + 1) f fd ps sp := by
  obtain ⟨oc, od, dV, kV, doc, pm, an, cdv, ct, osl, rfl, lk, hcd, _, _⟩ := F.ex
  refine fn_of lk hcd S len fun A outer s H vs Q E hr hsp => ?_
  obtain ⟨t, h, q⟩ := hbody cdv A outer s H vs Q E hr hsp
  exact ⟨t, h.nox, q⟩
/-- the same of a def with defaults -/
theorem fnok_ofD {dvs0 : List V} {x qual : Str} {st : Stmt} {f : Addr} {fd : FuncData} {N ps : List Str} {k m : Nat} {b : DS} {sp : DSp} {fns : List (Str × Nat × DSp)} {glb : List (Str × D)} (F : FunD K x qual (defArgs st) (defBody st) (defScope st) dvs0 [] f fd) (S : FnScope N ps (defScope st))
    (hfs : FnsOk P w K mg base k fns) (hgl : GlbOk K mg glb) (hbl : BltOk mg) (hden : dB (dR m) m (gmOf N (defScope st) fns glb) (defBody st) = some b)
    (hsp : ∀ ds M P, sp ds M P → b { nx := fun _ M' => P .non M', rt := P } (startD N.length ds) M) : FnOk P w K mg base CX0 (k + 1) f fd ps (upF K ps.length sp) := by
  refine FunD.okN F S (fun vs H Q E h => h.1) (fun cdv A outer s H vs Q E hr h => ?_)
  obtain ⟨hl, ds, M, PP, dr, h1, w1, k1⟩ := h
  have O : XOk (cxOf CX0 P w K mg base N qual (defScope st) f cdv A outer s H E).nox (gmOf N (defScope st) fns glb) := {
    nd := S.nd
    hN := rfl
    sc := rfl
    calm := rfl
    hu := by
      have := hr.un
      show (A.deeper _).units + 65 < cLine
      omega
    pass := PassesOwn.never
    fns := fun y n sp' e => ⟨(hfs y n sp' e).dbg, let ⟨f', fd', ps', dd, dvs, us, sp0, F', r⟩ := (hfs y n sp' e).ok; ⟨f', fd', k, ps', dd, dvs, us, sp0, F', hr, r⟩⟩
    glb := hgl
    blt := hbl
    st := fun y e => by
      have e : stOf (defScope st) y = true := e
      unfold stOf at e
      split at e
      · exact ⟨.inl (by assumption), .inl rfl⟩
      · exact ⟨.inr (by assumption), .inl rfl⟩
      · cases e }
  refine ⟨_, b_ok (dR_ok m) O m _ _ hden, startD N.length ds, M, _, start_er dr, h1, hsp ds M PP w1, ⟨fun ρ M' σ' H' p e er hr' => k1 _ _ _ _ p e .non hr', fun d M' v H' p e dv hr' => k1 _ _ _ _ p e dv hr', fun _ _ _ _ p => p.elim, fun _ _ _ _ p => p.elim⟩⟩
/-- .. that may be called with n values: dd stand for those behind them -/
theorem dfn_ofD {dvs0 : List V} {x qual : Str} {st : Stmt} {f : Addr} {fd : FuncData} {N ps : List Str} {k m n : Nat} {b : DS} {sp sp0 : DSp} {fns : List (Str × Nat × DSp)} {glb : List (Str × D)} {dd : List D} {dvs : List V} {us : List Value} (F : FunD K x qual (defArgs st) (defBody st) (defScope st) dvs0 [] f fd) (S : FnScope N ps (defScope st)) (hm : mg x = some (.ref f))
    (hd : (x == ("__debug__" : Str)) = false) (hb : Binds K fd ps us) (hv : Vals dvs us) (hr : ∀ H, DRs K H dd dvs) (hn : n + dd.length = ps.length) (hfs : FnsOk P w K mg base k fns) (hgl : GlbOk K mg glb) (hbl : BltOk mg) (hden : dB (dR m) m (gmOf N (defScope st) fns glb) (defBody st) = some b)
    (hsp : ∀ ds M P, sp0 ds M P → b { nx := fun _ M' => P .non M', rt := P } (startD N.length ds) M) (hi : ∀ ds M P, ds.length = n → sp ds M P → sp0 (ds ++ dd) M P) : Dfn P w K mg base (k + 1) x n sp :=
  ⟨hd, f, fd, ps, dd, dvs, us, sp0, fnok_ofD F S hfs hgl hbl hden hsp, hm, F.kp, hb, hv, hr, hn, hi⟩

/-! ### what the top has left -/
/-- a def of the module, as it stands behind the top -/
structure DefAt (K : PySem.W.Frag) (x : Str) (st : Stmt) : Prop where
  ex : ∃ (f : Addr) (oc : Value) (od : Option Addr) (osl : Array (Option Value)) (kV doc pm : Value) (an : Option Addr) (cdv ct : Value), PySem.W.nsIn K mainGlobals x = some (some (.ref f)) ∧
    K.lookup f = some ⟨oc, od, .func (PySem.W.fnOf x x (defArgs st) (defBody st) (defScope st) .none kV doc pm an cdv ct), osl⟩ ∧ PySem.W.codeIn K cdv x = true ∧ PySem.W.keepIn K (.ref f) = true
theorem defAt {x : Str} {st : Stmt} {f : Addr} {oc : Value} {od : Option Addr} {osl : Array (Option Value)} {kV doc pm : Value} {an : Option Addr} {cdv ct : Value} (a : PySem.W.nsIn K mainGlobals x = some (some (.ref f)))
    (l : K.lookup f = some ⟨oc, od, .func (PySem.W.fnOf x x (defArgs st) (defBody st) (defScope st) .none kV doc pm an cdv ct), osl⟩) (c : PySem.W.codeIn K cdv x = true) (k : PySem.W.keepIn K (.ref f) = true) : DefAt K x st :=
  ⟨⟨f, oc, od, osl, kV, doc, pm, an, cdv, ct, a, l, c, k⟩⟩
/-- how a def binds: by its own text -/
def BindsBy (x : Str) (st : Stmt) (ps : List Str) : Prop := ∀ (kV doc pm : Value) (an : Option Addr) (cdv ct : Value) (us : List Value), us.length = ps.length →
  bindArgs (PySem.W.fnOf x x (defArgs st) (defBody st) (defScope st) .none kV doc pm an cdv ct) ⟨us, []⟩ = pure (ps.zip us)
theorem DefAt.get {x : Str} {st : Stmt} {h : Heap} {ps : List Str} (D : DefAt K x st) (X : K.In h) (G : h.Ns mainGlobals mg) (B : BindsBy x st ps) : ∃ f fd, Fun K x x st f fd ∧ mg x = some (.ref f) ∧ Binds K fd ps [] ∧ ∀ (s : Shared) (us : List Value), us.length = ps.length → BindsTo s fd ⟨us, []⟩ (ps.zip us) := by
  obtain ⟨f, oc, od, osl, kV, doc, pm, an, cdv, ct, a, l, c, k⟩ := D.ex
  have F := fun_mk (st := st) l c k
  exact ⟨f, _, F, PySem.W.mg_of X G a, F.binds fun kV doc pm an cdv ct us hl => B kV doc pm an cdv ct us hl, fun s us hl => .of_eq (B _ _ _ _ _ _ us hl)⟩
theorem glb_str {x z : Str} {t : Tok} {h : Heap} (X : K.In h) (G : h.Ns mainGlobals mg) (a : PySem.W.nsIn K mainGlobals x = some (some (.str z t))) : ∃ u v, mg x = some u ∧ RelV v u ∧ ∀ H, DR K H (.str z) v :=
  ⟨_, .str z, PySem.W.mg_of X G a, ⟨t, rfl⟩, fun _ => .str z⟩
theorem glb_int {x : Str} {z : Int} {t : Tok} {h : Heap} (X : K.In h) (G : h.Ns mainGlobals mg) (a : PySem.W.nsIn K mainGlobals x = some (some (.int z t))) : ∃ u v, mg x = some u ∧ RelV v u ∧ ∀ H, DR K H (.int z) v :=
  ⟨_, .int z, PySem.W.mg_of X G a, ⟨t, rfl⟩, fun _ => .int z⟩
/-- a constant's data -/
inductive Lit : D → Value → Prop
  | non : Lit .non .none
  | bl (b : Bool) : Lit (.bl b) (.bool b)
  | int (i : Int) (t : Tok) : Lit (.int i) (.int i t)
  | str (z : Str) (t : Tok) : Lit (.str z) (.str z t)
theorem Lit.rel {d : D} {u : Value} (l : Lit d u) : ∃ v, RelV v u ∧ ∀ (K : PySem.W.Frag) H, DR K H d v := by
  cases l with
  | non => exact ⟨.non, rfl, fun _ _ => .non⟩
  | bl b => exact ⟨.bl b, rfl, fun _ _ => .bl b⟩
  | int i t => exact ⟨.int i, ⟨t, rfl⟩, fun _ _ => .int i⟩
  | str z t => exact ⟨.str z, ⟨t, rfl⟩, fun _ _ => .str z⟩
theorem lits_rel : ∀ {ds : List D} {us : List Value}, Paired Lit ds us → ∃ vs, Vals vs us ∧ ∀ (K : PySem.W.Frag) H, DRs K H ds vs
  | _, _, .nil => ⟨[], .nil, fun _ _ => .nil⟩
  | _, _, .cons l r => let ⟨v, h1, h2⟩ := l.rel; let ⟨vs, h3, h4⟩ := lits_rel r; ⟨v :: vs, .cons h1 h3, fun K H => .cons (h2 K H) (h4 K H)⟩
/-- a def with defaults dd, as it stands behind the top -/
structure DefAtD (K : PySem.W.Frag) (x : Str) (st : Stmt) (dd : List D) : Prop where
  ex : ∃ (f T : Addr) (oc : Value) (od : Option Addr) (osl : Array (Option Value)) (o : Obj) (its : Array Value) (n : Nat) (kV doc pm : Value) (an : Option Addr) (cdv ct : Value), PySem.W.nsIn K mainGlobals x = some (some (.ref f)) ∧
    K.lookup f = some ⟨oc, od, .func (PySem.W.fnOf x x (defArgs st) (defBody st) (defScope st) (.ref T) kV doc pm an cdv ct), osl⟩ ∧ PySem.W.codeIn K cdv x = true ∧ PySem.W.keepIn K (.ref f) = true ∧ K.lookup T = some o ∧ o.data = .seq its n ∧ Paired Lit dd its.toList ∧ dd ≠ []
theorem defAtD {x : Str} {st : Stmt} {dd : List D} {f T : Addr} {oc : Value} {od od2 : Option Addr} {osl sl : Array (Option Value)} {its : Array Value} {n : Nat} {kV doc pm : Value} {an : Option Addr} {cdv ct : Value} (a : PySem.W.nsIn K mainGlobals x = some (some (.ref f)))
    (l : K.lookup f = some ⟨oc, od, .func (PySem.W.fnOf x x (defArgs st) (defBody st) (defScope st) (.ref T) kV doc pm an cdv ct), osl⟩) (c : PySem.W.codeIn K cdv x = true) (k : PySem.W.keepIn K (.ref f) = true) (t : K.lookup T = some ⟨.type "tuple", od2, .seq its n, sl⟩) (p : Paired Lit dd its.toList) (h : dd ≠ []) : DefAtD K x st dd :=
  ⟨⟨f, T, oc, od, osl, _, its, n, kV, doc, pm, an, cdv, ct, a, l, c, k, t, rfl, p, h⟩⟩
theorem DefAtD.get {x : Str} {st : Stmt} {dd : List D} {h : Heap} (D : DefAtD K x st dd) (X : K.In h) (G : h.Ns mainGlobals mg) : ∃ f fd dvs, FunD K x x (defArgs st) (defBody st) (defScope st) dvs [] f fd ∧ mg x = some (.ref f) ∧ (∀ H, DRs K H dd dvs) ∧ dvs ≠ [] ∧ dvs.length = dd.length := by
  obtain ⟨f, T, oc, od, osl, o, its, n, kV, doc, pm, an, cdv, ct, a, l, c, k, t, e, p, hne⟩ := D.ex
  obtain ⟨vs, h1, h2⟩ := lits_rel p
  have hl : vs.length = dd.length := ((h2 K (fun _ => none)).length).symm
  have hv : vs ≠ [] := fun z => by
    subst z
    cases dd with
    | nil => exact hne rfl
    | cons _ _ => cases hl
  exact ⟨f, _, vs, ⟨⟨oc, od, .ref T, kV, doc, pm, an, cdv, ct, osl, rfl, l, c, .inr ⟨hv, T, o, its.toList, n, rfl, t, by rw [e], h1⟩, .inl rfl⟩, k⟩, PySem.W.mg_of X G a, fun H => h2 K H, hv, hl⟩
theorem glb_tup {x : Str} {ds : List D} {a : Addr} {its : Array Value} {n : Nat} {sl : Array (Option Value)} {h : Heap} (X : K.In h) (G : h.Ns mainGlobals mg) (e : PySem.W.nsIn K mainGlobals x = some (some (.ref a)))
    (l : K.lookup a = some ⟨.type "tuple", none, .seq its n, sl⟩) (hz : its.size ≤ sizeLine) (p : Paired Lit ds its.toList) : ∃ u v, mg x = some u ∧ RelV v u ∧ ∀ H, DR K H (.ktp ds) v := by
  obtain ⟨vs, h1, h2⟩ := lits_rel p
  exact ⟨_, .ref a, PySem.W.mg_of X G e, rfl, fun H => .ktp (.inr ⟨_, its, n, l, rfl, rfl, rfl, hz, h1⟩) (h2 K H)⟩
/-- the built-in names are free -/
theorem blt_of {h : Heap} (X : K.In h) (G : h.Ns mainGlobals mg) (z : ∀ x ∈ bltNames, PySem.W.nsIn K mainGlobals x = some none) : BltOk mg := fun x hx => PySem.W.mg_none_of X G (z x hx)
end
theorem ints_dr {K : PySem.W.Frag} {H : Hp} : ∀ ns : List Int, DRs K H (ns.map D.int) (ns.map V.int)
  | [] => .nil
  | n :: r => .cons (.int n) (ints_dr r)
/-- the law's promise: it gives True for every list of ints -/
def lawSp : DSp := fun ds M P => ∃ ns : List Int, ds = [.rol (ns.map D.int)] ∧ ns.length ≤ 63 ∧ ∀ M', P (.bl true) M'
theorem law_entry {K : PySem.W.Frag} {H : Hp} {a : Addr} {ns : List Int} (hl : ns.length ≤ 63) (hO : Only H) (hS : SqL K H a (ns.map V.int)) (E : XK) : upF K 1 lawSp [.ref a] H (fun v _ => v = .bl true) E := by
  refine ⟨rfl, [.rol (ns.map D.int)], fun _ => none, fun d _ => d = .bl true, .cons (.rol ?_ (ints_dr ns)) .nil, (fun _ _ e => (nomatch e)), ⟨ns, rfl, hl, fun _ => rfl⟩, fun d M' v H' e _ dv _ => ?_⟩
  · rcases hS with (h | ⟨o, h⟩) | h
    · rcases hO a with z | ⟨o, xs, z⟩
      · rw [h] at z; cases z
      · rw [h] at z; cases z
    · exact .inl ⟨o, h⟩
    · exact .inr h
  · subst e
    cases dv
    rfl
end DL
/-! DLp: steps through the transformers of a body, one rule a construct. -/
namespace DL
open PySem L2

section
variable {P : De} {ρ : Ev} {M : Mh} {Q : PQ} {a b e : DT} {wc wd : DB} {p q : DS} {wa : DA}
theorem t_nil (h : P.nx ρ M) : sNil P ρ M := h
theorem t_seq (h : p { P with nx := fun ρ1 M1 => q P ρ1 M1 } ρ M) : sSeq p q P ρ M := h
/-- a block in two parts, with what holds between them -/
theorem t_cut (R : Ev → Mh → Prop) (h : ∀ N : Ev → Mh → Prop, (∀ ρ' M', R ρ' M' → N ρ' M') → p { P with nx := N } ρ M) (h2 : ∀ ρ' M', R ρ' M' → q P ρ' M') : sSeq p q P ρ M := h _ h2
theorem t_if (h : wc ρ M fun k M1 => if k = true then p P ρ M1 else q P ρ M1) : sIf wc p q P ρ M := h
theorem t_asg {g : DG} (h : e ρ M fun d M1 => g d ρ M1 P.nx) : sAsg e g P ρ M := h
theorem t_exp (h : e ρ M fun _ M1 => P.nx ρ M1) : sExp e P ρ M := h
theorem t_ret (h : e ρ M P.rt) : sRet e P ρ M := h
theorem t_retN (h : P.rt .non M) : sRetN P ρ M := h
theorem t_brk (h : P.bk ρ M) : sBrk P ρ M := h
theorem t_cnt (h : P.ct ρ M) : sCnt P ρ M := h
theorem t_aug {i : Nat} {r : D → D → Mh → PQ → Prop} {x : D} (s : slot ρ i = some x) (h : e ρ M fun y M1 => r x y M1 fun z M2 => P.nx (ρ.set i (some z)) M2) : sAug i r e P ρ M := by
  unfold sAug; rw [s]; exact h
theorem t_for {it : DI} {g : DG} (h : it ρ M fun items chk M1 => forD g p chk P items ρ M1) : sFor it g p P ρ M := h
theorem t_gN {i : Nat} {d : D} {R : Ev → Mh → Prop} (h : R (ρ.set i (some d)) M) : gN i d ρ M R := h
theorem t_gT {n : Nat} {g : DGs} {ds : List D} {R : Ev → Mh → Prop} (l : ds.length = n) (h : g ds ρ M R) : gT n g (.tup ds) ρ M R := ⟨l, h⟩
theorem t_gTr {n : Nat} {g : DGs} {a : Addr} {ds : List D} {R : Ev → Mh → Prop} (e : M a = some (.lst ds)) (l : ds.length = n) (h : g ds ρ M R) : gT n g (.ref a) ρ M R := by
  show (match M a with | some (.lst ds) => ds.length = n ∧ g ds ρ M R | _ => False)
  rw [e]; exact ⟨l, h⟩
theorem t_gsC {g : DG} {r : DGs} {d : D} {ds : List D} {R : Ev → Mh → Prop} (h : g d ρ M fun ρ1 M1 => r ds ρ1 M1 R) : gsC g r (d :: ds) ρ M R := h
theorem t_gsN {R : Ev → Mh → Prop} (h : R ρ M) : gsN [] ρ M R := h
theorem t_gS {o i : DT} {d : D} {R : Ev → Mh → Prop} (h : o ρ M fun x M1 => i ρ M1 fun y M2 => setD x y d M2 fun M3 => R ρ M3) : gS o i d ρ M R := h
theorem t_var {i : Nat} {d : D} (s : slot ρ i = some d) (h : Q d M) : eVar i ρ M Q := by
  unfold eVar; rw [s]; exact h
theorem t_c {d : D} (h : Q d M) : eC d ρ M Q := h
theorem t_bin {r : D → D → Mh → PQ → Prop} (h : a ρ M fun x M1 => b ρ M1 fun y M2 => r x y M2 Q) : eBin r a b ρ M Q := h
theorem t_un {r : D → Mh → PQ → Prop} (h : a ρ M fun x M1 => r x M1 Q) : eUn r a ρ M Q := h
theorem t_cmp {r : Cmp} (h : a ρ M fun x M1 => b ρ M1 fun y M2 => r x y M2 fun k => Q (.bl k) M2) : eCmp r a b ρ M Q := h
theorem t_not (h : a ρ M fun x M1 => truD x M1 fun k => Q (.bl (!k)) M1) : eNot a ρ M Q := h
theorem t_and (h : a ρ M fun x M1 => truD x M1 fun k => if k = true then b ρ M1 Q else Q x M1) : eAnd a b ρ M Q := h
theorem t_or (h : a ρ M fun x M1 => truD x M1 fun k => if k = true then Q x M1 else b ρ M1 Q) : eOr a b ρ M Q := h
theorem t_ife (h : wc ρ M fun k M1 => if k = true then a ρ M1 Q else b ρ M1 Q) : eIf wc a b ρ M Q := h
theorem t_tup (h : wa ρ M fun xs M1 => xs.length ≤ sizeLine ∧ Q (.tup xs) M1) : eTup wa ρ M Q := h
theorem t_lst (h : wa ρ M fun xs M1 => xs.length ≤ sizeLine ∧ ∀ p, M1 p = none → Q (.ref p) (mup M1 p (.lst xs))) : eLst wa ρ M Q := h
theorem t_call {sp : List D → Mh → PQ → Prop} (h : wa ρ M fun xs M1 => sp xs M1 Q) : eCall sp wa ρ M Q := h
theorem t_fn {n : Nat} {sp : DSp} (h : wa ρ M fun xs M1 => xs.length = n ∧ sp xs M1 Q) : eFn n sp wa ρ M Q := h
theorem t_mt {T : String} {r : D → List D → Mh → PQ → Prop} (h : a ρ M fun x M1 => tyD T x M1 ∧ wa ρ M1 fun xs M2 => r x xs M2 Q) : eMt T r a wa ρ M Q := h
theorem t_isi {T : String} (h : a ρ M fun x M1 => isiD T x M1 Q) : eIsi T a ρ M Q := h
theorem t_sl {lo hi : Option DT} (h : a ρ M fun x M1 => oPart lo ρ M1 fun l M2 => oPart hi ρ M2 fun u M3 => slD x l u M3 Q) : eSl a lo hi ρ M Q := h
theorem t_o0 {R : Option Int → Mh → Prop} (h : R none M) : oPart none ρ M R := h
theorem t_o1 {R : Option Int → Mh → Prop} {w : DT} (h : w ρ M fun d M1 => match d with | .int i => R (some i) M1 | _ => False) : oPart (some w) ρ M R := h
theorem t_an {R : List D → Mh → Prop} (h : R [] M) : aNil ρ M R := h
theorem t_ac {R : List D → Mh → Prop} (h : a ρ M fun x M1 => wa ρ M1 fun xs M2 => R (x :: xs) M2) : aCons a wa ρ M R := h
theorem t_bcmp {r : Cmp} {R : Bool → Mh → Prop} (h : a ρ M fun x M1 => b ρ M1 fun y M2 => r x y M2 fun k => R k M2) : bCmp r a b ρ M R := h
theorem t_btru {R : Bool → Mh → Prop} (h : a ρ M fun x M1 => truD x M1 fun k => R k M1) : bTru a ρ M R := h
theorem t_bnot {R : Bool → Mh → Prop} (h : wc ρ M fun k M1 => R (!k) M1) : bNot wc ρ M R := h
theorem t_band {R : Bool → Mh → Prop} (h : wc ρ M fun k M1 => if k = true then wd ρ M1 R else R false M1) : bAnd wc wd ρ M R := h
theorem t_bor {R : Bool → Mh → Prop} (h : wc ρ M fun k M1 => if k = true then R true M1 else wd ρ M1 R) : bOr wc wd ρ M R := h
theorem t_byes {R : Bool → Mh → Prop} (h : R true M) : bYes ρ M R := h
theorem t_seqi {R : List D → (Mh → Prop) → Mh → Prop} (h : e ρ M fun x M1 => seqP x M1 R) : iSeq e ρ M R := h
theorem t_lc {it : DI} {t : Tg} {tt : DB} {te : DT} {vs : List Nat} (h : it ρ M fun items chk M1 => ∀ p, M1 p = none → lcLoop p chk t tt te (wipeD ρ vs) Q items (mup M1 p (.lst []))) : eLC it t tt te vs ρ M Q := h
theorem t_rg1 {R : List D → (Mh → Prop) → Mh → Prop} (h : wa ρ M fun xs M1 => match xs with
  | [.int j] => (-(2 ^ 62) ≤ j ∧ j < 2 ^ 62) ∧ R (rngI 0 j.toNat) (fun _ => True) M1
  | _ => False) : iRg1 wa ρ M R := h
theorem t_rg2 {R : List D → (Mh → Prop) → Mh → Prop} (h : wa ρ M fun xs M1 => match xs with
  | [.int i, .int j] => (-(2 ^ 62) ≤ i ∧ i < 2 ^ 62 ∧ -(2 ^ 62) ≤ j ∧ j < 2 ^ 62) ∧ R (rngI i (j - i).toNat) (fun _ => True) M1
  | _ => False) : iRg2 wa ρ M R := h
end

/-! ### values -/
section
variable {M : Mh} {Q : PQ} {R : Bool → Prop}
theorem v_tru_bl {b : Bool} (h : R b) : truD (.bl b) M R := h
theorem v_tru_int {i : Int} (h : R (i != 0)) : truD (.int i) M R := h
theorem v_tru_non (h : R false) : truD .non M R := h
theorem v_tru_ref {p : Addr} {ds : List D} (e : M p = some (.lst ds)) (h : R (!ds.isEmpty)) : truD (.ref p) M R := by
  show (match M p with | some (.lst ds) => R (!ds.isEmpty) | _ => False)
  rw [e]; exact h
theorem v_tru_tup {ds : List D} (h : R (!ds.isEmpty)) : truD (.tup ds) M R := h
theorem v_add_int {i j : Int} (h : Q (.int (i + j)) M) : addD (.int i) (.int j) M Q := h
theorem v_add_str {i j : Str} (l : i.length + j.length ≤ sizeLine) (h : Q (.str (i ++ j)) M) : addD (.str i) (.str j) M Q := ⟨l, h⟩
theorem v_add_tup {i j : List D} (l : i.length + j.length ≤ sizeLine) (h : Q (.tup (i ++ j)) M) : addD (.tup i) (.tup j) M Q := ⟨l, h⟩
theorem v_iadd_int {i j : Int} (h : Q (.int (i + j)) M) : iaddD (.int i) (.int j) M Q := h
theorem v_iadd_str {i j : Str} (l : i.length + j.length ≤ sizeLine) (h : Q (.str (i ++ j)) M) : iaddD (.str i) (.str j) M Q := ⟨l, h⟩
theorem v_sub {i j : Int} (h : Q (.int (i - j)) M) : subD (.int i) (.int j) M Q := h
theorem v_mul {i j : Int} (c : CMul i j) (h : Q (.int (i * j)) M) : mulD (.int i) (.int j) M Q := ⟨c, h⟩
theorem v_div {i j : Int} (c : 0 < j ∧ j < 1073741824) (h : Q (.int (i / j)) M) : divD (.int i) (.int j) M Q := ⟨c, h⟩
theorem v_mod {i j : Int} (c : 0 < j) (h : Q (.int (i % j)) M) : modD (.int i) (.int j) M Q := ⟨c, h⟩
theorem v_pow {i j : Int} (c : CPow i j) (h : Q (.int (i ^ j.toNat)) M) : powD (.int i) (.int j) M Q := ⟨c, h⟩
theorem v_neg {i : Int} (h : Q (.int (-i)) M) : negD (.int i) M Q := h
theorem deq_int {i j : Int} : deq (.int i) (.int j) = (i == j) := by simp [deq, pd, PyData.eqv]
theorem deq_str {i j : Str} : deq (.str i) (.str j) = (i == j) := by simp [deq, pd, PyData.eqv]
theorem deq_bl {i j : Bool} : deq (.bl i) (.bl j) = (i == j) := by simp [deq, pd, PyData.eqv]
theorem v_eq_int {i j : Int} (h : R (i == j)) : eqD (.int i) (.int j) M R := .inl ⟨.inl rfl, by rw [deq_int]; exact h⟩
theorem v_eq_str {i j : Str} (h : R (i == j)) : eqD (.str i) (.str j) M R := .inl ⟨.inl rfl, by rw [deq_str]; exact h⟩
theorem v_eq_bl {i j : Bool} (h : R (i == j)) : eqD (.bl i) (.bl j) M R := .inl ⟨.inl rfl, by rw [deq_bl]; exact h⟩
theorem v_ne_int {i j : Int} (h : R (!(i == j))) : neD (.int i) (.int j) M R := .inl ⟨.inl rfl, by rw [deq_int]; exact h⟩
theorem v_ne_str {i j : Str} (h : R (!(i == j))) : neD (.str i) (.str j) M R := .inl ⟨.inl rfl, by rw [deq_str]; exact h⟩
theorem v_ne_bl {i j : Bool} (h : R (!(i == j))) : neD (.bl i) (.bl j) M R := .inl ⟨.inl rfl, by rw [deq_bl]; exact h⟩
theorem v_lt {i j : Int} (h : R (decide (i < j))) : ltD (.int i) (.int j) M R := h
theorem v_lt_str {i j : Str} (h : R (decide (i.cps.toList < j.cps.toList))) : ltD (.str i) (.str j) M R := h
theorem v_le {i j : Int} (h : R (decide (i ≤ j))) : leD (.int i) (.int j) M R := h
theorem v_gt {i j : Int} (h : R (decide (j < i))) : gtD (.int i) (.int j) M R := h
theorem v_ge {i j : Int} (h : R (decide (j ≤ i))) : geD (.int i) (.int j) M R := h
theorem v_len_str {z : Str} (l : z.length ≤ sizeLine) (h : Q (.int z.length) M) : lenD [.str z] M Q := ⟨l, h⟩
theorem v_len_tup {ds : List D} (h : Q (.int ds.length) M) : lenD [.tup ds] M Q := h
theorem v_len_rol {ds : List D} (h : Q (.int ds.length) M) : lenD [.rol ds] M Q := h
theorem items_ref {p : Addr} {ds : List D} (e : M p = some (.lst ds)) : itemsD (.ref p) M = some ds := by
  show (match M p with | some (.lst ds) => some ds | _ => none) = _
  rw [e]
theorem dict_lst {p : Addr} {ds : List D} (e : M p = some (.lst ds)) : dictD (.ref p) M = none := by
  show (match M p with | some (.dk kvs) => some (MO.dk kvs) | some (.dt kvs) => some (.dt kvs) | _ => none) = _
  rw [e]
theorem dict_dk {p : Addr} {ds : List (Key × D)} (e : M p = some (.dk ds)) : dictD (.ref p) M = some (.dk ds) := by
  show (match M p with | some (.dk kvs) => some (MO.dk kvs) | some (.dt kvs) => some (.dt kvs) | _ => none) = _
  rw [e]
theorem dict_dt {p : Addr} {ds : List (List Key × D)} (e : M p = some (.dt ds)) : dictD (.ref p) M = some (.dt ds) := by
  show (match M p with | some (.dk kvs) => some (MO.dk kvs) | some (.dt kvs) => some (.dt kvs) | _ => none) = _
  rw [e]
theorem v_len_ref {p : Addr} {ds : List D} (e : M p = some (.lst ds)) (h : Q (.int ds.length) M) : lenD [.ref p] M Q := by
  show (match dictD (.ref p) M with | some o => Q (.int (dSize o)) M | none => (match itemsD (.ref p) M with | some ds => Q (.int ds.length) M | none => False))
  rw [dict_lst e, items_ref e]; exact h
theorem v_len_dict {p : Addr} {o : MO} (e : dictD (.ref p) M = some o) (h : Q (.int (dSize o)) M) : lenD [.ref p] M Q := by
  show (match dictD (.ref p) M with | some o => Q (.int (dSize o)) M | none => (match itemsD (.ref p) M with | some ds => Q (.int ds.length) M | none => False))
  rw [e]; exact h
theorem v_int_int {i : Int} (h : Q (.int i) M) : intD [.int i] M Q := h
theorem litems_ref {p : Addr} {ds : List D} (e : M p = some (.lst ds)) : litemsD (.ref p) M = some ds := by
  show (match M p with | some (.lst ds) => some ds | _ => none) = _
  rw [e]
theorem v_tuple_ref {p : Addr} {ds : List D} (e : M p = some (.lst ds)) (h : Q (.tup ds) M) : tupleD [.ref p] M Q := by
  show (match litemsD (.ref p) M with | some ds => Q (.tup ds) M ∨ Q (.ktp ds) M | none => False)
  rw [litems_ref e]; exact .inl h
/-- .. one that knows its object: it may be asked for an index -/
theorem v_tuple_refK {p : Addr} {ds : List D} (e : M p = some (.lst ds)) (h : Q (.ktp ds) M) : tupleD [.ref p] M Q := by
  show (match litemsD (.ref p) M with | some ds => Q (.tup ds) M ∨ Q (.ktp ds) M | none => False)
  rw [litems_ref e]; exact .inr h
theorem v_tuple_tup {ds : List D} (h : Q (.tup ds) M) : tupleD [.tup ds] M Q := h
theorem v_list_tup {ds : List D} (h : ∀ p, M p = none → Q (.ref p) (mup M p (.lst ds))) : listD [.tup ds] M Q := h
theorem v_list_ref {p : Addr} {ds : List D} (e : M p = some (.lst ds)) (h : ∀ l, M l = none → Q (.ref l) (mup M l (.lst ds))) : listD [.ref p] M Q := by
  show (match itemsD (.ref p) M with | some ds => ∀ l, M l = none → Q (.ref l) (mup M l (.lst ds)) | none => False)
  rw [items_ref e]; exact h
theorem v_max {i j : Int} (h : Q (.int (if j > i then j else i)) M) : maxD [.int i, .int j] M Q := h
theorem v_min {i j : Int} (h : Q (.int (if j < i then j else i)) M) : minD [.int i, .int j] M Q := h
theorem v_ix_tup {ds : List D} {i : Int} {d : D} (e : atI ds i = some d) (h : Q d M) : ixD (.tup ds) (.int i) M Q := by
  show (match atI ds i with | some d => Q d M | none => False)
  rw [e]; exact h
theorem v_ix_rol {ds : List D} {i : Int} {d : D} (e : atI ds i = some d) (h : Q d M) : ixD (.rol ds) (.int i) M Q := by
  show (match atI ds i with | some d => Q d M | none => False)
  rw [e]; exact h
theorem v_ix_ref {p : Addr} {ds : List D} {i : Int} {d : D} (e : M p = some (.lst ds)) (e2 : atI ds i = some d) (h : Q d M) : ixD (.ref p) (.int i) M Q := by
  unfold ixD
  rw [dict_lst e]
  show (match itemsD (.ref p) M with | some ds => (match atI ds i with | some d => Q d M | none => False) | none => False)
  rw [items_ref e]
  show (match atI ds i with | some d => Q d M | none => False)
  rw [e2]; exact h
theorem v_ix_dict {p : Addr} {y d : D} {o : MO} (e : dictD (.ref p) M = some o) (e2 : dGet o y = some (some d)) (h : Q d M) : ixD (.ref p) y M Q := by
  unfold ixD
  rw [e]
  show (match dGet o y with | some (some d) => Q d M | _ => False)
  rw [e2]; exact h
theorem v_ix_str {z : Str} {i : Int} {c : Nat} (l : z.length ≤ sizeLine) (e : atI z.cps.toList i = some c) (h : Q (.str ⟨#[c]⟩) M) : ixD (.str z) (.int i) M Q := by
  refine ⟨l, ?_⟩
  rw [e]; exact h
theorem v_set {p : Addr} {ds : List D} {i : Int} {j : Nat} {d : D} {S : Mh → Prop} (e : M p = some (.lst ds)) (e2 : ixN ds.length i = some j) (h : S (mup M p (.lst (ds.set j d)))) : setD (.ref p) (.int i) d M S := by
  unfold setD
  rw [dict_lst e]
  show (match M p with | some (.lst ds) => (match ixN ds.length i with | some j => S (mup M p (.lst (ds.set j d))) | none => False) | _ => False)
  rw [e]
  show (match ixN ds.length i with | some j => S (mup M p (.lst (ds.set j d))) | none => False)
  rw [e2]; exact h
theorem v_set_dict {p : Addr} {y d : D} {o o' : MO} {S : Mh → Prop} (e : dictD (.ref p) M = some o) (l : dSize o < sizeLine) (e2 : dPut o y d = some o') (h : S (mup M p o')) : setD (.ref p) y d M S := by
  unfold setD
  rw [e]
  refine ⟨l, ?_⟩
  rw [e2]; exact h
theorem v_in_dict {x : D} {p : Addr} {o : MO} {r : Option D} (e : dictD (.ref p) M = some o) (e2 : dGet o x = some r) (h : R r.isSome) : inD x (.ref p) M R := by
  unfold inD
  rw [e]
  show (match dGet o x with | some r => R r.isSome | none => False)
  rw [e2]; exact h
theorem v_nin_dict {x : D} {p : Addr} {o : MO} {r : Option D} (e : dictD (.ref p) M = some o) (e2 : dGet o x = some r) (h : R (!r.isSome)) : ninD x (.ref p) M R := v_in_dict (R := fun k => R (!k)) e e2 h
theorem v_keys {p : Addr} {o : MO} (e : dictD (.ref p) M = some o) (h : ∀ q, M q = none → Q (.ref q) (mup M q (.lst (dKeys o)))) : keysLD (.ref p) M Q := by
  unfold keysLD
  rw [e]; exact h
theorem v_ty_ref {p : Addr} {ds : List D} (e : M p = some (.lst ds)) : tyD "list" (.ref p) M := by
  show (match M p with | some (.lst _) => "list" = "list" | _ => False)
  rw [e]
theorem v_append {p : Addr} {ds : List D} {y : D} (e : M p = some (.lst ds)) (l : ds.length < sizeLine) (h : Q .non (mup M p (.lst (ds ++ [y])))) : appendD (.ref p) [y] M Q := by
  show (match M p with | some (.lst ds) => ds.length < sizeLine ∧ Q .non (mup M p (.lst (ds ++ [y]))) | _ => False)
  rw [e]; exact ⟨l, h⟩
theorem v_extend {p b : Addr} {ds es : List D} (e : M p = some (.lst ds)) (e2 : M b = some (.lst es)) (l : ds.length + es.length ≤ sizeLine) (h : Q .non (mup M p (.lst (ds ++ es)))) : extendD (.ref p) [.ref b] M Q := by
  show (match M p, M b with | some (.lst ds), some (.lst es) => ds.length + es.length ≤ sizeLine ∧ Q .non (mup M p (.lst (ds ++ es))) | _, _ => False)
  rw [e, e2]; exact ⟨l, h⟩
theorem v_join {z : Str} {x : D} {ds : List D} {ys : List Str} (e : itemsD x M = some ds) (e2 : strsOf ds = some ys) (l : (ys.map (·.length)).sum + ys.length * z.length ≤ 16777216) (h : Q (.str (Txt.join z ys)) M) : joinD (.str z) [x] M Q := by
  show (match itemsD x M with | some ds => (match strsOf ds with | some ys => (ys.map (·.length)).sum + ys.length * z.length ≤ 16777216 ∧ Q (.str (Txt.join z ys)) M | none => False) | none => False)
  rw [e]
  show (match strsOf ds with | some ys => (ys.map (·.length)).sum + ys.length * z.length ≤ 16777216 ∧ Q (.str (Txt.join z ys)) M | none => False)
  rw [e2]; exact ⟨l, h⟩
theorem v_sl_str {z : Str} {lo hi : Option Int} (l : z.length ≤ sizeLine) (h : Q (.str (cutS z lo hi)) M) : slD (.str z) lo hi M Q := ⟨l, h⟩
theorem v_sl_tup {ds : List D} {lo hi : Option Int} (h : Q (.tup (cutD ds lo hi)) M) : slD (.tup ds) lo hi M Q := h
theorem v_sl_rol {ds : List D} {lo hi : Option Int} (h : ∀ p, M p = none → Q (.ref p) (mup M p (.lst (cutD ds lo hi)))) : slD (.rol ds) lo hi M Q := h
theorem v_sl_ref {p : Addr} {ds : List D} {lo hi : Option Int} (e : M p = some (.lst ds)) (h : ∀ l, M l = none → Q (.ref l) (mup M l (.lst (cutD ds lo hi)))) : slD (.ref p) lo hi M Q := by
  show (match M p with | some (.lst ds) => ∀ l, M l = none → Q (.ref l) (mup M l (.lst (cutD ds lo hi))) | _ => False)
  rw [e]; exact h
theorem v_in_str {i j : Str} (h : R (strIn i j)) : inD (.str i) (.str j) M R := h
theorem v_nin_str {i j : Str} (h : R (!strIn i j)) : ninD (.str i) (.str j) M R := h
theorem strIn_one {c : Nat} {z : Str} : strIn ⟨#[c]⟩ z = decide (c ∈ z.cps.toList) := (PySem.StrLaws.found_one z c)
theorem v_seq_tup {ds : List D} {S : List D → (Mh → Prop) → Mh → Prop} (h : S ds (fun _ => True) M) : seqP (.tup ds) M S := h
theorem v_seq_rol {ds : List D} {S : List D → (Mh → Prop) → Mh → Prop} (h : S ds (fun _ => True) M) : seqP (.rol ds) M S := h
theorem v_seq_str {z : Str} {S : List D → (Mh → Prop) → Mh → Prop} (h : S (z.cps.toList.map fun c => .str ⟨#[c]⟩) (fun _ => True) M) : seqP (.str z) M S := h
theorem v_seq_ref {p : Addr} {ds : List D} {S : List D → (Mh → Prop) → Mh → Prop} (e : M p = some (.lst ds)) (h : S ds (fun M' => M' p = some (.lst ds)) M) : seqP (.ref p) M S := by
  show (match M p with | some (.lst ds) => S ds (fun M' => M' p = some (.lst ds)) M | _ => False)
  rw [e]; exact h
theorem v_ix_ktp {ds : List D} {i : Int} {d : D} (e : atI ds i = some d) (h : Q d M) : ixD (.ktp ds) (.int i) M Q := by
  show (match atI ds i with | some d => Q d M | none => False)
  rw [e]; exact h
theorem v_len_ktp {ds : List D} (h : Q (.int ds.length) M) : lenD [.ktp ds] M Q := h
theorem v_tuple_ktp {ds : List D} (h : Q (.ktp ds) M) : tupleD [.ktp ds] M Q := h
theorem v_isi_ktp {T : String} {b : List D} (h : Q (.bl (T == "tuple")) M) : isiD T (.ktp b) M Q := h
theorem v_tru_ktp {ds : List D} (h : R (!ds.isEmpty)) : truD (.ktp ds) M R := h
theorem v_list_ktp {ds : List D} (h : ∀ p, M p = none → Q (.ref p) (mup M p (.lst ds))) : listD [.ktp ds] M Q := h
theorem t_gTk {n : Nat} {g : DGs} {ds : List D} {ρ : Ev} {R : Ev → Mh → Prop} (l : ds.length = n) (h : g ds ρ M R) : gT n g (.ktp ds) ρ M R := ⟨l, h⟩
/-! zip, index -/
theorem t_zip {a b : DT} {ρ : Ev} {R : List D → (Mh → Prop) → Mh → Prop} (h : a ρ M fun x M1 => b ρ M1 fun y M2 => zipP x y M2 R) : iZip2 a b ρ M R := h
theorem v_zip_tt {as bs : List D} {R : List D → (Mh → Prop) → Mh → Prop} (h : R (zipD as bs) (fun _ => True) M) : zipP (.tup as) (.tup bs) M R := h
theorem v_zip_tk {as bs : List D} {R : List D → (Mh → Prop) → Mh → Prop} (h : R (zipD as bs) (fun _ => True) M) : zipP (.tup as) (.ktp bs) M R := h
theorem v_zip_kt {as bs : List D} {R : List D → (Mh → Prop) → Mh → Prop} (h : R (zipD as bs) (fun _ => True) M) : zipP (.ktp as) (.tup bs) M R := h
theorem v_zip_kk {as bs : List D} {R : List D → (Mh → Prop) → Mh → Prop} (h : R (zipD as bs) (fun _ => True) M) : zipP (.ktp as) (.ktp bs) M R := h
theorem v_zip_ll {p q : Addr} {as bs : List D} {R : List D → (Mh → Prop) → Mh → Prop} (e1 : M p = some (.lst as)) (e2 : M q = some (.lst bs)) (h : R (zipD as bs) (fun M' => lchk (.ref p) M M' ∧ lchk (.ref q) M M') M) : zipP (.ref p) (.ref q) M R := by
  show (match litemsD (.ref p) M, litemsD (.ref q) M with | some as, some bs => R (zipD as bs) (fun M' => lchk (.ref p) M M' ∧ lchk (.ref q) M M') M | _, _ => False)
  rw [litems_ref e1, litems_ref e2]; exact h
theorem lchk_ref {p : Addr} {M' : Mh} {ds : List D} (e : M p = some (.lst ds)) (e2 : M' p = some (.lst ds)) : lchk (.ref p) M M' := by
  unfold lchk
  rw [litems_ref e, litems_ref e2]
theorem t_ix {o a : DT} {ρ : Ev} (h : o ρ M fun x M1 => seqK x M1 ∧ a ρ M1 fun y M2 => indexD x y M2 Q) : eIx o a ρ M Q := h
theorem seqK_ref {p : Addr} {ds : List D} (e : M p = some (.lst ds)) : seqK (.ref p) M := by
  show (match M p with | some (.lst _) => True | _ => False)
  rw [e]; trivial
theorem v_index_k {ds : List D} {y : D} {j : Nat} {z : D} (o1 : okD (.tup ds) = true) (o2 : okD y = true) (hz : ds[j]? = some z) (he : deq z y = true) (hn : ∀ m z', m < j → ds[m]? = some z' → deq z' y = false) (h : Q (.int (j : Nat)) M) : indexD (.ktp ds) y M Q :=
  ⟨ds, j, z, rfl, o1, o2, hz, he, hn, h⟩
theorem v_index_l {p : Addr} {ds : List D} {y : D} {j : Nat} {z : D} (e : M p = some (.lst ds)) (o1 : okD (.tup ds) = true) (o2 : okD y = true) (hz : ds[j]? = some z) (he : deq z y = true) (hn : ∀ m z', m < j → ds[m]? = some z' → deq z' y = false) (h : Q (.int (j : Nat)) M) : indexD (.ref p) y M Q :=
  ⟨ds, j, z, litems_ref e, o1, o2, hz, he, hn, h⟩
def lrD (x : D) (M : Mh) (Q : PQ) : Prop := match x with
  | .int j => (-(2 ^ 62) ≤ j ∧ j ≤ 16777216) ∧ ∀ p, M p = none → Q (.ref p) (mup M p (.lst (rngI 0 j.toNat)))
  | _ => False
theorem t_lr {a : DT} {ρ : Ev} (h : a ρ M fun x M1 => lrD x M1 Q) : eLr a ρ M Q := h
theorem v_seq_ktp {ds : List D} {S : List D → (Mh → Prop) → Mh → Prop} (h : S ds (fun _ => True) M) : seqP (.ktp ds) M S := h
theorem t_ite {c : Bool} {A B : Prop} (h1 : c = true → A) (h2 : c = false → B) : if c = true then A else B := by
  cases c
  · rw [if_neg Bool.false_ne_true]; exact h2 rfl
  · rw [if_pos rfl]; exact h1 rfl
theorem t_if0 {c : Bool} {A B : Prop} (e : c = false) (h : B) : if c = true then A else B := by rw [e, if_neg Bool.false_ne_true]; exact h
theorem t_if1 {c : Bool} {A B : Prop} (e : c = true) (h : A) : if c = true then A else B := by rw [e, if_pos rfl]; exact h
theorem v_isi_non {T : String} (h : Q (.bl false) M) : isiD T .non M Q := h
theorem v_isi_bl {T : String} {b : Bool} (h : Q (.bl (T == "bool" || T == "int")) M) : isiD T (.bl b) M Q := h
theorem v_isi_int {T : String} {b : Int} (h : Q (.bl (T == "int")) M) : isiD T (.int b) M Q := h
theorem v_isi_str {T : String} {b : Str} (h : Q (.bl (T == "str")) M) : isiD T (.str b) M Q := h
theorem v_isi_tup {T : String} {b : List D} (h : Q (.bl (T == "tuple")) M) : isiD T (.tup b) M Q := h
theorem v_in_tup {x : D} {ds : List D} (f : inOk x ds) (h : R (memD x ds)) : inD x (.tup ds) M R := by
  cases x <;> exact ⟨f, h⟩
theorem v_nin_tup {x : D} {ds : List D} (f : inOk x ds) (h : R (!memD x ds)) : ninD x (.tup ds) M R := by
  cases x <;> exact ⟨f, h⟩
theorem v_in_ktp {x : D} {ds : List D} (f : inOk x ds) (h : R (memD x ds)) : inD x (.ktp ds) M R := by
  cases x <;> exact ⟨f, h⟩
theorem v_nin_ktp {x : D} {ds : List D} (f : inOk x ds) (h : R (!memD x ds)) : ninD x (.ktp ds) M R := by
  cases x <;> exact ⟨f, h⟩
theorem v_in_ref {x : D} {p : Addr} {ds : List D} (e : M p = some (.lst ds)) (f : inOk x ds) (h : R (memD x ds)) : inD x (.ref p) M R := by
  unfold inD
  rw [dict_lst e]
  have e2 := items_ref e
  cases x <;> (show (match itemsD (.ref p) M with | some ys => inOk _ ys ∧ R (memD _ ys) | none => False)) <;> rw [e2] <;> exact ⟨f, h⟩
theorem v_nin_ref {x : D} {p : Addr} {ds : List D} (e : M p = some (.lst ds)) (f : inOk x ds) (h : R (!memD x ds)) : ninD x (.ref p) M R := v_in_ref (R := fun k => R (!k)) e f h
theorem v_sorted {p : Addr} {ds : List D} (e : M p = some (.lst ds)) (sk : SortK ds) (h : ∀ ys q, ys.Perm ds → ys.Pairwise (fun a b => ¬ (eD b < eD a)) → M q = none → Q (.ref q) (mup M q (.lst ys))) : sortedD [.ref p] M Q := by
  show (match litemsD (.ref p) M with | some ds => SortK ds ∧ ∀ ys q, ys.Perm ds → ys.Pairwise (fun a b => ¬ (eD b < eD a)) → M q = none → Q (.ref q) (mup M q (.lst ys)) | none => False)
  rw [litems_ref e]; exact ⟨sk, h⟩
theorem v_maxl {p : Addr} {ds : List D} {ns : List Int} (e : M p = some (.lst ds)) (e2 : intsOf ds = some ns) (l : 0 < ns.length) (h : ∀ m, m ∈ ns → (∀ y, y ∈ ns → y ≤ m) → Q (.int m) M) : maxD [.ref p] M Q := by
  show (match litemsD (.ref p) M with | some ds => (match intsOf ds with | some ns => 0 < ns.length ∧ ∀ m, m ∈ ns → (∀ y, y ∈ ns → y ≤ m) → Q (.int m) M | none => False) | none => False)
  rw [litems_ref e]
  show (match intsOf ds with | some ns => 0 < ns.length ∧ ∀ m, m ∈ ns → (∀ y, y ∈ ns → y ≤ m) → Q (.int m) M | none => False)
  rw [e2]; exact ⟨l, h⟩
theorem v_minl {p : Addr} {ds : List D} {ns : List Int} (e : M p = some (.lst ds)) (e2 : intsOf ds = some ns) (l : 0 < ns.length) (h : ∀ m, m ∈ ns → (∀ y, y ∈ ns → m ≤ y) → Q (.int m) M) : minD [.ref p] M Q := by
  show (match litemsD (.ref p) M with | some ds => (match intsOf ds with | some ns => 0 < ns.length ∧ ∀ m, m ∈ ns → (∀ y, y ∈ ns → m ≤ y) → Q (.int m) M | none => False) | none => False)
  rw [litems_ref e]
  show (match intsOf ds with | some ns => 0 < ns.length ∧ ∀ m, m ∈ ns → (∀ y, y ∈ ns → m ≤ y) → Q (.int m) M | none => False)
  rw [e2]; exact ⟨l, h⟩
theorem t_dct_k (h : ∀ p, M p = none → Q (.ref p) (mup M p (.dk []))) : eDct ρ M Q := .inl h
theorem t_dct_t (h : ∀ p, M p = none → Q (.ref p) (mup M p (.dt []))) : eDct ρ M Q := .inr h
theorem t_d1 {e : DT} (h : ∀ p, M p = none → a ρ (mup M p (.dk [])) fun x M1 => e ρ M1 fun y M2 => M2 p = some (.dk []) ∧ match keyD x with
  | some k => Q (.ref p) (mup M2 p (.dk [(k, y)]))
  | none => False) : eD1 a e ρ M Q := h
theorem t_ks (h : a ρ M fun x M1 => keysLD x M1 Q) : eKs a ρ M Q := h
theorem t_rv (h : a ρ M fun x M1 => match itemsD x M1 with
  | some ds => ∀ p, M1 p = none → Q (.ref p) (mup M1 p (.lst ds.reverse))
  | none => False) : eRv a ρ M Q := h
theorem t_tr (h : a ρ M fun x M1 => match itemsD x M1 with
  | some ds => Q (.tup ds.reverse) M1
  | none => False) : eTr a ρ M Q := h
theorem t_rg3 {R : List D → (Mh → Prop) → Mh → Prop} (h : wa ρ M fun xs M1 => match xs with
  | [.int i, .int j, .int c] => (0 ≤ i ∧ i < 1073741824 ∧ 0 ≤ j ∧ j < 1073741824 ∧ 0 < c ∧ c < 1073741824) ∧ R (rngC i c (stepN i j c)) (fun _ => True) M1
  | _ => False) : iRg3 wa ρ M R := h
theorem v_ty_str {z : Str} : tyD "str" (.str z) M := rfl
theorem v_eq_tup {xs ys : List D} (f : okD (.tup xs) = true ∧ okD (.tup ys) = true) (h : R (deq (.tup xs) (.tup ys))) : eqD (.tup xs) (.tup ys) M R := .inl ⟨.inr f, h⟩
theorem rol_ints : ∀ ns : List Int, PyData.canLayAll0 (pds (ns.map D.int)) = true ∧ PyData.depthAll (pds (ns.map D.int)) ≤ 1
  | [] => by simp [pds, PyData.canLayAll0, PyData.depthAll]
  | n :: r => by
    obtain ⟨i1, i2⟩ := rol_ints r
    simp only [List.map_cons, pds, pd, PyData.canLayAll0, PyData.canLay0, PyData.depthAll, PyData.depth, i1, Bool.true_and, true_and]
    omega
theorem okD_ints (ns : List Int) : okD (.rol (ns.map D.int)) = true := by
  obtain ⟨i1, i2⟩ := rol_ints ns
  unfold okD SeqAt.shaped
  simp only [pd, PyData.canLay0, PyData.depth, i1, Bool.true_and, decide_eq_true_eq]
  omega
theorem deq_ints : ∀ ns ms : List Int, deq (.rol (ns.map D.int)) (.rol (ms.map D.int)) = decide (ns = ms)
  | [], [] => rfl
  | [], m :: s => by simp [deq, pd, pds, PyData.eqv, PyData.eqvAll]
  | n :: r, [] => by simp [deq, pd, pds, PyData.eqv, PyData.eqvAll]
  | n :: r, m :: s => by
    have := deq_ints r s
    simp only [deq, pd, PyData.eqv] at this
    simp only [deq, List.map_cons, pd, pds, PyData.eqv, PyData.eqvAll, this]
    by_cases h : n = m <;> by_cases h2 : r = s <;> simp [h, h2]
theorem v_ne_ints {p q : Addr} {ns ms : List Int} (e : M p = some (.lst (ns.map D.int))) (e2 : M q = some (.lst (ms.map D.int))) (h : R (!decide (ns = ms))) : neD (.ref p) (.ref q) M R :=
  .inr ⟨_, _, litems_ref e, litems_ref e2, ⟨okD_ints ns, okD_ints ms⟩, by rw [deq_ints]; exact h⟩
theorem v_eq_ints {p q : Addr} {ns ms : List Int} (e : M p = some (.lst (ns.map D.int))) (e2 : M q = some (.lst (ms.map D.int))) (h : R (decide (ns = ms))) : eqD (.ref p) (.ref q) M R :=
  .inr ⟨_, _, litems_ref e, litems_ref e2, ⟨okD_ints ns, okD_ints ms⟩, by rw [deq_ints]; exact h⟩
theorem CMul.r {i j : Int} (h : -(2 ^ 64) < j ∧ j < 2 ^ 64) : CMul i j := .inr h
theorem CMul.l {i j : Int} (h : -(2 ^ 64) < i ∧ i < 2 ^ 64) : CMul i j := .inl h
end

/-! ### heaps -/
theorem mup_mup {M : Mh} {a : Addr} {o o' : MO} : mup (mup M a o) a o' = mup M a o' := by
  funext b; unfold mup; split <;> rfl
theorem ne_free {M : Mh} {a p : Addr} {o : MO} (h : M a = some o) (n : M p = none) : a ≠ p := fun e => by rw [e, n] at h; cases h
/-- elsewhere as it was -/
def MKeep (S : Addr → Prop) (M M' : Mh) : Prop := ∀ a o, ¬ S a → M a = some o → M' a = some o
theorem MKeep.refl {S : Addr → Prop} {M : Mh} : MKeep S M M := fun _ _ _ h => h
theorem MKeep.trans {S : Addr → Prop} {M M1 M2 : Mh} (x : MKeep S M M1) (y : MKeep S M1 M2) : MKeep S M M2 := fun a o n h => y a o n (x a o n h)
theorem MKeep.fresh {S : Addr → Prop} {M : Mh} {p : Addr} {o : MO} (n : M p = none) : MKeep S M (mup M p o) := fun a o _ h => by rw [mup_ne (ne_free h n)]; exact h
theorem MKeep.put {S : Addr → Prop} {M : Mh} {p : Addr} {o : MO} (h : S p) : MKeep S M (mup M p o) := fun a o n q => by rw [mup_ne fun e => n (by rw [e]; exact h)]; exact q
theorem MKeep.mono {S S' : Addr → Prop} {M M1 : Mh} (x : MKeep S M M1) (h : ∀ a, S a → S' a) : MKeep S' M M1 := fun a o n q => x a o (fun z => n (h a z)) q
theorem MKeep.over {S : Addr → Prop} {M M' : Mh} {p : Addr} {o : MO} (x : MKeep S M M') (n : M p = none) : MKeep S M (mup M' p o) := fun a q h e => by rw [mup_ne (ne_free e n)]; exact x a q h e
abbrev MExt (M M' : Mh) : Prop := MKeep (fun _ => False) M M'

/-! ### loops by what holds of them -/
theorem for_each {g : DG} {b : DS} {chk : Mh → Prop} {P : De} {items : List D} {ρ : Ev} {M : Mh} (I : Nat → Ev → Mh → Prop) (h0 : I 0 ρ M)
    (step : ∀ (N : Ev → Mh → Prop) (i : Nat) (d : D) (ρ : Ev) (M : Mh), items[i]? = some d → I i ρ M → (∀ ρ' M', I (i + 1) ρ' M' → N ρ' M') → chk M ∧ g d ρ M fun ρ1 M1 => b { P with nx := N, ct := N, bk := P.nx } ρ1 M1)
    (fin : ∀ ρ M, I items.length ρ M → chk M ∧ P.nx ρ M) : forD g b chk P items ρ M := by
  have go : ∀ (l : List D) (i : Nat) (ρ : Ev) (M : Mh), items.drop i = l → i ≤ items.length → I i ρ M → forD g b chk P l ρ M := by
    intro l
    induction l with
    | nil =>
      intro i ρ M e hi h
      have : i = items.length := by
        have := congrArg List.length e
        simp at this
        omega
      subst this
      exact fin ρ M h
    | cons d l ih =>
      intro i ρ M e hi h
      have hl : i < items.length := by
        have := congrArg List.length e
        simp at this
        omega
      have e1 : items[i]? = some d := by
        have := congrArg (·[0]?) e
        simpa using this
      have e2 : items.drop (i + 1) = l := by
        rw [show i + 1 = i + 1 from rfl, ← List.drop_drop, e]; rfl
      exact step _ i d ρ M e1 h fun ρ' M' h' => ih (i + 1) ρ' M' e2 hl h'
  exact go items 0 ρ M rfl (Nat.zero_le _) h0
theorem while_each {c : DB} {b : DS} {P : De} {ρ : Ev} {M : Mh} (I : Nat → Ev → Mh → Prop) (m : Nat) (h0 : I m ρ M)
    (step : ∀ (N : Ev → Mh → Prop) (m : Nat) (ρ : Ev) (M : Mh), I m ρ M → (∀ m' ρ' M', m' < m → I m' ρ' M' → N ρ' M') → c ρ M fun t M1 => if t = true then b { P with nx := N, ct := N, bk := P.nx } ρ M1 else P.nx ρ M1) : sWh c b P ρ M := by
  have go : ∀ (n m : Nat) (ρ : Ev) (M : Mh), m < n → I m ρ M → whileD c b P n ρ M := by
    intro n
    induction n with
    | zero => intro m ρ M h; omega
    | succ n ih => intro m ρ M h hI; exact step _ m ρ M hI fun m' ρ' M' h' hI' => ih m' ρ' M' (by omega) hI'
  exact ⟨m + 1, go (m + 1) m ρ M (Nat.lt_succ_self m) h0⟩
/-- a comprehension without a test -/
theorem lc_each {t : Tg} {te : DT} {chk : Mh → Prop} {ρ : Ev} {Q : PQ} {items : List D} {M : Mh} {p : Addr} (I : Nat → List D → Mh → Prop) (hz : items.length < sizeLine) (hp : M p = some (.lst [])) (h0 : I 0 [] M)
    (step : ∀ (R : PQ) (i : Nat) (d : D) (acc : List D) (M : Mh), items[i]? = some d → acc.length = i → I i acc M → M p = some (.lst acc) → (∀ y M2, M2 p = some (.lst acc) → I (i + 1) (acc ++ [y]) (mup M2 p (.lst (acc ++ [y]))) → R y M2) →
      chk M ∧ ∃ ρ1, tgD t d ρ = some ρ1 ∧ te ρ1 M R)
    (fin : ∀ acc M, acc.length = items.length → I items.length acc M → M p = some (.lst acc) → chk M ∧ Q (.ref p) M) : lcLoop p chk t bYes te ρ Q items M := by
  have go : ∀ (l : List D) (i : Nat) (acc : List D) (M : Mh), items.drop i = l → i ≤ items.length → acc.length = i → I i acc M → M p = some (.lst acc) → lcLoop p chk t bYes te ρ Q l M := by
    intro l
    induction l with
    | nil =>
      intro i acc M e hi ha h hp
      have : i = items.length := by
        have := congrArg List.length e
        simp at this
        omega
      subst this
      exact fin acc M ha h hp
    | cons d l ih =>
      intro i acc M e hi ha h hp
      have hl : i < items.length := by
        have := congrArg List.length e
        simp at this
        omega
      have e1 : items[i]? = some d := by
        have := congrArg (·[0]?) e
        simpa using this
      have e2 : items.drop (i + 1) = l := by
        rw [show i + 1 = i + 1 from rfl, ← List.drop_drop, e]; rfl
      obtain ⟨hc, ρ1, ht, hw⟩ := step (fun y M2 => match M2 p with
        | some (.lst acc) => acc.length < sizeLine ∧ lcLoop p chk t bYes te ρ Q l (mup M2 p (.lst (acc ++ [y])))
        | _ => False) i d acc M e1 ha h hp (fun y M2 hp2 h2 => by
          simp only [hp2]
          exact ⟨by omega, ih (i + 1) (acc ++ [y]) _ e2 hl (by simp [ha]) h2 mup_same⟩)
      refine ⟨hc, ?_⟩
      rw [ht]
      unfold bYes
      dsimp only
      rw [if_pos rfl]
      exact hw
  exact go items 0 [] M rfl (Nat.zero_le _) rfl h0 hp
/-- .. with a test -/
theorem lc_eachT {t : Tg} {tt : DB} {te : DT} {chk : Mh → Prop} {ρ : Ev} {Q : PQ} {items : List D} {M : Mh} {p : Addr} (I : Nat → List D → Mh → Prop) (hz : items.length < sizeLine) (hp : M p = some (.lst [])) (h0 : I 0 [] M)
    (step : ∀ (R : PQ) (S : Mh → Prop) (i : Nat) (d : D) (acc : List D) (M : Mh), items[i]? = some d → acc.length ≤ i → I i acc M → M p = some (.lst acc) → (∀ y M2, M2 p = some (.lst acc) → I (i + 1) (acc ++ [y]) (mup M2 p (.lst (acc ++ [y]))) → R y M2) →
      (∀ M2, M2 p = some (.lst acc) → I (i + 1) acc M2 → S M2) → chk M ∧ ∃ ρ1, tgD t d ρ = some ρ1 ∧ tt ρ1 M fun k M1 => if k = true then te ρ1 M1 R else S M1)
    (fin : ∀ acc M, acc.length ≤ items.length → I items.length acc M → M p = some (.lst acc) → chk M ∧ Q (.ref p) M) : lcLoop p chk t tt te ρ Q items M := by
  have go : ∀ (l : List D) (i : Nat) (acc : List D) (M : Mh), items.drop i = l → i ≤ items.length → acc.length ≤ i → I i acc M → M p = some (.lst acc) → lcLoop p chk t tt te ρ Q l M := by
    intro l
    induction l with
    | nil =>
      intro i acc M e hi ha h hp
      have : i = items.length := by
        have := congrArg List.length e
        simp at this
        omega
      subst this
      exact fin acc M ha h hp
    | cons d l ih =>
      intro i acc M e hi ha h hp
      have hl : i < items.length := by
        have := congrArg List.length e
        simp at this
        omega
      have e1 : items[i]? = some d := by
        have := congrArg (·[0]?) e
        simpa using this
      have e2 : items.drop (i + 1) = l := by
        rw [show i + 1 = i + 1 from rfl, ← List.drop_drop, e]; rfl
      obtain ⟨hc, ρ1, ht, hw⟩ := step (fun y M2 => match M2 p with
        | some (.lst acc) => acc.length < sizeLine ∧ lcLoop p chk t tt te ρ Q l (mup M2 p (.lst (acc ++ [y])))
        | _ => False) (fun M2 => lcLoop p chk t tt te ρ Q l M2) i d acc M e1 ha h hp (fun y M2 hp2 h2 => by
          simp only [hp2]
          exact ⟨by omega, ih (i + 1) (acc ++ [y]) _ e2 hl (by simp; omega) h2 mup_same⟩) (fun M2 hp2 h2 => ih (i + 1) acc M2 e2 hl (by omega) h2 hp2)
      refine ⟨hc, ?_⟩
      rw [ht]
      exact hw
  exact go items 0 [] M rfl (Nat.zero_le _) (Nat.le_refl _) h0 hp

/-! ### items -/
theorem atI_mem {α : Type} {ds : List α} {k : Int} (h0 : 0 ≤ k) (h1 : k < ds.length) : ∃ d, atI ds k = some d ∧ d ∈ ds ∧ ds[k.toNat]? = some d := by
  have h2 : k.toNat < ds.length := by omega
  refine ⟨ds[k.toNat], ?_, List.getElem_mem h2, List.getElem?_eq_getElem h2⟩
  unfold atI ixN
  rw [if_pos h0, if_pos h1]
  exact List.getElem?_eq_getElem h2
theorem atI_get? {α : Type} {ds : List α} {k : Int} {d : α} (h0 : 0 ≤ k) (h : ds[k.toNat]? = some d) : atI ds k = some d := by
  have h2 := (List.getElem?_eq_some_iff.mp h).1
  unfold atI ixN
  rw [if_pos h0, if_pos (by omega)]
  exact h
theorem intsOf_map (ns : List Int) : intsOf (ns.map D.int) = some ns := by
  induction ns with
  | nil => rfl
  | cons n r ih => simp [intsOf, ih]
theorem strsOf_map (ns : List Str) : strsOf (ns.map D.str) = some ns := by
  induction ns with
  | nil => rfl
  | cons n r ih => simp [strsOf, ih]

/-! ### texts as lists of signs -/
def st (l : List Nat) : Str := ⟨l.toArray⟩
theorem st_cps (l : List Nat) : (st l).cps.toList = l := by simp [st]
theorem st_len (l : List Nat) : (st l).length = l.length := by simp [st, Str.length]
theorem st_of (z : Str) : z = st z.cps.toList := by cases z; simp [st]
theorem st_app (l r : List Nat) : st l ++ st r = st (l ++ r) := by
  show (⟨l.toArray ++ r.toArray⟩ : Str) = ⟨(l ++ r).toArray⟩
  simp
theorem st_inj {l r : List Nat} (h : st l = st r) : l = r := by
  have := congrArg (fun z : Str => z.cps.toList) h
  simpa [st] using this
theorem st_beq (l r : List Nat) : (st l == st r) = (l == r) := by
  by_cases h : l = r
  · subst h; simp
  · have : st l ≠ st r := fun e => h (st_inj e)
    rw [beq_eq_false_iff_ne.mpr this, beq_eq_false_iff_ne.mpr h]
theorem st_one (c : Nat) : (⟨#[c]⟩ : Str) = st [c] := rfl
theorem st_cut (l : List Nat) (lo hi : Option Int) : cutS (st l) lo hi = st ((l.drop (HT.sIx l.length 0 lo)).take (HT.sIx l.length l.length hi - HT.sIx l.length 0 lo)) := by
  unfold cutS
  rw [st_cps, st_len]; rfl
theorem st_cut_nat (l : List Nat) (i j : Nat) : cutS (st l) (some (i : Int)) (some (j : Int)) = st ((l.drop i).take (j - i)) := by
  rw [st_cut, HT.sIx_nat, HT.sIx_nat]
  congr 1
  by_cases h : i ≤ l.length
  · rw [Nat.min_eq_left h]
    by_cases h2 : j ≤ l.length
    · rw [Nat.min_eq_left h2]
    · rw [Nat.min_eq_right (show l.length ≤ j by omega), List.take_of_length_le (by simp), List.take_of_length_le (by simp; omega)]
  · rw [Nat.min_eq_right (show l.length ≤ i by omega), List.drop_of_length_le (Nat.le_refl _), List.drop_of_length_le (show l.length ≤ i by omega)]
    simp
theorem st_take (l : List Nat) (j : Nat) : cutS (st l) none (some (j : Int)) = st (l.take j) := by
  rw [st_cut, HT.sIx_none, HT.sIx_nat, List.drop_zero, Nat.sub_zero]
  congr 1
  by_cases h : j ≤ l.length
  · rw [Nat.min_eq_left h]
  · rw [Nat.min_eq_right (show l.length ≤ j by omega), List.take_length, List.take_of_length_le (show l.length ≤ j by omega)]
theorem st_drop (l : List Nat) (i : Nat) : cutS (st l) (some (i : Int)) none = st (l.drop i) := by
  rw [st_cut, HT.sIx_none, HT.sIx_nat]
  congr 1
  by_cases h : i ≤ l.length
  · rw [Nat.min_eq_left h, List.take_of_length_le (by simp)]
  · rw [Nat.min_eq_right (by omega), List.drop_of_length_le (Nat.le_refl _), List.drop_of_length_le (show l.length ≤ i by omega)]
    simp

/-! ### more of texts and items -/
theorem st_push (c : Nat) : (⟨#[c]⟩ : Str) = st [c] := rfl
def lit (z : Str) : List Nat := z.cps.toList
theorem lit_st (l : List Nat) : lit (st l) = l := st_cps l
theorem st_lit (z : Str) : st (lit z) = z := (st_of z).symm
theorem lit_len (z : Str) : (lit z).length = z.length := by simp [lit, Str.length]
theorem atI_map {α : Type} {zs : List α} {f : α → D} {k : Int} (h0 : 0 ≤ k) (h1 : k < zs.length) : ∃ z, z ∈ zs ∧ atI (zs.map f) k = some (f z) := by
  obtain ⟨d, h2, h3, h4⟩ := atI_mem (ds := zs) h0 h1
  refine ⟨d, h3, atI_get? h0 ?_⟩
  rw [List.getElem?_map, h4]; rfl
theorem atI_end {α : Type} (ds : List α) (d : α) : atI (ds ++ [d]) (((ds ++ [d]).length : Int) - 1) = some d := by
  have e : (((ds ++ [d]).length : Int) - 1) = ((ds.length : Nat) : Int) := by simp
  rw [e]
  exact atI_nat (by simp)
theorem ixN_end {α : Type} (ds : List α) (d : α) : ixN (ds ++ [d]).length (((ds ++ [d]).length : Int) - 1) = some ds.length := by
  have e : (((ds ++ [d]).length : Int) - 1) = ((ds.length : Nat) : Int) := by simp
  rw [e]
  unfold ixN
  rw [if_pos (Int.natCast_nonneg _), if_pos (by rw [List.length_append]; simp; omega)]
  simp
/-- texts of small signs: data that == takes -/
def small (l : List Nat) : Prop := ∀ c ∈ l, c < 128
theorem strOk_small {l : List Nat} (h : small l) : PyData.strOk (st l) = true := by
  unfold PyData.strOk st
  simp only [List.all_toArray, List.all_eq_true, decide_eq_true_eq]
  intro c hc
  have := h c hc
  omega
theorem okD_strs {ts : List (List Nat)} (h : ∀ t ∈ ts, small t) : okD (.tup (ts.map fun t => .str (st t))) = true := by
  have h1 : ∀ ts : List (List Nat), (∀ t ∈ ts, small t) → PyData.canLayAll0 (pds (ts.map fun t => .str (st t))) = true ∧ PyData.depthAll (pds (ts.map fun t => .str (st t))) ≤ 1 := by
    intro ts
    induction ts with
    | nil => intro _; simp [pds, PyData.canLayAll0, PyData.depthAll]
    | cons t r ih =>
      intro h
      obtain ⟨i1, i2⟩ := ih fun x hx => h x (List.mem_cons_of_mem _ hx)
      have := strOk_small (h t List.mem_cons_self)
      simp only [List.map_cons, pds, pd, PyData.canLayAll0, PyData.canLay0, PyData.depthAll, PyData.depth, this, i1, Bool.true_and, true_and]
      omega
  obtain ⟨i1, i2⟩ := h1 ts h
  unfold okD SeqAt.shaped
  simp only [pd, PyData.canLay0, PyData.depth, i1, Bool.true_and, decide_eq_true_eq]
  omega
theorem deq_refl (x : D) (h : okD x = true) : deq x x = true := SeqAt.eqv_refl _ (SeqAt.canLay_of_shaped h)

/-! ### texts joined -/
theorem glue_fold (g : Array Nat) : ∀ (ps : List Str) (a : Array Nat), (ps.foldl (fun acc p => acc ++ g ++ p.cps) a).toList = a.toList ++ ps.flatMap fun q => g.toList ++ lit q
  | [], a => by simp
  | p :: ps, a => by
    rw [List.foldl_cons, glue_fold g ps]
    simp [lit]
theorem join_lit (z p : Str) (ps : List Str) : lit (Txt.join z (p :: ps)) = lit p ++ ps.flatMap fun q => lit z ++ lit q := by
  show (((p :: ps).drop 1).foldl (fun acc p => acc ++ z.cps ++ p.cps) ((p :: ps).headD Str.empty).cps).toList = _
  rw [glue_fold]; rfl
theorem join_nil (z : Str) : Txt.join z [] = st [] := rfl
theorem join_empty (ys : List Str) : lit (Txt.join "" ys) = ys.flatMap lit := by
  cases ys with
  | nil => rfl
  | cons p ps =>
    rw [join_lit]
    have : lit (("" : String) : Str) = [] := by decide +kernel
    simp [this]
theorem str_ext {x y : Str} (h : lit x = lit y) : x = y := by
  rw [← st_lit x, ← st_lit y, h]
end DL
/-! DLq: the draws that every law has: a cell of the script, a jar, a pick. -/
namespace DL
open PySem L2
-- what the heap holds at a place
local macro_rules | `(tactic| walk_at "h") => `(tactic| first
  | assumption
  | exact mup_same
  | (refine (mup_ne ?_).trans ?_ <;> first | assumption | (apply Ne.symm; assumption) | walk_at "h"))
-- small facts of numbers
local macro_rules | `(tactic| walk_at "n") => `(tactic| first
  | assumption
  | omega
  | decide
  | (exact CMul.r (by decide))
  | (exact CMul.l (by decide))
  | (refine ⟨?_, ?_⟩ <;> first | assumption | omega | decide))
-- lengths
local macro_rules | `(tactic| walk_at "l") => `(tactic| first
  | assumption
  | (rw [sizeLine_eq]; first | omega | decide | (simp; done) | (simp; omega) | decide +kernel))
-- one step
local macro_rules | `(tactic| walk_at "e1") => `(tactic| first
  | with_reducible refine t_nil ?_
  | ((with_reducible refine' t_var ?s ?_); (case s => first | assumption | exact rfl))
  | with_reducible refine t_c ?_
  | with_reducible refine t_bin ?_
  | with_reducible refine t_if ?_
  | with_reducible refine t_asg ?_
  | with_reducible refine t_gN ?_
  | with_reducible refine t_ret ?_
  | with_reducible refine t_exp ?_
  | with_reducible refine t_bcmp ?_
  | with_reducible refine t_band ?_
  | with_reducible refine t_bor ?_
  | with_reducible refine t_bnot ?_
  | with_reducible refine t_btru ?_
  | with_reducible refine t_byes ?_
  | with_reducible refine t_an ?_
  | with_reducible refine t_ac ?_
  | with_reducible refine t_fn ?_
  | with_reducible refine t_call ?_
  | with_reducible refine t_cmp ?_
  | with_reducible refine t_and ?_
  | with_reducible refine t_or ?_
  | with_reducible refine t_not ?_
  | with_reducible refine t_ife ?_
  | with_reducible refine t_tup ?_
  | with_reducible refine t_lst ?_
  | with_reducible refine t_isi ?_
  | with_reducible refine t_sl ?_
  | with_reducible refine t_o0 ?_
  | with_reducible refine t_o1 ?_
  | with_reducible refine t_un ?_
  | with_reducible refine t_mt ?_
  | with_reducible refine t_gS ?_
  | with_reducible refine t_gsC ?_
  | with_reducible refine t_gsN ?_
  | ((with_reducible refine t_gT ?s ?_); (case s => first | assumption | exact rfl))
  | with_reducible refine t_retN ?_
  | with_reducible refine t_brk ?_
  | with_reducible refine t_cnt ?_
  | ((with_reducible refine' t_aug ?s ?_); (case s => first | assumption | exact rfl))
  | with_reducible refine t_for ?_
  | with_reducible refine t_seqi ?_
  | with_reducible refine t_rg1 ?_
  | with_reducible refine t_rg2 ?_
  | with_reducible refine t_lc ?_
  | with_reducible refine v_tru_bl ?_
  | with_reducible refine v_tru_int ?_
  | with_reducible refine v_tru_non ?_
  | with_reducible refine v_tru_tup ?_
  | with_reducible refine v_add_int ?_
  | ((with_reducible refine v_add_str ?l ?_); (case l => walk_at "l"))
  | ((with_reducible refine v_add_tup ?l ?_); (case l => walk_at "l"))
  | with_reducible refine v_iadd_int ?_
  | with_reducible refine v_sub ?_
  | ((with_reducible refine v_mul ?c ?_); (case c => walk_at "n"))
  | ((with_reducible refine v_div ?c ?_); (case c => walk_at "n"))
  | ((with_reducible refine v_mod ?c ?_); (case c => walk_at "n"))
  | ((with_reducible refine v_pow ?c ?_); (case c => exact ⟨by decide, by decide, by decide⟩))
  | with_reducible refine v_neg ?_
  | with_reducible exact trivial
  | with_reducible refine v_eq_int ?_
  | with_reducible refine v_eq_str ?_
  | with_reducible refine v_eq_bl ?_
  | with_reducible refine v_ne_int ?_
  | with_reducible refine v_ne_str ?_
  | with_reducible refine v_ne_bl ?_
  | with_reducible refine v_lt ?_
  | with_reducible refine v_lt_str ?_
  | with_reducible refine t_ks ?_
  | with_reducible refine t_rv ?_
  | with_reducible refine v_seq_ktp ?_
  | ((with_reducible refine' v_extend ?e ?f ?l ?_); (case e => walk_at "h"); (case f => walk_at "h"); (case l => walk_at "l"))
  | with_reducible refine v_le ?_
  | with_reducible refine v_gt ?_
  | with_reducible refine v_ge ?_
  | with_reducible refine v_isi_non ?_
  | with_reducible refine v_isi_bl ?_
  | with_reducible refine v_isi_int ?_
  | with_reducible refine v_isi_str ?_
  | with_reducible refine v_isi_tup ?_
  | with_reducible refine v_in_str ?_
  | with_reducible refine v_nin_str ?_
  | with_reducible refine v_len_tup ?_
  | with_reducible refine v_len_rol ?_
  | ((with_reducible refine v_len_str ?l ?_); (case l => walk_at "l"))
  | ((with_reducible refine' v_len_ref ?e ?_); (case e => walk_at "h"))
  | with_reducible refine v_int_int ?_
  | with_reducible refine v_max ?_
  | with_reducible refine v_min ?_
  | with_reducible refine v_tuple_tup ?_
  | ((with_reducible refine' v_tuple_ref ?e ?_); (case e => walk_at "h"))
  | ((with_reducible refine' v_ix_ref ?e ?f ?_); (case e => walk_at "h"); (case f => first | assumption | exact rfl))
  | ((with_reducible refine' v_ix_tup ?f ?_); (case f => first | assumption | exact rfl))
  | ((with_reducible refine' v_set ?e ?f ?_); (case e => walk_at "h"); (case f => first | assumption | exact rfl))
  | ((with_reducible refine v_sl_str ?l ?_); (case l => walk_at "l"))
  | with_reducible refine v_sl_tup ?_
  | with_reducible refine v_seq_tup ?_
  | with_reducible refine v_seq_str ?_
  | with_reducible refine v_seq_rol ?_
  | ((with_reducible refine' v_seq_ref ?e ?_); (case e => walk_at "h"))
  | ((with_reducible refine' ⟨v_ty_ref ?e, ?_⟩); (case e => walk_at "h"))
  | ((with_reducible refine' v_append ?e ?l ?_); (case e => walk_at "h"); (case l => walk_at "l")))
local macro_rules | `(tactic| walk_at "d1") => `(tactic| first | with_reducible refine t_seq ?_ | walk_at "e1")
local macro_rules | `(tactic| walk_at "d") => `(tactic| repeat walk_at "d1")
-- one statement
local macro_rules | `(tactic| walk_at "e") => `(tactic| ((repeat walk_at "e1"); try (with_reducible show sSeq _ _ _ _ _)))
local macro_rules | `(tactic| walk_at "s") => `(tactic| ((with_reducible refine t_seq ?_); walk_at "e"))
def b_cell : DS :=
  (sSeq (sIf (bCmp ltD (eVar 1) (eCall lenD (aCons (eVar 0) aNil)))
   (sSeq (sRet (eBin ixD (eVar 0) (eVar 1)))
   sNil)
   sNil)
  (sSeq (sRet (eBin addD (eBin addD (eBin mulD (eBin modD (eCall intD (aCons (eCall sumD (aCons (eSl (eVar 0) none (some (eC (.int 1)))) aNil)) aNil)) (eC (.int 1000003))) (eC (.int 7919))) (eBin mulD (eVar 1) (eC (.int 104729)))) (eC (.int 12345))))
  sNil))
def b_jar (c_cell : List D → Mh → PQ → Prop) : DS :=
  (sSeq (sAsg (eFn 2 c_cell (aCons (eVar 0) (aCons (eVar 1) aNil))) (gN 2))
  (sSeq (sAsg (eVar 2) (gN 3))
  (sSeq (sIf (bCmp ltD (eVar 2) (eC (.int 0)))
   (sSeq (sAsg (eBin subD (eC (.int 1)) (eBin mulD (eC (.int 3)) (eVar 2))) (gN 3))
   sNil)
   sNil)
  (sSeq (sIf (bCmp geD (eVar 3) (eBin powD (eC (.int 10)) (eC (.int 18))))
   (sSeq (sRet (eLst (aCons (eVar 3) (aCons (eC (.int 1)) (aCons (eVar 1) aNil)))))
   sNil)
   sNil)
  (sSeq (sRet (eLst (aCons (eBin addD (eBin modD (eCall intD (aCons (eVar 3) aNil)) (eC (.int 2147483646))) (eC (.int 1))) (aCons (eC (.int 0)) (aCons (eVar 1) aNil)))))
  sNil)))))
def b_pick : DS :=
  (sSeq (sIf (bAnd (bCmp eqD (eBin ixD (eVar 0) (eC (.int 1))) (eC (.int 1))) (bCmp gtD (eBin ixD (eVar 0) (eC (.int 0))) (eC (.int 0))))
   (sSeq (sAsg (eBin modD (eCall intD (aCons (eBin ixD (eVar 0) (eC (.int 0))) aNil)) (eVar 1)) (gN 2))
   (sSeq (sAsg (eBin divD (eBin ixD (eVar 0) (eC (.int 0))) (eVar 1)) (gS (eVar 0) (eC (.int 0))))
   (sSeq (sRet (eVar 2))
   sNil)))
   sNil)
  (sSeq (sIf (bCmp eqD (eBin ixD (eVar 0) (eC (.int 1))) (eC (.int 1)))
   (sSeq (sAsg (eC (.int 0)) (gS (eVar 0) (eC (.int 1))))
   (sSeq (sAsg (eBin addD (eC (.int 1234567)) (eBin mulD (eBin ixD (eVar 0) (eC (.int 2))) (eC (.int 7907)))) (gS (eVar 0) (eC (.int 0))))
   sNil))
   sNil)
  (sSeq (sAsg (eBin addD (eBin ixD (eVar 0) (eC (.int 2))) (eC (.int 1))) (gS (eVar 0) (eC (.int 2))))
  (sSeq (sAsg (eBin modD (eCall intD (aCons (eBin addD (eBin mulD (eBin ixD (eVar 0) (eC (.int 0))) (eC (.int 48271))) (eBin mulD (eBin ixD (eVar 0) (eC (.int 2))) (eC (.int 69621)))) aNil)) (eC (.int 2147483647))) (gS (eVar 0) (eC (.int 0))))
  (sSeq (sRet (eBin modD (eCall intD (aCons (eBin divD (eBin ixD (eVar 0) (eC (.int 0))) (eC (.int 977))) aNil)) (eVar 1)))
  sNil)))))

theorem cut_ints (ns : List Int) (lo hi : Option Int) : ∃ ms : List Int, cutD (ns.map D.int) lo hi = ms.map D.int := by
  unfold cutD
  exact ⟨(ns.drop (HT.sIx ns.length 0 lo)).take (HT.sIx ns.length ns.length hi - HT.sIx ns.length 0 lo), by simp⟩
theorem v_sum_ref {M : Mh} {Q : PQ} {p : Addr} {ds : List D} {ns : List Int} (e : M p = some (.lst ds)) (f : intsOf ds = some ns) (h : Q (.int ns.sum) M) : sumD [.ref p] M Q := by
  show (match litemsD (.ref p) M with | some ds => (match intsOf ds with | some ns => Q (.int ns.sum) M | none => False) | none => False)
  have : litemsD (.ref p) M = some ds := by
    show (match M p with | some (.lst ds) => some ds | _ => none) = _
    rw [e]
  rw [this]
  show (match intsOf ds with | some ns => Q (.int ns.sum) M | none => False)
  rw [f]; exact h
theorem MKeep.none {S : Addr → Prop} {M M1 : Mh} (x : MKeep S M M1) {p : Addr} (h : M1 p = none) (n : ¬ S p) : M p = none := by
  cases e : M p with
  | none => rfl
  | some o => rw [x p o n e] at h; cases h

/-- a cell: some int -/
def sp_cell : DSp := fun ds M P => ∃ (ns : List Int) (i : Int), ds = [.rol (ns.map D.int), .int i] ∧ 0 ≤ i ∧ ∀ (x : Int) M', MExt M M' → P (.int x) M'
theorem ok_cell (ds : List D) (M : Mh) (P : PQ) (h : sp_cell ds M P) : b_cell { nx := fun _ M' => P .non M', rt := P } (startD 2 ds) M := by
  obtain ⟨ns, i, rfl, hi, k⟩ := h
  unfold b_cell
  walk_at "d"
  refine t_ite (fun e => ?_) (fun e => ?_)
  · have e : i < (ns.map D.int).length := of_decide_eq_true e
    walk_at "d"
    obtain ⟨d, h1, h2, _⟩ := atI_mem hi e
    obtain ⟨x, _, rfl⟩ := List.mem_map.mp h2
    exact v_ix_rol h1 (k x M .refl)
  · walk_at "d"
    refine v_sl_rol fun p np => ?_
    walk_at "d"
    obtain ⟨ms, hm⟩ := cut_ints ns none (some 1)
    rw [hm]
    refine v_sum_ref mup_same (intsOf_map ms) ?_
    walk_at "d"
    exact k _ _ (.fresh np)

def JarOk (M : Mh) (j : Addr) : Prop := ∃ a b c : Int, M j = some (.lst [.int a, .int b, .int c]) ∧ 0 ≤ a ∧ (b = 0 ∨ b = 1) ∧ 0 ≤ c
/-- a jar: a new one -/
def sp_jar : DSp := fun ds M P => ∃ (ns : List Int) (i : Int), ds = [.rol (ns.map D.int), .int i] ∧ 0 ≤ i ∧ ∀ (p : Addr) M', MExt M M' → M p = none → JarOk M' p → P (.ref p) M'
theorem ok_jar (ds : List D) (M : Mh) (P : PQ) (h : sp_jar ds M P) : b_jar sp_cell { nx := fun _ M' => P .non M', rt := P } (startD 4 ds) M := by
  obtain ⟨ns, i, rfl, hi, k⟩ := h
  unfold b_jar
  walk_at "s"
  refine ⟨rfl, ns, i, rfl, hi, fun x M1 x1 => ?_⟩
  have fin : ∀ (a b c : Int) (p : Addr), 0 ≤ a → (b = 0 ∨ b = 1) → 0 ≤ c → M1 p = none → P (.ref p) (mup M1 p (.lst [.int a, .int b, .int c])) := fun a b c p ha hb hc np =>
    k p _ (x1.trans (.fresh np)) (x1.none np (fun z => z)) ⟨a, b, c, mup_same, ha, hb, hc⟩
  walk_at "e"
  walk_at "s"
  refine t_cut (fun ρ M' => M' = M1 ∧ slot ρ 0 = some (.rol (ns.map D.int)) ∧ slot ρ 1 = some (.int i) ∧ ∃ n : Int, 0 ≤ n ∧ slot ρ 3 = some (.int n)) (fun N hN => ?_) ?_
  · walk_at "d"
    refine t_ite (fun e => ?_) (fun e => ?_)
    · have e : x < 0 := of_decide_eq_true e
      walk_at "d"
      exact hN _ _ ⟨rfl, rfl, rfl, 1 - 3 * x, by omega, rfl⟩
    · have e : ¬ x < 0 := of_decide_eq_false e
      walk_at "d"
      exact hN _ _ ⟨rfl, rfl, rfl, x, by omega, rfl⟩
  · rintro ρ M' ⟨rfl, s0, s1, n, hn, s3⟩
    walk_at "d"
    refine t_ite (fun e => ?_) (fun e => ?_)
    · walk_at "d"
      refine ⟨by walk_at "l", fun p np => ?_⟩
      exact fin n 1 i p hn (.inr rfl) hi np
    · walk_at "d"
      refine ⟨by walk_at "l", fun p np => ?_⟩
      exact fin _ 0 i p (by have := Int.emod_nonneg n (show (2147483646 : Int) ≠ 0 by decide); omega) (.inl rfl) hi np

/-- a pick: some number below many; the jar alone changes -/
def sp_pick : DSp := fun ds M P => ∃ (j : Addr) (many : Int), ds = [.ref j, .int many] ∧ JarOk M j ∧ (0 < many ∧ many < 1073741824) ∧ ∀ (k : Int) o, 0 ≤ k → k < many → JarOk (mup M j o) j → P (.int k) (mup M j o)
theorem ok_pick (ds : List D) (M : Mh) (P : PQ) (h : sp_pick ds M P) : b_pick { nx := fun _ M' => P .non M', rt := P } (startD 3 ds) M := by
  obtain ⟨j, many, rfl, ⟨a, b, c, hM, ha, hb, hc⟩, ⟨h0, h1⟩, k⟩ := h
  have fin : ∀ (x y z r : Int), 0 ≤ x → (y = 0 ∨ y = 1) → 0 ≤ z → 0 ≤ r → r < many → P (.int r) (mup M j (.lst [.int x, .int y, .int z])) := fun x y z r hx hy hz h2 h3 =>
    k r _ h2 h3 ⟨x, y, z, mup_same, hx, hy, hz⟩
  have md : ∀ x : Int, 0 ≤ x % many ∧ x % many < many := fun x => ⟨Int.emod_nonneg _ (by omega), Int.emod_lt_of_pos _ h0⟩
  unfold b_pick
  walk_at "d"
  refine t_ite (fun e => ?_) (fun e => ?_)
  · walk_at "d"
    refine t_ite (fun e2 => ?_) (fun e2 => ?_)
    · walk_at "d"
      exact fin (a / many) b c _ (Int.ediv_nonneg ha (by omega)) hb hc (md _).1 (md _).2
    · walk_at "d"
      refine t_ite (fun e3 => ?_) (fun e3 => ?_)
      · walk_at "d"
        simp only [mup_mup]
        exact fin _ 0 (c + 1) _ (Int.emod_nonneg _ (by decide)) (.inl rfl) (by omega) (md _).1 (md _).2
      · walk_at "d"
        simp only [mup_mup]
        exact fin _ b (c + 1) _ (Int.emod_nonneg _ (by decide)) hb (by omega) (md _).1 (md _).2
  · refine t_ite (fun z => nomatch z) (fun _ => ?_)
    walk_at "d"
    refine t_ite (fun e3 => ?_) (fun e3 => ?_)
    · walk_at "d"
      simp only [mup_mup]
      exact fin _ 0 (c + 1) _ (Int.emod_nonneg _ (by decide)) (.inl rfl) (by omega) (md _).1 (md _).2
    · walk_at "d"
      simp only [mup_mup]
      exact fin _ b (c + 1) _ (Int.emod_nonneg _ (by decide)) hb (by omega) (md _).1 (md _).2
/-- the call of a pick -/
theorem c_pick {j : Addr} {many : Int} {M : Mh} {Q : PQ} (h : JarOk M j) (hm : 0 < many ∧ many < 1073741824) (k : ∀ (k : Int) o, 0 ≤ k → k < many → JarOk (mup M j o) j → Q (.int k) (mup M j o)) :
    [D.ref j, D.int many].length = 2 ∧ sp_pick [.ref j, .int many] M Q := ⟨rfl, j, many, rfl, h, hm, k⟩
theorem JarOk.keep {S : Addr → Prop} {M M' : Mh} {j : Addr} (h : JarOk M j) (x : MKeep S M M') (n : ¬ S j) : JarOk M' j := let ⟨a, b, c, e, r⟩ := h; ⟨a, b, c, x _ _ n e, r⟩
theorem JarOk.ne {M : Mh} {j p : Addr} (h : JarOk M j) (n : M p = none) : j ≠ p := let ⟨a, b, c, e, r⟩ := h; ne_free e n
end DL
/-! DLt: expressions that draw from a jar, by what they may give. -/
namespace DL
open PySem L2

/-- e draws from the jar at j alone, and gives something of T -/
def GI (j : Addr) (ρ : Ev) (T : D → Prop) (e : DT) : Prop := ∀ (M : Mh) (P : PQ), JarOk M j → (∀ d M', MKeep (· = j) M M' → JarOk M' j → T d → P d M') → e ρ M P
def GIs (j : Addr) (ρ : Ev) (T : List D → Prop) (a : DA) : Prop := ∀ (M : Mh) (P : List D → Mh → Prop), JarOk M j → (∀ ds M', MKeep (· = j) M M' → JarOk M' j → T ds → P ds M') → a ρ M P
/-- n things of T -/
def GA (n : Nat) (T : D → Prop) (xs : List D) : Prop := xs.length = n ∧ ∀ x ∈ xs, T x
def IsI (lo hi : Int) (d : D) : Prop := ∃ i, d = .int i ∧ lo ≤ i ∧ i ≤ hi
section
variable {j : Addr} {ρ : Ev} {T A B : D → Prop} {e a b : DT} {n : Nat} {as : DA}
theorem GI.mono (h : GI j ρ A e) (k : ∀ d, A d → T d) : GI j ρ T e := fun M P jk q => h M P jk fun d M' m jk' t => q d M' m jk' (k d t)
theorem gi_c {d : D} (h : T d) : GI j ρ T (eC d) := fun M P jk k => k d M .refl jk h
theorem gi_v {i : Nat} {d : D} (s : slot ρ i = some d) (h : T d) : GI j ρ T (eVar i) := fun M P jk k => by
  refine t_var s ?_
  exact k d M .refl jk h
theorem gi_bin {r : D → D → Mh → PQ → Prop} (ha : GI j ρ A a) (hb : GI j ρ B b) (h : ∀ x y M (P : PQ), A x → B y → (∀ d, T d → P d M) → r x y M P) : GI j ρ T (eBin r a b) := fun M P jk k =>
  ha M _ jk fun x M1 m1 j1 t1 => hb M1 _ j1 fun y M2 m2 j2 t2 => h x y M2 P t1 t2 fun d t => k d M2 (m1.trans m2) j2 t
theorem gi_add {l1 h1 l2 h2 : Int} (ha : GI j ρ (IsI l1 h1) a) (hb : GI j ρ (IsI l2 h2) b) : GI j ρ (IsI (l1 + l2) (h1 + h2)) (eBin addD a b) :=
  gi_bin ha hb fun x y M P ⟨i, e1, q1, q2⟩ ⟨i', e2, q3, q4⟩ k => by
    subst e1 e2
    exact k _ ⟨i + i', rfl, by omega, by omega⟩
theorem gi_sub {l1 h1 l2 h2 : Int} (ha : GI j ρ (IsI l1 h1) a) (hb : GI j ρ (IsI l2 h2) b) : GI j ρ (IsI (l1 - h2) (h1 - l2)) (eBin subD a b) :=
  gi_bin ha hb fun x y M P ⟨i, e1, q1, q2⟩ ⟨i', e2, q3, q4⟩ k => by
    subst e1 e2
    exact k _ ⟨i - i', rfl, by omega, by omega⟩
theorem gis_nil : GIs j ρ (· = []) aNil := fun M P jk k => k [] M .refl jk rfl
theorem gis_cons {U V : List D → Prop} (he : GI j ρ A e) (ha : GIs j ρ U as) (h : ∀ x xs, A x → U xs → V (x :: xs)) : GIs j ρ V (aCons e as) := fun M P jk k =>
  he M _ jk fun x M1 m1 j1 t1 => ha M1 _ j1 fun xs M2 m2 j2 t2 => k _ M2 (m1.trans m2) j2 (h x xs t1 t2)
theorem ga_nil : GIs j ρ (GA 0 T) aNil := fun M P jk k => k [] M .refl jk ⟨rfl, fun _ h => by simp at h⟩
theorem ga_cons (he : GI j ρ T e) (ha : GIs j ρ (GA n T) as) : GIs j ρ (GA (n + 1) T) (aCons e as) :=
  gis_cons he ha fun x xs t ⟨l, h⟩ => ⟨by rw [List.length_cons, l], fun y hy => by
    rcases List.mem_cons.mp hy with rfl | hy
    · exact t
    · exact h y hy⟩
theorem ga_cons2 (ha : GIs j ρ (GA n T) as) (he : GI j ρ T e) : GIs j ρ (GA (n + 1) T) (aCons e as) := ga_cons he ha
theorem keepj {M : Mh} {o : MO} : MKeep (· = j) M (mup M j o) := .put rfl
theorem gi_tup {U : List D → Prop} (ha : GIs j ρ U as) (h : ∀ xs, U xs → xs.length ≤ sizeLine ∧ T (.tup xs)) : GI j ρ T (eTup as) := fun M P jk k =>
  ha M _ jk fun xs M1 m1 j1 t1 => ⟨(h xs t1).1, k _ M1 m1 j1 (h xs t1).2⟩
theorem gi_pick {i : Nat} {m h : Int} (s : slot ρ i = some (.ref j)) (he : GI j ρ (IsI m h) e) (h0 : 0 < m) (h1 : h < 1073741824) : GI j ρ (IsI 0 (h - 1)) (eFn 2 sp_pick (aCons (eVar i) (aCons e aNil))) := fun M P jk k => by
  refine t_fn (t_ac (t_var s (t_ac (he M _ jk fun d M1 m1 j1 t1 => t_an ?_))))
  obtain ⟨v, rfl, q1, q2⟩ := t1
  refine c_pick j1 (by omega) fun x o x0 x1 j2 => k _ _ (m1.trans (.put rfl)) j2 ⟨x, rfl, x0, by omega⟩
/-- [..][e] -/
theorem gi_menu {h : Int} (ha : GIs j ρ (GA n T) as) (hi : GI j ρ (IsI 0 h) e) (hn : h < n) (hz : n ≤ sizeLine) : GI j ρ T (eBin ixD (eLst as) e) := fun M P jk k => by
  refine t_bin (t_lst (ha M _ jk fun xs M1 m1 j1 t1 => ⟨by rw [t1.1]; exact hz, fun p np => ?_⟩))
  have jp := j1.ne np
  refine hi _ _ (j1.keep (.fresh (S := fun _ => False) np) (fun z => z)) fun d M2 m2 j2 t2 => ?_
  obtain ⟨i, rfl, q1, q2⟩ := t2
  obtain ⟨d, h1, h2, _⟩ := atI_mem (ds := xs) q1 (by rw [t1.1]; omega)
  refine v_ix_ref (m2 _ _ (fun z => jp z.symm) mup_same) h1 ?_
  exact k d M2 (m1.trans ((MKeep.fresh np).trans m2)) j2 (t1.2 d h2)
/-- the same, the list's length asked for -/
theorem GI.run (h : GI j ρ T e) {M : Mh} {P : PQ} (jk : JarOk M j) (k : ∀ d M', MKeep (· = j) M M' → JarOk M' j → T d → P d M') : e ρ M P := h M P jk k
/-- a text of at most n -/
def IsS (n : Nat) (d : D) : Prop := ∃ z, d = .str z ∧ z.length ≤ n
theorem line_big {n : Nat} (h : n ≤ 100000) : n ≤ sizeLine := by rw [sizeLine_eq]; omega
theorem str_app_len (y z : Str) : (y ++ z).length = y.length + z.length := by
  rw [← st_lit y, ← st_lit z, st_app, st_len, st_len, st_len, List.length_append]
theorem str_cut_len (z : Str) (lo hi : Option Int) : (cutS z lo hi).length ≤ z.length := by
  rw [← st_lit z, st_cut, st_len, st_len, List.length_take, List.length_drop]
  omega
theorem gi_sadd {m : Nat} (ha : GI j ρ (IsS n) a) (hb : GI j ρ (IsS m) b) (hz : n + m ≤ 100000) : GI j ρ (IsS (n + m)) (eBin addD a b) :=
  gi_bin ha hb fun x y M P ⟨i, e1, q1⟩ ⟨i', e2, q2⟩ k => by
    subst e1 e2
    exact v_add_str (line_big (by omega)) (k _ ⟨_, rfl, by rw [str_app_len]; omega⟩)
theorem gi_len (ha : GI j ρ (IsS n) a) (hz : n ≤ 100000) : GI j ρ (IsI 0 n) (eCall lenD (aCons a aNil)) := fun M P jk k =>
  t_call (t_ac (ha M _ jk fun d M1 m1 j1 t1 => t_an (by
    obtain ⟨z, rfl, q⟩ := t1
    exact v_len_str (line_big (by omega)) (k _ _ m1 j1 ⟨_, rfl, by omega, by omega⟩))))
theorem gi_slo {l h : Int} (ha : GI j ρ (IsS n) a) (hb : GI j ρ (IsI l h) b) (hz : n ≤ 100000) : GI j ρ (IsS n) (eSl a (some b) none) := fun M P jk k =>
  t_sl (ha M _ jk fun d M1 m1 j1 t1 => t_o1 (hb M1 _ j1 fun d2 M2 m2 j2 t2 => by
    obtain ⟨z, rfl, q⟩ := t1
    obtain ⟨i, rfl, _⟩ := t2
    exact t_o0 (v_sl_str (line_big (by omega)) (k _ _ (m1.trans m2) j2 ⟨_, rfl, by have := str_cut_len z (some i) none; omega⟩))))
theorem gi_shi {l h : Int} (ha : GI j ρ (IsS n) a) (hb : GI j ρ (IsI l h) b) (hz : n ≤ 100000) : GI j ρ (IsS n) (eSl a none (some b)) := fun M P jk k =>
  t_sl (ha M _ jk fun d M1 m1 j1 t1 => t_o0 (t_o1 (hb M1 _ j1 fun d2 M2 m2 j2 t2 => by
    obtain ⟨z, rfl, q⟩ := t1
    obtain ⟨i, rfl, _⟩ := t2
    exact v_sl_str (line_big (by omega)) (k _ _ (m1.trans m2) j2 ⟨_, rfl, by have := str_cut_len z none (some i); omega⟩))))
/-- found.extend([..]) -/
theorem ext_run {i : Nat} {p : Addr} {xs : List D} {M : Mh} {Q : PQ} (s : slot ρ i = some (.ref p)) (hp : M p = some (.lst xs)) (jk : JarOk M j) (pj : p ≠ j) (ha : GIs j ρ (GA n T) as) (hz : xs.length + n ≤ 100000)
    (k : ∀ ys M', ys.length = n → (∀ y ∈ ys, T y) → M' p = some (.lst (xs ++ ys)) → MKeep (fun a => a = j ∨ a = p) M M' → JarOk M' j → Q .non M') : eMt "list" extendD (eVar i) (aCons (eLst as) aNil) ρ M Q := by
  refine t_mt (t_var s ⟨v_ty_ref hp, t_ac (t_lst (ha M _ jk fun ys M1 m1 j1 t1 => ⟨line_big (by rw [t1.1]; omega), fun q nq => t_an ?_⟩))⟩)
  have hp1 := m1 _ _ pj hp
  have pq := ne_free hp1 nq
  refine v_extend (by rw [mup_ne pq]; exact hp1) mup_same (line_big (by rw [t1.1]; omega)) ?_
  refine k ys _ t1.1 t1.2 mup_same ((m1.mono fun _ z => .inl z).trans ((MKeep.fresh nq).trans (.put (.inr rfl)))) ?_
  obtain ⟨a, b, c, e, r⟩ := j1
  exact ⟨a, b, c, by rw [mup_ne pj.symm, mup_ne (ne_free e nq)]; exact e, r⟩
/-- found.append(e) -/
theorem app_run {i : Nat} {p : Addr} {xs : List D} {M : Mh} {Q : PQ} (s : slot ρ i = some (.ref p)) (hp : M p = some (.lst xs)) (jk : JarOk M j) (pj : p ≠ j) (he : GI j ρ T e) (hz : xs.length < 100000)
    (k : ∀ y M', T y → M' p = some (.lst (xs ++ [y])) → MKeep (fun a => a = j ∨ a = p) M M' → JarOk M' j → Q .non M') : eMt "list" appendD (eVar i) (aCons e aNil) ρ M Q := by
  refine t_mt (t_var s ⟨v_ty_ref hp, t_ac (he M _ jk fun y M1 m1 j1 t1 => t_an ?_)⟩)
  have hp1 := m1 _ _ pj hp
  refine v_append hp1 (by rw [sizeLine_eq]; omega) ?_
  refine k y _ t1 mup_same ((m1.mono fun _ z => .inl z).trans (.put (.inr rfl))) ?_
  obtain ⟨a, b, c, e, r⟩ := j1
  exact ⟨a, b, c, by rw [mup_ne pj.symm]; exact e, r⟩
end
end DL
/-! DLh: what is held of the heap, in one row: jars, and things by their places; steps that carry it along. -/
namespace DL
open PySem L2

structure Held (M : Mh) (Js : List Addr) (L : List (Addr × MO)) : Prop where
  jar : ∀ j ∈ Js, JarOk M j
  nd : (Js ++ L.map (·.1)).Nodup
  at' : ∀ e ∈ L, M e.1 = some e.2
section
variable {M M' : Mh} {Js : List Addr} {L L' : List (Addr × MO)} {p j : Addr} {o o' : MO} {Q : PQ}
theorem Held.get (H : Held M Js L) (m : (p, o) ∈ L) : M p = some o := H.at' _ m
theorem Held.free (H : Held M Js L) (n : M p = none) : p ∉ Js ++ L.map (·.1) := fun h => by
  rcases List.mem_append.mp h with h | h
  · obtain ⟨a, b, c, e, _⟩ := H.jar p h
    rw [n] at e; cases e
  · obtain ⟨e, he, rfl⟩ := List.mem_map.mp h
    rw [H.at' e he] at n; cases n
theorem Held.nil (M : Mh) : Held M [] [] := ⟨by simp, by simp, by simp⟩
theorem Held.perm (H : Held M Js L) (h : L.Perm L') : Held M Js L' :=
  ⟨H.jar, ((h.map (·.1)).append_left Js).nodup_iff.mp H.nd, fun e he => H.at' e (h.mem_iff.mpr he)⟩
theorem Held.sub (H : Held M Js L) (h : L'.Sublist L) : Held M Js L' :=
  ⟨H.jar, H.nd.sublist ((h.map (·.1)).append_left Js), fun e he => H.at' e (h.subset he)⟩
theorem Held.tail {e : Addr × MO} (H : Held M Js (e :: L)) : Held M Js L := H.sub (List.sublist_cons_self _ _)
theorem Held.tail2 {e f : Addr × MO} (H : Held M Js (e :: f :: L)) : Held M Js (e :: L) := H.sub (List.sublist_cons_self _ _ |>.cons₂ _)
theorem Held.swap {e f : Addr × MO} (H : Held M Js (e :: f :: L)) : Held M Js (f :: e :: L) := H.perm (List.Perm.swap _ _ _)
theorem Held.third {e f g : Addr × MO} (H : Held M Js (e :: f :: g :: L)) : Held M Js (g :: e :: f :: L) :=
  H.perm (((List.Perm.swap _ _ _).cons e).trans (List.Perm.swap _ _ _))
theorem Held.fourth {e f g h : Addr × MO} (H : Held M Js (e :: f :: g :: h :: L)) : Held M Js (h :: e :: f :: g :: L) :=
  H.perm ((((List.Perm.swap _ _ _).cons f).cons e).trans (((List.Perm.swap _ _ _).cons e).trans (List.Perm.swap _ _ _)))
theorem Held.rot {A : List (Addr × MO)} (H : Held M Js (A ++ L)) : Held M Js (L ++ A) := H.perm List.perm_append_comm
theorem Held.new (H : Held M Js L) (n : M p = none) : Held (mup M p o) Js ((p, o) :: L) := by
  have f := H.free n
  have ne : ∀ q, q ∈ Js ++ L.map (·.1) → q ≠ p := fun q h e => f (e ▸ h)
  refine ⟨fun j hj => ?_, ?_, fun e he => ?_⟩
  · obtain ⟨a, b, c, e, r⟩ := H.jar j hj
    exact ⟨a, b, c, by rw [mup_ne (ne j (List.mem_append_left _ hj))]; exact e, r⟩
  · rw [List.map_cons]
    exact (List.perm_middle (l₁ := Js)).nodup_iff.mpr (List.nodup_cons.mpr ⟨f, H.nd⟩)
  · rcases List.mem_cons.mp he with rfl | he
    · exact mup_same
    · rw [mup_ne (ne _ (List.mem_append_right _ (List.mem_map.mpr ⟨e, he, rfl⟩)))]
      exact H.at' e he
theorem Held.put (H : Held M Js ((p, o) :: L)) : Held (mup M p o') Js ((p, o') :: L) := by
  have nd := (List.perm_middle (l₁ := Js)).nodup_iff.mp H.nd
  have ⟨f, nd⟩ := List.nodup_cons.mp nd
  have ne : ∀ q, q ∈ Js ++ L.map (·.1) → q ≠ p := fun q h e => f (e ▸ h)
  refine ⟨fun j hj => ?_, H.nd, fun e he => ?_⟩
  · obtain ⟨a, b, c, e, r⟩ := H.jar j hj
    exact ⟨a, b, c, by rw [mup_ne (ne j (List.mem_append_left _ hj))]; exact e, r⟩
  · rcases List.mem_cons.mp he with rfl | he
    · exact mup_same
    · rw [mup_ne (ne _ (List.mem_append_right _ (List.mem_map.mpr ⟨e, he, rfl⟩)))]
      exact H.at' e (List.mem_cons_of_mem _ he)
/-- what stands at the i-th place is written -/
theorem Held.putI (H : Held M Js L) {i : Nat} (e : L[i]? = some (p, o)) : Held (mup M p o') Js (L.set i (p, o')) := by
  obtain ⟨hi, e⟩ := List.getElem?_eq_some_iff.mp e
  have h1 : L.Perm ((p, o) :: (L.take i ++ L.drop (i + 1))) := by
    have : L = L.take i ++ (p, o) :: L.drop (i + 1) := by rw [← e, List.getElem_cons_drop, List.take_append_drop]
    exact (List.Perm.of_eq this).trans List.perm_middle
  have h2 : ((p, o') :: (L.take i ++ L.drop (i + 1))).Perm (L.set i (p, o')) := by
    rw [List.set_eq_take_append_cons_drop, if_pos hi]
    exact List.perm_middle.symm
  exact ((H.perm h1).put (o' := o')).perm h2
/-- the jar at j alone changes -/
theorem Held.keep (H : Held M Js L) (hj : j ∈ Js) (m : MKeep (· = j) M M') (k : JarOk M' j) : Held M' Js L := by
  refine ⟨fun i hi => ?_, H.nd, fun e he => ?_⟩
  · by_cases h : i = j
    · rw [h]; exact k
    · exact (H.jar i hi).keep m h
  · refine m _ _ (fun h => ?_) (H.at' e he)
    have := (List.nodup_append.mp H.nd).2.2 j hj e.1 (List.mem_map.mpr ⟨e, he, rfl⟩)
    exact this h.symm
theorem Held.ext (H : Held M Js L) (m : MExt M M') : Held M' Js L := ⟨fun i hi => (H.jar i hi).keep m (fun z => z), H.nd, fun e he => m _ _ (fun z => z) (H.at' e he)⟩
/-- something new -/
theorem Held.more (H : Held M Js L) (H' : Held M' Js L) (n : M p = none) (e : M' p = some o) : Held M' Js ((p, o) :: L) := by
  refine ⟨H'.jar, ?_, fun x hx => ?_⟩
  · rw [List.map_cons]
    exact (List.perm_middle (l₁ := Js)).nodup_iff.mpr (List.nodup_cons.mpr ⟨H.free n, H.nd⟩)
  · rcases List.mem_cons.mp hx with rfl | hx
    · exact e
    · exact H'.at' x hx
theorem Held.jar' (H : Held M Js L) (hj : j ∈ Js) : JarOk M j := H.jar j hj
theorem Held.ne (H : Held M Js L) (hj : j ∈ Js) (m : (p, o) ∈ L) : p ≠ j := fun h => (List.nodup_append.mp H.nd).2.2 j hj p (List.mem_map.mpr ⟨_, m, rfl⟩) h.symm

theorem Held.addJar (H : Held M Js L) (m : MExt M M') (n : M p = none) (k : JarOk M' p) : Held M' (p :: Js) L :=
  ⟨fun i hi => by
    rcases List.mem_cons.mp hi with rfl | hi
    · exact k
    · exact (H.ext m).jar i hi, List.nodup_cons.mpr ⟨H.free n, H.nd⟩, fun e he => (H.ext m).at' e he⟩

/-! ### steps -/
theorem h_jar {ns : List Int} {i : Int} (H : Held M Js L) (hi : 0 ≤ i) (k : ∀ p M', Held M' (p :: Js) L → Q (.ref p) M') : [D.rol (ns.map D.int), D.int i].length = 2 ∧ sp_jar [.rol (ns.map D.int), .int i] M Q :=
  ⟨rfl, ns, i, rfl, hi, fun p M' m n jk => k p M' (H.addJar m n jk)⟩
/-- what a new list is asked -/
def NewL (xs : List D) (M : Mh) (Q : PQ) : Prop := xs.length ≤ sizeLine ∧ ∀ p, M p = none → Q (.ref p) (mup M p (.lst xs))
theorem t_lstN {wa : DA} {ρ : Ev} (h : wa ρ M fun xs M1 => NewL xs M1 Q) : eLst wa ρ M Q := h
theorem t_gN' {i : Nat} {d : D} {R : Ev → Mh → Prop} {ρ ρ' : Ev} (e : ρ.set i (some d) = ρ') (h : R ρ' M) : gN i d ρ M R := by
  subst e; exact h
theorem v_int_bl {b : Bool} (h : Q (.int (if b then 1 else 0)) M) : intD [.bl b] M Q := h
/-- what a new tuple is asked -/
def NewT (xs : List D) (M : Mh) (Q : PQ) : Prop := xs.length ≤ sizeLine ∧ Q (.tup xs) M
theorem t_tupN {wa : DA} {ρ : Ev} (h : wa ρ M fun xs M1 => NewT xs M1 Q) : eTup wa ρ M Q := h
theorem v_newT {xs : List D} (l : xs.length ≤ 100000) (h : Q (.tup xs) M) : NewT xs M Q := ⟨line_big l, h⟩
theorem h_new {xs : List D} (H : Held M Js L) (l : xs.length ≤ 100000) (k : ∀ p M', Held M' Js ((p, .lst xs) :: L) → Q (.ref p) M') : NewL xs M Q := ⟨line_big l, fun p n => k p _ (H.new n)⟩
theorem h_dct {ρ : Ev} (H : Held M Js L) (k : ∀ p M', Held M' Js ((p, .dk []) :: L) → Q (.ref p) M') : eDct ρ M Q := .inl fun p n => k p _ (H.new n)
theorem h_dctT {ρ : Ev} (H : Held M Js L) (k : ∀ p M', Held M' Js ((p, .dt []) :: L) → Q (.ref p) M') : eDct ρ M Q := .inr fun p n => k p _ (H.new n)
theorem h_pick {many : Int} (H : Held M Js L) (hj : j ∈ Js) (hm : 0 < many ∧ many < 1073741824) (k : ∀ (k : Int) M', 0 ≤ k → k < many → Held M' Js L → Q (.int k) M') :
    [D.ref j, D.int many].length = 2 ∧ sp_pick [.ref j, .int many] M Q := c_pick (H.jar j hj) hm fun k' o k0 k1 j1 => k k' _ k0 k1 (H.keep hj (.put rfl) j1)
theorem h_app {xs : List D} {y : D} (H : Held M Js ((p, .lst xs) :: L)) (l : xs.length < 100000) (k : ∀ M', Held M' Js ((p, .lst (xs ++ [y])) :: L) → Q .non M') : appendD (.ref p) [y] M Q :=
  v_append (H.get List.mem_cons_self) (by rw [sizeLine_eq]; omega) (k _ H.put)
theorem h_appI {xs : List D} {y : D} (i : Nat) (H : Held M Js L) (e : L[i]? = some (p, .lst xs)) (l : xs.length < 100000) (k : ∀ M', Held M' Js (L.set i (p, .lst (xs ++ [y]))) → Q .non M') : appendD (.ref p) [y] M Q :=
  v_append (H.get (List.mem_of_getElem? e)) (by rw [sizeLine_eq]; omega) (k _ (H.putI e))
theorem h_extI {xs ys : List D} {q : Addr} (i : Nat) (H : Held M Js L) (e : L[i]? = some (p, .lst xs)) (m : (q, .lst ys) ∈ L) (l : xs.length + ys.length ≤ 100000) (k : ∀ M', Held M' Js (L.set i (p, .lst (xs ++ ys))) → Q .non M') : extendD (.ref p) [.ref q] M Q :=
  v_extend (H.get (List.mem_of_getElem? e)) (H.get m) (line_big l) (k _ (H.putI e))
theorem h_setI {xs : List D} {d : D} {n : Int} {m : Nat} {S : Mh → Prop} (i : Nat) (H : Held M Js L) (e : L[i]? = some (p, .lst xs)) (e2 : ixN xs.length n = some m) (k : ∀ M', Held M' Js (L.set i (p, .lst (xs.set m d))) → S M') : setD (.ref p) (.int n) d M S :=
  v_set (H.get (List.mem_of_getElem? e)) e2 (k _ (H.putI e))
theorem h_dputI {kvs : MO} {y d : D} {S : Mh → Prop} (i : Nat) (H : Held M Js L) (e : L[i]? = some (p, kvs)) (e1 : dictD (.ref p) M = some kvs) (l : dSize kvs < 100000) (e2 : dPut kvs y d = some o') (k : ∀ M', Held M' Js (L.set i (p, o')) → S M') : setD (.ref p) y d M S :=
  v_set_dict e1 (by rw [sizeLine_eq]; omega) e2 (k _ (H.putI e))
theorem h_popI {xs : List D} {d : D} (i : Nat) (H : Held M Js L) (e : L[i]? = some (p, .lst xs)) (e2 : xs[xs.length - 1]? = some d) (k : ∀ M', Held M' Js (L.set i (p, .lst xs.dropLast)) → Q d M') : popD (.ref p) [] M Q := by
  show (match M p with | some (.lst ds) => _ | _ => False)
  rw [H.get (List.mem_of_getElem? e)]
  have h : atI xs (-1) = some d ∨ True := .inr trivial
  have := k _ (H.putI e)
  first | exact ⟨_, e2, this⟩ | (simp only [e2]; exact this) | (dsimp only; rw [e2]; exact this)
theorem h_sl {xs : List D} {lo hi : Option Int} (H : Held M Js L) (m : (p, .lst xs) ∈ L) (k : ∀ q M', Held M' Js ((q, .lst (cutD xs lo hi)) :: L) → Q (.ref q) M') : slD (.ref p) lo hi M Q := v_sl_ref (H.get m) fun q n => k q _ (H.new n)
theorem h_add {xs ys : List D} {q : Addr} (H : Held M Js L) (m : (p, .lst xs) ∈ L) (m2 : (q, .lst ys) ∈ L) (l : xs.length + ys.length ≤ 100000) (k : ∀ u M', Held M' Js ((u, .lst (xs ++ ys)) :: L) → Q (.ref u) M') : addD (.ref p) (.ref q) M Q :=
  ⟨xs, ys, H.get m, H.get m2, line_big l, fun u n => k u _ (H.new n)⟩
theorem h_listT {xs : List D} (H : Held M Js L) (k : ∀ q M', Held M' Js ((q, .lst xs) :: L) → Q (.ref q) M') : listD [.tup xs] M Q := v_list_tup fun q n => k q _ (H.new n)
theorem h_listL {xs : List D} (H : Held M Js L) (m : (p, .lst xs) ∈ L) (k : ∀ q M', Held M' Js ((q, .lst xs) :: L) → Q (.ref q) M') : listD [.ref p] M Q := v_list_ref (H.get m) fun q n => k q _ (H.new n)
theorem h_sorted {xs : List D} (H : Held M Js L) (m : (p, .lst xs) ∈ L) (sk : SortK xs) (k : ∀ ys q M', ys.Perm xs → ys.Pairwise (fun a b => ¬ (eD b < eD a)) → Held M' Js ((q, .lst ys) :: L) → Q (.ref q) M') : sortedD [.ref p] M Q :=
  v_sorted (H.get m) sk fun ys q h1 h2 n => k ys q _ h1 h2 (H.new n)
theorem h_keys (H : Held M Js L) (e : dictD (.ref p) M = some o) (k : ∀ q M', Held M' Js ((q, .lst (dKeys o)) :: L) → Q (.ref q) M') : keysLD (.ref p) M Q := v_keys e fun q n => k q _ (H.new n)
theorem h_gi {ρ : Ev} {T : D → Prop} {e : DT} (H : Held M Js L) (hj : j ∈ Js) (g : GI j ρ T e) (k : ∀ d M', T d → Held M' Js L → Q d M') : e ρ M Q := g M Q (H.jar j hj) fun d M' m jk t => k d M' t (H.keep hj m jk)

/-- xs[k], of a list of things -/
theorem h_ixm {α : Type} {zs : List α} {f : α → D} {i : Int} (H : Held M Js L) (m : (p, .lst (zs.map f)) ∈ L) (h0 : 0 ≤ i) (h1 : i < zs.length) (k : ∀ z, z ∈ zs → zs[i.toNat]? = some z → Q (f z) M) : ixD (.ref p) (.int i) M Q := by
  have hn : i.toNat < zs.length := by omega
  have e := List.getElem?_eq_getElem hn
  exact v_ix_ref (H.get m) (atI_get? h0 (by rw [List.getElem?_map, e]; rfl)) (k _ (List.getElem_mem hn) e)
theorem h_dput {kvs : List (Key × D)} {y d : D} {c : Key} {S : Mh → Prop} (i : Nat) (H : Held M Js L) (e : L[i]? = some (p, .dk kvs)) (ec : keyD y = some c) (l : kvs.length < 100000) (k : ∀ M', Held M' Js (L.set i (p, .dk (putD kvs c d))) → S M') : setD (.ref p) y d M S :=
  h_dputI i H e (dict_dk (H.get (List.mem_of_getElem? e))) l (by show (keyD y).map _ = _; rw [ec]; rfl) k
theorem h_in {kvs : List (Key × D)} {y : D} {c : Key} {R : Bool → Prop} (H : Held M Js L) (m : (p, .dk kvs) ∈ L) (ec : keyD y = some c) (h : R (valD kvs c).isSome) : inD y (.ref p) M R :=
  v_in_dict (dict_dk (H.get m)) (by show (keyD y).map _ = _; rw [ec]; rfl) h
theorem h_nin {kvs : List (Key × D)} {y : D} {c : Key} {R : Bool → Prop} (H : Held M Js L) (m : (p, .dk kvs) ∈ L) (ec : keyD y = some c) (h : R (!(valD kvs c).isSome)) : ninD y (.ref p) M R :=
  v_nin_dict (dict_dk (H.get m)) (by show (keyD y).map _ = _; rw [ec]; rfl) h
theorem h_ixd {kvs : List (Key × D)} {y d : D} {c : Key} (H : Held M Js L) (m : (p, .dk kvs) ∈ L) (ec : keyD y = some c) (ev : valD kvs c = some d) (h : Q d M) : ixD (.ref p) y M Q :=
  v_ix_dict (dict_dk (H.get m)) (by show (keyD y).map _ = _; rw [ec, ← ev]; rfl) h
/-- {k: v} -/
def NewD (p : Addr) (x y : D) (M : Mh) (Q : PQ) : Prop := M p = some (.dk []) ∧ match keyD x with
  | some k => Q (.ref p) (mup M p (.dk [(k, y)]))
  | none => False
theorem t_d1H {ρ : Ev} {a e : DT} (H : Held M Js L) (h : ∀ p M', Held M' Js ((p, .dk []) :: L) → a ρ M' fun x M1 => e ρ M1 fun y M2 => NewD p x y M2 Q) : eD1 a e ρ M Q := t_d1 fun p np => h p _ (H.new np)
theorem h_newD {x y : D} {c : Key} (H : Held M Js ((p, .dk []) :: L)) (ec : keyD x = some c) (k : ∀ M', Held M' Js ((p, .dk [(c, y)]) :: L) → Q (.ref p) M') : NewD p x y M Q := by
  refine ⟨H.get List.mem_cons_self, ?_⟩
  rw [ec]
  exact k _ H.put

theorem h_lr {n : Int} (H : Held M Js L) (h0 : 0 ≤ n) (h1 : n ≤ 100000) (k : ∀ p M', Held M' Js ((p, .lst (rngI 0 n.toNat)) :: L) → Q (.ref p) M') : lrD (.int n) M Q :=
  ⟨by omega, fun p np => k p _ (H.new np)⟩

/-! ### comprehensions -/
section
variable {t : Tg} {tt : DB} {te : DT} {chk : Mh → Prop} {ρ : Ev} {items : List D}
/-- with things that come along: E of them -/
theorem h_lcE (I : Nat → List D → List (Addr × MO) → Prop) (H : Held M Js L) (hz : items.length < 100000) (h0 : I 0 [] [])
    (hc : ∀ M', Held M' Js L → chk M')
    (step : ∀ (R : PQ) (i : Nat) (d : D) (acc : List D) (E : List (Addr × MO)) (p : Addr) (M : Mh), items[i]? = some d → I i acc E → Held M Js ((p, .lst acc) :: (E ++ L)) →
      (∀ y E' M', I (i + 1) (acc ++ [y]) E' → Held M' Js ((p, .lst acc) :: (E' ++ L)) → R y M') → ∃ ρ1, tgD t d ρ = some ρ1 ∧ te ρ1 M R)
    (fin : ∀ p acc E M, acc.length = items.length → I items.length acc E → Held M Js ((p, .lst acc) :: (E ++ L)) → Q (.ref p) M) :
    ∀ p, M p = none → lcLoop p chk t bYes te ρ Q items (mup M p (.lst [])) := fun p np => by
  have hL : ∀ {M' acc E}, Held M' Js ((p, .lst acc) :: (E ++ L)) → Held M' Js L := fun h => h.tail.sub (List.sublist_append_right _ _)
  refine lc_each (fun i acc M' => ∃ E, I i acc E ∧ Held M' Js ((p, .lst acc) :: (E ++ L))) (by rw [sizeLine_eq]; omega) mup_same ⟨[], h0, H.new np⟩ (fun R i d acc M' hd hl hI hp hR => ?_) (fun acc M' hl hI hp => ?_)
  · obtain ⟨E, hI, H1⟩ := hI
    exact ⟨hc _ (hL H1), step R i d acc E p M' hd hI H1 fun y E' M2 h2 H2 => hR y M2 (H2.get List.mem_cons_self) ⟨E', h2, H2.put⟩⟩
  · obtain ⟨E, hI, H1⟩ := hI
    exact ⟨hc _ (hL H1), fin p acc E M' hl hI H1⟩
theorem h_lc (I : Nat → List D → Prop) (H : Held M Js L) (hz : items.length < 100000) (h0 : I 0 [])
    (hc : ∀ M', Held M' Js L → chk M')
    (step : ∀ (R : PQ) (i : Nat) (d : D) (acc : List D) (p : Addr) (M : Mh), items[i]? = some d → I i acc → Held M Js ((p, .lst acc) :: L) →
      (∀ y M', I (i + 1) (acc ++ [y]) → Held M' Js ((p, .lst acc) :: L) → R y M') → ∃ ρ1, tgD t d ρ = some ρ1 ∧ te ρ1 M R)
    (fin : ∀ p acc M, acc.length = items.length → I items.length acc → Held M Js ((p, .lst acc) :: L) → Q (.ref p) M) :
    ∀ p, M p = none → lcLoop p chk t bYes te ρ Q items (mup M p (.lst [])) :=
  h_lcE (fun i acc E => E = [] ∧ I i acc) H hz ⟨rfl, h0⟩ hc (fun R i d acc E p M' hd hI H1 k => by
    obtain ⟨rfl, hI⟩ := hI
    exact step R i d acc p M' hd hI H1 fun y M2 h2 H2 => k y [] M2 ⟨rfl, h2⟩ H2) fun p acc E M' hl hI H1 => by
    obtain ⟨rfl, hI⟩ := hI
    exact fin p acc M' hl hI H1
/-- with a test -/
theorem h_lcT (I : Nat → List D → Prop) (H : Held M Js L) (hz : items.length < 100000) (h0 : I 0 [])
    (hc : ∀ M', Held M' Js L → chk M')
    (step : ∀ (R : PQ) (S : Mh → Prop) (i : Nat) (d : D) (acc : List D) (p : Addr) (M : Mh), items[i]? = some d → I i acc → Held M Js ((p, .lst acc) :: L) →
      (∀ y M', I (i + 1) (acc ++ [y]) → Held M' Js ((p, .lst acc) :: L) → R y M') → (∀ M', I (i + 1) acc → Held M' Js ((p, .lst acc) :: L) → S M') →
      ∃ ρ1, tgD t d ρ = some ρ1 ∧ tt ρ1 M fun k M1 => if k = true then te ρ1 M1 R else S M1)
    (fin : ∀ p acc M, acc.length ≤ items.length → I items.length acc → Held M Js ((p, .lst acc) :: L) → Q (.ref p) M) :
    ∀ p, M p = none → lcLoop p chk t tt te ρ Q items (mup M p (.lst [])) := fun p np => by
  refine lc_eachT (fun i acc M' => I i acc ∧ Held M' Js ((p, .lst acc) :: L)) (by rw [sizeLine_eq]; omega) mup_same ⟨h0, H.new np⟩ (fun R S i d acc M' hd hl hI hp hR hS => ?_) (fun acc M' hl hI hp => ?_)
  · obtain ⟨hI, H1⟩ := hI
    exact ⟨hc _ H1.tail, step R S i d acc p M' hd hI H1 (fun y M2 h2 H2 => hR y M2 (H2.get List.mem_cons_self) ⟨h2, H2.put⟩) fun M2 h2 H2 => hS M2 (H2.get List.mem_cons_self) ⟨h2, H2⟩⟩
  · obtain ⟨hI, H1⟩ := hI
    exact ⟨hc _ H1.tail, fin p acc M' hl hI H1⟩
end
end
end DL
/-! LXb: bodies of helpers that the laws of machines have, as gen.py prints them. -/
namespace LX
open PySem DL
/-- slots: 0 jar 1 index 2 letters 3 word 4 count 5 at -/
def b_name (c_pick : List D → Mh → PQ → Prop) : DS :=
  (sSeq (sAsg (eC (.str "abcdefghijklmnopqrstuvwxyz")) (gN 2))
  (sSeq (sAsg (eBin ixD (eVar 2) (eFn 2 c_pick (aCons (eVar 0) (aCons (eC (.int 26)) aNil)))) (gN 3))
  (sSeq (sFor (iRg1 (aCons (eBin ixD (eLst (aCons (eC (.int 0)) (aCons (eC (.int 0)) (aCons (eC (.int 1)) (aCons (eC (.int 2)) (aCons (eC (.int 6)) aNil)))))) (eFn 2 c_pick (aCons (eVar 0) (aCons (eC (.int 5)) aNil)))) aNil)) (gN 4)
   (sSeq (sAsg (eBin addD (eVar 3) (eBin ixD (eVar 2) (eFn 2 c_pick (aCons (eVar 0) (aCons (eC (.int 26)) aNil))))) (gN 3))
   sNil))
  (sSeq (sAsg (eBin addD (eC (.int 1)) (eFn 2 c_pick (aCons (eVar 0) (aCons (eCall lenD (aCons (eVar 3) aNil)) aNil)))) (gN 5))
  (sSeq (sRet (eBin addD (eBin addD (eSl (eVar 3) none (some (eVar 5))) (eCall strD (aCons (eVar 1) aNil))) (eSl (eVar 3) (some (eVar 5)) none)))
  sNil)))))
/-- slots: 0 jar 1 many 2 index -/
def b_names (c_name : List D → Mh → PQ → Prop) : DS :=
  (sSeq (sRet (eLC (iRg1 (aCons (eVar 1) aNil)) (.nm 2) bYes (eFn 2 c_name (aCons (eVar 0) (aCons (eVar 2) aNil))) [2]))
  sNil)
/-- slots: 0 jar 1 way 2 value 3 low -/
def b_span (c_pick : List D → Mh → PQ → Prop) : DS :=
  (sSeq (sAsg (eFn 2 c_pick (aCons (eVar 0) (aCons (eC (.int 6)) aNil))) (gN 1))
  (sSeq (sIf (bCmp ltD (eVar 1) (eC (.int 2)))
   (sSeq (sRet (eTup (aCons (eC (.int 0)) (aCons (eC (.int 0)) aNil))))
   sNil)
   sNil)
  (sSeq (sIf (bCmp eqD (eVar 1) (eC (.int 2)))
   (sSeq (sAsg (eFn 2 c_pick (aCons (eVar 0) (aCons (eC (.int 12)) aNil))) (gN 2))
   (sSeq (sRet (eTup (aCons (eVar 2) (aCons (eVar 2) aNil))))
   sNil))
   sNil)
  (sSeq (sIf (bCmp eqD (eVar 1) (eC (.int 3)))
   (sSeq (sRet (eTup (aCons (eFn 2 c_pick (aCons (eVar 0) (aCons (eC (.int 1000)) aNil))) (aCons (eBin subD (eC (.int 999999)) (eFn 2 c_pick (aCons (eVar 0) (aCons (eC (.int 3)) aNil)))) aNil))))
   sNil)
   sNil)
  (sSeq (sAsg (eFn 2 c_pick (aCons (eVar 0) (aCons (eC (.int 6)) aNil))) (gN 3))
  (sSeq (sRet (eTup (aCons (eVar 3) (aCons (eBin addD (eVar 3) (eFn 2 c_pick (aCons (eVar 0) (aCons (eC (.int 9)) aNil)))) aNil))))
  sNil))))))
/-- slots: 0 jar 1 labels 2 count 3 goals 4 found 5 used 6 index 7 label 8 again 9 word 10 span 11 low 12 high -/
def b_moves (c_pick : List D → Mh → PQ → Prop) (c_span : List D → Mh → PQ → Prop) : DS :=
  (sSeq (sAsg (eLst aNil) (gN 4))
  (sSeq (sAsg (eLst aNil) (gN 5))
  (sSeq (sFor (iRg1 (aCons (eVar 2) aNil)) (gN 6)
   (sSeq (sAsg (eBin ixD (eVar 1) (eBin modD (eCall intD (aCons (eVar 6) aNil)) (eCall lenD (aCons (eVar 1) aNil)))) (gN 7))
   (sSeq (sAsg (eCall lenD (aCons (eLC (iSeq (eVar 5)) (.nm 9) (bCmp eqD (eVar 9) (eVar 7)) (eVar 9) [9]) aNil)) (gN 8))
   (sSeq (sExp (eMt "list" appendD (eVar 5) (aCons (eVar 7) aNil)))
   (sSeq (sAsg (eFn 1 c_span (aCons (eVar 0) aNil)) (gN 10))
   (sSeq (sAsg (eBin addD (eBin mulD (eVar 8) (eC (.int 1000))) (eBin modD (eCall intD (aCons (eBin ixD (eVar 10) (eC (.int 0))) aNil)) (eC (.int 1000)))) (gN 11))
   (sSeq (sAsg (eBin addD (eBin mulD (eVar 8) (eC (.int 1000))) (eC (.int 999))) (gN 12))
   (sSeq (sIf (bCmp ltD (eBin subD (eBin ixD (eVar 10) (eC (.int 1))) (eBin ixD (eVar 10) (eC (.int 0)))) (eBin subD (eC (.int 999)) (eBin modD (eCall intD (aCons (eBin ixD (eVar 10) (eC (.int 0))) aNil)) (eC (.int 1000)))))
    (sSeq (sAsg (eBin addD (eVar 11) (eBin subD (eBin ixD (eVar 10) (eC (.int 1))) (eBin ixD (eVar 10) (eC (.int 0))))) (gN 12))
    sNil)
    sNil)
   (sSeq (sIf (bAnd (bCmp eqD (eVar 8) (eC (.int 0))) (bAnd (bCmp leD (eVar 2) (eCall lenD (aCons (eVar 1) aNil))) (bCmp gtD (eBin ixD (eVar 10) (eC (.int 1))) (eC (.int 900000)))))
    (sSeq (sAsg (eBin ixD (eVar 10) (eC (.int 1))) (gN 12))
    sNil)
    sNil)
   (sSeq (sExp (eMt "list" appendD (eVar 4) (aCons (eTup (aCons (eVar 7) (aCons (eVar 11) (aCons (eVar 12) (aCons (eBin ixD (eVar 3) (eFn 2 c_pick (aCons (eVar 0) (aCons (eCall lenD (aCons (eVar 3) aNil)) aNil)))) aNil))))) aNil)))
   sNil))))))))))
  (sSeq (sRet (eCall sortedD (aCons (eVar 4) aNil)))
  sNil))))
/-- slots: 0 jar 1 partners 2 labels 3 many 4 found 5 at 6 kind 7 count 8 goals 9 moves 10 move -/
def b_machine (c_pick : List D → Mh → PQ → Prop) (c_moves : List D → Mh → PQ → Prop) : DS :=
  (sSeq (sAsg (eLst aNil) (gN 4))
  (sSeq (sFor (iRg1 (aCons (eBin subD (eVar 3) (eC (.int 1))) aNil)) (gN 5)
   (sSeq (sAsg (eBin ixD (eLst (aCons (eC (.str "say")) (aCons (eC (.str "hear")) aNil))) (eFn 2 c_pick (aCons (eVar 0) (aCons (eC (.int 2)) aNil)))) (gN 6))
   (sSeq (sAsg (eBin addD (eC (.int 1)) (eBin ixD (eLst (aCons (eC (.int 0)) (aCons (eC (.int 0)) (aCons (eC (.int 1)) (aCons (eC (.int 1)) (aCons (eC (.int 2)) aNil)))))) (eFn 2 c_pick (aCons (eVar 0) (aCons (eC (.int 5)) aNil))))) (gN 7))
   (sSeq (sAsg (eLst (aCons (eBin addD (eVar 5) (eC (.int 1))) (aCons (eFn 2 c_pick (aCons (eVar 0) (aCons (eVar 3) aNil))) (aCons (eFn 2 c_pick (aCons (eVar 0) (aCons (eVar 3) aNil))) aNil)))) (gN 8))
   (sSeq (sAsg (eLC (iSeq (eFn 4 c_moves (aCons (eVar 0) (aCons (eVar 2) (aCons (eVar 7) (aCons (eVar 8) aNil)))))) (.nm 10) bYes (eCall listD (aCons (eVar 10) aNil)) [10]) (gN 9))
   (sSeq (sAsg (eBin addD (eVar 5) (eC (.int 1))) (gS (eBin ixD (eVar 9) (eFn 2 c_pick (aCons (eVar 0) (aCons (eCall lenD (aCons (eVar 9) aNil)) aNil)))) (eC (.int 3))))
   (sSeq (sExp (eMt "list" appendD (eVar 4) (aCons (eTup (aCons (eVar 6) (aCons (eBin ixD (eVar 1) (eFn 2 c_pick (aCons (eVar 0) (aCons (eCall lenD (aCons (eVar 1) aNil)) aNil)))) (aCons (eCall tupleD (aCons (eLC (iSeq (eVar 9)) (.nm 10) bYes (eCall tupleD (aCons (eVar 10) aNil)) [10]) aNil)) aNil)))) aNil)))
   sNil)))))))
  (sSeq (sExp (eMt "list" appendD (eVar 4) (aCons (eTup (aCons (eC (.str "end")) aNil)) aNil)))
  (sSeq (sRet (eCall tupleD (aCons (eVar 4) aNil)))
  sNil))))
/-- slots: 0 jar 1 names 2 found -/
def b_edged (c_pick : List D → Mh → PQ → Prop) : DS :=
  (sSeq (sAsg (eCall listD (aCons (eVar 1) aNil)) (gN 2))
  (sSeq (sAsg (eBin ixD (eLst (aCons (eC (.str "a")) (aCons (eC (.str "z")) (aCons (eC (.str "machines")) (aCons (eC (.str "a2345678")) aNil))))) (eFn 2 c_pick (aCons (eVar 0) (aCons (eC (.int 4)) aNil)))) (gS (eVar 2) (eFn 2 c_pick (aCons (eVar 0) (aCons (eCall lenD (aCons (eVar 2) aNil)) aNil)))))
  (sSeq (sRet (eVar 2))
  sNil)))
end LX
/-! LXg: names, moves and machines that the laws draw. -/
namespace LX
open PySem DL L2
-- what the heap holds at a place
local macro_rules | `(tactic| walk_at "h") => `(tactic| first
  | assumption
  | exact mup_same
  | (refine (mup_ne ?_).trans ?_ <;> first | assumption | (apply Ne.symm; assumption) | walk_at "h"))
-- small facts of numbers
local macro_rules | `(tactic| walk_at "n") => `(tactic| first
  | assumption
  | omega
  | decide
  | (exact CMul.r (by decide))
  | (exact CMul.l (by decide))
  | (refine ⟨?_, ?_⟩ <;> first | assumption | omega | decide))
-- lengths
local macro_rules | `(tactic| walk_at "l") => `(tactic| first
  | assumption
  | (rw [sizeLine_eq]; first | omega | decide | (simp; done) | (simp; omega) | decide +kernel))
-- one step
local macro_rules | `(tactic| walk_at "e1") => `(tactic| first
  | with_reducible refine t_nil ?_
  | ((with_reducible refine' t_var ?s ?_); (case s => first | assumption | exact rfl))
  | with_reducible refine t_c ?_
  | with_reducible refine t_bin ?_
  | with_reducible refine t_if ?_
  | with_reducible refine t_asg ?_
  | with_reducible refine t_gN ?_
  | with_reducible refine t_ret ?_
  | with_reducible refine t_exp ?_
  | with_reducible refine t_bcmp ?_
  | with_reducible refine t_band ?_
  | with_reducible refine t_bor ?_
  | with_reducible refine t_bnot ?_
  | with_reducible refine t_btru ?_
  | with_reducible refine t_byes ?_
  | with_reducible refine t_an ?_
  | with_reducible refine t_ac ?_
  | with_reducible refine t_fn ?_
  | with_reducible refine t_call ?_
  | with_reducible refine t_cmp ?_
  | with_reducible refine t_and ?_
  | with_reducible refine t_or ?_
  | with_reducible refine t_not ?_
  | with_reducible refine t_ife ?_
  | with_reducible refine t_tup ?_
  | with_reducible refine t_lst ?_
  | with_reducible refine t_isi ?_
  | with_reducible refine t_sl ?_
  | with_reducible refine t_o0 ?_
  | with_reducible refine t_o1 ?_
  | with_reducible refine t_un ?_
  | with_reducible refine t_mt ?_
  | with_reducible refine t_gS ?_
  | with_reducible refine t_gsC ?_
  | with_reducible refine t_gsN ?_
  | ((with_reducible refine t_gT ?s ?_); (case s => first | assumption | exact rfl))
  | with_reducible refine t_retN ?_
  | with_reducible refine t_brk ?_
  | with_reducible refine t_cnt ?_
  | ((with_reducible refine' t_aug ?s ?_); (case s => first | assumption | exact rfl))
  | with_reducible refine t_for ?_
  | with_reducible refine t_seqi ?_
  | with_reducible refine t_rg1 ?_
  | with_reducible refine t_rg2 ?_
  | with_reducible refine t_lc ?_
  | with_reducible refine v_tru_bl ?_
  | with_reducible refine v_tru_int ?_
  | with_reducible refine v_tru_non ?_
  | with_reducible refine v_tru_tup ?_
  | with_reducible refine v_add_int ?_
  | ((with_reducible refine v_add_str ?l ?_); (case l => walk_at "l"))
  | ((with_reducible refine v_add_tup ?l ?_); (case l => walk_at "l"))
  | with_reducible refine v_iadd_int ?_
  | with_reducible refine v_sub ?_
  | ((with_reducible refine v_mul ?c ?_); (case c => walk_at "n"))
  | ((with_reducible refine v_div ?c ?_); (case c => walk_at "n"))
  | ((with_reducible refine v_mod ?c ?_); (case c => walk_at "n"))
  | ((with_reducible refine v_pow ?c ?_); (case c => exact ⟨by decide, by decide, by decide⟩))
  | with_reducible refine v_neg ?_
  | with_reducible exact trivial
  | with_reducible refine v_eq_int ?_
  | with_reducible refine v_eq_str ?_
  | with_reducible refine v_eq_bl ?_
  | with_reducible refine v_ne_int ?_
  | with_reducible refine v_ne_str ?_
  | with_reducible refine v_ne_bl ?_
  | with_reducible refine v_lt ?_
  | with_reducible refine v_lt_str ?_
  | with_reducible refine t_ks ?_
  | with_reducible refine t_rv ?_
  | with_reducible refine v_seq_ktp ?_
  | ((with_reducible refine' v_extend ?e ?f ?l ?_); (case e => walk_at "h"); (case f => walk_at "h"); (case l => walk_at "l"))
  | with_reducible refine v_le ?_
  | with_reducible refine v_gt ?_
  | with_reducible refine v_ge ?_
  | with_reducible refine v_isi_non ?_
  | with_reducible refine v_isi_bl ?_
  | with_reducible refine v_isi_int ?_
  | with_reducible refine v_isi_str ?_
  | with_reducible refine v_isi_tup ?_
  | with_reducible refine v_in_str ?_
  | with_reducible refine v_nin_str ?_
  | with_reducible refine v_len_tup ?_
  | with_reducible refine v_len_rol ?_
  | ((with_reducible refine v_len_str ?l ?_); (case l => walk_at "l"))
  | ((with_reducible refine' v_len_ref ?e ?_); (case e => walk_at "h"))
  | with_reducible refine v_int_int ?_
  | with_reducible refine v_max ?_
  | with_reducible refine v_min ?_
  | with_reducible refine v_tuple_tup ?_
  | ((with_reducible refine' v_tuple_ref ?e ?_); (case e => walk_at "h"))
  | ((with_reducible refine' v_ix_ref ?e ?f ?_); (case e => walk_at "h"); (case f => first | assumption | exact rfl))
  | ((with_reducible refine' v_ix_tup ?f ?_); (case f => first | assumption | exact rfl))
  | ((with_reducible refine' v_set ?e ?f ?_); (case e => walk_at "h"); (case f => first | assumption | exact rfl))
  | ((with_reducible refine v_sl_str ?l ?_); (case l => walk_at "l"))
  | with_reducible refine v_sl_tup ?_
  | with_reducible refine v_seq_tup ?_
  | with_reducible refine v_seq_str ?_
  | with_reducible refine v_seq_rol ?_
  | ((with_reducible refine' v_seq_ref ?e ?_); (case e => walk_at "h"))
  | ((with_reducible refine' ⟨v_ty_ref ?e, ?_⟩); (case e => walk_at "h"))
  | ((with_reducible refine' v_append ?e ?l ?_); (case e => walk_at "h"); (case l => walk_at "l")))
local macro_rules | `(tactic| walk_at "d1") => `(tactic| first | with_reducible refine t_seq ?_ | walk_at "e1")
local macro_rules | `(tactic| walk_at "d") => `(tactic| repeat walk_at "d1")
-- one statement
local macro_rules | `(tactic| walk_at "e") => `(tactic| ((repeat walk_at "e1"); try (with_reducible show sSeq _ _ _ _ _)))
local macro_rules | `(tactic| walk_at "s") => `(tactic| ((with_reducible refine t_seq ?_); walk_at "e"))
-- a drawn thing's small facts
local macro_rules | `(tactic| walk_at "gi") => `(tactic| first
  | exact gi_c trivial
  | exact gi_c ⟨_, rfl, by decide, by decide⟩
  | exact gi_c (show _ ≤ _ by decide)
  | exact gi_c (show _ ≤ _ by decide +kernel)
  | exact gi_v rfl trivial)
local macro_rules | `(tactic| walk_at "ga") => `(tactic| ((repeat (first | exact ga_nil | refine ga_cons2 ?_ ?_)); all_goals (try walk_at "gi")))
abbrev draws (j : Addr) (T : D → Prop) (M : Mh) (P : PQ) : Prop := ∀ d M', MKeep (· = j) M M' → JarOk M' j → T d → P d M'
theorem sz {n : Nat} (h : n ≤ 100000) : n ≤ sizeLine := by rw [sizeLine_eq]; omega
theorem keep_two {M M' : Mh} {j p : Addr} (np : M p = none) (m : MKeep (fun a => a = j ∨ a = p) M M') : MKeep (· = j) M M' := fun a o na h => by
  have hap : a ≠ p := ne_free h np
  exact m a o (fun z => by rcases z with z | z; exact na z; exact hap z) h
theorem jar_put {M : Mh} {j p : Addr} {o : MO} (h : JarOk M j) (n : j ≠ p) : JarOk (mup M p o) j := by
  obtain ⟨a, b, c, q, r⟩ := h
  exact ⟨a, b, c, by rw [mup_ne n]; exact q, r⟩
theorem jar_fresh {M : Mh} {j p : Addr} {o : MO} (h : JarOk M j) (n : M p = none) : JarOk (mup M p o) j := jar_put h (h.ne n)
theorem rget {lo : Int} {n i : Nat} {d : D} (h : (rngI lo n)[i]? = some d) : d = .int (lo + (i : Int)) ∧ i < n := ⟨(DL.rng_get h).2, (DL.rng_get h).1⟩
theorem rlen {lo : Int} {n : Nat} : (rngI lo n).length = n := by simp [rngI]
theorem take_snoc {α : Type} {ms : List α} {i : Nat} {m : α} (e : ms[i]? = some m) : ms.take (i + 1) = ms.take i ++ [m] := by
  rw [List.take_add_one, e]; rfl
theorem str_small {x : Int} (h0 : 0 ≤ x) (h1 : x ≤ 999999) : (x.natAbs.log2 < 1920) ∧ (PySem.Str.ofString (toString x)).length ≤ 10 := by
  constructor
  · have : x.natAbs < 2 ^ 1920 := Nat.lt_of_lt_of_le (show x.natAbs < 2 ^ 20 by omega) (Nat.pow_le_pow_right (by decide) (by decide))
    by_cases z : x.natAbs = 0
    · rw [z]; decide
    · exact (Nat.log2_lt z).mpr this
  · exact PySem.W.KT.len_num h0 (by omega)
/-- small signs alone -/
def SmS (z : Str) : Prop := ∀ c ∈ z.cps.toList, c < 128
theorem lit_app (y z : Str) : (y ++ z).cps.toList = y.cps.toList ++ z.cps.toList := by
  have h := st_app (lit y) (lit z)
  rw [st_lit, st_lit] at h
  rw [h, st_cps]; rfl
theorem SmS.app {y z : Str} (h : SmS y) (k : SmS z) : SmS (y ++ z) := fun c hc => by
  rw [lit_app] at hc
  rcases List.mem_append.mp hc with hc | hc
  · exact h c hc
  · exact k c hc
theorem SmS.cut {z : Str} (h : SmS z) (lo hi : Option Int) : SmS (cutS z lo hi) := fun c hc => by
  rw [← st_lit z, st_cut, st_cps] at hc
  exact h c (List.mem_of_mem_drop (List.mem_of_mem_take hc))
theorem SmS.num {x : Int} (h0 : 0 ≤ x) (h1 : x ≤ 9) : SmS (PySem.Str.ofString (toString x)) := by
  have : x = 0 ∨ x = 1 ∨ x = 2 ∨ x = 3 ∨ x = 4 ∨ x = 5 ∨ x = 6 ∨ x = 7 ∨ x = 8 ∨ x = 9 := by omega
  unfold SmS
  rcases this with rfl | rfl | rfl | rfl | rfl | rfl | rfl | rfl | rfl | rfl <;> decide +kernel
abbrev L26 : Str := "abcdefghijklmnopqrstuvwxyz"
def sp_name : DSp := fun ds M P => ∃ j i, ds = [.ref j, .int i] ∧ JarOk M j ∧ 0 ≤ i ∧ i ≤ 9 ∧ ∀ (z : Str) M', z.length ≤ 40 → SmS z → MKeep (· = j) M M' → JarOk M' j → P (.str z) M'
theorem L26_sm {x : Nat} (h : x ∈ L26.cps.toList) : x < 128 := by
  have a : L26.cps.toList.all (fun c => decide (c < 128)) = true := by decide +kernel
  exact of_decide_eq_true (List.all_eq_true.mp a x h)
theorem SmS.one {x : Nat} (h : x ∈ L26.cps.toList) : SmS (⟨#[x]⟩ : Str) := fun c hc => by
  have : c = x := by simpa using hc
  rw [this]; exact L26_sm h
theorem ok_name (ds : List D) (M : Mh) (P : PQ) (h : sp_name ds M P) : b_name sp_pick { nx := fun _ M' => P .non M', rt := P } (startD 6 ds) M := by
  obtain ⟨j, ix, rfl, hj, h0, h1, k⟩ := h
  have sm : L26.cps.toList.length = 26 := by decide +kernel
  have sm2 : ((("abcdefghijklmnopqrstuvwxyz" : String) : Str)).length = 26 := by decide +kernel
  have sm3 : L26.length = 26 := sm2
  unfold b_name
  walk_at "s"
  walk_at "s"
  refine c_pick hj (by decide) fun c o1 c0 c1 j1 => ?_
  obtain ⟨x, g1, g2, g3⟩ := atI_mem (ds := L26.cps.toList) c0 (by rw [sm]; omega)
  refine v_ix_str (sz (by omega)) g1 ?_
  walk_at "e"
  refine t_seq (t_for (t_rg1 (t_ac ?_)))
  refine (gi_menu (n := 5) (T := IsI 0 6) (h := 4) ?_ ?_ (by decide) (sz (by decide))).run j1 fun d M2 m2 j2 t2 => ?_
  · walk_at "ga"
  · exact gi_pick (m := 5) (h := 5) rfl (gi_c ⟨_, rfl, by decide, by decide⟩) (by decide) (by decide)
  obtain ⟨s, rfl, s0, s1⟩ := t2
  refine t_an ⟨by omega, ?_⟩
  refine for_each (fun i ρ M' => MKeep (· = j) M M' ∧ JarOk M' j ∧ ∃ (w : Str) (w4 : Option D), ρ = [some (.ref j), some (.int ix), some (.str L26), some (.str w), w4, none] ∧ w.length = 1 + i ∧ SmS w) ⟨keepj.trans m2, j2, _, _, rfl, rfl, SmS.one g2⟩ (fun N i d ρ M' hd hI hN => ?_) (fun ρ M' hI => ?_)
  · obtain ⟨m3, j3, w, w4, rfl, hw, hs⟩ := hI
    obtain ⟨rfl, hlt⟩ := rget hd
    refine ⟨trivial, ?_⟩
    walk_at "d"
    refine c_pick j3 (by decide) fun c o4 c0 c1 j4 => ?_
    obtain ⟨y, g1, g2, _⟩ := atI_mem (ds := L26.cps.toList) c0 (by rw [sm]; omega)
    refine v_ix_str (sz (by omega)) g1 ?_
    have ly : (⟨#[y]⟩ : Str).length = 1 := rfl
    refine v_add_str (sz (by omega)) ?_
    walk_at "d"
    exact hN _ _ ⟨m3.trans keepj, j4, _, _, rfl, by rw [str_app_len, hw, ly]; omega, hs.app (SmS.one g2)⟩
  · obtain ⟨m3, j3, w, w4, rfl, hw, hs⟩ := hI
    rw [rlen] at hw
    refine ⟨trivial, ?_⟩
    walk_at "e"
    walk_at "s"
    refine c_pick j3 (by omega) fun c o4 c0 c1 j4 => ?_
    walk_at "e"
    have l1 := str_cut_len w none (some (1 + c))
    have l2 := str_cut_len w (some (1 + c)) none
    obtain ⟨q1, q2⟩ := str_small h0 (show ix ≤ 999999 by omega)
    walk_at "d"
    refine ⟨q1, ?_⟩
    have e1 := str_app_len (cutS w none (some (1 + c))) (PySem.Str.ofString (toString ix))
    refine v_add_str (sz (by omega)) ?_
    walk_at "d"
    refine k _ _ ?_ (((hs.cut _ _).app (SmS.num h0 h1)).app (hs.cut _ _)) (m3.trans keepj) j4
    rw [str_app_len]
    omega
def sp_names : DSp := fun ds M P => ∃ j i, ds = [.ref j, .int i] ∧ JarOk M j ∧ 0 ≤ i ∧ i ≤ 10 ∧ ∀ (p : Addr) (zs : List Str) M', zs.length = i.toNat → (∀ z ∈ zs, z.length ≤ 40) → (∀ z ∈ zs, SmS z) → M' p = some (.lst (zs.map D.str)) → p ≠ j → M p = none → MKeep (· = j) M M' → JarOk M' j → P (.ref p) M'
theorem ok_names (ds : List D) (M : Mh) (P : PQ) (h : sp_names ds M P) : b_names sp_name { nx := fun _ M' => P .non M', rt := P } (startD 3 ds) M := by
  obtain ⟨j, n, rfl, hj, h0, h1, k⟩ := h
  unfold b_names
  walk_at "d"
  refine ⟨by omega, fun p np => ?_⟩
  have jp := hj.ne np
  refine lc_each (fun i acc M' => MKeep (fun a => a = j ∨ a = p) M M' ∧ JarOk M' j ∧ ∃ zs : List Str, acc = zs.map D.str ∧ (∀ z ∈ zs, z.length ≤ 40) ∧ ∀ z ∈ zs, SmS z) (by rw [rlen, sizeLine_eq]; omega) mup_same ⟨.put (.inr rfl), jar_fresh hj np, [], rfl, by simp, by simp⟩ (fun R i d acc M' hd hi hI hp hR => ?_) (fun acc M' ha hI hp => ?_)
  · obtain ⟨m1, j1, zs, rfl, hz, hs⟩ := hI
    obtain ⟨rfl, hlt⟩ := rget hd
    refine ⟨trivial, _, rfl, ?_⟩
    walk_at "e"
    refine ⟨rfl, j, _, rfl, j1, by omega, by omega, fun z M2 lz sz m2 j2 => ?_⟩
    refine hR _ _ (m2 _ _ jp.symm hp) ⟨(m1.trans (m2.mono fun _ z => .inl z)).trans (.put (.inr rfl)), jar_put j2 jp, zs ++ [z], by rw [List.map_append]; rfl, fun y hy => ?_, fun y hy => ?_⟩
    · rcases List.mem_append.mp hy with hy | hy
      · exact hz y hy
      · rw [List.mem_singleton.mp hy]; exact lz
    · rcases List.mem_append.mp hy with hy | hy
      · exact hs y hy
      · rw [List.mem_singleton.mp hy]; exact sz
  · obtain ⟨m1, j1, zs, rfl, hz, hs⟩ := hI
    rw [List.length_map, rlen] at ha
    exact ⟨trivial, k p zs M' ha hz hs hp jp.symm np (keep_two np m1) j1⟩
def Span (d : D) : Prop := ∃ a b, d = .tup [.int a, .int b] ∧ 0 ≤ a ∧ a ≤ b ∧ b ≤ 999999
def sp_span : DSp := fun ds M P => ∃ j, ds = [.ref j] ∧ JarOk M j ∧ draws j Span M P
theorem ok_span (ds : List D) (M : Mh) (P : PQ) (h : sp_span ds M P) : b_span sp_pick { nx := fun _ M' => P .non M', rt := P } (startD 4 ds) M := by
  obtain ⟨j, rfl, hj, k⟩ := h
  unfold b_span
  walk_at "s"
  refine c_pick hj (by decide) fun way o1 c0 c1 j1 => ?_
  walk_at "e"
  walk_at "s"
  refine t_ite (fun e => ?_) (fun e => ?_)
  · walk_at "d"
    refine ⟨sz (show 2 ≤ 100000 by decide), ?_⟩
    exact k _ _ keepj j1 ⟨_, _, rfl, by omega, by omega, by omega⟩
  walk_at "e"
  walk_at "s"
  refine t_ite (fun e => ?_) (fun e => ?_)
  · walk_at "d"
    refine c_pick j1 (by decide) fun v o2 c0 c1 j2 => ?_
    walk_at "d"
    refine ⟨sz (show 2 ≤ 100000 by decide), ?_⟩
    exact k _ _ (keepj.trans keepj) j2 ⟨_, _, rfl, by omega, by omega, by omega⟩
  walk_at "e"
  walk_at "s"
  refine t_ite (fun e => ?_) (fun e => ?_)
  · walk_at "d"
    refine c_pick j1 (by decide) fun v o2 c0 c1 j2 => ?_
    walk_at "d"
    refine c_pick j2 (by decide) fun v o3 c0 c1 j3 => ?_
    walk_at "d"
    refine ⟨sz (show 2 ≤ 100000 by decide), ?_⟩
    exact k _ _ (keepj.trans (keepj.trans keepj)) j3 ⟨_, _, rfl, by omega, by omega, by omega⟩
  walk_at "d"
  refine c_pick j1 (by decide) fun v o2 c0 c1 j2 => ?_
  walk_at "d"
  refine c_pick j2 (by decide) fun v o3 c0 c1 j3 => ?_
  walk_at "d"
  refine ⟨sz (show 2 ≤ 100000 by decide), ?_⟩
  exact k _ _ (keepj.trans (keepj.trans keepj)) j3 ⟨_, _, rfl, by omega, by omega, by omega⟩

/-! ### moves -/
structure Mo where
  z : Str
  l : Int
  h : Int
  g : Int
structure Mo.sp (m : Mo) : Prop where
  l0 : 0 ≤ m.l
  lh : m.l ≤ m.h
  h1 : m.h ≤ 999999
def Mo.r (m : Mo) : List D := [.str m.z, .int m.l, .int m.h, .int m.g]
def Mo.d (m : Mo) : D := .tup [.str m.z, .int m.l, .int m.h, .int m.g]
def sp_moves : DSp := fun ds M P => ∃ (j lb gl : Addr) (zs : List Str) (gs : List Int) (count : Nat), ds = [.ref j, .ref lb, .int count, .ref gl] ∧ M lb = some (.lst (zs.map D.str)) ∧ M gl = some (.lst (gs.map D.int)) ∧ lb ≠ j ∧ gl ≠ j ∧ 0 < zs.length ∧ zs.length ≤ 1000 ∧ 0 < gs.length ∧ gs.length ≤ 1000 ∧ count ≤ 100 ∧ JarOk M j ∧
  ∀ (p : Addr) (ms : List Mo) M', ms.length = count → (∀ m ∈ ms, m.z ∈ zs ∧ m.g ∈ gs ∧ m.sp) → M' p = some (.lst (ms.map Mo.d)) → p ≠ j → M p = none → MKeep (· = j) M M' → JarOk M' j → P (.ref p) M'
theorem ok_moves (ds : List D) (M : Mh) (P : PQ) (h : sp_moves ds M P) : b_moves sp_pick sp_span { nx := fun _ M' => P .non M', rt := P } (startD 13 ds) M := by
  obtain ⟨j, lb, gl, zs, gs, count, rfl, hlb, hgl, lbj, glj, z0, z1, g0, g1, hc, hj, k⟩ := h
  unfold b_moves
  walk_at "s"
  refine ⟨by walk_at "l", fun p np => ?_⟩
  have jp := hj.ne np
  walk_at "e"
  walk_at "s"
  refine ⟨by walk_at "l", fun u nu => ?_⟩
  have pu : p ≠ u := ne_free mup_same nu
  have ju : j ≠ u := (jar_fresh hj np).ne nu
  have nu0 : M u = none := by rw [mup_ne pu.symm] at nu; exact nu
  have lbp : lb ≠ p := ne_free hlb np
  have lbu : lb ≠ u := ne_free hlb nu0
  have glp : gl ≠ p := ne_free hgl np
  have glu : gl ≠ u := ne_free hgl nu0
  walk_at "e"
  walk_at "s"
  refine ⟨by omega, ?_⟩
  refine for_each (fun i ρ M' => MKeep (fun a => a = j ∨ a = p ∨ a = u) M M' ∧ JarOk M' j ∧ ∃ (ms : List Mo) (us : List Str) (w6 w7 w8 w9 w10 w11 w12 : Option D), ρ = [some (.ref j), some (.ref lb), some (.int count), some (.ref gl), some (.ref p), some (.ref u), w6, w7, w8, w9, w10, w11, w12] ∧ M' p = some (.lst (ms.map Mo.d)) ∧ M' u = some (.lst (us.map D.str)) ∧ ms.length = i ∧ us.length = i ∧ ∀ m ∈ ms, m.z ∈ zs ∧ m.g ∈ gs ∧ m.sp)
    ⟨MKeep.trans (.put (.inr (.inl rfl))) (.put (.inr (.inr rfl))), jar_fresh (jar_fresh hj np) nu, [], [], _, _, _, _, _, _, _, rfl, by rw [mup_ne pu]; exact mup_same, mup_same, rfl, rfl, by simp⟩ (fun N i d ρ M1 hd hI hN => ?_) (fun ρ M1 hI => ?_)
  · obtain ⟨m1, j1, ms, us, w6, w7, w8, w9, w10, w11, w12, rfl, hp, hu, lm, lu, hm⟩ := hI
    obtain ⟨rfl, hlt⟩ := rget hd
    have hlb1 := m1 _ _ (fun z => by rcases z with z | z | z; exact lbj z; exact lbp z; exact lbu z) hlb
    have hgl1 := m1 _ _ (fun z => by rcases z with z | z | z; exact glj z; exact glp z; exact glu z) hgl
    refine ⟨trivial, ?_⟩
    have c0 : (0 : Int) ≤ (0 + (i : Int)) % ((zs.map D.str).length : Int) := Int.emod_nonneg _ (by rw [List.length_map]; omega)
    have c1 : (0 + (i : Int)) % ((zs.map D.str).length : Int) < zs.length := by
      rw [List.length_map]
      exact Int.emod_lt_of_pos _ (by omega)
    obtain ⟨z, hz, ez⟩ := atI_map (zs := zs) (f := D.str) c0 c1
    have hzl : (0 : Int) < ((zs.map D.str).length : Int) := by rw [List.length_map]; omega
    walk_at "e"
    walk_at "s"
    refine t_seq ?_
    walk_at "e"
    intro q nq
    have pq : p ≠ q := ne_free hp nq
    have uq : u ≠ q := ne_free hu nq
    refine lc_eachT (fun i acc M' => MKeep (· = q) M1 M') (by rw [List.length_map, lu, sizeLine_eq]; omega) mup_same (.put rfl) (fun R S c y acc M2 hd ha hI hq hR hS => ?_) (fun acc M2 ha hI hq => ?_)
    · rw [List.getElem?_map] at hd
      obtain ⟨o, ho, rfl⟩ := Option.map_eq_some_iff.mp hd
      refine ⟨hI _ _ uq hu, _, rfl, ?_⟩
      walk_at "e"
      refine t_ite (fun e1 => ?_) (fun e1 => ?_)
      · walk_at "e"
        exact hR _ _ hq (hI.trans (.put rfl))
      · exact hS _ hq hI
    have x2 : MExt M1 M2 := fun a o _ h => hI a o (ne_free h nq) h
    have hp2 := x2 _ _ (fun z => z) hp
    have hu2 := x2 _ _ (fun z => z) hu
    have hlb2 := x2 _ _ (fun z => z) hlb1
    have hgl2 := x2 _ _ (fun z => z) hgl1
    have j2 := j1.keep x2 (fun z => z)
    have m2 := m1.trans (x2.mono fun _ z => z.elim)
    have lu2 : (us.map D.str).length ≤ 100 := by rw [List.length_map]; omega
    have lm2 : (ms.map Mo.d).length ≤ 100 := by rw [List.length_map]; omega
    have hacc : acc.length ≤ 100 := by rw [List.length_map] at ha; omega
    clear x2 hI hp hu hlb1 hgl1 j1 m1
    refine ⟨hu2, ?_⟩
    walk_at "e"
    walk_at "s"
    have hp3 : (mup M2 u (.lst (us.map D.str ++ [.str z]))) p = some (.lst (ms.map Mo.d)) := by rw [mup_ne pu]; exact hp2
    have hu3 : (mup M2 u (.lst (us.map D.str ++ [.str z]))) u = some (.lst ((us ++ [z]).map D.str)) := by rw [mup_same, List.map_append]; rfl
    have hlb3 : (mup M2 u (.lst (us.map D.str ++ [.str z]))) lb = some (.lst (zs.map D.str)) := by rw [mup_ne lbu]; exact hlb2
    have hgl3 : (mup M2 u (.lst (us.map D.str ++ [.str z]))) gl = some (.lst (gs.map D.int)) := by rw [mup_ne glu]; exact hgl2
    have j3 : JarOk (mup M2 u (.lst (us.map D.str ++ [.str z]))) j := jar_put j2 ju
    have m3 : MKeep (fun a => a = j ∨ a = p ∨ a = u) M (mup M2 u (.lst (us.map D.str ++ [.str z]))) := m2.trans (.put (.inr (.inr rfl)))
    generalize mup M2 u (.lst (us.map D.str ++ [.str z])) = M3 at hp3 hu3 hlb3 hgl3 j3 m3
    walk_at "s"
    refine ⟨rfl, j, rfl, j3, fun d M4 m4 j4 hsp => ?_⟩
    obtain ⟨a, b, rfl, sa, sb, sc⟩ := hsp
    have am0 : 0 ≤ a % 1000 := Int.emod_nonneg _ (by decide)
    have am1 : a % 1000 < 1000 := Int.emod_lt_of_pos _ (by decide)
    have am2 : a % 1000 ≤ a := by omega
    have hp4 := m4 _ _ jp.symm hp3
    have hu4 := m4 _ _ ju.symm hu3
    have hlb4 := m4 _ _ lbj hlb3
    have hgl4 := m4 _ _ glj hgl3
    have m4 := m3.trans (m4.mono fun _ z => .inl z)
    walk_at "e"
    walk_at "s"
    walk_at "s"
    refine t_cut (fun ρ M' => M' = M4 ∧ ∃ hi : Int, ((acc.length : Int) * 1000 + a % 1000 ≤ hi ∧ hi ≤ 999999) ∧ ρ = [some (.ref j), some (.ref lb), some (.int count), some (.ref gl), some (.ref p), some (.ref u), some (.int (0 + (i : Int))), some (.str z), some (.int acc.length), w9, some (.tup [.int a, .int b]), some (.int ((acc.length : Int) * 1000 + a % 1000)), some (.int hi)]) (fun N2 hN2 => ?_) ?_
    · walk_at "e"
      refine t_ite (fun e => ?_) (fun e => ?_)
      · have e := of_decide_eq_true e
        walk_at "d"
        exact hN2 _ _ ⟨rfl, _, ⟨by omega, by omega⟩, rfl⟩
      · walk_at "d"
        exact hN2 _ _ ⟨rfl, _, ⟨by omega, by omega⟩, rfl⟩
    rintro ρ M5 ⟨rfl, hi, hhi, rfl⟩
    refine t_cut (fun ρ M' => M' = M5 ∧ ∃ hi : Int, ((acc.length : Int) * 1000 + a % 1000 ≤ hi ∧ hi ≤ 999999) ∧ ρ = [some (.ref j), some (.ref lb), some (.int count), some (.ref gl), some (.ref p), some (.ref u), some (.int (0 + (i : Int))), some (.str z), some (.int acc.length), w9, some (.tup [.int a, .int b]), some (.int ((acc.length : Int) * 1000 + a % 1000)), some (.int hi)]) (fun N2 hN2 => ?_) ?_
    · have out := hN2 _ _ ⟨rfl, hi, hhi, rfl⟩
      walk_at "e"
      refine t_ite (fun e0 => ?_) (fun e => ?_)
      · have e0 : (acc.length : Int) = 0 := beq_iff_eq.mp e0
        walk_at "e"
        refine t_ite (fun e => ?_) (fun e => ?_)
        · walk_at "e"
          refine t_ite (fun e => ?_) (fun e => ?_)
          · walk_at "d"
            exact hN2 _ _ ⟨rfl, _, ⟨by omega, by omega⟩, rfl⟩
          · walk_at "d"
            exact out
        · refine t_if0 rfl ?_
          walk_at "d"
          exact out
      · refine t_if0 rfl ?_
        walk_at "d"
        exact out
    clear hi hhi
    rintro ρ M6 ⟨rfl, hi, hhi, rfl⟩
    walk_at "d"
    refine c_pick j4 (by rw [List.length_map]; omega) fun c o c0 c1 j7 => ?_
    rw [List.length_map] at c1
    obtain ⟨g, hg, eg⟩ := atI_map (zs := gs) (f := D.int) c0 c1
    have hp7 : (mup M6 j o) p = some (.lst (ms.map Mo.d)) := by rw [mup_ne jp.symm]; exact hp4
    have hu7 : (mup M6 j o) u = some (.lst ((us ++ [z]).map D.str)) := by rw [mup_ne ju.symm]; exact hu4
    have hgl7 : (mup M6 j o) gl = some (.lst (gs.map D.int)) := by rw [mup_ne glj]; exact hgl4
    refine v_ix_ref hgl7 eg ?_
    walk_at "d"
    refine ⟨sz (show 4 ≤ 100000 by decide), ?_⟩
    walk_at "d"
    refine hN _ _ ⟨(m4.trans (.put (.inl rfl))).trans (.put (.inr (.inl rfl))), jar_put j7 jp, ms ++ [⟨z, _, hi, g⟩], us ++ [z], _, _, _, _, _, _, _, rfl, by rw [mup_same, List.map_append]; rfl, by rw [mup_ne pu.symm]; exact hu7, by rw [List.length_append, lm]; rfl, by rw [List.length_append, lu]; rfl, fun m hm' => ?_⟩
    rcases List.mem_append.mp hm' with h | h
    · exact hm m h
    · rw [List.mem_singleton.mp h]; exact ⟨hz, hg, ⟨by show 0 ≤ (acc.length : Int) * 1000 + a % 1000; omega, hhi.1, hhi.2⟩⟩
  · obtain ⟨m1, j1, ms, us, w6, w7, w8, w9, w10, w11, w12, rfl, hp, hu, lm, lu, hm⟩ := hI
    rw [rlen] at lm
    refine ⟨trivial, ?_⟩
    walk_at "e"
    refine t_seq (t_ret (t_call (t_ac (t_var rfl (t_an (v_sorted hp (.inr (.inr ⟨.str, [.int, .int, .int], fun d hd => ?_⟩)) fun ys q hys _ nq => ?_))))))
    · obtain ⟨m, _, rfl⟩ := List.mem_map.mp hd
      exact ⟨_, rfl, .cons ⟨_, rfl⟩ (.cons ⟨_, rfl⟩ (.cons ⟨_, rfl⟩ (.cons ⟨_, rfl⟩ .nil)))⟩
    obtain ⟨ms', p1, rfl⟩ := perm_map_inv hys ms rfl
    have jq := j1.ne nq
    have x1 : MKeep (· = j) M M1 := fun a o na h => m1 a o (fun z => by
      rcases z with z | z | z
      · exact na z
      · exact ne_free h np z
      · exact ne_free h nu0 z) h
    refine k q ms' _ (by rw [p1.length_eq]; omega) (fun m h => hm m (p1.mem_iff.mp h)) mup_same jq.symm (x1.none nq jq.symm) (x1.trans (.fresh nq)) (jar_fresh j1 nq)

/-! ### machines -/
structure Sd where
  kind : Str
  who : Str
  ms : List Mo
def stD : Option Sd → D
  | none => .tup [.str "end"]
  | some s => .tup [.str s.kind, .str s.who, .tup (s.ms.map Mo.d)]
structure Sd.ok (ps zs : List Str) (many : Int) (s : Sd) : Prop where
  kind : s.kind = "say" ∨ s.kind = "hear"
  who : s.who ∈ ps
  ne : s.ms ≠ []
  len : s.ms.length ≤ 3
  ms : ∀ m ∈ s.ms, m.z ∈ zs ∧ (0 ≤ m.g ∧ m.g < many) ∧ m.sp
def MachOk (ps zs : List Str) (many : Int) (sts : List (Option Sd)) : Prop := ∀ o ∈ sts, ∀ s, o = some s → s.ok ps zs many
def sp_machine : DSp := fun ds M P => ∃ (j pa lb : Addr) (ps zs : List Str) (many : Nat), ds = [.ref j, .ref pa, .ref lb, .int many] ∧ M pa = some (.lst (ps.map D.str)) ∧ M lb = some (.lst (zs.map D.str)) ∧ pa ≠ j ∧ lb ≠ j ∧ 0 < ps.length ∧ ps.length ≤ 1000 ∧ 0 < zs.length ∧ zs.length ≤ 1000 ∧ 1 ≤ many ∧ many ≤ 1000 ∧ JarOk M j ∧
  ∀ (sts : List (Option Sd)) M', sts.length = many → MachOk ps zs many sts → MKeep (· = j) M M' → JarOk M' j → P (.tup (sts.map stD)) M'
theorem ok_machine (ds : List D) (M : Mh) (P : PQ) (h : sp_machine ds M P) : b_machine sp_pick sp_moves { nx := fun _ M' => P .non M', rt := P } (startD 11 ds) M := by
  obtain ⟨j, pa, lb, ps, zs, many, rfl, hpa, hlb, paj, lbj, p0, p1, z0, z1, n0, n1, hj, k⟩ := h
  unfold b_machine
  walk_at "s"
  refine ⟨by walk_at "l", fun p np => ?_⟩
  have jp := hj.ne np
  have pap := ne_free hpa np
  have lbp := ne_free hlb np
  walk_at "e"
  walk_at "s"
  refine ⟨by omega, ?_⟩
  refine for_each (fun i ρ M' => MKeep (fun a => a = j ∨ a = p) M M' ∧ JarOk M' j ∧ ∃ (sts : List (Option Sd)) (w5 w6 w7 w8 w9 w10 : Option D), ρ = [some (.ref j), some (.ref pa), some (.ref lb), some (.int many), some (.ref p), w5, w6, w7, w8, w9, w10] ∧ M' p = some (.lst (sts.map stD)) ∧ sts.length = i ∧ MachOk ps zs many sts)
    ⟨.put (.inr rfl), jar_fresh hj np, [], _, _, _, _, _, _, rfl, mup_same, rfl, fun o ho => by simp at ho⟩ (fun N i d ρ M1 hd hI hN => ?_) (fun ρ M1 hI => ?_)
  · obtain ⟨m1, j1, sts, w5, w6, w7, w8, w9, w10, rfl, hp, lm, hm⟩ := hI
    obtain ⟨rfl, hlt⟩ := rget hd
    have hpa1 := m1 _ _ (fun z => by rcases z with z | z; exact paj z; exact pap z) hpa
    have hlb1 := m1 _ _ (fun z => by rcases z with z | z; exact lbj z; exact lbp z) hlb
    refine ⟨trivial, ?_⟩
    walk_at "e"
    refine t_seq (t_asg ?_)
    refine (gi_menu (n := 2) (T := fun d => ∃ z : Str, d = .str z ∧ (z = "say" ∨ z = "hear")) (h := 1) ?_ ?_ (by decide) (sz (by decide))).run j1 fun d M2 m2 j2 t2 => ?_
    · walk_at "ga"
      · exact gi_c ⟨_, rfl, .inr rfl⟩
      · exact gi_c ⟨_, rfl, .inl rfl⟩
    · exact gi_pick (m := 2) (h := 2) rfl (gi_c ⟨_, rfl, by decide, by decide⟩) (by decide) (by decide)
    obtain ⟨kind, rfl, hk⟩ := t2
    walk_at "e"
    refine t_seq (t_asg ?_)
    refine (gi_add (l1 := 1) (h1 := 1) (l2 := 0) (h2 := 2) (gi_c ⟨_, rfl, by decide, by decide⟩) (gi_menu (n := 5) (T := IsI 0 2) (h := 4) (by walk_at "ga") (gi_pick (m := 5) (h := 5) rfl (gi_c ⟨_, rfl, by decide, by decide⟩) (by decide) (by decide)) (by decide) (sz (by decide)))).run j2 fun d M3 m3 j3 t3 => ?_
    obtain ⟨cnt, rfl, c0, c1⟩ := t3
    obtain ⟨count, rfl⟩ := Int.eq_ofNat_of_zero_le (show 0 ≤ cnt by omega)
    have m3 : MKeep (fun a => a = j ∨ a = p) M1 M3 := (m2.trans m3).mono fun _ z => .inl z
    walk_at "e"
    walk_at "s"
    refine c_pick j3 (by omega) fun g1 o1 a0 a1 j4 => ?_
    walk_at "e"
    refine c_pick j4 (by omega) fun g2 o2 b0 b1 j5 => ?_
    walk_at "e"
    refine ⟨sz (show 3 ≤ 100000 by decide), fun gl ngl => ?_⟩
    have m5 : MKeep (fun a => a = j ∨ a = p) M1 (mup (mup (mup M3 j o1) j o2) gl (.lst [.int (0 + (i : Int) + 1), .int g1, .int g2])) := ((m3.trans (.put (.inl rfl))).trans (.put (.inl rfl))).trans (.fresh ngl)
    have glj := (j5.ne ngl).symm
    have j6 : JarOk (mup (mup (mup M3 j o1) j o2) gl (.lst [.int (0 + (i : Int) + 1), .int g1, .int g2])) j := jar_fresh j5 ngl
    have hgl : (mup (mup (mup M3 j o1) j o2) gl (.lst [.int (0 + (i : Int) + 1), .int g1, .int g2])) gl = some (.lst ([0 + (i : Int) + 1, g1, g2].map D.int)) := mup_same
    have hp6 : (mup (mup (mup M3 j o1) j o2) gl (.lst [.int (0 + (i : Int) + 1), .int g1, .int g2])) p = some (.lst (sts.map stD)) := by
      have h3 : M3 p = some (.lst (sts.map stD)) := (m2.trans (by assumption : MKeep (· = j) M2 M3)) _ _ jp.symm hp
      have h4 : (mup (mup M3 j o1) j o2) p = some (.lst (sts.map stD)) := by rw [mup_ne jp.symm, mup_ne jp.symm]; exact h3
      rw [mup_ne (ne_free h4 ngl)]; exact h4
    generalize mup (mup (mup M3 j o1) j o2) gl (.lst [.int (0 + (i : Int) + 1), .int g1, .int g2]) = M6 at m5 j6 hgl hp6
    have hpa6 := m5 _ _ (fun z => by rcases z with z | z; exact paj z; exact pap z) hpa1
    have hlb6 := m5 _ _ (fun z => by rcases z with z | z; exact lbj z; exact lbp z) hlb1
    have gs : ∀ g ∈ [0 + (i : Int) + 1, g1, g2], 0 ≤ g ∧ g < many := fun g hg => by
      simp only [List.mem_cons, List.not_mem_nil, or_false] at hg
      rcases hg with rfl | rfl | rfl <;> omega
    walk_at "e"
    refine t_seq ?_
    walk_at "e"
    refine ⟨rfl, j, lb, gl, zs, _, count, rfl, hlb6, hgl, lbj, glj, z0, z1, by simp, Nat.le_of_ble_eq_true rfl, by omega, j6, fun q ms M7 lq hq hq7 qj nq m7 j7 => ?_⟩
    have hp7 := m7 _ _ jp.symm hp6
    have hpa7 := m7 _ _ paj hpa6
    have qp : q ≠ p := (ne_free hp6 nq).symm
    refine v_seq_ref hq7 fun u nu => ?_
    have pu : p ≠ u := ne_free hp7 nu
    have ju : j ≠ u := j7.ne nu
    have qu : q ≠ u := ne_free hq7 nu
    -- the moves as lists
    let R7 : Mh → D → Prop := fun M' d => ∃ (r : Addr) (m : Mo), d = .ref r ∧ M' r = some (.lst m.r) ∧ r ≠ u ∧ M7 r = none ∧ m.z ∈ zs ∧ (0 ≤ m.g ∧ m.g < many) ∧ m.sp
    refine lc_each (fun c acc M' => MKeep (· = u) M7 M' ∧ acc.length = c ∧ ∀ d ∈ acc, R7 M' d) (by rw [List.length_map, sizeLine_eq]; omega) mup_same ⟨.put rfl, rfl, by simp⟩ (fun R c d acc M8 hd _ hI hu hR => ?_) (fun acc M8 la hI hu => ?_)
    · obtain ⟨m8, la, hacc⟩ := hI
      rw [List.getElem?_map] at hd
      obtain ⟨m, hm', rfl⟩ := Option.map_eq_some_iff.mp hd
      obtain ⟨e1, e2, e3⟩ := hq m (List.mem_of_getElem? hm')
      refine ⟨m8 _ _ qu hq7, _, rfl, ?_⟩
      rw [show Mo.d m = .tup m.r from rfl]
      walk_at "e"
      refine v_list_tup fun r nr => ?_
      have ur := ne_free hu nr
      have nr7 : M7 r = none := m8.none nr ur.symm
      refine hR _ _ (by rw [mup_ne ur]; exact hu) ⟨(m8.trans (.fresh nr)).trans (.put rfl), by rw [List.length_append, la]; rfl, fun x hx => ?_⟩
      rcases List.mem_append.mp hx with hx | hx
      · obtain ⟨r', m', rfl, h1, h2, h3, h4⟩ := hacc x hx
        exact ⟨r', m', rfl, by rw [mup_ne h2, mup_ne (ne_free h1 nr)]; exact h1, h2, h3, h4⟩
      · rw [List.mem_singleton.mp hx]
        exact ⟨r, m, rfl, by rw [mup_ne ur.symm]; exact mup_same, ur.symm, nr7, e1, gs _ e2, e3⟩
    obtain ⟨m8, _, hacc⟩ := hI
    rw [List.length_map, lq] at la
    refine ⟨m8 _ _ qu hq7, ?_⟩
    have hp8 := m8 _ _ pu hp7
    have hpa8 := m8 _ _ (ne_free hpa7 nu) hpa7
    have j8 := j7.keep m8 ju
    have mx : MKeep (fun a => a = j ∨ a = p) M M8 := m1.trans (m5.trans ((m7.mono fun _ z => .inl z).trans (MKeep.trans (M1 := M8) (fun a o na h => m8 a o (ne_free h nu) h) .refl)))
    walk_at "e"
    -- one of them goes on
    walk_at "s"
    refine c_pick j8 (by omega) fun c o c2 c3 j9 => ?_
    have hu9 : (mup M8 j o) u = some (.lst acc) := by rw [mup_ne ju.symm]; exact hu
    obtain ⟨d, ed, hd, _⟩ := atI_mem (ds := acc) c2 c3
    obtain ⟨r, m, rfl, h1, h2, h3, h4⟩ := hacc d hd
    have rj : r ≠ j := by
      rintro rfl
      obtain ⟨a, b, c, e, _⟩ := j7
      rw [h3] at e; cases e
    have rp : r ≠ p := by
      rintro rfl
      rw [h3] at hp7; cases hp7
    have rpa : r ≠ pa := by
      rintro rfl
      rw [h3] at hpa7; cases hpa7
    have hr9 : (mup M8 j o) r = some (.lst m.r) := by rw [mup_ne rj]; exact h1
    have es : ixN m.r.length 3 = some 3 := rfl
    refine v_ix_ref hu9 ed ?_
    walk_at "e"
    have all : ∀ d ∈ acc, ∃ (r' : Addr) (m' : Mo), d = .ref r' ∧ (mup (mup M8 j o) r (.lst (m.r.set 3 (.int (0 + (i : Int) + 1))))) r' = some (.lst m'.r) ∧ m'.z ∈ zs ∧ (0 ≤ m'.g ∧ m'.g < many) ∧ m'.sp := fun d hd => by
      obtain ⟨r', m', rfl, k1, k2, k3, k4⟩ := hacc d hd
      by_cases e : r' = r
      · subst e
        exact ⟨r', ⟨m.z, m.l, m.h, 0 + (i : Int) + 1⟩, rfl, mup_same, h4.1, ⟨by show 0 ≤ 0 + (i : Int) + 1; omega, by show 0 + (i : Int) + 1 < many; omega⟩, h4.2.2.l0, h4.2.2.lh, h4.2.2.h1⟩
      · have r'j : r' ≠ j := by
          rintro rfl
          obtain ⟨a, b, c, e, _⟩ := j7
          rw [k3] at e; cases e
        exact ⟨r', m', rfl, by rw [mup_ne e, mup_ne r'j]; exact k1, k4⟩
    have j10 : JarOk (mup (mup M8 j o) r (.lst (m.r.set 3 (.int (0 + (i : Int) + 1))))) j := jar_put j9 rj.symm
    have hp10 : (mup (mup M8 j o) r (.lst (m.r.set 3 (.int (0 + (i : Int) + 1))))) p = some (.lst (sts.map stD)) := by rw [mup_ne rp.symm, mup_ne jp.symm]; exact hp8
    have hpa10 : (mup (mup M8 j o) r (.lst (m.r.set 3 (.int (0 + (i : Int) + 1))))) pa = some (.lst (ps.map D.str)) := by rw [mup_ne rpa.symm, mup_ne paj]; exact hpa8
    have hu10 : (mup (mup M8 j o) r (.lst (m.r.set 3 (.int (0 + (i : Int) + 1))))) u = some (.lst acc) := by rw [mup_ne h2.symm]; exact hu9
    have rM : M r = none := by
      cases e : M r with
      | none => rfl
      | some o' => rw [m7 _ _ rj (m5 _ _ (fun z => by rcases z with z | z; exact rj z; exact rp z) (m1 _ _ (fun z => by rcases z with z | z; exact rj z; exact rp z) e))] at h3; cases h3
    have mx10 : MKeep (fun a => a = j ∨ a = p) M (mup (mup M8 j o) r (.lst (m.r.set 3 (.int (0 + (i : Int) + 1))))) := (mx.trans (.put (.inl rfl))).over rM
    generalize mup (mup M8 j o) r (.lst (m.r.set 3 (.int (0 + (i : Int) + 1)))) = M10 at all j10 hp10 hpa10 hu10 mx10
    walk_at "e"
    -- the standing
    walk_at "s"
    refine c_pick j10 (by rw [List.length_map]; omega) fun c o c2 c3 j11 => ?_
    rw [List.length_map] at c3
    obtain ⟨who, hwho, ewho⟩ := atI_map (zs := ps) (f := D.str) c2 c3
    have hp11 : (mup M10 j o) p = some (.lst (sts.map stD)) := by rw [mup_ne jp.symm]; exact hp10
    have hpa11 : (mup M10 j o) pa = some (.lst (ps.map D.str)) := by rw [mup_ne paj]; exact hpa10
    have hu11 : (mup M10 j o) u = some (.lst acc) := by rw [mup_ne ju.symm]; exact hu10
    have mx11 : MKeep (fun a => a = j ∨ a = p) M (mup M10 j o) := mx10.trans (.put (.inl rfl))
    have all11 : ∀ d ∈ acc, ∃ (r' : Addr) (m' : Mo), d = .ref r' ∧ (mup M10 j o) r' = some (.lst m'.r) ∧ m'.z ∈ zs ∧ (0 ≤ m'.g ∧ m'.g < many) ∧ m'.sp := fun d hd => by
      obtain ⟨r', m', rfl, k1, k2⟩ := all d hd
      refine ⟨r', m', rfl, ?_, k2⟩
      rw [mup_ne (by
        rintro rfl
        obtain ⟨a, b, c, e, _⟩ := j10
        rw [e] at k1
        cases k1)]
      exact k1
    generalize mup M10 j o = M11 at hp11 hpa11 hu11 mx11 all11 j11
    refine v_ix_ref hpa11 ewho ?_
    walk_at "e"
    intro v nv
    have pv := ne_free hp11 nv
    have uv := ne_free hu11 nv
    refine lc_each (fun c acc' M' => MKeep (· = v) M11 M' ∧ ∃ ms' : List Mo, acc' = ms'.map Mo.d ∧ ms'.length = c ∧ ∀ m ∈ ms', m.z ∈ zs ∧ (0 ≤ m.g ∧ m.g < many) ∧ m.sp) (by rw [la, sizeLine_eq]; omega) mup_same ⟨.put rfl, [], rfl, rfl, by simp⟩ (fun R c d acc' M12 hd _ hI hv hR => ?_) (fun acc' M12 lv hI hv => ?_)
    · obtain ⟨m12, ms', rfl, l', hms'⟩ := hI
      obtain ⟨r', m', rfl, k1, k2⟩ := all11 d (List.mem_of_getElem? hd)
      refine ⟨m12 _ _ uv hu11, _, rfl, ?_⟩
      walk_at "e"
      refine v_tuple_ref (m12 _ _ (ne_free k1 nv) k1) ?_
      refine hR _ _ hv ⟨m12.trans (.put rfl), ms' ++ [m'], by rw [List.map_append]; rfl, by rw [List.length_append, l']; rfl, fun x hx => ?_⟩
      rcases List.mem_append.mp hx with hx | hx
      · exact hms' x hx
      · rw [List.mem_singleton.mp hx]; exact k2
    obtain ⟨m12, ms', rfl, l', hms'⟩ := hI
    refine ⟨m12 _ _ uv hu11, ?_⟩
    have x12 : MExt M11 M12 := fun a o _ h => m12 a o (ne_free h nv) h
    have hp12 := x12 _ _ (fun z => z) hp11
    have lsts : (sts.map stD).length ≤ 1000 := by rw [List.length_map]; omega
    walk_at "e"
    refine ⟨sz (show 3 ≤ 100000 by decide), ?_⟩
    walk_at "e"
    refine hN _ _ ⟨(mx11.trans (x12.mono fun _ z => z.elim)).trans (.put (.inr rfl)), jar_put (j11.keep x12 (fun z => z)) jp, sts ++ [some ⟨kind, who, ms'⟩], _, _, _, _, _, _, rfl, by rw [mup_same, List.map_append]; rfl, by rw [List.length_append, lm]; rfl, fun o ho s hs => ?_⟩
    rcases List.mem_append.mp ho with ho | ho
    · exact hm o ho s hs
    · rw [List.mem_singleton.mp ho] at hs
      cases hs
      exact ⟨hk, hwho, fun e => by
        have e : ms' = [] := e
        rw [e] at l'
        simp at l'
        omega, by show ms'.length ≤ 3; omega, hms'⟩
  · obtain ⟨m1, j1, sts, w5, w6, w7, w8, w9, w10, rfl, hp, lm, hm⟩ := hI
    rw [rlen] at lm
    have lsts : (sts.map stD).length ≤ 1000 := by rw [List.length_map]; omega
    refine ⟨trivial, ?_⟩
    walk_at "d"
    refine ⟨sz (show 1 ≤ 100000 by decide), ?_⟩
    walk_at "d"
    have := k (sts ++ [none]) (mup M1 p (.lst (sts.map stD ++ [.tup [.str "end"]]))) (by rw [List.length_append, lm]; simp; omega) (fun o ho s hs => by
      rcases List.mem_append.mp ho with ho | ho
      · exact hm o ho s hs
      · rw [List.mem_singleton.mp ho] at hs; cases hs) (keep_two np (m1.trans (.put (.inr rfl)))) (jar_put j1 jp)
    rw [List.map_append] at this
    exact this
end LX
/-! K22m: walks through machines, in plain mathematics: over any standings whose moves lead somewhere. -/
namespace K22
open PySem DL L2
section
variable (E : Int → Int → Prop) (n : Nat)
/-- what can be come to -/
inductive Reach (a : Int) : Int → Prop
  | refl : Reach a a
  | step {b c : Int} : Reach a b → E b c → Reach a c
structure Bfs (a : Int) (i : Nat) (fs : List Int) : Prop where
  head : a ∈ fs
  reach : ∀ b ∈ fs, Reach E a b
  closed : ∀ (k : Nat) (b c : Int), k < i → fs[k]? = some b → E b c → c ∈ fs
  nd : fs.Nodup
  rng : ∀ b ∈ fs, 0 ≤ b ∧ b < n
  le : i ≤ fs.length
end
section
variable {E : Int → Int → Prop} {n : Nat} {a b c : Int} {i : Nat} {fs : List Int}
theorem nodup_len {α : Type} [DecidableEq α] : ∀ {l L : List α}, l.Nodup → (∀ x ∈ l, x ∈ L) → l.length ≤ L.length
  | [], _, _, _ => Nat.zero_le _
  | x :: r, L, hn, h => by
    have hx := h x List.mem_cons_self
    obtain ⟨n1, n2⟩ := List.nodup_cons.mp hn
    have := nodup_len (l := r) (L := L.erase x) n2 fun y hy => (List.mem_erase_of_ne (fun e : y = x => n1 (by rw [← e]; exact hy))).mpr (h y (List.mem_cons_of_mem _ hy))
    rw [List.length_erase_of_mem hx] at this
    have := List.length_pos_of_mem hx
    rw [List.length_cons]
    omega
theorem rng_len' {fs : List Int} (nd : fs.Nodup) (h : ∀ b ∈ fs, 0 ≤ b ∧ b < n) : fs.length ≤ n := by
  have := nodup_len (L := (List.range n).map fun k : Nat => (k : Int)) nd fun b hb => by
    obtain ⟨h0, h1⟩ := h b hb
    exact List.mem_map.mpr ⟨b.toNat, List.mem_range.mpr (by omega), by omega⟩
  rwa [List.length_map, List.length_range] at this
theorem Bfs.len (H : Bfs E n a i fs) : fs.length ≤ n := rng_len' H.nd H.rng
theorem Bfs.start (h0 : 0 ≤ a) (h1 : a < n) : Bfs E n a 0 [a] := ⟨by simp, fun b hb => by rw [List.mem_singleton.mp hb]; exact .refl, fun k b c h => by omega, by simp, fun b hb => by rw [List.mem_singleton.mp hb]; exact ⟨h0, h1⟩, Nat.zero_le _⟩
theorem Bfs.add (H : Bfs E n a i fs) (hb : b ∈ fs) (e : E b c) (hc : c ∉ fs) (h0 : 0 ≤ c) (h1 : c < n) : Bfs E n a i (fs ++ [c]) where
  head := List.mem_append_left _ H.head
  reach := fun x hx => by
    rcases List.mem_append.mp hx with hx | hx
    · exact H.reach x hx
    · rw [List.mem_singleton.mp hx]; exact .step (H.reach b hb) e
  closed := fun k x y hk hx hy => by
    have := H.le
    rw [List.getElem?_append_left (by omega)] at hx
    exact List.mem_append_left _ (H.closed k x y hk hx hy)
  nd := by
    rw [List.nodup_append]
    exact ⟨H.nd, by simp, fun x hx y hy => by rw [List.mem_singleton.mp hy]; exact fun e => hc (e ▸ hx)⟩
  rng := fun x hx => by
    rcases List.mem_append.mp hx with hx | hx
    · exact H.rng x hx
    · rw [List.mem_singleton.mp hx]; exact ⟨h0, h1⟩
  le := by have := H.le; rw [List.length_append]; omega
theorem Bfs.next (H : Bfs E n a i fs) (hb : fs[i]? = some b) (h : ∀ c, E b c → c ∈ fs) : Bfs E n a (i + 1) fs where
  head := H.head
  reach := H.reach
  closed := fun k x y hk hx hy => by
    by_cases e : k = i
    · subst e
      rw [hb] at hx
      cases hx
      exact h y hy
    · exact H.closed k x y (by omega) hx hy
  nd := H.nd
  rng := H.rng
  le := (List.getElem?_eq_some_iff.mp hb).1
theorem Bfs.done (H : Bfs E n a i fs) (h : fs.length ≤ i) (b : Int) : b ∈ fs ↔ Reach E a b := by
  refine ⟨H.reach b, fun r => ?_⟩
  induction r with
  | refl => exact H.head
  | step r e ih =>
    obtain ⟨k, hk, rfl⟩ := List.mem_iff_getElem.mp ih
    exact H.closed k _ _ (by omega) (List.getElem?_eq_getElem hk) e
theorem Reach.rng (hE : ∀ b c, E b c → 0 ≤ c ∧ c < n) (h0 : 0 ≤ a) (h1 : a < n) (r : Reach E a b) : 0 ≤ b ∧ b < n := by
  induction r with
  | refl => exact ⟨h0, h1⟩
  | step r e ih => exact hE _ _ e
/-! ### from which an end can be reached -/
def Ends (E : Int → Int → Prop) (F : Int → Prop) (a : Int) : Prop := ∃ b, Reach E a b ∧ F b
structure Back (E : Int → Int → Prop) (F : Int → Prop) (n : Nat) (i : Nat) (ws : List Int) : Prop where
  fin : ∀ b : Int, 0 ≤ b → b < n → F b → b ∈ ws
  ends : ∀ b ∈ ws, Ends E F b
  closed : ∀ (k : Nat) (b c : Int), k < i → ws[k]? = some b → E c b → c ∈ ws
  nd : ws.Nodup
  rng : ∀ b ∈ ws, 0 ≤ b ∧ b < n
  le : i ≤ ws.length
variable {F : Int → Prop} {ws : List Int}
theorem Back.len (H : Back E F n i ws) : ws.length ≤ n := rng_len' H.nd H.rng
theorem Back.add (H : Back E F n i ws) (hb : b ∈ ws) (e : E c b) (hc : c ∉ ws) (h0 : 0 ≤ c) (h1 : c < n) : Back E F n i (ws ++ [c]) where
  fin := fun x h0 h1 hx => List.mem_append_left _ (H.fin x h0 h1 hx)
  ends := fun x hx => by
    rcases List.mem_append.mp hx with hx | hx
    · exact H.ends x hx
    · rw [List.mem_singleton.mp hx]
      obtain ⟨y, r, hy⟩ := H.ends b hb
      refine ⟨y, ?_, hy⟩
      clear hy
      induction r with
      | refl => exact .step .refl e
      | step r e2 ih => exact .step ih e2
  closed := fun k x y hk hx hy => by
    have := H.le
    rw [List.getElem?_append_left (by omega)] at hx
    exact List.mem_append_left _ (H.closed k x y hk hx hy)
  nd := by
    rw [List.nodup_append]
    exact ⟨H.nd, by simp, fun x hx y hy => by rw [List.mem_singleton.mp hy]; exact fun e => hc (e ▸ hx)⟩
  rng := fun x hx => by
    rcases List.mem_append.mp hx with hx | hx
    · exact H.rng x hx
    · rw [List.mem_singleton.mp hx]; exact ⟨h0, h1⟩
  le := by have := H.le; rw [List.length_append]; omega
theorem Back.next (H : Back E F n i ws) (hb : ws[i]? = some b) (h : ∀ c, E c b → c ∈ ws) : Back E F n (i + 1) ws where
  fin := H.fin
  ends := H.ends
  closed := fun k x y hk hx hy => by
    by_cases e : k = i
    · subst e
      rw [hb] at hx
      cases hx
      exact h y hy
    · exact H.closed k x y (by omega) hx hy
  nd := H.nd
  rng := H.rng
  le := (List.getElem?_eq_some_iff.mp hb).1
theorem Back.done (hE : ∀ b c, E b c → 0 ≤ c ∧ c < n) (H : Back E F n i ws) (h : ws.length ≤ i) (b : Int) (h0 : 0 ≤ b) (h1 : b < n) : b ∈ ws ↔ Ends E F b := by
  refine ⟨H.ends b, ?_⟩
  rintro ⟨c, r, f⟩
  have hc := r.rng hE h0 h1
  have hm := H.fin c hc.1 hc.2 f
  clear hc f
  induction r with
  | refl => exact hm
  | step r e ih =>
    obtain ⟨k, hk, ek⟩ := List.mem_iff_getElem.mp hm
    exact ih (H.closed k _ _ (by omega) (by rw [List.getElem?_eq_getElem hk, ek]) e)
end
/-! ### sorted texts -/
def ltS (a b : Str) : Prop := a.cps.toList < b.cps.toList
theorem ltS_irr {a : Str} : ¬ ltS a a := List.lt_irrefl _
theorem ltS_trans {a b c : Str} (h : ltS a b) (k : ltS b c) : ltS a c := List.lt_trans h k
theorem ltS_tri {a b : Str} (h : ¬ ltS b a) (n : a ≠ b) : ltS a b := by
  apply Classical.byContradiction
  intro q
  exact n (str_ext (List.le_antisymm (List.not_lt.mp h) (List.not_lt.mp q)))
theorem eS_ltS {a b : Str} : eD (.str a) < eD (.str b) ↔ ltS a b := by
  have := eS_lt a.cps.toList b.cps.toList [] []
  rw [List.append_nil, List.append_nil] at this
  show eS a < eS b ↔ _
  unfold eS
  rw [this]
  unfold ltS
  by_cases e : a.cps.toList = b.cps.toList
  · rw [if_pos e, e]
    exact ⟨fun h => absurd h (List.lt_irrefl _), fun h => absurd h (List.lt_irrefl _)⟩
  · rw [if_neg e]
theorem sorted_unique : ∀ {xs ys : List Str}, xs.Pairwise ltS → ys.Pairwise ltS → (∀ z, z ∈ xs ↔ z ∈ ys) → xs = ys
  | [], [], _, _, _ => rfl
  | [], y :: s, _, _, h => absurd ((h y).mpr List.mem_cons_self) (by simp)
  | x :: r, [], _, _, h => absurd ((h x).mp List.mem_cons_self) (by simp)
  | x :: r, y :: s, hx, hy, h => by
    obtain ⟨x1, x2⟩ := List.pairwise_cons.mp hx
    obtain ⟨y1, y2⟩ := List.pairwise_cons.mp hy
    have e : x = y := by
      rcases List.mem_cons.mp ((h x).mp List.mem_cons_self) with e | e
      · exact e
      · rcases List.mem_cons.mp ((h y).mpr List.mem_cons_self) with e2 | e2
        · exact e2.symm
        · exact absurd (ltS_trans (y1 x e) (x1 y e2)) ltS_irr
    subst e
    rw [sorted_unique x2 y2 fun z => ?_]
    constructor
    · intro hz
      rcases List.mem_cons.mp ((h z).mp (List.mem_cons_of_mem _ hz)) with e | e
      · subst e; exact absurd (x1 _ hz) ltS_irr
      · exact e
    · intro hz
      rcases List.mem_cons.mp ((h z).mpr (List.mem_cons_of_mem _ hz)) with e | e
      · subst e; exact absurd (y1 _ hz) ltS_irr
      · exact e
end K22
/-! GRs: helpers of heaps for graphs (turned from K22). -/
namespace GR
open PySem DL L2 K22
-- what the heap holds at a place
local macro_rules | `(tactic| walk_at "h") => `(tactic| first
  | assumption
  | exact mup_same
  | (refine (mup_ne ?_).trans ?_ <;> first | assumption | (apply Ne.symm; assumption) | walk_at "h"))
-- small facts of numbers
local macro_rules | `(tactic| walk_at "n") => `(tactic| first
  | assumption
  | omega
  | decide
  | (exact CMul.r (by decide))
  | (exact CMul.l (by decide))
  | (refine ⟨?_, ?_⟩ <;> first | assumption | omega | decide))
-- lengths
local macro_rules | `(tactic| walk_at "l") => `(tactic| first
  | assumption
  | (rw [sizeLine_eq]; first | omega | decide | (simp; done) | (simp; omega) | decide +kernel))
-- one step
local macro_rules | `(tactic| walk_at "e1") => `(tactic| first
  | with_reducible refine t_nil ?_
  | ((with_reducible refine' t_var ?s ?_); (case s => first | assumption | exact rfl))
  | with_reducible refine t_c ?_
  | with_reducible refine t_bin ?_
  | with_reducible refine t_if ?_
  | with_reducible refine t_asg ?_
  | with_reducible refine t_gN ?_
  | with_reducible refine t_ret ?_
  | with_reducible refine t_exp ?_
  | with_reducible refine t_bcmp ?_
  | with_reducible refine t_band ?_
  | with_reducible refine t_bor ?_
  | with_reducible refine t_bnot ?_
  | with_reducible refine t_btru ?_
  | with_reducible refine t_byes ?_
  | with_reducible refine t_an ?_
  | with_reducible refine t_ac ?_
  | with_reducible refine t_fn ?_
  | with_reducible refine t_call ?_
  | with_reducible refine t_cmp ?_
  | with_reducible refine t_and ?_
  | with_reducible refine t_or ?_
  | with_reducible refine t_not ?_
  | with_reducible refine t_ife ?_
  | with_reducible refine t_tup ?_
  | with_reducible refine t_lst ?_
  | with_reducible refine t_isi ?_
  | with_reducible refine t_sl ?_
  | with_reducible refine t_o0 ?_
  | with_reducible refine t_o1 ?_
  | with_reducible refine t_un ?_
  | with_reducible refine t_mt ?_
  | with_reducible refine t_gS ?_
  | with_reducible refine t_gsC ?_
  | with_reducible refine t_gsN ?_
  | ((with_reducible refine t_gT ?s ?_); (case s => first | assumption | exact rfl))
  | with_reducible refine t_retN ?_
  | with_reducible refine t_brk ?_
  | with_reducible refine t_cnt ?_
  | ((with_reducible refine' t_aug ?s ?_); (case s => first | assumption | exact rfl))
  | with_reducible refine t_for ?_
  | with_reducible refine t_seqi ?_
  | with_reducible refine t_rg1 ?_
  | with_reducible refine t_rg2 ?_
  | with_reducible refine t_lc ?_
  | with_reducible refine v_tru_bl ?_
  | with_reducible refine v_tru_int ?_
  | with_reducible refine v_tru_non ?_
  | with_reducible refine v_tru_tup ?_
  | with_reducible refine v_add_int ?_
  | ((with_reducible refine v_add_str ?l ?_); (case l => walk_at "l"))
  | ((with_reducible refine v_add_tup ?l ?_); (case l => walk_at "l"))
  | with_reducible refine v_iadd_int ?_
  | with_reducible refine v_sub ?_
  | ((with_reducible refine v_mul ?c ?_); (case c => walk_at "n"))
  | ((with_reducible refine v_div ?c ?_); (case c => walk_at "n"))
  | ((with_reducible refine v_mod ?c ?_); (case c => walk_at "n"))
  | ((with_reducible refine v_pow ?c ?_); (case c => exact ⟨by decide, by decide, by decide⟩))
  | with_reducible refine v_neg ?_
  | with_reducible exact trivial
  | with_reducible refine v_eq_int ?_
  | with_reducible refine v_eq_str ?_
  | with_reducible refine v_eq_bl ?_
  | with_reducible refine v_ne_int ?_
  | with_reducible refine v_ne_str ?_
  | with_reducible refine v_ne_bl ?_
  | with_reducible refine v_lt ?_
  | with_reducible refine v_lt_str ?_
  | with_reducible refine t_ks ?_
  | with_reducible refine t_rv ?_
  | with_reducible refine v_seq_ktp ?_
  | ((with_reducible refine' v_extend ?e ?f ?l ?_); (case e => walk_at "h"); (case f => walk_at "h"); (case l => walk_at "l"))
  | with_reducible refine v_le ?_
  | with_reducible refine v_gt ?_
  | with_reducible refine v_ge ?_
  | with_reducible refine v_isi_non ?_
  | with_reducible refine v_isi_bl ?_
  | with_reducible refine v_isi_int ?_
  | with_reducible refine v_isi_str ?_
  | with_reducible refine v_isi_tup ?_
  | with_reducible refine v_in_str ?_
  | with_reducible refine v_nin_str ?_
  | with_reducible refine v_len_tup ?_
  | with_reducible refine v_len_rol ?_
  | ((with_reducible refine v_len_str ?l ?_); (case l => walk_at "l"))
  | ((with_reducible refine' v_len_ref ?e ?_); (case e => walk_at "h"))
  | with_reducible refine v_int_int ?_
  | with_reducible refine v_max ?_
  | with_reducible refine v_min ?_
  | with_reducible refine v_tuple_tup ?_
  | ((with_reducible refine' v_tuple_ref ?e ?_); (case e => walk_at "h"))
  | ((with_reducible refine' v_ix_ref ?e ?f ?_); (case e => walk_at "h"); (case f => first | assumption | exact rfl))
  | ((with_reducible refine' v_ix_tup ?f ?_); (case f => first | assumption | exact rfl))
  | ((with_reducible refine' v_set ?e ?f ?_); (case e => walk_at "h"); (case f => first | assumption | exact rfl))
  | ((with_reducible refine v_sl_str ?l ?_); (case l => walk_at "l"))
  | with_reducible refine v_sl_tup ?_
  | with_reducible refine v_seq_tup ?_
  | with_reducible refine v_seq_str ?_
  | with_reducible refine v_seq_rol ?_
  | ((with_reducible refine' v_seq_ref ?e ?_); (case e => walk_at "h"))
  | ((with_reducible refine' ⟨v_ty_ref ?e, ?_⟩); (case e => walk_at "h"))
  | ((with_reducible refine' v_append ?e ?l ?_); (case e => walk_at "h"); (case l => walk_at "l")))
local macro_rules | `(tactic| walk_at "d1") => `(tactic| first | with_reducible refine t_seq ?_ | walk_at "e1")
local macro_rules | `(tactic| walk_at "d") => `(tactic| repeat walk_at "d1")
-- one statement
local macro_rules | `(tactic| walk_at "e") => `(tactic| ((repeat walk_at "e1"); try (with_reducible show sSeq _ _ _ _ _)))
local macro_rules | `(tactic| walk_at "s") => `(tactic| ((with_reducible refine t_seq ?_); walk_at "e"))
-- a drawn thing's small facts
local macro_rules | `(tactic| walk_at "gi") => `(tactic| first
  | exact gi_c trivial
  | exact gi_c ⟨_, rfl, by decide, by decide⟩
  | exact gi_c (show _ ≤ _ by decide)
  | exact gi_c (show _ ≤ _ by decide +kernel)
  | exact gi_v rfl trivial)
local macro_rules | `(tactic| walk_at "ga") => `(tactic| ((repeat (first | exact ga_nil | refine ga_cons2 ?_ ?_)); all_goals (try walk_at "gi")))
theorem v_isn {x : D} {M : Mh} {R : Bool → Prop} (h : R (!isNon x)) : isnD x .non M R := h
theorem v_isN {x : D} {M : Mh} {R : Bool → Prop} (h : R (isNon x)) : isD x .non M R := h
theorem atI_ints {fs : List Int} {i : Nat} {b : Int} (h : fs[i]? = some b) : atI (fs.map D.int) (i : Int) = some (.int b) := atI_get? (by omega) (by rw [Int.toNat_natCast, List.getElem?_map, h]; rfl)
theorem keys_put {kvs : List (Key × D)} {fs : List Int} {c : Int} (d : D) (h : kvs.map (·.1) = fs.map Sum.inl) (n : c ∉ fs) : (putD kvs (Sum.inl c) d).map (·.1) = (fs ++ [c]).map Sum.inl := by
  rw [putD_keys, h, if_neg, List.map_append]; rfl
  intro z
  obtain ⟨x, hx, e⟩ := List.mem_map.mp z
  cases e
  exact n hx
theorem key_mem {kvs : List (Key × D)} {fs : List Int} {c : Int} (h : kvs.map (·.1) = fs.map Sum.inl) : (valD kvs (Sum.inl c)).isSome = decide (c ∈ fs) := by
  rw [← valD_any, Bool.eq_iff_iff, List.any_eq_true, decide_eq_true_eq]
  constructor
  · rintro ⟨kv, hk, e⟩
    have e := of_decide_eq_true e
    have : kv.1 ∈ kvs.map (·.1) := List.mem_map.mpr ⟨kv, hk, rfl⟩
    rw [h, e] at this
    obtain ⟨x, hx, e2⟩ := List.mem_map.mp this
    cases e2
    exact hx
  · intro hx
    have : (Sum.inl c : Key) ∈ kvs.map (·.1) := by rw [h]; exact List.mem_map.mpr ⟨c, hx, rfl⟩
    obtain ⟨kv, hk, e⟩ := List.mem_map.mp this
    exact ⟨kv, hk, decide_eq_true e⟩
theorem put_nodup {kvs : List (Key × D)} {k : Key} (d : D) (h : (kvs.map (·.1)).Nodup) : ((putD kvs k d).map (·.1)).Nodup := by
  rw [putD_keys]
  split
  · exact h
  · rename_i n
    rw [List.nodup_append]
    exact ⟨h, by simp, fun a ha b hb => by rw [List.mem_singleton.mp hb]; exact fun e => n (e ▸ ha)⟩
theorem put_mem {kvs : List (Key × D)} {k k' : Key} (d : D) : k' ∈ (putD kvs k d).map (·.1) ↔ k' ∈ kvs.map (·.1) ∨ k' = k := by
  rw [putD_keys]
  split
  · rename_i n
    exact ⟨.inl, fun h => by rcases h with h | rfl; exact h; exact n⟩
  · rw [List.mem_append, List.mem_singleton]
theorem all_map {α β : Type} {f : α → β} : ∀ {l : List β}, (∀ k ∈ l, ∃ z, k = f z) → ∃ zs : List α, l = zs.map f
  | [], _ => ⟨[], rfl⟩
  | k :: r, h => by
    obtain ⟨z, rfl⟩ := h k List.mem_cons_self
    obtain ⟨zs, rfl⟩ := all_map (l := r) fun x hx => h x (List.mem_cons_of_mem _ hx)
    exact ⟨z :: zs, rfl⟩
theorem nodup_of_map {α β : Type} {f : α → β} : ∀ {l : List α}, (l.map f).Nodup → l.Nodup
  | [], _ => by simp
  | x :: r, h => by
    rw [List.map_cons, List.nodup_cons] at h
    rw [List.nodup_cons]
    exact ⟨fun q => h.1 (List.mem_map.mpr ⟨x, q, rfl⟩), nodup_of_map h.2⟩
theorem dkeys_map (kvs : List (Key × D)) : dKeys (.dk kvs) = (kvs.map (·.1)).map kD := by
  show kvs.map (fun kv => kD kv.1) = _
  rw [List.map_map]; rfl
theorem memD_strs {w : Str} {zs : List Str} : memD (.str w) (zs.map D.str) = true ↔ w ∈ zs := by
  unfold memD
  rw [List.any_map, List.any_eq_true]
  constructor
  · rintro ⟨x, hx, e⟩
    have e : deq (.str x) (.str w) = true := e
    rw [deq_str, beq_iff_eq] at e
    rw [← e]; exact hx
  · intro h
    exact ⟨w, h, by show deq (.str w) (.str w) = true; rw [deq_str, beq_iff_eq]⟩
theorem memD_ints {w : Int} {zs : List Int} : memD (.int w) (zs.map D.int) = true ↔ w ∈ zs := by
  unfold memD
  rw [List.any_map, List.any_eq_true]
  constructor
  · rintro ⟨x, hx, e⟩
    have e : deq (.int x) (.int w) = true := e
    rw [deq_int, beq_iff_eq] at e
    rw [← e]; exact hx
  · intro h
    exact ⟨w, h, by show deq (.int w) (.int w) = true; rw [deq_int, beq_iff_eq]⟩
theorem flat_ints (zs : List Int) : (zs.map D.int).all flatD = true := by
  induction zs with
  | nil => rfl
  | cons z r ih => rw [List.map_cons, List.all_cons, ih]; rfl
theorem flat_strs (zs : List Str) : (zs.map D.str).all flatD = true := by
  induction zs with
  | nil => rfl
  | cons z r ih => rw [List.map_cons, List.all_cons, ih]; rfl
theorem t_dct_k' {ρ : Ev} {M : Mh} {Q : PQ} (h : ∀ p, M p = none → Q (.ref p) (mup M p (.dk []))) : eDct ρ M Q := .inl h
/-- the sorted rows of texts -/
theorem sorted_strs {ys : List Str} (nd : ys.Nodup) (hpw : (ys.map D.str).Pairwise fun a b => ¬ (eD b < eD a)) : ys.Pairwise ltS := by
  have a1 : ys.Pairwise fun a b => ¬ ltS b a := (List.pairwise_map.mp hpw).imp fun h q => h (eS_ltS.mpr q)
  exact (a1.and nd).imp fun ⟨x, y⟩ => ltS_tri x y
theorem nd_inj {α : Type} {l : List α} (h : l.Nodup) {i j : Nat} {x : α} (hi : l[i]? = some x) (hj : l[j]? = some x) : i = j := by
  obtain ⟨i1, i2⟩ := List.getElem?_eq_some_iff.mp hi
  obtain ⟨j1, j2⟩ := List.getElem?_eq_some_iff.mp hj
  have p := List.pairwise_iff_getElem.mp h
  rcases Nat.lt_trichotomy i j with k | k | k
  · exact absurd (i2.trans j2.symm) (p i j i1 j1 k)
  · exact k
  · exact absurd (j2.trans i2.symm) (p j i j1 i1 k)
/-- the places of the lists of comers, and what they hold -/
structure Com (M0 : Mh) (many : Nat) (c : Addr) (rs : List Addr) (f : Nat → List Int) (M' : Mh) : Prop where
  len : rs.length = many
  nd : rs.Nodup
  new : ∀ r ∈ rs, M0 r = none ∧ r ≠ c
  cnew : M0 c = none
  at' : M' c = some (.lst (rs.map D.ref))
  l : ∀ (k : Nat) r, rs[k]? = some r → M' r = some (.lst ((f k).map D.int))
theorem Com.keep {M0 M' M2 : Mh} {many : Nat} {c : Addr} {rs : List Addr} {f : Nat → List Int} (H : Com M0 many c rs f M') (x : MExt M' M2) : Com M0 many c rs f M2 :=
  ⟨H.len, H.nd, H.new, H.cnew, x _ _ (fun z => z) H.at', fun k r e => x _ _ (fun z => z) (H.l k r e)⟩
theorem Com.put {M0 M' : Mh} {many : Nat} {c : Addr} {rs : List Addr} {f : Nat → List Int} (H : Com M0 many c rs f M') {k : Nat} {r : Addr} {x : Int} (e : rs[k]? = some r) : Com M0 many c rs (fun n => if n = k then f k ++ [x] else f n) (mup M' r (.lst ((f k).map D.int ++ [.int x]))) where
  len := H.len
  nd := H.nd
  new := H.new
  cnew := H.cnew
  at' := by rw [mup_ne (H.new r (List.mem_of_getElem? e)).2.symm]; exact H.at'
  l := fun n q eq => by
    by_cases z : n = k
    · subst z
      rw [e] at eq
      cases eq
      rw [mup_same, if_pos rfl, List.map_append]; rfl
    · have : q ≠ r := by
        rintro rfl
        exact z (nd_inj H.nd eq e)
      rw [mup_ne this, if_neg z]
      exact H.l n q eq
theorem Com.other {M0 M' : Mh} {many : Nat} {c w : Addr} {rs : List Addr} {f : Nat → List Int} {o : MO} (H : Com M0 many c rs f M') (h1 : w ≠ c) (h2 : w ∉ rs) : Com M0 many c rs f (mup M' w o) :=
  ⟨H.len, H.nd, H.new, H.cnew, by rw [mup_ne h1.symm]; exact H.at', fun k r e => by rw [mup_ne (fun z : r = w => h2 (z ▸ List.mem_of_getElem? e))]; exact H.l k r e⟩
theorem Com.free {M0 M' : Mh} {many : Nat} {c w : Addr} {rs : List Addr} {f : Nat → List Int} (H : Com M0 many c rs f M') (h : M' w = none) : w ≠ c ∧ w ∉ rs := by
  refine ⟨(ne_free H.at' h).symm, fun z => ?_⟩
  obtain ⟨k, hk, e⟩ := List.mem_iff_getElem.mp z
  have := H.l k w (by rw [List.getElem?_eq_getElem hk, e])
  rw [h] at this; cases this
theorem cut_take {ds : List D} (n : Nat) : cutD ds none (some (n : Int)) = ds.take n := by
  unfold cutD
  rw [HT.sIx_nat, HT.sIx_none, List.drop_zero, Nat.sub_zero]
  by_cases h : n ≤ ds.length
  · rw [Nat.min_eq_left h]
  · rw [Nat.min_eq_right (by omega), List.take_length, List.take_of_length_le (by omega)]
theorem cut_drop {ds : List D} (n : Nat) : cutD ds (some (n : Int)) none = ds.drop n := by
  unfold cutD
  rw [HT.sIx_nat, HT.sIx_none]
  by_cases h : n ≤ ds.length
  · rw [Nat.min_eq_left h, List.take_of_length_le (by simp)]
  · rw [Nat.min_eq_right (by omega), List.drop_of_length_le (Nat.le_refl _), List.drop_of_length_le (show ds.length ≤ n by omega)]
    simp
theorem atI_map' {α : Type} {zs : List α} {f : α → D} {k : Int} (h0 : 0 ≤ k) (h1 : k < zs.length) : ∃ z, z ∈ zs ∧ zs[k.toNat]? = some z ∧ atI (zs.map f) k = some (f z) := by
  have hn : k.toNat < zs.length := by omega
  have e := List.getElem?_eq_getElem hn
  exact ⟨_, List.getElem_mem hn, e, atI_get? h0 (by rw [List.getElem?_map, e]; rfl)⟩
/-- items[pick(jar, len(items))], of a tuple -/
theorem gi_item {α : Type} {j : Addr} {ρ : Ev} {i ij : Nat} {zs : List α} {f : α → D} (sj : slot ρ ij = some (.ref j)) (s : slot ρ i = some (.tup (zs.map f))) (l0 : 0 < zs.length) (l1 : zs.length < 1073741824) :
    GI j ρ (fun d => ∃ z ∈ zs, d = f z) (eBin ixD (eVar i) (eFn 2 sp_pick (aCons (eVar ij) (aCons (eCall lenD (aCons (eVar i) aNil)) aNil)))) := fun M P jk k => by
  refine t_bin (t_var s (t_fn (t_ac (t_var sj (t_ac (t_call (t_ac (t_var s (t_an (v_len_tup (t_an ?_))))))))))) 
  refine c_pick jk (by rw [List.length_map]; omega) fun x o x0 x1 j1 => ?_
  rw [List.length_map] at x1
  obtain ⟨z, hz, _, e⟩ := atI_map' (f := f) x0 x1
  exact v_ix_tup e (k _ _ (.put rfl) j1 ⟨z, hz, rfl⟩)
/-- the same, of a list -/
theorem run_item {α : Type} {j p : Addr} {ρ : Ev} {i ij : Nat} {zs : List α} {f : α → D} {M : Mh} {P : PQ} (sj : slot ρ ij = some (.ref j)) (s : slot ρ i = some (.ref p)) (hp : M p = some (.lst (zs.map f))) (pj : p ≠ j) (l0 : 0 < zs.length) (l1 : zs.length < 1073741824) (jk : JarOk M j)
    (k : ∀ z M', z ∈ zs → MKeep (· = j) M M' → JarOk M' j → P (f z) M') :
    (eBin ixD (eVar i) (eFn 2 sp_pick (aCons (eVar ij) (aCons (eCall lenD (aCons (eVar i) aNil)) aNil)))) ρ M P := by
  refine t_bin (t_var s (t_fn (t_ac (t_var sj (t_ac (t_call (t_ac (t_var s (t_an (v_len_ref hp (t_an ?_)))))))))))
  refine c_pick jk (by rw [List.length_map]; omega) fun x o x0 x1 j1 => ?_
  rw [List.length_map] at x1
  obtain ⟨z, hz, _, e⟩ := atI_map' (f := f) x0 x1
  exact v_ix_ref (by rw [mup_ne pj]; exact hp) e (k _ _ hz (.put rfl) j1)
theorem okT_ints (ns : List Int) : okD (.tup (ns.map D.int)) = true := by
  obtain ⟨i1, i2⟩ := rol_ints ns
  unfold okD SeqAt.shaped
  simp only [pd, PyData.canLay0, PyData.depth, i1, Bool.true_and, decide_eq_true_eq]
  omega
theorem okT_strs {ps : List Str} (h : ∀ w ∈ ps, LX.SmS w) : okD (.tup (ps.map D.str)) = true := by
  have : ps.map D.str = (ps.map lit).map fun t => D.str (st t) := by
    rw [List.map_map]
    exact List.map_congr_left fun w _ => by show _ = D.str (st (lit w)); rw [st_lit]
  rw [this]
  exact okD_strs fun t ht => by
    obtain ⟨w, hw, rfl⟩ := List.mem_map.mp ht
    exact h w hw
theorem v_ne_same {x : D} {M : Mh} {R : Bool → Prop} (f : okD x = true) (h : R false) : neD x x M R := .inl ⟨.inr ⟨f, f⟩, by
  rw [deq_refl x f]; exact h⟩
end GR
/-! LXh: the laws' names, spans and moves, with things held. -/
namespace LX
open PySem DL L2 GR
section
variable {M : Mh} {Js : List Addr} {L : List (Addr × MO)} {j p q : Addr} {Q : PQ}
theorem h_name {i : Int} (H : Held M Js L) (hj : j ∈ Js) (h0 : 0 ≤ i) (h1 : i ≤ 9) (k : ∀ (z : Str) M', z.length ≤ 40 → SmS z → Held M' Js L → Q (.str z) M') : [D.ref j, D.int i].length = 2 ∧ sp_name [.ref j, .int i] M Q :=
  ⟨rfl, j, i, rfl, H.jar j hj, h0, h1, fun z M' l s m jk => k z M' l s (H.keep hj m jk)⟩
theorem h_names {i : Int} (H : Held M Js L) (hj : j ∈ Js) (h0 : 0 ≤ i) (h1 : i ≤ 10) (k : ∀ p (zs : List Str) M', zs.length = i.toNat → (∀ z ∈ zs, z.length ≤ 40) → (∀ z ∈ zs, SmS z) → Held M' Js ((p, .lst (zs.map D.str)) :: L) → Q (.ref p) M') : [D.ref j, D.int i].length = 2 ∧ sp_names [.ref j, .int i] M Q :=
  ⟨rfl, j, i, rfl, H.jar j hj, h0, h1, fun p zs M' l1 l2 s e _ n m jk => k p zs M' l1 l2 s (H.more (H.keep hj m jk) n e)⟩
theorem h_span (H : Held M Js L) (hj : j ∈ Js) (k : ∀ (a b : Int) M', 0 ≤ a → a ≤ b → b ≤ 999999 → Held M' Js L → Q (.tup [.int a, .int b]) M') : [D.ref j].length = 1 ∧ sp_span [.ref j] M Q :=
  ⟨rfl, j, rfl, H.jar j hj, fun d M' m jk ⟨a, b, e, h0, h1, h2⟩ => by subst e; exact k a b M' h0 h1 h2 (H.keep hj m jk)⟩
theorem h_moves {lb gl : Addr} {zs : List Str} {gs : List Int} {count : Nat} (H : Held M Js L) (hj : j ∈ Js) (m1 : (lb, .lst (zs.map D.str)) ∈ L) (m2 : (gl, .lst (gs.map D.int)) ∈ L) (z0 : 0 < zs.length) (z1 : zs.length ≤ 1000) (g0 : 0 < gs.length) (g1 : gs.length ≤ 1000) (hc : count ≤ 100)
    (k : ∀ p (ms : List Mo) M', ms.length = count → (∀ m ∈ ms, m.z ∈ zs ∧ m.g ∈ gs ∧ m.sp) → Held M' Js ((p, .lst (ms.map Mo.d)) :: L) → Q (.ref p) M') :
    [D.ref j, .ref lb, .int count, .ref gl].length = 4 ∧ sp_moves [.ref j, .ref lb, .int count, .ref gl] M Q :=
  ⟨rfl, j, lb, gl, zs, gs, count, rfl, H.get m1, H.get m2, H.ne hj m1, H.ne hj m2, z0, z1, g0, g1, hc, H.jar j hj, fun p ms M' l hm e _ n m jk => k p ms M' l hm (H.more (H.keep hj m jk) n e)⟩
end
end LX
/-! bodies of shared defs, printed by gen.py and pickb.py -/
namespace MX
open PySem DL

/-- slots: 0 standing -/
def b_moves_of : DS :=
  (sSeq (sIf (bCmp eqD (eBin ixD (eVar 0) (eC (.int 0))) (eC (.str "end")))
   (sSeq (sRet (eTup aNil))
   sNil)
   sNil)
  (sSeq (sRet (eBin ixD (eVar 0) (eC (.int 2))))
  sNil))
/-- slots: 0 machine 1 start 2 found 3 seen 4 at 5 move -/
def b_standings_from (c_moves_of : List D → Mh → PQ → Prop) : DS :=
  (sSeq (sAsg (eLst (aCons (eVar 1) aNil)) (gN 2))
  (sSeq (sAsg (eD1 (eVar 1) (eC (.bl true))) (gN 3))
  (sSeq (sAsg (eC (.int 0)) (gN 4))
  (sSeq (sWh (bCmp ltD (eVar 4) (eCall lenD (aCons (eVar 2) aNil)))
   (sSeq (sFor (iSeq (eFn 1 c_moves_of (aCons (eBin ixD (eVar 0) (eBin ixD (eVar 2) (eVar 4))) aNil))) (gN 5)
    (sSeq (sIf (bCmp ninD (eBin ixD (eVar 5) (eC (.int 3))) (eVar 3))
     (sSeq (sAsg (eC (.bl true)) (gS (eVar 3) (eBin ixD (eVar 5) (eC (.int 3)))))
     (sSeq (sExp (eMt "list" appendD (eVar 2) (aCons (eBin ixD (eVar 5) (eC (.int 3))) aNil)))
     sNil))
     sNil)
    sNil))
   (sSeq (sAug 4 iaddD (eC (.int 1)))
   sNil)))
  (sSeq (sRet (eVar 2))
  sNil)))))
/-- slots: 0 jar 1 part 2 copies 3 size 4 found 5 at 6 standing 7 moves 8 move -/
def b_copies (c_pick : List D → Mh → PQ → Prop) : DS :=
  (sSeq (sAsg (eCall lenD (aCons (eVar 1) aNil)) (gN 3))
  (sSeq (sAsg (eLst aNil) (gN 4))
  (sSeq (sFor (iRg1 (aCons (eBin mulD (eVar 3) (eVar 2)) aNil)) (gN 5)
   (sSeq (sAsg (eBin ixD (eVar 1) (eBin modD (eCall intD (aCons (eVar 5) aNil)) (eVar 3))) (gN 6))
   (sSeq (sIf (bCmp eqD (eBin ixD (eVar 6) (eC (.int 0))) (eC (.str "end")))
    (sSeq (sExp (eMt "list" appendD (eVar 4) (aCons (eVar 6) aNil)))
    (sSeq sCnt
    sNil))
    sNil)
   (sSeq (sAsg (eLst aNil) (gN 7))
   (sSeq (sFor (iSeq (eBin ixD (eVar 6) (eC (.int 2)))) (gN 8)
    (sSeq (sExp (eMt "list" appendD (eVar 7) (aCons (eTup (aCons (eBin ixD (eVar 8) (eC (.int 0))) (aCons (eBin ixD (eVar 8) (eC (.int 1))) (aCons (eBin ixD (eVar 8) (eC (.int 2))) (aCons (eBin addD (eBin ixD (eVar 8) (eC (.int 3))) (eBin mulD (eVar 3) (eFn 2 c_pick (aCons (eVar 0) (aCons (eVar 2) aNil))))) aNil))))) aNil)))
    sNil))
   (sSeq (sExp (eMt "list" appendD (eVar 4) (aCons (eTup (aCons (eBin ixD (eVar 6) (eC (.int 0))) (aCons (eBin ixD (eVar 6) (eC (.int 1))) (aCons (eCall tupleD (aCons (eVar 7) aNil)) aNil)))) aNil)))
   sNil))))))
  (sSeq (sRet (eCall tupleD (aCons (eVar 4) aNil)))
  sNil))))
/-- slots: 0 jar 1 many 2 top 3 rows 4 one 5 other -/
def b_rooms (c_pick : List D → Mh → PQ → Prop) : DS :=
  (sSeq (sAsg (eLst aNil) (gN 3))
  (sSeq (sFor (iRg1 (aCons (eVar 1) aNil)) (gN 4)
   (sSeq (sExp (eMt "list" appendD (eVar 3) (aCons (eCall tupleD (aCons (eLC (iRg1 (aCons (eVar 1) aNil)) (.nm 5) bYes (eIf (bCmp eqD (eVar 4) (eVar 5)) (eC (.int 0)) (eFn 2 c_pick (aCons (eVar 0) (aCons (eBin addD (eVar 2) (eC (.int 1))) aNil)))) [5]) aNil)) aNil)))
   sNil))
  (sSeq (sRet (eCall tupleD (aCons (eVar 3) aNil)))
  sNil)))
/-- slots: 0 jar 1 many 2 left 3 found 4 count -/
def b_mixed (c_pick : List D → Mh → PQ → Prop) : DS :=
  (sSeq (sAsg (eLr (eVar 1)) (gN 2))
  (sSeq (sAsg (eLst aNil) (gN 3))
  (sSeq (sFor (iRg1 (aCons (eVar 1) aNil)) (gN 4)
   (sSeq (sExp (eMt "list" appendD (eVar 3) (aCons (eMt "list" popD (eVar 2) (aCons (eFn 2 c_pick (aCons (eVar 0) (aCons (eCall lenD (aCons (eVar 2) aNil)) aNil))) aNil)) aNil)))
   sNil))
  (sSeq (sRet (eVar 3))
  sNil))))
/-- slots: 0 machine 1 order 2 found 3 old 4 standing 5 moves 6 move -/
def b_ordered : DS :=
  (sSeq (sAsg (eLst aNil) (gN 2))
  (sSeq (sFor (iSeq (eVar 1)) (gN 3)
   (sSeq (sAsg (eBin ixD (eVar 0) (eVar 3)) (gN 4))
   (sSeq (sIf (bCmp eqD (eBin ixD (eVar 4) (eC (.int 0))) (eC (.str "end")))
    (sSeq (sExp (eMt "list" appendD (eVar 2) (aCons (eVar 4) aNil)))
    sNil)
    (sSeq (sAsg (eLC (iSeq (eBin ixD (eVar 4) (eC (.int 2)))) (.nm 6) bYes (eTup (aCons (eBin ixD (eVar 6) (eC (.int 0))) (aCons (eBin ixD (eVar 6) (eC (.int 1))) (aCons (eBin ixD (eVar 6) (eC (.int 2))) (aCons (eIx (eVar 1) (eBin ixD (eVar 6) (eC (.int 3)))) aNil))))) [6]) (gN 5))
    (sSeq (sExp (eMt "list" appendD (eVar 2) (aCons (eTup (aCons (eBin ixD (eVar 4) (eC (.int 0))) (aCons (eBin ixD (eVar 4) (eC (.int 1))) (aCons (eCall tupleD (aCons (eVar 5) aNil)) aNil)))) aNil)))
    sNil)))
   sNil)))
  (sSeq (sRet (eCall tupleD (aCons (eVar 2) aNil)))
  sNil)))
end MX
/-! MXp: machines as the laws draw them: copied, put in another order, walked through. -/
namespace MX
open PySem DL L2 GR K22
-- where it stands in the row of things held
local macro_rules | `(tactic| walk_at "m") => `(tactic| first
  | assumption
  | exact List.mem_cons_self
  | (refine List.mem_cons_of_mem _ ?_; walk_at "m"))
-- what the heap holds at a place
local macro_rules | `(tactic| walk_at "h") => `(tactic| first
  | assumption
  | exact mup_same
  | exact Held.get (by assumption) (by walk_at "m")
  | (refine (mup_ne ?_).trans ?_ <;> first | assumption | (apply Ne.symm; assumption) | walk_at "h"))
-- small facts of numbers
local macro_rules | `(tactic| walk_at "n") => `(tactic| first
  | assumption
  | omega
  | decide
  | (exact CMul.r (by decide))
  | (exact CMul.l (by decide))
  | (refine ⟨?_, ?_⟩ <;> first | assumption | omega | decide))
-- lengths
local macro_rules | `(tactic| walk_at "l") => `(tactic| first
  | assumption
  | (rw [sizeLine_eq]; first | omega | decide | (simp; done) | (simp; omega) | decide +kernel))
-- one step
local macro_rules | `(tactic| walk_at "e1") => `(tactic| first
  | with_reducible refine t_nil ?_
  | ((with_reducible refine' t_var ?s ?_); (case s => first | exact rfl | assumption))
  | with_reducible refine t_c ?_
  | with_reducible refine t_bin ?_
  | with_reducible refine t_if ?_
  | with_reducible refine t_asg ?_
  | ((with_reducible refine' t_gN' ?e ?_); (case e => ((try simp only [List.set_cons_zero, List.set_cons_succ, startD, List.map_cons, List.map_nil, List.length_cons, List.length_nil, Nat.reduceAdd, Nat.reduceSub, List.replicate, List.cons_append, List.nil_append]); exact rfl)))
  | with_reducible refine t_ret ?_
  | with_reducible refine t_exp ?_
  | with_reducible refine t_bcmp ?_
  | with_reducible refine t_band ?_
  | with_reducible refine t_bor ?_
  | with_reducible refine t_bnot ?_
  | with_reducible refine t_btru ?_
  | with_reducible refine t_byes ?_
  | with_reducible refine t_an ?_
  | with_reducible refine t_ac ?_
  | with_reducible refine t_fn ?_
  | with_reducible refine t_call ?_
  | with_reducible refine t_cmp ?_
  | with_reducible refine t_and ?_
  | with_reducible refine t_or ?_
  | with_reducible refine t_not ?_
  | with_reducible refine t_ife ?_
  | with_reducible refine t_tupN ?_
  | ((with_reducible refine v_newT ?l ?_); (case l => exact Nat.le_of_ble_eq_true rfl))
  | with_reducible refine t_lstN ?_
  | with_reducible refine t_isi ?_
  | with_reducible refine t_sl ?_
  | with_reducible refine t_o0 ?_
  | with_reducible refine t_o1 ?_
  | with_reducible refine t_un ?_
  | with_reducible refine t_mt ?_
  | with_reducible refine t_gS ?_
  | with_reducible refine t_gsC ?_
  | with_reducible refine t_gsN ?_
  | ((with_reducible refine t_gT ?s ?_); (case s => first | assumption | exact rfl))
  | with_reducible refine t_retN ?_
  | with_reducible refine t_brk ?_
  | with_reducible refine t_cnt ?_
  | ((with_reducible refine' t_aug ?s ?_); (case s => first | exact rfl | assumption))
  | with_reducible refine t_for ?_
  | with_reducible refine t_seqi ?_
  | with_reducible refine t_rg1 ?_
  | with_reducible refine t_rg2 ?_
  | with_reducible refine t_lc ?_
  | with_reducible refine v_tru_bl ?_
  | with_reducible refine v_tru_int ?_
  | with_reducible refine v_tru_non ?_
  | with_reducible refine v_tru_tup ?_
  | with_reducible refine v_add_int ?_
  | ((with_reducible refine v_add_str ?l ?_); (case l => walk_at "l"))
  | ((with_reducible refine v_add_tup ?l ?_); (case l => walk_at "l"))
  | with_reducible refine v_iadd_int ?_
  | with_reducible refine v_sub ?_
  | ((with_reducible refine v_mul ?c ?_); (case c => walk_at "n"))
  | ((with_reducible refine v_div ?c ?_); (case c => walk_at "n"))
  | ((with_reducible refine v_mod ?c ?_); (case c => walk_at "n"))
  | ((with_reducible refine v_pow ?c ?_); (case c => exact ⟨by decide, by decide, by decide⟩))
  | with_reducible refine v_neg ?_
  | with_reducible exact trivial
  | with_reducible refine v_eq_int ?_
  | with_reducible refine v_eq_str ?_
  | with_reducible refine v_eq_bl ?_
  | with_reducible refine v_ne_int ?_
  | with_reducible refine v_ne_str ?_
  | with_reducible refine v_ne_bl ?_
  | with_reducible refine v_lt ?_
  | with_reducible refine v_lt_str ?_
  | with_reducible refine t_ks ?_
  | with_reducible refine t_rv ?_
  | with_reducible refine v_seq_ktp ?_
  | with_reducible refine v_le ?_
  | with_reducible refine v_gt ?_
  | with_reducible refine v_ge ?_
  | with_reducible refine v_isi_non ?_
  | with_reducible refine v_isi_bl ?_
  | with_reducible refine v_isi_int ?_
  | with_reducible refine v_isi_str ?_
  | with_reducible refine v_isi_tup ?_
  | with_reducible refine v_in_str ?_
  | with_reducible refine v_nin_str ?_
  | with_reducible refine v_len_tup ?_
  | with_reducible refine v_len_rol ?_
  | with_reducible refine v_len_ktp ?_
  | with_reducible refine v_tru_ktp ?_
  | with_reducible refine v_isi_ktp ?_
  | with_reducible refine v_tuple_ktp ?_
  | with_reducible refine t_zip ?_
  | with_reducible refine v_zip_tt ?_
  | with_reducible refine v_zip_tk ?_
  | with_reducible refine v_zip_kt ?_
  | with_reducible refine v_zip_kk ?_
  | ((with_reducible refine' v_zip_ll ?e ?f ?_); (case e => walk_at "h"); (case f => walk_at "h"))
  | with_reducible refine t_ix ?_
  | ((with_reducible refine' ⟨seqK_ref ?e, ?_⟩); (case e => walk_at "h"))
  | with_reducible refine t_lr ?_
  | ((with_reducible refine' v_ix_ktp ?f ?_); (case f => first | assumption | exact rfl))
  | ((with_reducible refine t_gTk ?s ?_); (case s => first | assumption | exact rfl))
  | ((with_reducible refine v_len_str ?l ?_); (case l => walk_at "l"))
  | ((with_reducible refine' v_len_ref ?e ?_); (case e => walk_at "h"))
  | with_reducible refine v_int_int ?_
  | with_reducible refine v_int_bl ?_
  | with_reducible refine v_max ?_
  | with_reducible refine v_min ?_
  | with_reducible refine v_tuple_tup ?_
  | ((with_reducible refine' v_tuple_ref ?e ?_); (case e => walk_at "h"))
  | ((with_reducible refine' v_ix_ref ?e ?f ?_); (case e => walk_at "h"); (case f => first | assumption | exact rfl))
  | ((with_reducible refine' v_ix_tup ?f ?_); (case f => first | assumption | exact rfl))
  | ((with_reducible refine v_sl_str ?l ?_); (case l => walk_at "l"))
  | with_reducible refine v_sl_tup ?_
  | with_reducible refine v_seq_tup ?_
  | with_reducible refine v_seq_str ?_
  | with_reducible refine v_seq_rol ?_
  | ((with_reducible refine' v_seq_ref ?e ?_); (case e => walk_at "h"))
  | ((with_reducible refine' ⟨v_ty_ref ?e, ?_⟩); (case e => walk_at "h")))
local macro_rules | `(tactic| walk_at "d1") => `(tactic| first | with_reducible refine t_seq ?_ | walk_at "e1")
local macro_rules | `(tactic| walk_at "d") => `(tactic| repeat walk_at "d1")
-- one statement
local macro_rules | `(tactic| walk_at "e") => `(tactic| ((repeat walk_at "e1"); try (with_reducible show sSeq _ _ _ _ _)))
local macro_rules | `(tactic| walk_at "s") => `(tactic| ((with_reducible refine t_seq ?_); walk_at "e"))
-- a drawn thing's small facts
local macro_rules | `(tactic| walk_at "gi") => `(tactic| first
  | exact gi_c trivial
  | exact gi_c ⟨_, rfl, by decide, by decide⟩
  | exact gi_c (show _ ≤ _ by decide)
  | exact gi_c (show _ ≤ _ by decide +kernel)
  | exact gi_v rfl trivial)
local macro_rules | `(tactic| walk_at "ga") => `(tactic| ((repeat (first | exact ga_nil | refine ga_cons2 ?_ ?_)); all_goals (try walk_at "gi")))
abbrev Sts := List (Option LX.Sd)
def machD (sts : Sts) : D := .tup (sts.map LX.stD)
/-- a standing of a machine of n -/
structure StOk (n : Nat) (s : LX.Sd) : Prop where
  kind : s.kind = "say" ∨ s.kind = "hear"
  ne : s.ms ≠ []
  len : s.ms.length ≤ 9
  ms : ∀ m ∈ s.ms, (0 ≤ m.g ∧ m.g < n) ∧ m.sp ∧ LX.SmS m.z
  who : LX.SmS s.who
structure MaOk (n : Nat) (sts : Sts) : Prop where
  len : sts.length = n
  pos : 0 < n
  le : n ≤ 5000
  st : ∀ s, some s ∈ sts → StOk n s
theorem mo_d (m : LX.Mo) : LX.Mo.d m = .tup [.str m.z, .int m.l, .int m.h, .int m.g] := rfl
theorem st_some (s : LX.Sd) : LX.stD (some s) = .tup [.str s.kind, .str s.who, .tup (s.ms.map LX.Mo.d)] := rfl
theorem st_none : LX.stD none = .tup [.str "end"] := rfl
theorem kind_end {s : Str} (h : s = "say" ∨ s = "hear") : (s == "end") = false := by
  rcases h with rfl | rfl <;> decide +kernel
theorem MaOk.of {ps zs : List Str} {n : Nat} {sts : Sts} (h : LX.MachOk ps zs n sts) (hl : sts.length = n) (h0 : 0 < n) (h1 : n ≤ 5000) (hp : ∀ z ∈ ps, LX.SmS z) (hz : ∀ z ∈ zs, LX.SmS z) : MaOk n sts :=
  ⟨hl, h0, h1, fun s hs => let o := h _ hs s rfl; ⟨o.kind, o.ne, by have := o.len; omega, fun m hm => ⟨(o.ms m hm).2.1, (o.ms m hm).2.2, hz _ (o.ms m hm).1⟩, hp _ o.who⟩⟩
theorem MaOk.at {n : Nat} {sts : Sts} (h : MaOk n sts) {a : Int} (h0 : 0 ≤ a) (h1 : a < n) : ∃ o, sts[a.toNat]? = some o ∧ o ∈ sts ∧ atI (sts.map LX.stD) a = some (LX.stD o) := by
  have l : a.toNat < sts.length := by have := h.len; omega
  have e := List.getElem?_eq_getElem l
  exact ⟨_, e, List.getElem_mem l, atI_get? h0 (by rw [List.getElem?_map, e]; rfl)⟩
/-! ### data that == takes -/
def OkN (k : Nat) (d : D) : Prop := (pd d).canLay0 = true ∧ (pd d).depth ≤ k
theorem OkN.ok {k : Nat} {d : D} (h : OkN k d) (hk : k ≤ 64) : okD d = true := by
  unfold okD SeqAt.shaped
  rw [h.1, decide_eq_true (Nat.le_trans h.2 hk)]; rfl
theorem OkN.mono {k m : Nat} {d : D} (h : OkN k d) (hk : k ≤ m) : OkN m d := ⟨h.1, Nat.le_trans h.2 hk⟩
theorem okn_int {k : Nat} (i : Int) : OkN k (.int i) := ⟨rfl, Nat.zero_le _⟩
theorem okn_str {k : Nat} {z : Str} (h : LX.SmS z) : OkN k (.str z) := ⟨by
  show PyData.strOk z = true
  rw [← st_lit z]
  exact strOk_small fun c hc => h c hc, Nat.zero_le _⟩
theorem okn_all {k : Nat} : ∀ {ds : List D}, (∀ d ∈ ds, OkN k d) → PyData.canLayAll0 (pds ds) = true ∧ PyData.depthAll (pds ds) ≤ k + 1
  | [], _ => by simp [pds, PyData.canLayAll0, PyData.depthAll]
  | d :: r, h => by
    obtain ⟨i1, i2⟩ := okn_all (ds := r) fun x hx => h x (List.mem_cons_of_mem _ hx)
    obtain ⟨h1, h2⟩ := h d List.mem_cons_self
    simp only [pds, PyData.canLayAll0, PyData.depthAll, h1, i1, Bool.true_and, true_and]
    omega
theorem okn_tup {k : Nat} {ds : List D} (h : ∀ d ∈ ds, OkN k d) : OkN (k + 2) (.tup ds) := by
  obtain ⟨h1, h2⟩ := okn_all h
  refine ⟨by show PyData.canLayAll0 (pds ds) = true; exact h1, ?_⟩
  have : (pd (.tup ds)).depth ≤ PyData.depthAll (pds ds) + 1 := by simp only [pd, PyData.depth]; omega
  omega
theorem okn_ktp {k : Nat} {ds : List D} (h : ∀ d ∈ ds, OkN k d) : OkN (k + 2) (.ktp ds) := okn_tup h
theorem okn_nil {k : Nat} : ∀ d ∈ ([] : List D), OkN k d := by simp
theorem okn_cons {k : Nat} {x : D} {ds : List D} (h : OkN k x) (t : ∀ d ∈ ds, OkN k d) : ∀ d ∈ x :: ds, OkN k d := fun d hd => by
  rcases List.mem_cons.mp hd with rfl | hd
  · exact h
  · exact t d hd
theorem okn_map {k : Nat} {α : Type} {f : α → D} {zs : List α} (h : ∀ z ∈ zs, OkN k (f z)) : ∀ d ∈ zs.map f, OkN k d := fun d hd => by
  obtain ⟨z, hz, rfl⟩ := List.mem_map.mp hd
  exact h z hz
theorem sm_lit {z : Str} (h : z.cps.toList.all (fun c => decide (c < 128)) = true) : LX.SmS z := fun c hc => of_decide_eq_true (List.all_eq_true.mp h c hc)
theorem okn_st {n : Nat} {sts : Sts} (h : MaOk n sts) {o : Option LX.Sd} (ho : o ∈ sts) : OkN 8 (LX.stD o) := by
  cases o with
  | none => exact (okn_tup (k := 0) (okn_cons (okn_str (sm_lit (by decide +kernel))) okn_nil)).mono (by decide)
  | some s =>
    have q := h.st s ho
    refine (okn_tup (k := 4) (okn_cons (okn_str ?_) (okn_cons (okn_str q.who) (okn_cons (okn_tup (k := 2) (okn_map fun m hm => (okn_tup (k := 0) (okn_cons (okn_str (q.ms m hm).2.2) (okn_cons (okn_int _) (okn_cons (okn_int _) (okn_cons (okn_int _) okn_nil))))))) okn_nil)))).mono (by decide)
    rcases q.kind with e | e <;> (rw [e]; exact sm_lit (by decide +kernel))
theorem okn_mach {n : Nat} {sts : Sts} (h : MaOk n sts) : OkN 10 (machD sts) := okn_tup (okn_map fun _ ho => okn_st h ho)
/-! ### the moves of a standing; where one can come to -/
def msOf : Option LX.Sd → List LX.Mo
  | some s => s.ms
  | none => []
def Edge (sts : Sts) (a b : Int) : Prop := 0 ≤ a ∧ ∃ s, sts[a.toNat]? = some (some s) ∧ ∃ m ∈ s.ms, m.g = b
theorem edge_rng {n : Nat} {sts : Sts} (h : MaOk n sts) {a b : Int} (e : Edge sts a b) : 0 ≤ b ∧ b < n := by
  obtain ⟨_, s, hs, m, hm, rfl⟩ := e
  exact ((h.st s (List.mem_of_getElem? hs)).ms m hm).1
theorem edge_src {n : Nat} {sts : Sts} (h : MaOk n sts) {a b : Int} (e : Edge sts a b) : 0 ≤ a ∧ a < n := by
  obtain ⟨h0, s, hs, _⟩ := e
  have := (List.getElem?_eq_some_iff.mp hs).1
  have := h.len
  exact ⟨h0, by omega⟩
theorem edge_iff {sts : Sts} {a b : Int} {o : Option LX.Sd} (h0 : 0 ≤ a) (h : sts[a.toNat]? = some o) : Edge sts a b ↔ ∃ m ∈ msOf o, m.g = b := by
  constructor
  · rintro ⟨_, s, hs, m⟩
    rw [h] at hs
    cases hs
    exact m
  · intro hm
    cases o with
    | none => obtain ⟨m, hm, _⟩ := hm; cases hm
    | some s => exact ⟨h0, s, h, hm⟩
theorem ms_len {n : Nat} {sts : Sts} (h : MaOk n sts) {o : Option LX.Sd} (ho : o ∈ sts) : (msOf o).length ≤ 9 := by
  cases o with
  | none => exact Nat.zero_le _
  | some s => exact (h.st s ho).len
def sp_moves_of : DSp := fun ds M P => ∃ (o : Option LX.Sd), ds = [LX.stD o] ∧ (∀ s, o = some s → s.kind = "say" ∨ s.kind = "hear") ∧ P (.tup ((msOf o).map LX.Mo.d)) M
theorem ok_moves_of (ds : List D) (M : Mh) (P : PQ) (h : sp_moves_of ds M P) : b_moves_of { nx := fun _ M' => P .non M', rt := P } (startD 1 ds) M := by
  obtain ⟨o, rfl, ho, k⟩ := h
  unfold b_moves_of
  cases o with
  | none =>
    rw [st_none]
    walk_at "d"
    refine t_if1 (by decide +kernel) ?_
    walk_at "d"
    exact k
  | some s =>
    rw [st_some]
    walk_at "d"
    refine t_if0 (kind_end (ho s rfl)) ?_
    walk_at "d"
    exact k
def sp_standings_from : DSp := fun ds M P => ∃ (Js : List Addr) (L : List (Addr × MO)) (n : Nat) (sts : Sts) (a : Int), ds = [machD sts, .int a] ∧ Held M Js L ∧ MaOk n sts ∧ 0 ≤ a ∧ a < n ∧
  ∀ (p : Addr) (fs : List Int) M', (∀ b, b ∈ fs ↔ Reach (Edge sts) a b) → (∀ b ∈ fs, 0 ≤ b ∧ b < n) → fs.Nodup → fs.length ≤ n → Held M' Js ((p, .lst (fs.map D.int)) :: L) → P (.ref p) M'
theorem ok_standings_from (ds : List D) (M : Mh) (P : PQ) (h : sp_standings_from ds M P) : b_standings_from sp_moves_of { nx := fun _ M' => P .non M', rt := P } (startD 6 ds) M := by
  obtain ⟨Js, L, n, sts, a, rfl, H, hm, h0, h1, k⟩ := h
  have hml := hm.le
  unfold b_standings_from machD
  walk_at "s"
  refine h_new H (Nat.le_of_ble_eq_true rfl) fun p M H => ?_
  walk_at "e"
  refine t_seq (t_asg (t_d1H H fun q M H => ?_))
  walk_at "e"
  refine h_newD H rfl fun M H => ?_
  walk_at "e"
  walk_at "s"
  refine t_seq ?_
  refine while_each (fun m ρ M => ∃ (i : Nat) (fs : List Int) (kvs : List (Key × D)) (w5 : Option D), ρ = [some (.tup (sts.map LX.stD)), some (.int a), some (.ref p), some (.ref q), some (.int i), w5] ∧ kvs.map (·.1) = fs.map Sum.inl ∧ Bfs (Edge sts) n a i fs ∧ m + i = n ∧ Held M Js ((q, .dk kvs) :: (p, .lst (fs.map D.int)) :: L)) n
    ⟨0, [a], _, _, rfl, rfl, Bfs.start h0 h1, rfl, H⟩ (fun N m ρ M hI hN => ?_)
  obtain ⟨i, fs, kvs, w5, rfl, hk, B, mi, H⟩ := hI
  have hl := B.len
  have fl : (fs.map D.int).length = fs.length := List.length_map ..
  walk_at "e"
  rw [fl]
  refine t_ite (fun e => ?_) (fun e => ?_)
  · have e : i < fs.length := by have := of_decide_eq_true e; omega
    have hb := List.getElem?_eq_getElem e
    generalize fs[i] = b at hb
    have bm := List.mem_of_getElem? hb
    obtain ⟨b0, b1⟩ := B.rng b bm
    have eb := atI_ints hb
    obtain ⟨o, e1, ho, e2⟩ := hm.at b0 b1
    walk_at "e"
    walk_at "s"
    refine ⟨rfl, o, rfl, fun s e => (hm.st s (e ▸ ho)).kind, ?_⟩
    have ml := ms_len hm ho
    walk_at "e"
    refine for_each (fun j ρ M => ∃ (fs : List Int) (kvs : List (Key × D)) (w5 : Option D), ρ = [some (.tup (sts.map LX.stD)), some (.int a), some (.ref p), some (.ref q), some (.int i), w5] ∧ kvs.map (·.1) = fs.map Sum.inl ∧ Bfs (Edge sts) n a i fs ∧ fs[i]? = some b ∧ (∀ m ∈ (msOf o).take j, m.g ∈ fs) ∧ Held M Js ((q, .dk kvs) :: (p, .lst (fs.map D.int)) :: L))
      ⟨fs, kvs, _, rfl, hk, B, hb, by simp, H⟩ (fun N2 j d ρ M hd hI hN2 => ?_) (fun ρ M hI => ?_)
    · obtain ⟨fs, kvs, w5, rfl, hk, B, hb, hj, H⟩ := hI
      rw [List.getElem?_map] at hd
      obtain ⟨mv, hmv, rfl⟩ := Option.map_eq_some_iff.mp hd
      have hl := B.len
      have fl : (fs.map D.int).length = fs.length := List.length_map ..
      have kl : kvs.length ≤ 5000 := by
        have := congrArg List.length hk
        rw [List.length_map, List.length_map] at this
        omega
      have ed : Edge sts b mv.g := (edge_iff b0 e1).mpr ⟨mv, List.mem_of_getElem? hmv, rfl⟩
      obtain ⟨g0, g1⟩ := edge_rng hm ed
      refine ⟨trivial, ?_⟩
      rw [mo_d]
      walk_at "e"
      walk_at "s"
      refine h_nin H (by walk_at "m") rfl ?_
      rw [key_mem hk]
      refine t_ite (fun c => ?_) (fun c => ?_)
      · have c : mv.g ∉ fs := by simpa using c
        walk_at "d"
        refine h_dput 0 H rfl rfl (by omega) fun M H => ?_
        have H : Held M Js ((q, .dk (putD kvs (Sum.inl mv.g) (.bl true))) :: (p, .lst (fs.map D.int)) :: L) := H
        walk_at "d"
        refine h_appI 1 H rfl (by omega) fun M H => ?_
        refine hN2 _ _ ⟨fs ++ [mv.g], _, _, rfl, keys_put _ hk c, B.add (List.mem_of_getElem? hb) ed c g0 g1, by rw [List.getElem?_append_left (List.getElem?_eq_some_iff.mp hb).1]; exact hb, fun m hm => ?_, by rw [List.map_append]; exact H⟩
        rw [LX.take_snoc hmv] at hm
        rcases List.mem_append.mp hm with hm | hm
        · exact List.mem_append_left _ (hj m hm)
        · rw [List.mem_singleton.mp hm]; simp
      · have c : mv.g ∈ fs := by simpa using c
        walk_at "d"
        refine hN2 _ _ ⟨fs, kvs, _, rfl, hk, B, hb, fun m hm => ?_, H⟩
        rw [LX.take_snoc hmv] at hm
        rcases List.mem_append.mp hm with hm | hm
        · exact hj m hm
        · rw [List.mem_singleton.mp hm]; exact c
    · obtain ⟨fs, kvs, w5, rfl, hk, B, hb, hj, H⟩ := hI
      rw [List.length_map, List.take_length] at hj
      refine ⟨trivial, ?_⟩
      walk_at "d"
      have hl := B.len
      have hi := (List.getElem?_eq_some_iff.mp hb).1
      refine hN (m - 1) _ _ (by omega) ⟨i + 1, fs, kvs, _, rfl, hk, B.next hb fun c ec => ?_, by omega, H⟩
      obtain ⟨m, hm, rfl⟩ := (edge_iff b0 e1).mp ec
      exact hj m hm
  · have e : fs.length ≤ i := by have := of_decide_eq_false e; omega
    walk_at "d"
    exact k p fs _ (B.done e) B.rng B.nd hl H.tail
end MX
/-! MXq: machines copied, put in another order; rooms. -/
namespace MX
open PySem DL L2 GR K22
-- where it stands in the row of things held
local macro_rules | `(tactic| walk_at "m") => `(tactic| first
  | assumption
  | exact List.mem_cons_self
  | (refine List.mem_cons_of_mem _ ?_; walk_at "m"))
-- what the heap holds at a place
local macro_rules | `(tactic| walk_at "h") => `(tactic| first
  | assumption
  | exact mup_same
  | exact Held.get (by assumption) (by walk_at "m")
  | (refine (mup_ne ?_).trans ?_ <;> first | assumption | (apply Ne.symm; assumption) | walk_at "h"))
-- small facts of numbers
local macro_rules | `(tactic| walk_at "n") => `(tactic| first
  | assumption
  | omega
  | decide
  | (exact CMul.r (by decide))
  | (exact CMul.l (by decide))
  | (refine ⟨?_, ?_⟩ <;> first | assumption | omega | decide))
-- lengths
local macro_rules | `(tactic| walk_at "l") => `(tactic| first
  | assumption
  | (rw [sizeLine_eq]; first | omega | decide | (simp; done) | (simp; omega) | decide +kernel))
-- one step
local macro_rules | `(tactic| walk_at "e1") => `(tactic| first
  | with_reducible refine t_nil ?_
  | ((with_reducible refine' t_var ?s ?_); (case s => first | exact rfl | assumption))
  | with_reducible refine t_c ?_
  | with_reducible refine t_bin ?_
  | with_reducible refine t_if ?_
  | with_reducible refine t_asg ?_
  | ((with_reducible refine' t_gN' ?e ?_); (case e => ((try simp only [List.set_cons_zero, List.set_cons_succ, startD, List.map_cons, List.map_nil, List.length_cons, List.length_nil, Nat.reduceAdd, Nat.reduceSub, List.replicate, List.cons_append, List.nil_append]); exact rfl)))
  | with_reducible refine t_ret ?_
  | with_reducible refine t_exp ?_
  | with_reducible refine t_bcmp ?_
  | with_reducible refine t_band ?_
  | with_reducible refine t_bor ?_
  | with_reducible refine t_bnot ?_
  | with_reducible refine t_btru ?_
  | with_reducible refine t_byes ?_
  | with_reducible refine t_an ?_
  | with_reducible refine t_ac ?_
  | with_reducible refine t_fn ?_
  | with_reducible refine t_call ?_
  | with_reducible refine t_cmp ?_
  | with_reducible refine t_and ?_
  | with_reducible refine t_or ?_
  | with_reducible refine t_not ?_
  | with_reducible refine t_ife ?_
  | with_reducible refine t_tupN ?_
  | ((with_reducible refine v_newT ?l ?_); (case l => exact Nat.le_of_ble_eq_true rfl))
  | with_reducible refine t_lstN ?_
  | with_reducible refine t_isi ?_
  | with_reducible refine t_sl ?_
  | with_reducible refine t_o0 ?_
  | with_reducible refine t_o1 ?_
  | with_reducible refine t_un ?_
  | with_reducible refine t_mt ?_
  | with_reducible refine t_gS ?_
  | with_reducible refine t_gsC ?_
  | with_reducible refine t_gsN ?_
  | ((with_reducible refine t_gT ?s ?_); (case s => first | assumption | exact rfl))
  | with_reducible refine t_retN ?_
  | with_reducible refine t_brk ?_
  | with_reducible refine t_cnt ?_
  | ((with_reducible refine' t_aug ?s ?_); (case s => first | exact rfl | assumption))
  | with_reducible refine t_for ?_
  | with_reducible refine t_seqi ?_
  | with_reducible refine t_rg1 ?_
  | with_reducible refine t_rg2 ?_
  | with_reducible refine t_lc ?_
  | with_reducible refine v_tru_bl ?_
  | with_reducible refine v_tru_int ?_
  | with_reducible refine v_tru_non ?_
  | with_reducible refine v_tru_tup ?_
  | with_reducible refine v_add_int ?_
  | ((with_reducible refine v_add_str ?l ?_); (case l => walk_at "l"))
  | ((with_reducible refine v_add_tup ?l ?_); (case l => walk_at "l"))
  | with_reducible refine v_iadd_int ?_
  | with_reducible refine v_sub ?_
  | ((with_reducible refine v_mul ?c ?_); (case c => walk_at "n"))
  | ((with_reducible refine v_div ?c ?_); (case c => walk_at "n"))
  | ((with_reducible refine v_mod ?c ?_); (case c => walk_at "n"))
  | ((with_reducible refine v_pow ?c ?_); (case c => exact ⟨by decide, by decide, by decide⟩))
  | with_reducible refine v_neg ?_
  | with_reducible exact trivial
  | with_reducible refine v_eq_int ?_
  | with_reducible refine v_eq_str ?_
  | with_reducible refine v_eq_bl ?_
  | with_reducible refine v_ne_int ?_
  | with_reducible refine v_ne_str ?_
  | with_reducible refine v_ne_bl ?_
  | with_reducible refine v_lt ?_
  | with_reducible refine v_lt_str ?_
  | with_reducible refine t_ks ?_
  | with_reducible refine t_rv ?_
  | with_reducible refine v_seq_ktp ?_
  | with_reducible refine v_le ?_
  | with_reducible refine v_gt ?_
  | with_reducible refine v_ge ?_
  | with_reducible refine v_isi_non ?_
  | with_reducible refine v_isi_bl ?_
  | with_reducible refine v_isi_int ?_
  | with_reducible refine v_isi_str ?_
  | with_reducible refine v_isi_tup ?_
  | with_reducible refine v_in_str ?_
  | with_reducible refine v_nin_str ?_
  | with_reducible refine v_len_tup ?_
  | with_reducible refine v_len_rol ?_
  | with_reducible refine v_len_ktp ?_
  | with_reducible refine v_tru_ktp ?_
  | with_reducible refine v_isi_ktp ?_
  | with_reducible refine v_tuple_ktp ?_
  | with_reducible refine t_zip ?_
  | with_reducible refine v_zip_tt ?_
  | with_reducible refine v_zip_tk ?_
  | with_reducible refine v_zip_kt ?_
  | with_reducible refine v_zip_kk ?_
  | ((with_reducible refine' v_zip_ll ?e ?f ?_); (case e => walk_at "h"); (case f => walk_at "h"))
  | with_reducible refine t_ix ?_
  | ((with_reducible refine' ⟨seqK_ref ?e, ?_⟩); (case e => walk_at "h"))
  | with_reducible refine t_lr ?_
  | ((with_reducible refine' v_ix_ktp ?f ?_); (case f => first | assumption | exact rfl))
  | ((with_reducible refine t_gTk ?s ?_); (case s => first | assumption | exact rfl))
  | ((with_reducible refine v_len_str ?l ?_); (case l => walk_at "l"))
  | ((with_reducible refine' v_len_ref ?e ?_); (case e => walk_at "h"))
  | with_reducible refine v_int_int ?_
  | with_reducible refine v_int_bl ?_
  | with_reducible refine v_max ?_
  | with_reducible refine v_min ?_
  | with_reducible refine v_tuple_tup ?_
  | ((with_reducible refine' v_tuple_ref ?e ?_); (case e => walk_at "h"))
  | ((with_reducible refine' v_ix_ref ?e ?f ?_); (case e => walk_at "h"); (case f => first | assumption | exact rfl))
  | ((with_reducible refine' v_ix_tup ?f ?_); (case f => first | assumption | exact rfl))
  | ((with_reducible refine v_sl_str ?l ?_); (case l => walk_at "l"))
  | with_reducible refine v_sl_tup ?_
  | with_reducible refine v_seq_tup ?_
  | with_reducible refine v_seq_str ?_
  | with_reducible refine v_seq_rol ?_
  | ((with_reducible refine' v_seq_ref ?e ?_); (case e => walk_at "h"))
  | ((with_reducible refine' ⟨v_ty_ref ?e, ?_⟩); (case e => walk_at "h")))
local macro_rules | `(tactic| walk_at "d1") => `(tactic| first | with_reducible refine t_seq ?_ | walk_at "e1")
local macro_rules | `(tactic| walk_at "d") => `(tactic| repeat walk_at "d1")
-- one statement
local macro_rules | `(tactic| walk_at "e") => `(tactic| ((repeat walk_at "e1"); try (with_reducible show sSeq _ _ _ _ _)))
local macro_rules | `(tactic| walk_at "s") => `(tactic| ((with_reducible refine t_seq ?_); walk_at "e"))
-- a drawn thing's small facts
local macro_rules | `(tactic| walk_at "gi") => `(tactic| first
  | exact gi_c trivial
  | exact gi_c ⟨_, rfl, by decide, by decide⟩
  | exact gi_c (show _ ≤ _ by decide)
  | exact gi_c (show _ ≤ _ by decide +kernel)
  | exact gi_v rfl trivial)
local macro_rules | `(tactic| walk_at "ga") => `(tactic| ((repeat (first | exact ga_nil | refine ga_cons2 ?_ ?_)); all_goals (try walk_at "gi")))
theorem h_machine {M : Mh} {Js : List Addr} {L : List (Addr × MO)} {j pa lb : Addr} {ps zs : List Str} {n : Nat} {Q : PQ} (H : Held M Js L) (hj : j ∈ Js) (m1 : (pa, .lst (ps.map D.str)) ∈ L) (m2 : (lb, .lst (zs.map D.str)) ∈ L) (p0 : 0 < ps.length) (p1 : ps.length ≤ 1000) (z0 : 0 < zs.length) (z1 : zs.length ≤ 1000) (n0 : 1 ≤ n) (n1 : n ≤ 1000)
    (sp : ∀ z ∈ ps, LX.SmS z) (sz : ∀ z ∈ zs, LX.SmS z) (k : ∀ (sts : Sts) M', MaOk n sts → (∀ s, some s ∈ sts → s.who ∈ ps) → Held M' Js L → Q (machD sts) M') :
    [D.ref j, .ref pa, .ref lb, .int n].length = 4 ∧ LX.sp_machine [.ref j, .ref pa, .ref lb, .int n] M Q :=
  ⟨rfl, j, pa, lb, ps, zs, n, rfl, H.get m1, H.get m2, H.ne hj m1, H.ne hj m2, p0, p1, z0, z1, n0, n1, H.jar j hj, fun sts M' l h m jk => k sts M' (.of h l (by omega) (by omega) sp sz) (fun s hs => (h _ hs s rfl).who) (H.keep hj m jk)⟩
def sp_copies : DSp := fun ds M P => ∃ (Js : List Addr) (L : List (Addr × MO)) (j : Addr) (n c : Nat) (sts : Sts), ds = [.ref j, machD sts, .int c] ∧ Held M Js L ∧ j ∈ Js ∧ MaOk n sts ∧ 1 ≤ c ∧ n * c ≤ 5000 ∧
  ∀ (sts' : Sts) M', MaOk (n * c) sts' → (∀ s', some s' ∈ sts' → ∃ s, some s ∈ sts ∧ s'.who = s.who ∧ s'.kind = s.kind) → Held M' Js L → P (machD sts') M'
theorem ok_copies (ds : List D) (M : Mh) (P : PQ) (h : sp_copies ds M P) : b_copies sp_pick { nx := fun _ M' => P .non M', rt := P } (startD 9 ds) M := by
  obtain ⟨Js, L, j, n, c, sts, rfl, H, hj, hm, c0, c1, k⟩ := h
  have hml := hm.le
  have hpos := hm.pos
  have sl : (sts.map LX.stD).length = n := by rw [List.length_map]; exact hm.len
  have cn : c ≤ n * c := Nat.le_mul_of_pos_left c hpos
  have nc : (n : Int) * (c : Int) = ((n * c : Nat) : Int) := by rw [Int.natCast_mul]
  unfold b_copies machD
  walk_at "s"
  rw [sl]
  walk_at "s"
  refine h_new H (Nat.le_of_ble_eq_true rfl) fun p M H => ?_
  walk_at "e"
  refine t_seq (t_for (t_rg1 (t_ac (t_bin (t_var rfl (t_var rfl (v_mul (DL.CMul.l (by omega)) (t_an ?_))))))))
  rw [nc]
  refine ⟨by omega, ?_⟩
  refine for_each (fun i ρ M => ∃ (rs : Sts) (w5 w6 w7 w8 : Option D), ρ = [some (.ref j), some (.tup (sts.map LX.stD)), some (.int c), some (.int n), some (.ref p), w5, w6, w7, w8] ∧ rs.length = i ∧ (∀ s, some s ∈ rs → StOk (n * c) s) ∧ (∀ s', some s' ∈ rs → ∃ s, some s ∈ sts ∧ s'.who = s.who ∧ s'.kind = s.kind) ∧ Held M Js ((p, .lst (rs.map LX.stD)) :: L))
    ⟨[], _, _, _, _, rfl, rfl, by simp, by simp, H⟩ (fun N i d ρ M hd hI hN => ?_) (fun ρ M hI => ?_)
  · obtain ⟨rs, w5, w6, w7, w8, rfl, rl, hr, hw, H⟩ := hI
    obtain ⟨rfl, hi⟩ := LX.rget hd
    have a0 : 0 ≤ (0 + (i : Int)) % (n : Int) := Int.emod_nonneg _ (by omega)
    have a1 : (0 + (i : Int)) % (n : Int) < n := Int.emod_lt_of_pos _ (by omega)
    obtain ⟨o, _, ho, eo⟩ := hm.at a0 a1
    have out : ∀ (o' : Option LX.Sd) (M : Mh) (w5 w6 w7 w8 : Option D), (∀ s, o' = some s → StOk (n * c) s ∧ ∃ s0, some s0 ∈ sts ∧ s.who = s0.who ∧ s.kind = s0.kind) → Held M Js ((p, .lst (rs.map LX.stD)) :: L) → appendD (.ref p) [LX.stD o'] M fun _ M1 => N [some (.ref j), some (.tup (sts.map LX.stD)), some (.int c), some (.int n), some (.ref p), w5, w6, w7, w8] M1 := fun o' M w5 w6 w7 w8 h H => by
      refine h_app H (by rw [List.length_map]; omega) fun M H => hN _ _ ⟨rs ++ [o'], _, _, _, _, rfl, by rw [List.length_append, rl]; rfl, fun s hs => ?_, fun s hs => ?_, by rw [List.map_append]; exact H⟩
      · rcases List.mem_append.mp hs with hs | hs
        · exact hr s hs
        · exact (h s (List.mem_singleton.mp hs).symm).1
      · rcases List.mem_append.mp hs with hs | hs
        · exact hw s hs
        · exact (h s (List.mem_singleton.mp hs).symm).2
    refine ⟨trivial, ?_⟩
    walk_at "e"
    walk_at "s"
    cases o with
    | none =>
      rw [st_none]
      walk_at "s"
      refine t_if1 (by decide +kernel) ?_
      walk_at "s"
      exact out none M _ _ _ _ (fun s e => by cases e) H
    | some s =>
      have q := hm.st s ho
      have ql := q.len
      rw [st_some]
      walk_at "s"
      refine t_if0 (kind_end q.kind) ?_
      walk_at "e"
      walk_at "s"
      refine h_new H (Nat.le_of_ble_eq_true rfl) fun u M H => ?_
      walk_at "e"
      walk_at "s"
      refine for_each (fun i' ρ M => ∃ (ts : List LX.Mo) (w8 : Option D), ρ = [some (.ref j), some (.tup (sts.map LX.stD)), some (.int c), some (.int n), some (.ref p), some (.int (0 + (i : Int))), some (.tup [.str s.kind, .str s.who, .tup (s.ms.map LX.Mo.d)]), some (.ref u), w8] ∧ ts.length = i' ∧ (∀ m ∈ ts, (0 ≤ m.g ∧ m.g < ((n * c : Nat) : Int)) ∧ m.sp ∧ LX.SmS m.z) ∧ Held M Js ((u, .lst (ts.map LX.Mo.d)) :: (p, .lst (rs.map LX.stD)) :: L))
        ⟨[], _, rfl, rfl, by simp, H⟩ (fun N2 i' d ρ M hd hI hN2 => ?_) (fun ρ M hI => ?_)
      · obtain ⟨ts, w8, rfl, tl, ht, H⟩ := hI
        have il := (List.getElem?_eq_some_iff.mp hd).1
        rw [List.length_map] at il
        rw [List.getElem?_map] at hd
        obtain ⟨m, hm', rfl⟩ := Option.map_eq_some_iff.mp hd
        obtain ⟨⟨g0, g1⟩, sp, sm⟩ := q.ms m (List.mem_of_getElem? hm')
        refine ⟨trivial, ?_⟩
        rw [mo_d]
        walk_at "e"
        walk_at "s"
        refine h_pick H hj (by omega) fun b M b0 b1 H => ?_
        refine v_mul (DL.CMul.l (by omega)) ?_
        walk_at "e"
        refine h_app H (by rw [List.length_map]; omega) fun M H => hN2 _ _ ⟨ts ++ [⟨m.z, m.l, m.h, m.g + n * b⟩], _, rfl, by rw [List.length_append, tl]; rfl, fun x hx => ?_, by rw [List.map_append]; exact H⟩
        rcases List.mem_append.mp hx with hx | hx
        · exact ht x hx
        · rw [List.mem_singleton.mp hx]
          have h1 : 0 ≤ (n : Int) * b := Int.mul_nonneg (by omega) b0
          have h2 : (n : Int) * (b + 1) ≤ (n : Int) * c := Int.mul_le_mul_of_nonneg_left (by omega) (by omega)
          rw [Int.mul_add, Int.mul_one, nc] at h2
          exact ⟨⟨by show 0 ≤ m.g + n * b; omega, by show m.g + n * b < _; omega⟩, ⟨sp.l0, sp.lh, sp.h1⟩, sm⟩
      · obtain ⟨ts, w8, rfl, tl, ht, H⟩ := hI
        rw [List.length_map] at tl
        refine ⟨trivial, ?_⟩
        walk_at "e"
        walk_at "s"
        refine out (some ⟨s.kind, s.who, ts⟩) M _ _ _ _ (fun s' e => ?_) H.tail
        cases e
        exact ⟨⟨q.kind, fun e => q.ne (List.eq_nil_of_length_eq_zero (by rw [← tl, show ts = [] from e]; rfl)), by show ts.length ≤ 9; omega, ht, q.who⟩, s, ho, rfl, rfl⟩
  · obtain ⟨rs, w5, w6, w7, w8, rfl, rl, hr, hw, H⟩ := hI
    rw [LX.rlen, Int.toNat_natCast] at rl
    refine ⟨trivial, ?_⟩
    walk_at "e"
    walk_at "s"
    exact k rs _ ⟨rl, by rw [← rl]; omega, c1, hr⟩ hw H.tail
def sp_rooms : DSp := fun ds M P => ∃ (Js : List Addr) (L : List (Addr × MO)) (j : Addr) (n : Nat) (top : Int), ds = [.ref j, .int n, .int top] ∧ Held M Js L ∧ j ∈ Js ∧ n ≤ 1000 ∧ 0 ≤ top ∧ top ≤ 1000 ∧
  ∀ (rows : List (List Int)) M', rows.length = n → (∀ r ∈ rows, r.length = n ∧ ∀ x ∈ r, 0 ≤ x ∧ x ≤ top) → Held M' Js L → P (.tup (rows.map fun r => .tup (r.map D.int))) M'
theorem ok_rooms (ds : List D) (M : Mh) (P : PQ) (h : sp_rooms ds M P) : b_rooms sp_pick { nx := fun _ M' => P .non M', rt := P } (startD 6 ds) M := by
  obtain ⟨Js, L, j, n, top, rfl, H, hj, n1, t0, t1, k⟩ := h
  unfold b_rooms
  walk_at "s"
  refine h_new H (Nat.le_of_ble_eq_true rfl) fun p M H => ?_
  walk_at "e"
  walk_at "s"
  refine ⟨by omega, ?_⟩
  refine for_each (fun i ρ M => ∃ (rows : List (List Int)) (w4 : Option D), ρ = [some (.ref j), some (.int n), some (.int top), some (.ref p), w4, none] ∧ rows.length = i ∧ (∀ r ∈ rows, r.length = n ∧ ∀ x ∈ r, 0 ≤ x ∧ x ≤ top) ∧ Held M Js ((p, .lst (rows.map fun r => D.tup (r.map D.int))) :: L))
    ⟨[], _, rfl, rfl, by simp, H⟩ (fun N i d ρ M hd hI hN => ?_) (fun ρ M hI => ?_)
  · obtain ⟨rows, w4, rfl, rl, hr, H⟩ := hI
    obtain ⟨rfl, hi⟩ := LX.rget hd
    refine ⟨trivial, ?_⟩
    walk_at "e"
    walk_at "s"
    refine ⟨by omega, ?_⟩
    refine h_lc (fun i acc => ∃ r : List Int, acc = r.map D.int ∧ r.length = i ∧ ∀ x ∈ r, 0 ≤ x ∧ x ≤ top) H (by rw [LX.rlen]; omega) ⟨[], rfl, rfl, by simp⟩ (fun _ _ => trivial) (fun R i' d acc q M hd hI H kR => ?_) (fun q acc M hl hI H => ?_)
    · obtain ⟨r, rfl, rl', hx⟩ := hI
      obtain ⟨rfl, _⟩ := LX.rget hd
      have fin : ∀ (x : Int) M, 0 ≤ x → x ≤ top → Held M Js ((q, .lst (r.map D.int)) :: (p, .lst (rows.map fun r => D.tup (r.map D.int))) :: L) → R (.int x) M := fun x M x0 x1 H => by
        refine kR _ _ ⟨r ++ [x], by rw [List.map_append]; rfl, by rw [List.length_append, rl']; rfl, fun y hy => ?_⟩ H
        rcases List.mem_append.mp hy with hy | hy
        · exact hx y hy
        · rw [List.mem_singleton.mp hy]; exact ⟨x0, x1⟩
      refine ⟨_, rfl, ?_⟩
      walk_at "e"
      refine t_ite (fun e => ?_) (fun e => ?_)
      · walk_at "e"
        exact fin 0 M (by omega) (by omega) H
      · walk_at "e"
        refine h_pick H hj (by omega) fun b M b0 b1 H => ?_
        exact fin b M b0 (by omega) H
    · obtain ⟨r, rfl, rl', hx⟩ := hI
      rw [LX.rlen, Int.toNat_natCast] at rl'
      walk_at "e"
      refine h_appI 1 H rfl (by rw [List.length_map]; omega) fun M H => ?_
      have H := Held.tail H
      refine hN _ _ ⟨rows ++ [r], _, rfl, by rw [List.length_append, rl]; rfl, fun y hy => ?_, by rw [List.map_append]; exact H⟩
      rcases List.mem_append.mp hy with hy | hy
      · exact hr y hy
      · rw [List.mem_singleton.mp hy]; exact ⟨rl', hx⟩
  · obtain ⟨rows, w4, rfl, rl, hr, H⟩ := hI
    rw [LX.rlen, Int.toNat_natCast] at rl
    refine ⟨trivial, ?_⟩
    walk_at "e"
    walk_at "s"
    exact k rows _ rl hr H.tail
/-! ### another order -/
def Order (n : Nat) (os : List Int) : Prop := os.Perm ((List.range n).map fun k : Nat => (k : Int))
theorem Order.len {n : Nat} {os : List Int} (h : Order n os) : os.length = n := by rw [h.length_eq, List.length_map, List.length_range]
theorem Order.mem {n : Nat} {os : List Int} (h : Order n os) {x : Int} : x ∈ os ↔ 0 ≤ x ∧ x < n := by
  rw [h.mem_iff, List.mem_map]
  constructor
  · rintro ⟨k, hk, rfl⟩
    have := List.mem_range.mp hk
    omega
  · intro hx
    exact ⟨x.toNat, List.mem_range.mpr (by omega), by omega⟩
theorem Order.nd {n : Nat} {os : List Int} (h : Order n os) : os.Nodup := h.nodup_iff.mpr (List.Pairwise.map _ (fun a b (q : a ≠ b) => by omega) List.nodup_range)
theorem h_popAt {M : Mh} {Js : List Addr} {L : List (Addr × MO)} {p : Addr} {xs : List D} {d : D} {n : Nat} {Q : PQ} (i : Nat) (H : Held M Js L) (e : L[i]? = some (p, .lst xs)) (e2 : xs[n]? = some d) (hn : xs.length ≤ 100000) (k : ∀ M', Held M' Js (L.set i (p, .lst (xs.eraseIdx n))) → Q d M') : popD (.ref p) [.int (n : Int)] M Q := by
  have l := (List.getElem?_eq_some_iff.mp e2).1
  show (match M p with | some (.lst ds) => (-(2 ^ 63) ≤ (n : Int) ∧ (n : Int) < 2 ^ 63) ∧ (match seqIndex? (n : Int) ds.length with | some j => (match ds[j]? with | some d => Q d (mup M p (.lst (ds.eraseIdx j))) | none => False) | none => False) | _ => False)
  rw [H.get (List.mem_of_getElem? e)]
  refine ⟨by omega, ?_⟩
  have : seqIndex? (n : Int) xs.length = some n := by
    have := seqIndex_of (k := (n : Int)) (n := xs.length) (by omega) (by omega)
    rw [Int.toNat_natCast] at this
    exact this
  simp only [this, e2]
  exact k _ (H.putI e)
def sp_mixed : DSp := fun ds M P => ∃ (Js : List Addr) (L : List (Addr × MO)) (j : Addr) (n : Nat), ds = [.ref j, .int n] ∧ Held M Js L ∧ j ∈ Js ∧ n ≤ 5000 ∧
  ∀ p (os : List Int) M', Order n os → Held M' Js ((p, .lst (os.map D.int)) :: L) → P (.ref p) M'
theorem ok_mixed (ds : List D) (M : Mh) (P : PQ) (h : sp_mixed ds M P) : b_mixed sp_pick { nx := fun _ M' => P .non M', rt := P } (startD 5 ds) M := by
  obtain ⟨Js, L, j, n, rfl, H, hj, n1, k⟩ := h
  unfold b_mixed
  walk_at "s"
  refine h_lr (n := (n : Int)) H (by omega) (by omega) fun q M H => ?_
  have H : Held M Js ((q, .lst (((List.range n).map fun k : Nat => (k : Int)).map D.int)) :: L) := by
    have e : (rngI 0 (n : Int).toNat) = ((List.range n).map fun k : Nat => (k : Int)).map D.int := by
      unfold rngI
      rw [Int.toNat_natCast, List.map_map]
      exact List.map_congr_left fun k _ => by show D.int (0 + (k : Int)) = D.int (k : Int); rw [Int.zero_add]
    rw [← e]; exact H
  walk_at "e"
  walk_at "s"
  refine h_new H (Nat.le_of_ble_eq_true rfl) fun p M H => ?_
  walk_at "e"
  walk_at "s"
  refine ⟨by omega, ?_⟩
  refine for_each (fun i ρ M => ∃ (os ls : List Int) (w4 : Option D), ρ = [some (.ref j), some (.int n), some (.ref q), some (.ref p), w4] ∧ os.length = i ∧ Order n (os ++ ls) ∧ Held M Js ((p, .lst (os.map D.int)) :: (q, .lst (ls.map D.int)) :: L))
    ⟨[], _, _, rfl, rfl, List.Perm.refl _, H⟩ (fun N i d ρ M hd hI hN => ?_) (fun ρ M hI => ?_)
  · obtain ⟨os, ls, w4, rfl, ol, hO, H⟩ := hI
    obtain ⟨rfl, hi⟩ := LX.rget hd
    have len := hO.len
    rw [List.length_append] at len
    have ll : (ls.map D.int).length = ls.length := List.length_map ..
    refine ⟨trivial, ?_⟩
    walk_at "e"
    walk_at "s"
    rw [ll]
    refine h_pick H hj (by omega) fun b M b0 b1 H => ?_
    obtain ⟨bn, rfl⟩ := Int.eq_ofNat_of_zero_le b0
    have bl : bn < ls.length := by omega
    have eb := List.getElem?_eq_getElem bl
    generalize hx : ls[bn] = x at eb
    walk_at "e"
    refine h_popAt 1 H rfl (d := .int x) (by rw [List.getElem?_map, eb]; rfl) (by omega) fun M H => ?_
    have H : Held M Js ((p, .lst (os.map D.int)) :: (q, .lst ((ls.eraseIdx bn).map D.int)) :: L) := by
      have e : (ls.map D.int).eraseIdx bn = (ls.eraseIdx bn).map D.int := by
        rw [List.eraseIdx_eq_take_drop_succ, List.eraseIdx_eq_take_drop_succ, List.map_append, List.map_take, List.map_drop]
      rw [← e]; exact H
    walk_at "e"
    refine h_app H (by rw [List.length_map]; omega) fun M H => hN _ _ ⟨os ++ [x], ls.eraseIdx bn, _, rfl, by rw [List.length_append, ol]; rfl, ?_, by rw [List.map_append]; exact H⟩
    refine List.Perm.trans ?_ hO
    rw [List.append_assoc]
    refine List.Perm.append_left os ?_
    have e : ls = ls.take bn ++ x :: ls.drop (bn + 1) := by rw [← hx, List.getElem_cons_drop, List.take_append_drop]
    rw [List.eraseIdx_eq_take_drop_succ]
    conv => rhs; rw [e]
    show (x :: (List.take bn ls ++ List.drop (bn + 1) ls)).Perm _
    exact (List.perm_middle (a := x)).symm
  · obtain ⟨os, ls, w4, rfl, ol, hO, H⟩ := hI
    rw [LX.rlen, Int.toNat_natCast] at ol
    have len := hO.len
    rw [List.length_append] at len
    have : ls = [] := List.eq_nil_of_length_eq_zero (by omega)
    subst this
    rw [List.append_nil] at hO
    refine ⟨trivial, ?_⟩
    walk_at "e"
    walk_at "s"
    exact k p os _ hO H.tail2
theorem okd_ints (os : List Int) : okD (.tup (os.map D.int)) = true := (okn_tup (k := 0) (okn_map fun x _ => okn_int x)).ok (by decide)
def sp_ordered : DSp := fun ds M P => ∃ (Js : List Addr) (L : List (Addr × MO)) (n : Nat) (sts : Sts) (p : Addr) (os : List Int), ds = [machD sts, .ref p] ∧ Held M Js L ∧ (p, .lst (os.map D.int)) ∈ L ∧ MaOk n sts ∧ Order n os ∧
  ∀ (sts' : Sts) M', MaOk n sts' → (∀ s', some s' ∈ sts' → ∃ s, some s ∈ sts ∧ s'.who = s.who ∧ s'.kind = s.kind) → Held M' Js L → P (machD sts') M'
theorem ok_ordered (ds : List D) (M : Mh) (P : PQ) (h : sp_ordered ds M P) : b_ordered { nx := fun _ M' => P .non M', rt := P } (startD 7 ds) M := by
  obtain ⟨Js, L, n, sts, p, os, rfl, H, hp, hm, hO, k⟩ := h
  have hml := hm.le
  have ol := hO.len
  unfold b_ordered machD
  walk_at "s"
  refine h_new H (Nat.le_of_ble_eq_true rfl) fun f M H => ?_
  walk_at "e"
  walk_at "s"
  refine for_each (fun i ρ M => ∃ (rs : Sts) (w3 w4 w5 : Option D), ρ = [some (.tup (sts.map LX.stD)), some (.ref p), some (.ref f), w3, w4, w5, none] ∧ rs.length = i ∧ (∀ s, some s ∈ rs → StOk n s) ∧ (∀ s', some s' ∈ rs → ∃ s, some s ∈ sts ∧ s'.who = s.who ∧ s'.kind = s.kind) ∧ Held M Js ((f, .lst (rs.map LX.stD)) :: L))
    ⟨[], _, _, _, rfl, rfl, by simp, by simp, H⟩ (fun N i d ρ M hd hI hN => ?_) (fun ρ M hI => ?_)
  · obtain ⟨rs, w3, w4, w5, rfl, rl, hr, hw, H⟩ := hI
    have il := (List.getElem?_eq_some_iff.mp hd).1
    rw [List.length_map] at il
    rw [List.getElem?_map] at hd
    obtain ⟨a, ha, rfl⟩ := Option.map_eq_some_iff.mp hd
    obtain ⟨a0, a1⟩ := hO.mem.mp (List.mem_of_getElem? ha)
    obtain ⟨o, _, ho, eo⟩ := hm.at a0 a1
    have out : ∀ (o' : Option LX.Sd) (M : Mh) (w3 w4 w5 : Option D), (∀ s, o' = some s → StOk n s ∧ ∃ s0, some s0 ∈ sts ∧ s.who = s0.who ∧ s.kind = s0.kind) → Held M Js ((f, .lst (rs.map LX.stD)) :: L) → appendD (.ref f) [LX.stD o'] M fun _ M1 => N [some (.tup (sts.map LX.stD)), some (.ref p), some (.ref f), w3, w4, w5, none] M1 := fun o' M w3 w4 w5 h H => by
      refine h_app H (by rw [List.length_map]; omega) fun M H => hN _ _ ⟨rs ++ [o'], _, _, _, rfl, by rw [List.length_append, rl]; rfl, fun s hs => ?_, fun s hs => ?_, by rw [List.map_append]; exact H⟩
      · rcases List.mem_append.mp hs with hs | hs
        · exact hr s hs
        · exact (h s (List.mem_singleton.mp hs).symm).1
      · rcases List.mem_append.mp hs with hs | hs
        · exact hw s hs
        · exact (h s (List.mem_singleton.mp hs).symm).2
    refine ⟨H.get (by walk_at "m"), ?_⟩
    walk_at "e"
    walk_at "s"
    cases o with
    | none =>
      rw [st_none]
      walk_at "s"
      refine t_if1 (by decide +kernel) ?_
      walk_at "s"
      exact out none M _ _ _ (fun s e => by cases e) H
    | some s =>
      have q := hm.st s ho
      have ql := q.len
      rw [st_some]
      walk_at "s"
      refine t_if0 (kind_end q.kind) ?_
      walk_at "s"
      refine h_lc (fun i acc => ∃ ts : List LX.Mo, acc = ts.map LX.Mo.d ∧ ts.length = i ∧ ∀ m ∈ ts, (0 ≤ m.g ∧ m.g < (n : Int)) ∧ m.sp ∧ LX.SmS m.z) H (by rw [List.length_map]; omega) ⟨[], rfl, rfl, by simp⟩ (fun _ _ => trivial) (fun R i' d acc u M hd hI H kR => ?_) (fun u acc M hl hI H => ?_)
      · obtain ⟨ts, rfl, tl, ht⟩ := hI
        rw [List.getElem?_map] at hd
        obtain ⟨m, hm', rfl⟩ := Option.map_eq_some_iff.mp hd
        obtain ⟨⟨g0, g1⟩, sp, sm⟩ := q.ms m (List.mem_of_getElem? hm')
        have hg : m.g ∈ os := hO.mem.mpr ⟨g0, g1⟩
        obtain ⟨x, hx, ex⟩ := List.mem_iff_getElem.mp hg
        have ex' : os[x]? = some m.g := by rw [List.getElem?_eq_getElem hx, ex]
        refine ⟨_, rfl, ?_⟩
        rw [mo_d]
        walk_at "e"
        refine v_index_l (j := x) (z := .int m.g) (H.get (by walk_at "m")) (okd_ints os) ((okn_int (k := 0) m.g).ok (by decide)) (by rw [List.getElem?_map, ex']; rfl) (by rw [deq_int]; simp) (fun y z' hy e => ?_) ?_
        · rw [List.getElem?_map] at e
          obtain ⟨w, hw', rfl⟩ := Option.map_eq_some_iff.mp e
          rw [deq_int, beq_eq_false_iff_ne]
          rintro rfl
          have := nd_inj hO.nd hw' ex'
          omega
        walk_at "e"
        refine kR _ _ ⟨ts ++ [⟨m.z, m.l, m.h, x⟩], by rw [List.map_append]; rfl, by rw [List.length_append, tl]; rfl, fun y hy => ?_⟩ H
        rcases List.mem_append.mp hy with hy | hy
        · exact ht y hy
        · rw [List.mem_singleton.mp hy]
          exact ⟨⟨by show (0 : Int) ≤ x; omega, by show (x : Int) < n; omega⟩, ⟨sp.l0, sp.lh, sp.h1⟩, sm⟩
      · obtain ⟨ts, rfl, tl, ht⟩ := hI
        rw [List.length_map] at tl
        walk_at "e"
        walk_at "s"
        refine out (some ⟨s.kind, s.who, ts⟩) M _ _ _ (fun s' e => ?_) H.tail
        cases e
        exact ⟨⟨q.kind, fun e => q.ne (List.eq_nil_of_length_eq_zero (by rw [← tl, show ts = [] from e]; rfl)), by show ts.length ≤ 9; omega, ht, q.who⟩, s, ho, rfl, rfl⟩
  · obtain ⟨rs, w3, w4, w5, rfl, rl, hr, hw, H⟩ := hI
    rw [List.length_map] at rl
    refine ⟨H.get (by walk_at "m"), ?_⟩
    walk_at "e"
    walk_at "s"
    exact k rs _ ⟨by omega, hm.pos, hm.le, hr⟩ hw H.tail
end MX
/-! K66b: the bodies of the defs, printed by gen.py -/
namespace K66
open PySem DL

/-- slots: 0 standing -/
def b_moves_of : DS :=
  (sSeq (sIf (bCmp eqD (eBin ixD (eVar 0) (eC (.int 0))) (eC (.str "end")))
   (sSeq (sRet (eTup aNil))
   sNil)
   sNil)
  (sSeq (sRet (eBin ixD (eVar 0) (eC (.int 2))))
  sNil))
/-- slots: 0 machine 1 start 2 found 3 seen 4 at 5 move -/
def b_standings_from (c_moves_of : List D → Mh → PQ → Prop) : DS :=
  (sSeq (sAsg (eLst (aCons (eVar 1) aNil)) (gN 2))
  (sSeq (sAsg (eD1 (eVar 1) (eC (.bl true))) (gN 3))
  (sSeq (sAsg (eC (.int 0)) (gN 4))
  (sSeq (sWh (bCmp ltD (eVar 4) (eCall lenD (aCons (eVar 2) aNil)))
   (sSeq (sFor (iSeq (eFn 1 c_moves_of (aCons (eBin ixD (eVar 0) (eBin ixD (eVar 2) (eVar 4))) aNil))) (gN 5)
    (sSeq (sIf (bCmp ninD (eBin ixD (eVar 5) (eC (.int 3))) (eVar 3))
     (sSeq (sAsg (eC (.bl true)) (gS (eVar 3) (eBin ixD (eVar 5) (eC (.int 3)))))
     (sSeq (sExp (eMt "list" appendD (eVar 2) (aCons (eBin ixD (eVar 5) (eC (.int 3))) aNil)))
     sNil))
     sNil)
    sNil))
   (sSeq (sAug 4 iaddD (eC (.int 1)))
   sNil)))
  (sSeq (sRet (eVar 2))
  sNil)))))
/-- slots: 0 machine 1 seen 2 at -/
def b_says_from (c_standings_from : List D → Mh → PQ → Prop) : DS :=
  (sSeq (sAsg eDct (gN 1))
  (sSeq (sFor (iSeq (eFn 2 c_standings_from (aCons (eVar 0) (aCons (eC (.int 0)) aNil)))) (gN 2)
   (sSeq (sIf (bCmp eqD (eBin ixD (eBin ixD (eVar 0) (eVar 2)) (eC (.int 0))) (eC (.str "say")))
    (sSeq (sAsg (eC (.bl true)) (gS (eVar 1) (eBin ixD (eBin ixD (eVar 0) (eVar 2)) (eC (.int 1)))))
    sNil)
    sNil)
   sNil))
  (sSeq (sRet (eVar 1))
  sNil)))
/-- slots: 0 company 1 found 2 sender 3 machine 4 seen 5 receiver -/
def b_used_posts (c_says_from : List D → Mh → PQ → Prop) : DS :=
  (sSeq (sAsg (eLst aNil) (gN 1))
  (sSeq (sFor (iZip2 (eBin ixD (eVar 0) (eC (.int 0))) (eBin ixD (eVar 0) (eC (.int 1)))) (gT 2 (gsC (gN 2) (gsC (gN 3) gsN)))
   (sSeq (sAsg (eFn 1 c_says_from (aCons (eVar 3) aNil)) (gN 4))
   (sSeq (sFor (iSeq (eBin ixD (eVar 0) (eC (.int 0)))) (gN 5)
    (sSeq (sIf (bCmp inD (eVar 5) (eVar 4))
     (sSeq (sExp (eMt "list" appendD (eVar 1) (aCons (eTup (aCons (eVar 2) (aCons (eVar 5) aNil))) aNil)))
     sNil)
     sNil)
    sNil))
   sNil)))
  (sSeq (sRet (eCall tupleD (aCons (eVar 1) aNil)))
  sNil)))
/-- slots: 0 posts 1 vector 2 sender 3 receiver 4 post 5 room -/
def b_room_at : DS :=
  (sSeq (sFor (iZip2 (eVar 0) (eVar 1)) (gT 2 (gsC (gN 4) (gsC (gN 5) gsN)))
   (sSeq (sIf (bCmp eqD (eVar 4) (eTup (aCons (eVar 2) (aCons (eVar 3) aNil))))
    (sSeq (sRet (eVar 5))
    sNil)
    sNil)
   sNil))
  (sSeq (sRet (eC (.int 0)))
  sNil))
/-- slots: 0 company 1 vector 2 posts 3 rows 4 sender 5 receiver -/
def b_with_rooms (c_room_at : List D → Mh → PQ → Prop) (c_used_posts : List D → Mh → PQ → Prop) : DS :=
  (sSeq (sAsg (eFn 1 c_used_posts (aCons (eVar 0) aNil)) (gN 2))
  (sSeq (sAsg (eLst aNil) (gN 3))
  (sSeq (sFor (iSeq (eBin ixD (eVar 0) (eC (.int 0)))) (gN 4)
   (sSeq (sExp (eMt "list" appendD (eVar 3) (aCons (eCall tupleD (aCons (eLC (iSeq (eBin ixD (eVar 0) (eC (.int 0)))) (.nm 5) bYes (eFn 4 c_room_at (aCons (eVar 2) (aCons (eVar 1) (aCons (eVar 4) (aCons (eVar 5) aNil))))) [5]) aNil)) aNil)))
   sNil))
  (sSeq (sRet (eTup (aCons (eBin ixD (eVar 0) (eC (.int 0))) (aCons (eBin ixD (eVar 0) (eC (.int 1))) (aCons (eCall tupleD (aCons (eVar 3) aNil)) aNil)))))
  sNil))))
/-- slots: 0 script 1 place -/
def b__law_cell : DS :=
  (sSeq (sIf (bCmp ltD (eVar 1) (eCall lenD (aCons (eVar 0) aNil)))
   (sSeq (sRet (eBin ixD (eVar 0) (eVar 1)))
   sNil)
   sNil)
  (sSeq (sRet (eBin addD (eBin addD (eBin mulD (eBin modD (eCall intD (aCons (eCall sumD (aCons (eSl (eVar 0) none (some (eC (.int 1)))) aNil)) aNil)) (eC (.int 1000003))) (eC (.int 7919))) (eBin mulD (eVar 1) (eC (.int 104729)))) (eC (.int 12345))))
  sNil))
/-- slots: 0 script 1 place 2 cell 3 number -/
def b__law_jar (c__law_cell : List D → Mh → PQ → Prop) : DS :=
  (sSeq (sAsg (eFn 2 c__law_cell (aCons (eVar 0) (aCons (eVar 1) aNil))) (gN 2))
  (sSeq (sAsg (eVar 2) (gN 3))
  (sSeq (sIf (bCmp ltD (eVar 2) (eC (.int 0)))
   (sSeq (sAsg (eBin subD (eC (.int 1)) (eBin mulD (eC (.int 3)) (eVar 2))) (gN 3))
   sNil)
   sNil)
  (sSeq (sIf (bCmp geD (eVar 3) (eBin powD (eC (.int 10)) (eC (.int 18))))
   (sSeq (sRet (eLst (aCons (eVar 3) (aCons (eC (.int 1)) (aCons (eVar 1) aNil)))))
   sNil)
   sNil)
  (sSeq (sRet (eLst (aCons (eBin addD (eBin modD (eCall intD (aCons (eVar 3) aNil)) (eC (.int 2147483646))) (eC (.int 1))) (aCons (eC (.int 0)) (aCons (eVar 1) aNil)))))
  sNil)))))
/-- slots: 0 jar 1 many 2 found -/
def b__law_pick : DS :=
  (sSeq (sIf (bAnd (bCmp eqD (eBin ixD (eVar 0) (eC (.int 1))) (eC (.int 1))) (bCmp gtD (eBin ixD (eVar 0) (eC (.int 0))) (eC (.int 0))))
   (sSeq (sAsg (eBin modD (eCall intD (aCons (eBin ixD (eVar 0) (eC (.int 0))) aNil)) (eVar 1)) (gN 2))
   (sSeq (sAsg (eBin divD (eBin ixD (eVar 0) (eC (.int 0))) (eVar 1)) (gS (eVar 0) (eC (.int 0))))
   (sSeq (sRet (eVar 2))
   sNil)))
   sNil)
  (sSeq (sIf (bCmp eqD (eBin ixD (eVar 0) (eC (.int 1))) (eC (.int 1)))
   (sSeq (sAsg (eC (.int 0)) (gS (eVar 0) (eC (.int 1))))
   (sSeq (sAsg (eBin addD (eC (.int 1234567)) (eBin mulD (eBin ixD (eVar 0) (eC (.int 2))) (eC (.int 7907)))) (gS (eVar 0) (eC (.int 0))))
   sNil))
   sNil)
  (sSeq (sAsg (eBin addD (eBin ixD (eVar 0) (eC (.int 2))) (eC (.int 1))) (gS (eVar 0) (eC (.int 2))))
  (sSeq (sAsg (eBin modD (eCall intD (aCons (eBin addD (eBin mulD (eBin ixD (eVar 0) (eC (.int 0))) (eC (.int 48271))) (eBin mulD (eBin ixD (eVar 0) (eC (.int 2))) (eC (.int 69621)))) aNil)) (eC (.int 2147483647))) (gS (eVar 0) (eC (.int 0))))
  (sSeq (sRet (eBin modD (eCall intD (aCons (eBin divD (eBin ixD (eVar 0) (eC (.int 0))) (eC (.int 977))) aNil)) (eVar 1)))
  sNil)))))
/-- slots: 0 jar 1 index 2 letters 3 word 4 count 5 at -/
def b__law_name (c__law_pick : List D → Mh → PQ → Prop) : DS :=
  (sSeq (sAsg (eC (.str "abcdefghijklmnopqrstuvwxyz")) (gN 2))
  (sSeq (sAsg (eBin ixD (eVar 2) (eFn 2 c__law_pick (aCons (eVar 0) (aCons (eC (.int 26)) aNil)))) (gN 3))
  (sSeq (sFor (iRg1 (aCons (eBin ixD (eLst (aCons (eC (.int 0)) (aCons (eC (.int 0)) (aCons (eC (.int 1)) (aCons (eC (.int 2)) (aCons (eC (.int 6)) aNil)))))) (eFn 2 c__law_pick (aCons (eVar 0) (aCons (eC (.int 5)) aNil)))) aNil)) (gN 4)
   (sSeq (sAsg (eBin addD (eVar 3) (eBin ixD (eVar 2) (eFn 2 c__law_pick (aCons (eVar 0) (aCons (eC (.int 26)) aNil))))) (gN 3))
   sNil))
  (sSeq (sAsg (eBin addD (eC (.int 1)) (eFn 2 c__law_pick (aCons (eVar 0) (aCons (eCall lenD (aCons (eVar 3) aNil)) aNil)))) (gN 5))
  (sSeq (sRet (eBin addD (eBin addD (eSl (eVar 3) none (some (eVar 5))) (eCall strD (aCons (eVar 1) aNil))) (eSl (eVar 3) (some (eVar 5)) none)))
  sNil)))))
/-- slots: 0 jar 1 many 2 index -/
def b__law_names (c__law_name : List D → Mh → PQ → Prop) : DS :=
  (sSeq (sRet (eLC (iRg1 (aCons (eVar 1) aNil)) (.nm 2) bYes (eFn 2 c__law_name (aCons (eVar 0) (aCons (eVar 2) aNil))) [2]))
  sNil)
/-- slots: 0 jar 1 way 2 value 3 low -/
def b__law_span (c__law_pick : List D → Mh → PQ → Prop) : DS :=
  (sSeq (sAsg (eFn 2 c__law_pick (aCons (eVar 0) (aCons (eC (.int 6)) aNil))) (gN 1))
  (sSeq (sIf (bCmp ltD (eVar 1) (eC (.int 2)))
   (sSeq (sRet (eTup (aCons (eC (.int 0)) (aCons (eC (.int 0)) aNil))))
   sNil)
   sNil)
  (sSeq (sIf (bCmp eqD (eVar 1) (eC (.int 2)))
   (sSeq (sAsg (eFn 2 c__law_pick (aCons (eVar 0) (aCons (eC (.int 12)) aNil))) (gN 2))
   (sSeq (sRet (eTup (aCons (eVar 2) (aCons (eVar 2) aNil))))
   sNil))
   sNil)
  (sSeq (sIf (bCmp eqD (eVar 1) (eC (.int 3)))
   (sSeq (sRet (eTup (aCons (eFn 2 c__law_pick (aCons (eVar 0) (aCons (eC (.int 1000)) aNil))) (aCons (eBin subD (eC (.int 999999)) (eFn 2 c__law_pick (aCons (eVar 0) (aCons (eC (.int 3)) aNil)))) aNil))))
   sNil)
   sNil)
  (sSeq (sAsg (eFn 2 c__law_pick (aCons (eVar 0) (aCons (eC (.int 6)) aNil))) (gN 3))
  (sSeq (sRet (eTup (aCons (eVar 3) (aCons (eBin addD (eVar 3) (eFn 2 c__law_pick (aCons (eVar 0) (aCons (eC (.int 9)) aNil)))) aNil))))
  sNil))))))
/-- slots: 0 jar 1 labels 2 count 3 goals 4 found 5 used 6 index 7 label 8 again 9 word 10 span 11 low 12 high -/
def b__law_moves (c__law_pick : List D → Mh → PQ → Prop) (c__law_span : List D → Mh → PQ → Prop) : DS :=
  (sSeq (sAsg (eLst aNil) (gN 4))
  (sSeq (sAsg (eLst aNil) (gN 5))
  (sSeq (sFor (iRg1 (aCons (eVar 2) aNil)) (gN 6)
   (sSeq (sAsg (eBin ixD (eVar 1) (eBin modD (eCall intD (aCons (eVar 6) aNil)) (eCall lenD (aCons (eVar 1) aNil)))) (gN 7))
   (sSeq (sAsg (eCall lenD (aCons (eLC (iSeq (eVar 5)) (.nm 9) (bCmp eqD (eVar 9) (eVar 7)) (eVar 9) [9]) aNil)) (gN 8))
   (sSeq (sExp (eMt "list" appendD (eVar 5) (aCons (eVar 7) aNil)))
   (sSeq (sAsg (eFn 1 c__law_span (aCons (eVar 0) aNil)) (gN 10))
   (sSeq (sAsg (eBin addD (eBin mulD (eVar 8) (eC (.int 1000))) (eBin modD (eCall intD (aCons (eBin ixD (eVar 10) (eC (.int 0))) aNil)) (eC (.int 1000)))) (gN 11))
   (sSeq (sAsg (eBin addD (eBin mulD (eVar 8) (eC (.int 1000))) (eC (.int 999))) (gN 12))
   (sSeq (sIf (bCmp ltD (eBin subD (eBin ixD (eVar 10) (eC (.int 1))) (eBin ixD (eVar 10) (eC (.int 0)))) (eBin subD (eC (.int 999)) (eBin modD (eCall intD (aCons (eBin ixD (eVar 10) (eC (.int 0))) aNil)) (eC (.int 1000)))))
    (sSeq (sAsg (eBin addD (eVar 11) (eBin subD (eBin ixD (eVar 10) (eC (.int 1))) (eBin ixD (eVar 10) (eC (.int 0))))) (gN 12))
    sNil)
    sNil)
   (sSeq (sIf (bAnd (bCmp eqD (eVar 8) (eC (.int 0))) (bAnd (bCmp leD (eVar 2) (eCall lenD (aCons (eVar 1) aNil))) (bCmp gtD (eBin ixD (eVar 10) (eC (.int 1))) (eC (.int 900000)))))
    (sSeq (sAsg (eBin ixD (eVar 10) (eC (.int 1))) (gN 12))
    sNil)
    sNil)
   (sSeq (sExp (eMt "list" appendD (eVar 4) (aCons (eTup (aCons (eVar 7) (aCons (eVar 11) (aCons (eVar 12) (aCons (eBin ixD (eVar 3) (eFn 2 c__law_pick (aCons (eVar 0) (aCons (eCall lenD (aCons (eVar 3) aNil)) aNil)))) aNil))))) aNil)))
   sNil))))))))))
  (sSeq (sRet (eCall sortedD (aCons (eVar 4) aNil)))
  sNil))))
/-- slots: 0 jar 1 partners 2 labels 3 many 4 found 5 at 6 kind 7 count 8 goals 9 moves 10 move -/
def b__law_machine (c__law_pick : List D → Mh → PQ → Prop) (c__law_moves : List D → Mh → PQ → Prop) : DS :=
  (sSeq (sAsg (eLst aNil) (gN 4))
  (sSeq (sFor (iRg1 (aCons (eBin subD (eVar 3) (eC (.int 1))) aNil)) (gN 5)
   (sSeq (sAsg (eBin ixD (eLst (aCons (eC (.str "say")) (aCons (eC (.str "hear")) aNil))) (eFn 2 c__law_pick (aCons (eVar 0) (aCons (eC (.int 2)) aNil)))) (gN 6))
   (sSeq (sAsg (eBin addD (eC (.int 1)) (eBin ixD (eLst (aCons (eC (.int 0)) (aCons (eC (.int 0)) (aCons (eC (.int 1)) (aCons (eC (.int 1)) (aCons (eC (.int 2)) aNil)))))) (eFn 2 c__law_pick (aCons (eVar 0) (aCons (eC (.int 5)) aNil))))) (gN 7))
   (sSeq (sAsg (eLst (aCons (eBin addD (eVar 5) (eC (.int 1))) (aCons (eFn 2 c__law_pick (aCons (eVar 0) (aCons (eVar 3) aNil))) (aCons (eFn 2 c__law_pick (aCons (eVar 0) (aCons (eVar 3) aNil))) aNil)))) (gN 8))
   (sSeq (sAsg (eLC (iSeq (eFn 4 c__law_moves (aCons (eVar 0) (aCons (eVar 2) (aCons (eVar 7) (aCons (eVar 8) aNil)))))) (.nm 10) bYes (eCall listD (aCons (eVar 10) aNil)) [10]) (gN 9))
   (sSeq (sAsg (eBin addD (eVar 5) (eC (.int 1))) (gS (eBin ixD (eVar 9) (eFn 2 c__law_pick (aCons (eVar 0) (aCons (eCall lenD (aCons (eVar 9) aNil)) aNil)))) (eC (.int 3))))
   (sSeq (sExp (eMt "list" appendD (eVar 4) (aCons (eTup (aCons (eVar 6) (aCons (eBin ixD (eVar 1) (eFn 2 c__law_pick (aCons (eVar 0) (aCons (eCall lenD (aCons (eVar 1) aNil)) aNil)))) (aCons (eCall tupleD (aCons (eLC (iSeq (eVar 9)) (.nm 10) bYes (eCall tupleD (aCons (eVar 10) aNil)) [10]) aNil)) aNil)))) aNil)))
   sNil)))))))
  (sSeq (sExp (eMt "list" appendD (eVar 4) (aCons (eTup (aCons (eC (.str "end")) aNil)) aNil)))
  (sSeq (sRet (eCall tupleD (aCons (eVar 4) aNil)))
  sNil))))
/-- slots: 0 jar 1 part 2 copies 3 size 4 found 5 at 6 standing 7 moves 8 move -/
def b__law_copies (c__law_pick : List D → Mh → PQ → Prop) : DS :=
  (sSeq (sAsg (eCall lenD (aCons (eVar 1) aNil)) (gN 3))
  (sSeq (sAsg (eLst aNil) (gN 4))
  (sSeq (sFor (iRg1 (aCons (eBin mulD (eVar 3) (eVar 2)) aNil)) (gN 5)
   (sSeq (sAsg (eBin ixD (eVar 1) (eBin modD (eCall intD (aCons (eVar 5) aNil)) (eVar 3))) (gN 6))
   (sSeq (sIf (bCmp eqD (eBin ixD (eVar 6) (eC (.int 0))) (eC (.str "end")))
    (sSeq (sExp (eMt "list" appendD (eVar 4) (aCons (eVar 6) aNil)))
    (sSeq sCnt
    sNil))
    sNil)
   (sSeq (sAsg (eLst aNil) (gN 7))
   (sSeq (sFor (iSeq (eBin ixD (eVar 6) (eC (.int 2)))) (gN 8)
    (sSeq (sExp (eMt "list" appendD (eVar 7) (aCons (eTup (aCons (eBin ixD (eVar 8) (eC (.int 0))) (aCons (eBin ixD (eVar 8) (eC (.int 1))) (aCons (eBin ixD (eVar 8) (eC (.int 2))) (aCons (eBin addD (eBin ixD (eVar 8) (eC (.int 3))) (eBin mulD (eVar 3) (eFn 2 c__law_pick (aCons (eVar 0) (aCons (eVar 2) aNil))))) aNil))))) aNil)))
    sNil))
   (sSeq (sExp (eMt "list" appendD (eVar 4) (aCons (eTup (aCons (eBin ixD (eVar 6) (eC (.int 0))) (aCons (eBin ixD (eVar 6) (eC (.int 1))) (aCons (eCall tupleD (aCons (eVar 7) aNil)) aNil)))) aNil)))
   sNil))))))
  (sSeq (sRet (eCall tupleD (aCons (eVar 4) aNil)))
  sNil))))
/-- slots: 0 jar 1 many 2 top 3 rows 4 one 5 other -/
def b__law_rooms (c__law_pick : List D → Mh → PQ → Prop) : DS :=
  (sSeq (sAsg (eLst aNil) (gN 3))
  (sSeq (sFor (iRg1 (aCons (eVar 1) aNil)) (gN 4)
   (sSeq (sExp (eMt "list" appendD (eVar 3) (aCons (eCall tupleD (aCons (eLC (iRg1 (aCons (eVar 1) aNil)) (.nm 5) bYes (eIf (bCmp eqD (eVar 4) (eVar 5)) (eC (.int 0)) (eFn 2 c__law_pick (aCons (eVar 0) (aCons (eBin addD (eVar 2) (eC (.int 1))) aNil)))) [5]) aNil)) aNil)))
   sNil))
  (sSeq (sRet (eCall tupleD (aCons (eVar 3) aNil)))
  sNil)))
/-- slots: 0 thing -/
def b__law_is_number : DS :=
  (sSeq (sRet (eAnd (eIsi "int" (eVar 0)) (eNot (eIsi "bool" (eVar 0)))))
  sNil)
/-- slots: 0 jar 1 many 2 left 3 found 4 count -/
def b__law_mixed (c__law_pick : List D → Mh → PQ → Prop) : DS :=
  (sSeq (sAsg (eLr (eVar 1)) (gN 2))
  (sSeq (sAsg (eLst aNil) (gN 3))
  (sSeq (sFor (iRg1 (aCons (eVar 1) aNil)) (gN 4)
   (sSeq (sExp (eMt "list" appendD (eVar 3) (aCons (eMt "list" popD (eVar 2) (aCons (eFn 2 c__law_pick (aCons (eVar 0) (aCons (eCall lenD (aCons (eVar 2) aNil)) aNil))) aNil)) aNil)))
   sNil))
  (sSeq (sRet (eVar 3))
  sNil))))
/-- slots: 0 machine 1 order 2 found 3 old 4 standing 5 moves 6 move -/
def b__law_ordered : DS :=
  (sSeq (sAsg (eLst aNil) (gN 2))
  (sSeq (sFor (iSeq (eVar 1)) (gN 3)
   (sSeq (sAsg (eBin ixD (eVar 0) (eVar 3)) (gN 4))
   (sSeq (sIf (bCmp eqD (eBin ixD (eVar 4) (eC (.int 0))) (eC (.str "end")))
    (sSeq (sExp (eMt "list" appendD (eVar 2) (aCons (eVar 4) aNil)))
    sNil)
    (sSeq (sAsg (eLC (iSeq (eBin ixD (eVar 4) (eC (.int 2)))) (.nm 6) bYes (eTup (aCons (eBin ixD (eVar 6) (eC (.int 0))) (aCons (eBin ixD (eVar 6) (eC (.int 1))) (aCons (eBin ixD (eVar 6) (eC (.int 2))) (aCons (eIx (eVar 1) (eBin ixD (eVar 6) (eC (.int 3)))) aNil))))) [6]) (gN 5))
    (sSeq (sExp (eMt "list" appendD (eVar 2) (aCons (eTup (aCons (eBin ixD (eVar 4) (eC (.int 0))) (aCons (eBin ixD (eVar 4) (eC (.int 1))) (aCons (eCall tupleD (aCons (eVar 5) aNil)) aNil)))) aNil)))
    sNil)))
   sNil)))
  (sSeq (sRet (eCall tupleD (aCons (eVar 2) aNil)))
  sNil)))
/-- slots: 0 jar 1 ink 2 names 3 labels 4 machines 5 name 6 others 7 other 8 machine -/
def b__law_company (c__law_rooms : List D → Mh → PQ → Prop) (c__law_pick : List D → Mh → PQ → Prop) (c__law_ordered : List D → Mh → PQ → Prop) (c__law_mixed : List D → Mh → PQ → Prop) (c__law_copies : List D → Mh → PQ → Prop) (c__law_machine : List D → Mh → PQ → Prop) (c__law_name : List D → Mh → PQ → Prop) (c__law_names : List D → Mh → PQ → Prop) : DS :=
  (sSeq (sAsg (eFn 2 c__law_names (aCons (eVar 1) (aCons (eBin ixD (eLst (aCons (eC (.int 1)) (aCons (eC (.int 2)) (aCons (eC (.int 2)) (aCons (eC (.int 3)) (aCons (eC (.int 3)) (aCons (eC (.int 4)) (aCons (eC (.int 5)) (aCons (eC (.int 7)) aNil))))))))) (eFn 2 c__law_pick (aCons (eVar 0) (aCons (eC (.int 8)) aNil)))) aNil))) (gN 2))
  (sSeq (sAsg (eLst (aCons (eFn 2 c__law_name (aCons (eVar 1) (aCons (eC (.int 8)) aNil))) (aCons (eFn 2 c__law_name (aCons (eVar 1) (aCons (eC (.int 9)) aNil))) aNil))) (gN 3))
  (sSeq (sAsg (eLst aNil) (gN 4))
  (sSeq (sFor (iSeq (eVar 2)) (gN 5)
   (sSeq (sAsg (eLC (iSeq (eVar 2)) (.nm 7) (bCmp neD (eVar 7) (eVar 5)) (eVar 7) [7]) (gN 6))
   (sSeq (sAsg (eTup (aCons (eTup (aCons (eC (.str "end")) aNil)) aNil)) (gN 8))
   (sSeq (sIf (bCmp gtD (eCall lenD (aCons (eVar 6) aNil)) (eC (.int 0)))
    (sSeq (sAsg (eFn 4 c__law_machine (aCons (eVar 0) (aCons (eVar 6) (aCons (eVar 3) (aCons (eBin addD (eC (.int 1)) (eFn 2 c__law_pick (aCons (eVar 0) (aCons (eC (.int 4)) aNil)))) aNil))))) (gN 8))
    sNil)
    sNil)
   (sSeq (sAsg (eFn 3 c__law_copies (aCons (eVar 0) (aCons (eVar 8) (aCons (eBin addD (eC (.int 1)) (eFn 2 c__law_pick (aCons (eVar 0) (aCons (eC (.int 2)) aNil)))) aNil)))) (gN 8))
   (sSeq (sIf (bCmp eqD (eFn 2 c__law_pick (aCons (eVar 0) (aCons (eC (.int 2)) aNil))) (eC (.int 0)))
    (sSeq (sAsg (eFn 2 c__law_ordered (aCons (eVar 8) (aCons (eFn 2 c__law_mixed (aCons (eVar 0) (aCons (eCall lenD (aCons (eVar 8) aNil)) aNil))) aNil))) (gN 8))
    sNil)
    sNil)
   (sSeq (sExp (eMt "list" appendD (eVar 4) (aCons (eVar 8) aNil)))
   sNil)))))))
  (sSeq (sRet (eTup (aCons (eCall tupleD (aCons (eVar 2) aNil)) (aCons (eCall tupleD (aCons (eVar 4) aNil)) (aCons (eFn 3 c__law_rooms (aCons (eVar 0) (aCons (eCall lenD (aCons (eVar 2) aNil)) (aCons (eC (.int 4)) aNil)))) aNil)))))
  sNil)))))
/-- slots: 0 machine 1 found 2 count 3 move -/
def b__law_found : DS :=
  (sSeq (sAsg (eLst (aCons (eC (.int 0)) aNil)) (gN 1))
  (sSeq (sFor (iRg1 (aCons (eCall lenD (aCons (eVar 0) aNil)) aNil)) (gN 2)
   (sSeq (sIf (bAnd (bCmp ltD (eVar 2) (eCall lenD (aCons (eVar 1) aNil))) (bCmp neD (eBin ixD (eBin ixD (eVar 0) (eBin ixD (eVar 1) (eVar 2))) (eC (.int 0))) (eC (.str "end"))))
    (sSeq (sFor (iSeq (eBin ixD (eBin ixD (eVar 0) (eBin ixD (eVar 1) (eVar 2))) (eC (.int 2)))) (gN 3)
     (sSeq (sIf (bCmp ninD (eBin ixD (eVar 3) (eC (.int 3))) (eVar 1))
      (sSeq (sExp (eMt "list" appendD (eVar 1) (aCons (eBin ixD (eVar 3) (eC (.int 3))) aNil)))
      sNil)
      sNil)
     sNil))
    sNil)
    sNil)
   sNil))
  (sSeq (sRet (eVar 1))
  sNil)))
/-- slots: 0 company 1 found 2 sender 3 machine 4 heard_by 5 at 6 receiver -/
def b__law_posts (c__law_found : List D → Mh → PQ → Prop) : DS :=
  (sSeq (sAsg (eLst aNil) (gN 1))
  (sSeq (sFor (iZip2 (eBin ixD (eVar 0) (eC (.int 0))) (eBin ixD (eVar 0) (eC (.int 1)))) (gT 2 (gsC (gN 2) (gsC (gN 3) gsN)))
   (sSeq (sAsg (eLC (iSeq (eFn 1 c__law_found (aCons (eVar 3) aNil))) (.nm 5) (bCmp eqD (eBin ixD (eBin ixD (eVar 3) (eVar 5)) (eC (.int 0))) (eC (.str "say"))) (eBin ixD (eBin ixD (eVar 3) (eVar 5)) (eC (.int 1))) [5]) (gN 4))
   (sSeq (sFor (iSeq (eBin ixD (eVar 0) (eC (.int 0)))) (gN 6)
    (sSeq (sIf (bCmp inD (eVar 6) (eVar 4))
     (sSeq (sExp (eMt "list" appendD (eVar 1) (aCons (eTup (aCons (eVar 2) (aCons (eVar 6) aNil))) aNil)))
     sNil)
     sNil)
    sNil))
   sNil)))
  (sSeq (sRet (eCall tupleD (aCons (eVar 1) aNil)))
  sNil)))
/-- slots: 0 names 1 posts 2 vector 3 rows 4 sender 5 row 6 receiver 7 room -/
def b__law_room_rows : DS :=
  (sSeq (sAsg (eLst aNil) (gN 3))
  (sSeq (sFor (iSeq (eVar 0)) (gN 4)
   (sSeq (sAsg (eLst aNil) (gN 5))
   (sSeq (sFor (iSeq (eVar 0)) (gN 6)
    (sSeq (sAsg (eC (.int 0)) (gN 7))
    (sSeq (sIf (bCmp inD (eTup (aCons (eVar 4) (aCons (eVar 6) aNil))) (eVar 1))
     (sSeq (sAsg (eBin ixD (eVar 2) (eIx (eVar 1) (eTup (aCons (eVar 4) (aCons (eVar 6) aNil))))) (gN 7))
     sNil)
     sNil)
    (sSeq (sExp (eMt "list" appendD (eVar 5) (aCons (eVar 7) aNil)))
    sNil))))
   (sSeq (sExp (eMt "list" appendD (eVar 3) (aCons (eCall tupleD (aCons (eVar 5) aNil)) aNil)))
   sNil))))
  (sSeq (sRet (eCall tupleD (aCons (eVar 3) aNil)))
  sNil)))
/-- slots: 0 thing 1 company 2 posts 3 vector 4 row 5 room -/
def b__law_has_rooms (c__law_is_number : List D → Mh → PQ → Prop) (c__law_room_rows : List D → Mh → PQ → Prop) : DS :=
  (sSeq (sIf (bCmp neD (eVar 0) (eTup (aCons (eBin ixD (eVar 1) (eC (.int 0))) (aCons (eBin ixD (eVar 1) (eC (.int 1))) (aCons (eFn 3 c__law_room_rows (aCons (eBin ixD (eVar 1) (eC (.int 0))) (aCons (eVar 2) (aCons (eVar 3) aNil)))) aNil)))))
   (sSeq (sRet (eC (.bl false)))
   sNil)
   sNil)
  (sSeq (sFor (iSeq (eBin ixD (eVar 0) (eC (.int 2)))) (gN 4)
   (sSeq (sIf (bCmp gtD (eCall lenD (aCons (eLC (iSeq (eVar 4)) (.nm 5) (bNot (bTru (eFn 1 c__law_is_number (aCons (eVar 5) aNil)))) (eVar 5) [5]) aNil)) (eC (.int 0)))
    (sSeq (sRet (eC (.bl false)))
    sNil)
    sNil)
   sNil))
  (sSeq (sRet (eC (.bl true)))
  sNil)))
/-- slots: 0 jar 1 company 2 posts 3 vector 4 post 5 roomed 6 other 7 zeros -/
def b__law_posts_right (c__law_has_rooms : List D → Mh → PQ → Prop) (c_with_rooms : List D → Mh → PQ → Prop) (c_used_posts : List D → Mh → PQ → Prop) (c__law_rooms : List D → Mh → PQ → Prop) (c__law_pick : List D → Mh → PQ → Prop) : DS :=
  (sSeq (sIf (bCmp neD (eFn 1 c_used_posts (aCons (eVar 1) aNil)) (eVar 2))
   (sSeq (sRet (eC (.bl false)))
   sNil)
   sNil)
  (sSeq (sAsg (eCall tupleD (aCons (eLC (iSeq (eVar 2)) (.nm 4) bYes (eFn 2 c__law_pick (aCons (eVar 0) (aCons (eC (.int 5)) aNil))) [4]) aNil)) (gN 3))
  (sSeq (sAsg (eFn 2 c_with_rooms (aCons (eVar 1) (aCons (eVar 3) aNil))) (gN 5))
  (sSeq (sIf (bNot (bTru (eFn 4 c__law_has_rooms (aCons (eVar 5) (aCons (eVar 1) (aCons (eVar 2) (aCons (eVar 3) aNil)))))))
   (sSeq (sRet (eC (.bl false)))
   sNil)
   sNil)
  (sSeq (sAsg (eTup (aCons (eBin ixD (eVar 1) (eC (.int 0))) (aCons (eBin ixD (eVar 1) (eC (.int 1))) (aCons (eFn 3 c__law_rooms (aCons (eVar 0) (aCons (eCall lenD (aCons (eBin ixD (eVar 1) (eC (.int 0))) aNil)) (aCons (eC (.int 4)) aNil)))) aNil)))) (gN 6))
  (sSeq (sIf (bOr (bCmp neD (eFn 1 c_used_posts (aCons (eVar 6) aNil)) (eVar 2)) (bNot (bTru (eFn 4 c__law_has_rooms (aCons (eFn 2 c_with_rooms (aCons (eVar 6) (aCons (eVar 3) aNil))) (aCons (eVar 1) (aCons (eVar 2) (aCons (eVar 3) aNil))))))))
   (sSeq (sRet (eC (.bl false)))
   sNil)
   sNil)
  (sSeq (sAsg (eCall tupleD (aCons (eLC (iSeq (eVar 2)) (.nm 4) bYes (eC (.int 0)) [4]) aNil)) (gN 7))
  (sSeq (sRet (eAnd (eCmp eqD (eFn 1 c_used_posts (aCons (eVar 5) aNil)) (eVar 2)) (eFn 4 c__law_has_rooms (aCons (eFn 2 c_with_rooms (aCons (eVar 5) (aCons (eVar 7) aNil))) (aCons (eVar 1) (aCons (eVar 2) (aCons (eVar 7) aNil)))))))
  sNil))))))))
/-- slots: 0 script 1 one 2 two 3 posts 4 jar -/
def b_law (c__law_posts_right : List D → Mh → PQ → Prop) (c_used_posts : List D → Mh → PQ → Prop) (c__law_posts : List D → Mh → PQ → Prop) (c__law_jar : List D → Mh → PQ → Prop) (c__law_company : List D → Mh → PQ → Prop) : DS :=
  (sSeq (sAsg (eFn 2 c__law_company (aCons (eFn 2 c__law_jar (aCons (eVar 0) (aCons (eC (.int 0)) aNil))) (aCons (eFn 2 c__law_jar (aCons (eVar 0) (aCons (eC (.int 1)) aNil))) aNil))) (gN 1))
  (sSeq (sAsg (eFn 2 c__law_company (aCons (eFn 2 c__law_jar (aCons (eVar 0) (aCons (eC (.int 2)) aNil))) (aCons (eFn 2 c__law_jar (aCons (eVar 0) (aCons (eC (.int 3)) aNil))) aNil))) (gN 2))
  (sSeq (sAsg (eFn 1 c__law_posts (aCons (eVar 1) aNil)) (gN 3))
  (sSeq (sAsg (eFn 2 c__law_jar (aCons (eVar 0) (aCons (eC (.int 4)) aNil))) (gN 4))
  (sSeq (sIf (bOr (bNot (bTru (eFn 3 c__law_posts_right (aCons (eVar 4) (aCons (eVar 1) (aCons (eVar 3) aNil)))))) (bNot (bTru (eFn 3 c__law_posts_right (aCons (eVar 4) (aCons (eVar 2) (aCons (eFn 1 c__law_posts (aCons (eVar 2) aNil)) aNil)))))))
   (sSeq (sRet (eC (.bl false)))
   sNil)
   sNil)
  (sSeq (sRet (eAnd (eCmp eqD (eFn 1 c_used_posts (aCons (eVar 1) aNil)) (eVar 3)) (eFn 3 c__law_posts_right (aCons (eVar 4) (aCons (eVar 1) (aCons (eVar 3) aNil))))))
  sNil))))))
end K66
/-! K66p: companies drawn; posts. -/
namespace K66
open PySem DL L2 GR K22 MX
-- where it stands in the row of things held
local macro_rules | `(tactic| walk_at "m") => `(tactic| first
  | assumption
  | exact List.mem_cons_self
  | (refine List.mem_cons_of_mem _ ?_; walk_at "m"))
-- what the heap holds at a place
local macro_rules | `(tactic| walk_at "h") => `(tactic| first
  | assumption
  | exact mup_same
  | exact Held.get (by assumption) (by walk_at "m")
  | (refine (mup_ne ?_).trans ?_ <;> first | assumption | (apply Ne.symm; assumption) | walk_at "h"))
-- small facts of numbers
local macro_rules | `(tactic| walk_at "n") => `(tactic| first
  | assumption
  | omega
  | decide
  | (exact CMul.r (by decide))
  | (exact CMul.l (by decide))
  | (refine ⟨?_, ?_⟩ <;> first | assumption | omega | decide))
-- lengths
local macro_rules | `(tactic| walk_at "l") => `(tactic| first
  | assumption
  | (rw [sizeLine_eq]; first | omega | decide | (simp; done) | (simp; omega) | decide +kernel))
-- one step
local macro_rules | `(tactic| walk_at "e1") => `(tactic| first
  | with_reducible refine t_nil ?_
  | ((with_reducible refine' t_var ?s ?_); (case s => first | exact rfl | assumption))
  | with_reducible refine t_c ?_
  | with_reducible refine t_bin ?_
  | with_reducible refine t_if ?_
  | with_reducible refine t_asg ?_
  | ((with_reducible refine' t_gN' ?e ?_); (case e => ((try simp only [List.set_cons_zero, List.set_cons_succ, startD, List.map_cons, List.map_nil, List.length_cons, List.length_nil, Nat.reduceAdd, Nat.reduceSub, List.replicate, List.cons_append, List.nil_append]); exact rfl)))
  | with_reducible refine t_ret ?_
  | with_reducible refine t_exp ?_
  | with_reducible refine t_bcmp ?_
  | with_reducible refine t_band ?_
  | with_reducible refine t_bor ?_
  | with_reducible refine t_bnot ?_
  | with_reducible refine t_btru ?_
  | with_reducible refine t_byes ?_
  | with_reducible refine t_an ?_
  | with_reducible refine t_ac ?_
  | with_reducible refine t_fn ?_
  | with_reducible refine t_call ?_
  | with_reducible refine t_cmp ?_
  | with_reducible refine t_and ?_
  | with_reducible refine t_or ?_
  | with_reducible refine t_not ?_
  | with_reducible refine t_ife ?_
  | with_reducible refine t_tupN ?_
  | ((with_reducible refine v_newT ?l ?_); (case l => exact Nat.le_of_ble_eq_true rfl))
  | with_reducible refine t_lstN ?_
  | with_reducible refine t_isi ?_
  | with_reducible refine t_sl ?_
  | with_reducible refine t_o0 ?_
  | with_reducible refine t_o1 ?_
  | with_reducible refine t_un ?_
  | with_reducible refine t_mt ?_
  | with_reducible refine t_gS ?_
  | with_reducible refine t_gsC ?_
  | with_reducible refine t_gsN ?_
  | ((with_reducible refine t_gT ?s ?_); (case s => first | assumption | exact rfl))
  | with_reducible refine t_retN ?_
  | with_reducible refine t_brk ?_
  | with_reducible refine t_cnt ?_
  | ((with_reducible refine' t_aug ?s ?_); (case s => first | exact rfl | assumption))
  | with_reducible refine t_for ?_
  | with_reducible refine t_seqi ?_
  | with_reducible refine t_rg1 ?_
  | with_reducible refine t_rg2 ?_
  | with_reducible refine t_lc ?_
  | with_reducible refine v_tru_bl ?_
  | with_reducible refine v_tru_int ?_
  | with_reducible refine v_tru_non ?_
  | with_reducible refine v_tru_tup ?_
  | with_reducible refine v_add_int ?_
  | ((with_reducible refine v_add_str ?l ?_); (case l => walk_at "l"))
  | ((with_reducible refine v_add_tup ?l ?_); (case l => walk_at "l"))
  | with_reducible refine v_iadd_int ?_
  | with_reducible refine v_sub ?_
  | ((with_reducible refine v_mul ?c ?_); (case c => walk_at "n"))
  | ((with_reducible refine v_div ?c ?_); (case c => walk_at "n"))
  | ((with_reducible refine v_mod ?c ?_); (case c => walk_at "n"))
  | ((with_reducible refine v_pow ?c ?_); (case c => exact ⟨by decide, by decide, by decide⟩))
  | with_reducible refine v_neg ?_
  | with_reducible exact trivial
  | with_reducible refine v_eq_int ?_
  | with_reducible refine v_eq_str ?_
  | with_reducible refine v_eq_bl ?_
  | with_reducible refine v_ne_int ?_
  | with_reducible refine v_ne_str ?_
  | with_reducible refine v_ne_bl ?_
  | with_reducible refine v_lt ?_
  | with_reducible refine v_lt_str ?_
  | with_reducible refine t_ks ?_
  | with_reducible refine t_rv ?_
  | with_reducible refine v_seq_ktp ?_
  | with_reducible refine v_le ?_
  | with_reducible refine v_gt ?_
  | with_reducible refine v_ge ?_
  | with_reducible refine v_isi_non ?_
  | with_reducible refine v_isi_bl ?_
  | with_reducible refine v_isi_int ?_
  | with_reducible refine v_isi_str ?_
  | with_reducible refine v_isi_tup ?_
  | with_reducible refine v_in_str ?_
  | with_reducible refine v_nin_str ?_
  | with_reducible refine v_len_tup ?_
  | with_reducible refine v_len_rol ?_
  | with_reducible refine v_len_ktp ?_
  | with_reducible refine v_tru_ktp ?_
  | with_reducible refine v_isi_ktp ?_
  | with_reducible refine v_tuple_ktp ?_
  | with_reducible refine t_zip ?_
  | with_reducible refine v_zip_tt ?_
  | with_reducible refine v_zip_tk ?_
  | with_reducible refine v_zip_kt ?_
  | with_reducible refine v_zip_kk ?_
  | ((with_reducible refine' v_zip_ll ?e ?f ?_); (case e => walk_at "h"); (case f => walk_at "h"))
  | with_reducible refine t_ix ?_
  | ((with_reducible refine' ⟨seqK_ref ?e, ?_⟩); (case e => walk_at "h"))
  | with_reducible refine t_lr ?_
  | ((with_reducible refine' v_ix_ktp ?f ?_); (case f => first | assumption | exact rfl))
  | ((with_reducible refine t_gTk ?s ?_); (case s => first | assumption | exact rfl))
  | ((with_reducible refine v_len_str ?l ?_); (case l => walk_at "l"))
  | ((with_reducible refine' v_len_ref ?e ?_); (case e => walk_at "h"))
  | with_reducible refine v_int_int ?_
  | with_reducible refine v_int_bl ?_
  | with_reducible refine v_max ?_
  | with_reducible refine v_min ?_
  | with_reducible refine v_tuple_tup ?_
  | ((with_reducible refine' v_tuple_ref ?e ?_); (case e => walk_at "h"))
  | ((with_reducible refine' v_ix_ref ?e ?f ?_); (case e => walk_at "h"); (case f => first | assumption | exact rfl))
  | ((with_reducible refine' v_ix_tup ?f ?_); (case f => first | assumption | exact rfl))
  | ((with_reducible refine v_sl_str ?l ?_); (case l => walk_at "l"))
  | with_reducible refine v_sl_tup ?_
  | with_reducible refine v_seq_tup ?_
  | with_reducible refine v_seq_str ?_
  | with_reducible refine v_seq_rol ?_
  | ((with_reducible refine' v_seq_ref ?e ?_); (case e => walk_at "h"))
  | ((with_reducible refine' ⟨v_ty_ref ?e, ?_⟩); (case e => walk_at "h")))
local macro_rules | `(tactic| walk_at "d1") => `(tactic| first | with_reducible refine t_seq ?_ | walk_at "e1")
local macro_rules | `(tactic| walk_at "d") => `(tactic| repeat walk_at "d1")
-- one statement
local macro_rules | `(tactic| walk_at "e") => `(tactic| ((repeat walk_at "e1"); try (with_reducible show sSeq _ _ _ _ _)))
local macro_rules | `(tactic| walk_at "s") => `(tactic| ((with_reducible refine t_seq ?_); walk_at "e"))
-- a drawn thing's small facts
local macro_rules | `(tactic| walk_at "gi") => `(tactic| first
  | exact gi_c trivial
  | exact gi_c ⟨_, rfl, by decide, by decide⟩
  | exact gi_c (show _ ≤ _ by decide)
  | exact gi_c (show _ ≤ _ by decide +kernel)
  | exact gi_v rfl trivial)
local macro_rules | `(tactic| walk_at "ga") => `(tactic| ((repeat (first | exact ga_nil | refine ga_cons2 ?_ ?_)); all_goals (try walk_at "gi")))
def prD (p : Str × Str) : D := .tup [.str p.1, .str p.2]
def rowsD (rows : List (List Int)) : D := .tup (rows.map fun r => .tup (r.map D.int))
structure COk (zs : List Str) (ms : List Sts) : Prop where
  len : ms.length = zs.length
  z1 : zs.length ≤ 10
  z : ∀ z ∈ zs, LX.SmS z
  m : ∀ m ∈ ms, ∃ n, MaOk n m
/-! ### posts, plain -/
def Heard (m : Sts) (w : Str) : Prop := ∃ b s, Reach (Edge m) 0 b ∧ m[b.toNat]? = some (some s) ∧ s.kind = "say" ∧ s.who = w
open Classical in
noncomputable def heardB (m : Sts) (w : Str) : Bool := decide (Heard m w)
open Classical in
theorem heardB_iff {m : Sts} {w : Str} : heardB m w = true ↔ Heard m w := by
  unfold heardB; exact decide_eq_true_iff
noncomputable def postOf (zs : List Str) (p : Str × Sts) : List (Str × Str) := (zs.filter (heardB p.2)).map fun r => (p.1, r)
noncomputable def posts (zs : List Str) (ms : List Sts) : List (Str × Str) := (zs.zip ms).flatMap (postOf zs)
def roomOf (ps : List (Str × Str)) (vs : List Int) (p : Str × Str) : Int := match (ps.zip vs).find? (fun x => decide (x.1 = p)) with
  | some x => x.2
  | none => 0
def rowsOf (zs : List Str) (ps : List (Str × Str)) (vs : List Int) : List (List Int) := zs.map fun s => zs.map fun r => roomOf ps vs (s, r)
theorem room_at_hit {ps : List (Str × Str)} {vs : List Int} {p : Str × Str} {i : Nat} {v : Int} (h : ∀ x ∈ (ps.zip vs).take i, x.1 ≠ p) (e : (ps.zip vs)[i]? = some (p, v)) : roomOf ps vs p = v := by
  have hl := (List.getElem?_eq_some_iff.mp e).1
  have e2 : ps.zip vs = (ps.zip vs).take i ++ (p, v) :: (ps.zip vs).drop (i + 1) := by
    rw [← (List.getElem?_eq_some_iff.mp e).2, List.getElem_cons_drop, List.take_append_drop]
  unfold roomOf
  rw [e2, List.find?_append]
  have : ((ps.zip vs).take i).find? (fun x => decide (x.1 = p)) = none := List.find?_eq_none.mpr fun x hx => by simpa using h x hx
  rw [this]
  simp
theorem room_none {ps : List (Str × Str)} {vs : List Int} {p : Str × Str} (h : ∀ x ∈ ps.zip vs, x.1 ≠ p) : roomOf ps vs p = 0 := by
  unfold roomOf
  have : (ps.zip vs).find? (fun x => decide (x.1 = p)) = none := List.find?_eq_none.mpr fun x hx => by simpa using h x hx
  rw [this]
theorem room_not {ps : List (Str × Str)} {vs : List Int} {p : Str × Str} (h : p ∉ ps) : roomOf ps vs p = 0 := room_none fun x hx e => h (e ▸ (List.of_mem_zip hx).1)
theorem room_ix {ps : List (Str × Str)} {vs : List Int} {p : Str × Str} {j : Nat} {v : Int} (hp : ps[j]? = some p) (hv : vs[j]? = some v) (h : ∀ m, m < j → ps[m]? ≠ some p) : roomOf ps vs p = v := by
  refine room_at_hit (i := j) (fun x hx e => ?_) (by rw [List.getElem?_zip_eq_some]; exact ⟨hp, hv⟩)
  obtain ⟨m, hm, rfl⟩ := List.mem_iff_getElem.mp hx
  rw [List.length_take] at hm
  rw [List.getElem_take] at e
  have h1 : (ps.zip vs)[m]? = some (ps.zip vs)[m] := List.getElem?_eq_getElem (by omega)
  have h2 := (List.getElem?_zip_eq_some.mp h1).1
  exact h m (by omega) (by rw [h2, e])
theorem okn_pr {p : Str × Str} (h1 : LX.SmS p.1) (h2 : LX.SmS p.2) : OkN 2 (prD p) := okn_tup (k := 0) (okn_cons (okn_str h1) (okn_cons (okn_str h2) okn_nil))
theorem deq_pr {p q : Str × Str} : deq (prD p) (prD q) = decide (p = q) := by
  obtain ⟨a, b⟩ := p
  obtain ⟨c, d⟩ := q
  simp only [deq, prD, pd, pds, PyData.eqv, PyData.eqvAll]
  by_cases h1 : a = c <;> by_cases h2 : b = d <;> simp [h1, h2]
def PsOk (ps : List (Str × Str)) : Prop := ps.length ≤ 200 ∧ ∀ p ∈ ps, LX.SmS p.1 ∧ LX.SmS p.2
theorem okn_ps {ps : List (Str × Str)} (h : PsOk ps) : OkN 4 (.tup (ps.map prD)) := okn_tup (okn_map fun p hp => okn_pr (h.2 p hp).1 (h.2 p hp).2)
theorem posts_ok {zs : List Str} {ms : List Sts} (C : COk zs ms) : PsOk (posts zs ms) := by
  constructor
  · have h1 : ∀ l : List (Str × Sts), (l.flatMap (postOf zs)).length ≤ l.length * zs.length := fun l => by
      induction l with
      | nil => simp
      | cons p r ih =>
        rw [List.flatMap_cons, List.length_append, List.length_cons, Nat.succ_mul]
        have : (postOf zs p).length ≤ zs.length := by unfold postOf; rw [List.length_map]; exact List.length_filter_le _ _
        omega
    have h2 := h1 (zs.zip ms)
    have h3 : (zs.zip ms).length ≤ 10 := by rw [List.length_zip]; have := C.z1; omega
    have h4 : (zs.zip ms).length * zs.length ≤ 10 * 10 := Nat.mul_le_mul h3 C.z1
    show ((zs.zip ms).flatMap (postOf zs)).length ≤ 200
    omega
  · intro p hp
    unfold posts at hp
    obtain ⟨q, hq, hp⟩ := List.mem_flatMap.mp hp
    unfold postOf at hp
    obtain ⟨r, hr, rfl⟩ := List.mem_map.mp hp
    exact ⟨C.z _ (List.of_mem_zip (a := q.1) (b := q.2) hq).1, C.z _ (List.mem_filter.mp hr).1⟩
theorem zip_items (zs : List Str) (ms : List Sts) : zipD (zs.map D.str) (ms.map machD) = (zs.zip ms).map fun p => .tup [.str p.1, machD p.2] := by
  unfold zipD
  rw [List.zipWith_map, List.map_zip_eq_zipWith]
  rfl
theorem zip_rooms (ps : List (Str × Str)) (vs : List Int) : zipD (ps.map prD) (vs.map D.int) = (ps.zip vs).map fun p => .tup [prD p.1, .int p.2] := by
  unfold zipD
  rw [List.zipWith_map, List.map_zip_eq_zipWith]
  rfl
/-! ### who is told -/
def sp_says_from : DSp := fun ds M P => ∃ (Js : List Addr) (L : List (Addr × MO)) (n : Nat) (m : Sts), ds = [machD m] ∧ Held M Js L ∧ MaOk n m ∧
  ∀ q kvs M', (∀ w, (valD kvs (Sum.inr w)).isSome = heardB m w) → Held M' Js ((q, .dk kvs) :: L) → P (.ref q) M'
theorem ok_says_from (ds : List D) (M : Mh) (P : PQ) (h : sp_says_from ds M P) : b_says_from sp_standings_from { nx := fun _ M' => P .non M', rt := P } (startD 3 ds) M := by
  obtain ⟨Js, L, n, m, rfl, H, hm, k⟩ := h
  have hml := hm.le
  have hpos := hm.pos
  unfold b_says_from
  refine t_seq (t_asg (h_dct H fun q M H => ?_))
  walk_at "e"
  walk_at "s"
  refine ⟨rfl, Js, _, n, m, 0, rfl, H, hm, by omega, by omega, fun p fs M hfs hr nd fl H => ?_⟩
  have H := H.swap
  unfold machD
  walk_at "e"
  refine for_each (fun i ρ M => ∃ (kvs : List (Key × D)) (w2 : Option D), ρ = [some (.tup (m.map LX.stD)), some (.ref q), w2] ∧ kvs.length ≤ i ∧ (∀ w : Str, Sum.inr w ∈ kvs.map (·.1) ↔ ∃ b ∈ fs.take i, ∃ s, m[b.toNat]? = some (some s) ∧ s.kind = "say" ∧ s.who = w) ∧ Held M Js ((q, .dk kvs) :: (p, .lst (fs.map D.int)) :: L))
    ⟨[], _, rfl, Nat.le_refl _, by simp, H⟩ (fun N i d ρ M hd hI hN => ?_) (fun ρ M hI => ?_)
  · obtain ⟨kvs, w2, rfl, kl, hk, H⟩ := hI
    have il := (List.getElem?_eq_some_iff.mp hd).1
    rw [List.length_map] at il
    rw [List.getElem?_map] at hd
    obtain ⟨b, hb, rfl⟩ := Option.map_eq_some_iff.mp hd
    obtain ⟨b0, b1⟩ := hr b (List.mem_of_getElem? hb)
    obtain ⟨o, e1, ho, e2⟩ := hm.at b0 b1
    refine ⟨H.get (by walk_at "m"), ?_⟩
    walk_at "e"
    walk_at "s"
    have skip : (∀ s, o = some s → s.kind ≠ "say") → N [some (.tup (m.map LX.stD)), some (.ref q), some (.int b)] M := fun hs => hN _ _ ⟨kvs, _, rfl, by omega, fun w => by
      rw [hk w, LX.take_snoc hb]
      constructor
      · rintro ⟨c, hc, h⟩; exact ⟨c, List.mem_append_left _ hc, h⟩
      · rintro ⟨c, hc, s, h1, h2, h3⟩
        rcases List.mem_append.mp hc with hc | hc
        · exact ⟨c, hc, s, h1, h2, h3⟩
        · rw [List.mem_singleton.mp hc, e1] at h1
          cases h1
          exact absurd h2 (hs s rfl), H⟩
    cases o with
    | none =>
      rw [st_none] at e2 ⊢
      walk_at "e"
      refine t_if0 (by decide +kernel) ?_
      walk_at "e"
      exact skip fun s e => by cases e
    | some s =>
      rw [st_some] at e2 ⊢
      walk_at "e"
      refine t_ite (fun e => ?_) (fun e => ?_)
      · have e : s.kind = "say" := beq_iff_eq.mp e
        walk_at "d"
        refine h_dput 0 H rfl rfl (by omega) fun M H => ?_
        refine hN _ _ ⟨_, _, rfl, by have := putD_len kvs (Sum.inr s.who) (.bl true); omega, fun w => ?_, H⟩
        rw [put_mem, hk w, LX.take_snoc hb]
        constructor
        · rintro (⟨c, hc, h⟩ | h)
          · exact ⟨c, List.mem_append_left _ hc, h⟩
          · cases h
            exact ⟨b, by simp, s, e1, e, rfl⟩
        · rintro ⟨c, hc, s', h1, h2, h3⟩
          rcases List.mem_append.mp hc with hc | hc
          · exact .inl ⟨c, hc, s', h1, h2, h3⟩
          · rw [List.mem_singleton.mp hc, e1] at h1
            cases h1
            exact .inr (by rw [h3])
      · have e : s.kind ≠ "say" := beq_eq_false_iff_ne.mp e
        walk_at "e"
        exact skip fun s' e' => by cases e'; exact e
  · obtain ⟨kvs, w2, rfl, kl, hk, H⟩ := hI
    rw [List.length_map, List.take_length] at hk
    refine ⟨H.get (by walk_at "m"), ?_⟩
    walk_at "e"
    walk_at "s"
    refine k q kvs _ (fun w => ?_) H.tail2
    rw [valD_mem]
    unfold heardB
    have : (Sum.inr w ∈ kvs.map (·.1)) ↔ Heard m w := by
      rw [hk w]
      constructor
      · rintro ⟨b, hb, s, h1, h2, h3⟩; exact ⟨b, s, (hfs b).mp hb, h1, h2, h3⟩
      · rintro ⟨b, s, hb, h1, h2, h3⟩; exact ⟨b, (hfs b).mpr hb, s, h1, h2, h3⟩
    by_cases c : Heard m w
    · simp only [this.mpr c, c, decide_true]
    · simp only [mt this.mp c, c, decide_false]
theorem take_flat {α β : Type} {f : α → List β} {l : List α} {i : Nat} {x : α} (e : l[i]? = some x) : (l.take (i + 1)).flatMap f = (l.take i).flatMap f ++ f x := by
  rw [LX.take_snoc e, List.flatMap_append]; simp
/-- the company's parts, its rooms any -/
def cD (zs : List Str) (ms : List Sts) (r : D) : D := .tup [.tup (zs.map D.str), .tup (ms.map machD), r]
def sp_used_posts : DSp := fun ds M P => ∃ (Js : List Addr) (L : List (Addr × MO)) (zs : List Str) (ms : List Sts) (r : D), ds = [.tup [.tup (zs.map D.str), .tup (ms.map machD), r]] ∧ Held M Js L ∧ COk zs ms ∧
  ∀ M', Held M' Js L → P (.tup ((posts zs ms).map prD)) M'
theorem ok_used_posts (ds : List D) (M : Mh) (P : PQ) (h : sp_used_posts ds M P) : b_used_posts sp_says_from { nx := fun _ M' => P .non M', rt := P } (startD 6 ds) M := by
  obtain ⟨Js, L, zs, ms, r, rfl, H, C, k⟩ := h
  have pl := (posts_ok C).1
  unfold b_used_posts
  walk_at "s"
  refine h_new H (Nat.le_of_ble_eq_true rfl) fun f M H => ?_
  walk_at "e"
  walk_at "s"
  rw [zip_items]
  refine for_each (fun i ρ M => ∃ (w2 w3 w4 w5 : Option D), ρ = [some (.tup [.tup (zs.map D.str), .tup (ms.map machD), r]), some (.ref f), w2, w3, w4, w5] ∧ Held M Js ((f, .lst ((((zs.zip ms).take i).flatMap (postOf zs)).map prD)) :: L))
    ⟨_, _, _, _, rfl, H⟩ (fun N i d ρ M hd hI hN => ?_) (fun ρ M hI => ?_)
  · obtain ⟨w2, w3, w4, w5, rfl, H⟩ := hI
    rw [List.getElem?_map] at hd
    obtain ⟨p, hp, rfl⟩ := Option.map_eq_some_iff.mp hd
    obtain ⟨n, hm⟩ := C.m p.2 (List.of_mem_zip (a := p.1) (b := p.2) (List.mem_of_getElem? hp)).2
    have sz : (((zs.zip ms).take i).flatMap (postOf zs)).length + (postOf zs p).length ≤ 200 := by
      have e : posts zs ms = ((zs.zip ms).take (i + 1)).flatMap (postOf zs) ++ ((zs.zip ms).drop (i + 1)).flatMap (postOf zs) := by
        unfold posts
        rw [← List.flatMap_append, List.take_append_drop]
      have := congrArg List.length e
      rw [take_flat hp, List.length_append, List.length_append] at this
      omega
    have hN : ∀ (w2 w3 w4 w5 : Option D) M, Held M Js ((f, .lst ((((zs.zip ms).take i).flatMap (postOf zs) ++ postOf zs p).map prD)) :: L) → N [some (.tup [.tup (zs.map D.str), .tup (ms.map machD), r]), some (.ref f), w2, w3, w4, w5] M := fun w2 w3 w4 w5 M H => hN _ _ ⟨_, _, _, _, rfl, by rw [take_flat hp]; exact H⟩
    generalize ((zs.zip ms).take i).flatMap (postOf zs) = acc at H sz hN
    refine ⟨trivial, ?_⟩
    walk_at "e"
    walk_at "s"
    refine ⟨rfl, Js, _, n, p.2, rfl, H, hm, fun q kvs M hk H => ?_⟩
    walk_at "e"
    walk_at "s"
    refine for_each (fun i' ρ M => ∃ (w5 : Option D), ρ = [some (.tup [.tup (zs.map D.str), .tup (ms.map machD), r]), some (.ref f), some (.str p.1), some (machD p.2), some (.ref q), w5] ∧ Held M Js ((q, .dk kvs) :: (f, .lst ((acc ++ ((zs.take i').filter (heardB p.2)).map fun r => (p.1, r)).map prD)) :: L))
      ⟨_, rfl, by simpa using H⟩ (fun N2 i' d ρ M hd hI hN2 => ?_) (fun ρ M hI => ?_)
    · obtain ⟨w5, rfl, H⟩ := hI
      rw [List.getElem?_map] at hd
      obtain ⟨z, hz, rfl⟩ := Option.map_eq_some_iff.mp hd
      have sz2 : ((zs.take i').filter (heardB p.2)).length ≤ 10 := by
        have := List.length_filter_le (heardB p.2) (zs.take i')
        rw [List.length_take] at this
        have := C.z1
        omega
      refine ⟨trivial, ?_⟩
      walk_at "e"
      walk_at "s"
      refine h_in H (by walk_at "m") rfl ?_
      rw [hk z]
      refine t_ite (fun e => ?_) (fun e => ?_)
      · walk_at "d"
        refine h_appI 1 H rfl (by rw [List.length_map, List.length_append, List.length_map]; omega) fun M H => ?_
        refine hN2 _ _ ⟨_, rfl, ?_⟩
        have e3 : (acc ++ ((zs.take (i' + 1)).filter (heardB p.2)).map fun r => (p.1, r)).map prD = (acc ++ ((zs.take i').filter (heardB p.2)).map fun r => (p.1, r)).map prD ++ [.tup [.str p.1, .str z]] := by
          rw [LX.take_snoc hz, List.filter_append, List.map_append, List.filter_cons, if_pos e]
          simp only [List.map_append, List.append_assoc, List.filter_nil, List.map_cons, List.map_nil]
          rfl
        rw [e3]; exact H
      · walk_at "e"
        refine hN2 _ _ ⟨_, rfl, ?_⟩
        have e3 : (zs.take (i' + 1)).filter (heardB p.2) = (zs.take i').filter (heardB p.2) := by
          rw [LX.take_snoc hz, List.filter_append, List.filter_cons, if_neg (by rw [e]; decide)]; simp
        rw [e3]; exact H
    · obtain ⟨w5, rfl, H⟩ := hI
      rw [List.length_map, List.take_length] at H
      refine ⟨trivial, ?_⟩
      walk_at "e"
      exact hN _ _ _ _ M H.tail
  · obtain ⟨w2, w3, w4, w5, rfl, H⟩ := hI
    rw [List.length_map, List.take_length] at H
    refine ⟨trivial, ?_⟩
    walk_at "e"
    walk_at "s"
    exact k _ H.tail
end K66
/-! K66q: rooms put in; the law's own posts. -/
namespace K66
open PySem DL L2 GR K22 MX
-- where it stands in the row of things held
local macro_rules | `(tactic| walk_at "m") => `(tactic| first
  | assumption
  | exact List.mem_cons_self
  | (refine List.mem_cons_of_mem _ ?_; walk_at "m"))
-- what the heap holds at a place
local macro_rules | `(tactic| walk_at "h") => `(tactic| first
  | assumption
  | exact mup_same
  | exact Held.get (by assumption) (by walk_at "m")
  | (refine (mup_ne ?_).trans ?_ <;> first | assumption | (apply Ne.symm; assumption) | walk_at "h"))
-- small facts of numbers
local macro_rules | `(tactic| walk_at "n") => `(tactic| first
  | assumption
  | omega
  | decide
  | (exact CMul.r (by decide))
  | (exact CMul.l (by decide))
  | (refine ⟨?_, ?_⟩ <;> first | assumption | omega | decide))
-- lengths
local macro_rules | `(tactic| walk_at "l") => `(tactic| first
  | assumption
  | (rw [sizeLine_eq]; first | omega | decide | (simp; done) | (simp; omega) | decide +kernel))
-- one step
local macro_rules | `(tactic| walk_at "e1") => `(tactic| first
  | with_reducible refine t_nil ?_
  | ((with_reducible refine' t_var ?s ?_); (case s => first | exact rfl | assumption))
  | with_reducible refine t_c ?_
  | with_reducible refine t_bin ?_
  | with_reducible refine t_if ?_
  | with_reducible refine t_asg ?_
  | ((with_reducible refine' t_gN' ?e ?_); (case e => ((try simp only [List.set_cons_zero, List.set_cons_succ, startD, List.map_cons, List.map_nil, List.length_cons, List.length_nil, Nat.reduceAdd, Nat.reduceSub, List.replicate, List.cons_append, List.nil_append]); exact rfl)))
  | with_reducible refine t_ret ?_
  | with_reducible refine t_exp ?_
  | with_reducible refine t_bcmp ?_
  | with_reducible refine t_band ?_
  | with_reducible refine t_bor ?_
  | with_reducible refine t_bnot ?_
  | with_reducible refine t_btru ?_
  | with_reducible refine t_byes ?_
  | with_reducible refine t_an ?_
  | with_reducible refine t_ac ?_
  | with_reducible refine t_fn ?_
  | with_reducible refine t_call ?_
  | with_reducible refine t_cmp ?_
  | with_reducible refine t_and ?_
  | with_reducible refine t_or ?_
  | with_reducible refine t_not ?_
  | with_reducible refine t_ife ?_
  | with_reducible refine t_tupN ?_
  | ((with_reducible refine v_newT ?l ?_); (case l => exact Nat.le_of_ble_eq_true rfl))
  | with_reducible refine t_lstN ?_
  | with_reducible refine t_isi ?_
  | with_reducible refine t_sl ?_
  | with_reducible refine t_o0 ?_
  | with_reducible refine t_o1 ?_
  | with_reducible refine t_un ?_
  | with_reducible refine t_mt ?_
  | with_reducible refine t_gS ?_
  | with_reducible refine t_gsC ?_
  | with_reducible refine t_gsN ?_
  | ((with_reducible refine t_gT ?s ?_); (case s => first | assumption | exact rfl))
  | with_reducible refine t_retN ?_
  | with_reducible refine t_brk ?_
  | with_reducible refine t_cnt ?_
  | ((with_reducible refine' t_aug ?s ?_); (case s => first | exact rfl | assumption))
  | with_reducible refine t_for ?_
  | with_reducible refine t_seqi ?_
  | with_reducible refine t_rg1 ?_
  | with_reducible refine t_rg2 ?_
  | with_reducible refine t_lc ?_
  | with_reducible refine v_tru_bl ?_
  | with_reducible refine v_tru_int ?_
  | with_reducible refine v_tru_non ?_
  | with_reducible refine v_tru_tup ?_
  | with_reducible refine v_add_int ?_
  | ((with_reducible refine v_add_str ?l ?_); (case l => walk_at "l"))
  | ((with_reducible refine v_add_tup ?l ?_); (case l => walk_at "l"))
  | with_reducible refine v_iadd_int ?_
  | with_reducible refine v_sub ?_
  | ((with_reducible refine v_mul ?c ?_); (case c => walk_at "n"))
  | ((with_reducible refine v_div ?c ?_); (case c => walk_at "n"))
  | ((with_reducible refine v_mod ?c ?_); (case c => walk_at "n"))
  | ((with_reducible refine v_pow ?c ?_); (case c => exact ⟨by decide, by decide, by decide⟩))
  | with_reducible refine v_neg ?_
  | with_reducible exact trivial
  | with_reducible refine v_eq_int ?_
  | with_reducible refine v_eq_str ?_
  | with_reducible refine v_eq_bl ?_
  | with_reducible refine v_ne_int ?_
  | with_reducible refine v_ne_str ?_
  | with_reducible refine v_ne_bl ?_
  | with_reducible refine v_lt ?_
  | with_reducible refine v_lt_str ?_
  | with_reducible refine t_ks ?_
  | with_reducible refine t_rv ?_
  | with_reducible refine v_seq_ktp ?_
  | with_reducible refine v_le ?_
  | with_reducible refine v_gt ?_
  | with_reducible refine v_ge ?_
  | with_reducible refine v_isi_non ?_
  | with_reducible refine v_isi_bl ?_
  | with_reducible refine v_isi_int ?_
  | with_reducible refine v_isi_str ?_
  | with_reducible refine v_isi_tup ?_
  | with_reducible refine v_in_str ?_
  | with_reducible refine v_nin_str ?_
  | with_reducible refine v_len_tup ?_
  | with_reducible refine v_len_rol ?_
  | with_reducible refine v_len_ktp ?_
  | with_reducible refine v_tru_ktp ?_
  | with_reducible refine v_isi_ktp ?_
  | with_reducible refine v_tuple_ktp ?_
  | with_reducible refine t_zip ?_
  | with_reducible refine v_zip_tt ?_
  | with_reducible refine v_zip_tk ?_
  | with_reducible refine v_zip_kt ?_
  | with_reducible refine v_zip_kk ?_
  | ((with_reducible refine' v_zip_ll ?e ?f ?_); (case e => walk_at "h"); (case f => walk_at "h"))
  | with_reducible refine t_ix ?_
  | ((with_reducible refine' ⟨seqK_ref ?e, ?_⟩); (case e => walk_at "h"))
  | with_reducible refine t_lr ?_
  | ((with_reducible refine' v_ix_ktp ?f ?_); (case f => first | assumption | exact rfl))
  | ((with_reducible refine t_gTk ?s ?_); (case s => first | assumption | exact rfl))
  | ((with_reducible refine v_len_str ?l ?_); (case l => walk_at "l"))
  | ((with_reducible refine' v_len_ref ?e ?_); (case e => walk_at "h"))
  | with_reducible refine v_int_int ?_
  | with_reducible refine v_int_bl ?_
  | with_reducible refine v_max ?_
  | with_reducible refine v_min ?_
  | with_reducible refine v_tuple_tup ?_
  | ((with_reducible refine' v_tuple_ref ?e ?_); (case e => walk_at "h"))
  | ((with_reducible refine' v_ix_ref ?e ?f ?_); (case e => walk_at "h"); (case f => first | assumption | exact rfl))
  | ((with_reducible refine' v_ix_tup ?f ?_); (case f => first | assumption | exact rfl))
  | ((with_reducible refine v_sl_str ?l ?_); (case l => walk_at "l"))
  | with_reducible refine v_sl_tup ?_
  | with_reducible refine v_seq_tup ?_
  | with_reducible refine v_seq_str ?_
  | with_reducible refine v_seq_rol ?_
  | ((with_reducible refine' v_seq_ref ?e ?_); (case e => walk_at "h"))
  | ((with_reducible refine' ⟨v_ty_ref ?e, ?_⟩); (case e => walk_at "h")))
local macro_rules | `(tactic| walk_at "d1") => `(tactic| first | with_reducible refine t_seq ?_ | walk_at "e1")
local macro_rules | `(tactic| walk_at "d") => `(tactic| repeat walk_at "d1")
-- one statement
local macro_rules | `(tactic| walk_at "e") => `(tactic| ((repeat walk_at "e1"); try (with_reducible show sSeq _ _ _ _ _)))
local macro_rules | `(tactic| walk_at "s") => `(tactic| ((with_reducible refine t_seq ?_); walk_at "e"))
-- a drawn thing's small facts
local macro_rules | `(tactic| walk_at "gi") => `(tactic| first
  | exact gi_c trivial
  | exact gi_c ⟨_, rfl, by decide, by decide⟩
  | exact gi_c (show _ ≤ _ by decide)
  | exact gi_c (show _ ≤ _ by decide +kernel)
  | exact gi_v rfl trivial)
local macro_rules | `(tactic| walk_at "ga") => `(tactic| ((repeat (first | exact ga_nil | refine ga_cons2 ?_ ?_)); all_goals (try walk_at "gi")))
def sp_room_at : DSp := fun ds M P => ∃ (ps : List (Str × Str)) (vs : List Int) (s r : Str), ds = [.tup (ps.map prD), .tup (vs.map D.int), .str s, .str r] ∧ PsOk ps ∧ LX.SmS s ∧ LX.SmS r ∧ P (.int (roomOf ps vs (s, r))) M
theorem ok_room_at (ds : List D) (M : Mh) (P : PQ) (h : sp_room_at ds M P) : b_room_at { nx := fun _ M' => P .non M', rt := P } (startD 6 ds) M := by
  obtain ⟨ps, vs, s, r, rfl, hp, hs, hr, k⟩ := h
  unfold b_room_at
  walk_at "s"
  rw [zip_rooms]
  refine for_each (fun i ρ M' => M' = M ∧ ∃ (w4 w5 : Option D), ρ = [some (.tup (ps.map prD)), some (.tup (vs.map D.int)), some (.str s), some (.str r), w4, w5] ∧ ∀ x ∈ (ps.zip vs).take i, x.1 ≠ (s, r)) ⟨rfl, _, _, rfl, by simp⟩ (fun N i d ρ M' hd hI hN => ?_) (fun ρ M' hI => ?_)
  · obtain ⟨rfl, w4, w5, rfl, hx⟩ := hI
    rw [List.getElem?_map] at hd
    obtain ⟨⟨p, v⟩, hq, rfl⟩ := Option.map_eq_some_iff.mp hd
    have hpm := (List.of_mem_zip (List.mem_of_getElem? hq)).1
    refine ⟨trivial, ?_⟩
    walk_at "e"
    walk_at "s"
    refine v_eq_tup ⟨(okn_pr (hp.2 p hpm).1 (hp.2 p hpm).2).ok (by decide), (okn_pr (p := (s, r)) hs hr).ok (by decide)⟩ ?_
    rw [show deq (.tup [.str p.1, .str p.2]) (.tup [.str s, .str r]) = decide (p = (s, r)) from deq_pr (p := p) (q := (s, r))]
    refine t_ite (fun e => ?_) (fun e => ?_)
    · have e : p = (s, r) := of_decide_eq_true e
      subst e
      walk_at "d"
      rw [room_at_hit hx hq] at k
      exact k
    · have e : p ≠ (s, r) := of_decide_eq_false e
      walk_at "d"
      refine hN _ _ ⟨rfl, _, _, rfl, fun x hx' => ?_⟩
      rw [LX.take_snoc hq] at hx'
      rcases List.mem_append.mp hx' with hx' | hx'
      · exact hx x hx'
      · rw [List.mem_singleton.mp hx']; exact e
  · obtain ⟨rfl, w4, w5, rfl, hx⟩ := hI
    rw [List.length_map, List.take_length] at hx
    refine ⟨trivial, ?_⟩
    walk_at "d"
    rw [room_none hx] at k
    exact k
def sp_with_rooms : DSp := fun ds M P => ∃ (Js : List Addr) (L : List (Addr × MO)) (zs : List Str) (ms : List Sts) (r : D) (vs : List Int), ds = [.tup [.tup (zs.map D.str), .tup (ms.map machD), r], .tup (vs.map D.int)] ∧ Held M Js L ∧ COk zs ms ∧
  ∀ M', Held M' Js L → P (.tup [.tup (zs.map D.str), .tup (ms.map machD), rowsD (rowsOf zs (posts zs ms) vs)]) M'
theorem ok_with_rooms (ds : List D) (M : Mh) (P : PQ) (h : sp_with_rooms ds M P) : b_with_rooms sp_room_at sp_used_posts { nx := fun _ M' => P .non M', rt := P } (startD 6 ds) M := by
  obtain ⟨Js, L, zs, ms, r, vs, rfl, H, C, k⟩ := h
  have hp := posts_ok C
  have z1 := C.z1
  unfold b_with_rooms
  walk_at "s"
  refine ⟨rfl, Js, _, zs, ms, r, rfl, H, C, fun M H => ?_⟩
  walk_at "e"
  walk_at "s"
  refine h_new H (Nat.le_of_ble_eq_true rfl) fun f M H => ?_
  walk_at "e"
  walk_at "s"
  refine for_each (fun i ρ M => ∃ (w4 : Option D), ρ = [some (.tup [.tup (zs.map D.str), .tup (ms.map machD), r]), some (.tup (vs.map D.int)), some (.tup ((posts zs ms).map prD)), some (.ref f), w4, none] ∧ Held M Js ((f, .lst ((zs.take i).map fun s => .tup ((zs.map fun r => roomOf (posts zs ms) vs (s, r)).map D.int))) :: L))
    ⟨_, rfl, H⟩ (fun N i d ρ M hd hI hN => ?_) (fun ρ M hI => ?_)
  · obtain ⟨w4, rfl, H⟩ := hI
    have il := (List.getElem?_eq_some_iff.mp hd).1
    rw [List.length_map] at il
    rw [List.getElem?_map] at hd
    obtain ⟨s, hs, rfl⟩ := Option.map_eq_some_iff.mp hd
    have hN : ∀ M, Held M Js ((f, .lst ((zs.take i).map (fun s => .tup ((zs.map fun r => roomOf (posts zs ms) vs (s, r)).map D.int)) ++ [.tup ((zs.map fun r => roomOf (posts zs ms) vs (s, r)).map D.int)])) :: L) → N [some (.tup [.tup (zs.map D.str), .tup (ms.map machD), r]), some (.tup (vs.map D.int)), some (.tup ((posts zs ms).map prD)), some (.ref f), some (.str s), none] M := fun M H => hN _ _ ⟨_, rfl, by rw [LX.take_snoc hs, List.map_append]; exact H⟩
    have al : ((zs.take i).map fun s => D.tup ((zs.map fun r => roomOf (posts zs ms) vs (s, r)).map D.int)).length < 100 := by rw [List.length_map, List.length_take]; omega
    generalize (zs.take i).map (fun s => D.tup ((zs.map fun r => roomOf (posts zs ms) vs (s, r)).map D.int)) = acc at H hN al
    refine ⟨trivial, ?_⟩
    walk_at "e"
    walk_at "s"
    refine h_lc (fun i' a => a = (zs.take i').map fun r => .int (roomOf (posts zs ms) vs (s, r))) H (by rw [List.length_map]; omega) rfl (fun _ _ => trivial) (fun R i' d a p M hd hI H kR => ?_) (fun p a M hl hI H => ?_)
    · subst hI
      rw [List.getElem?_map] at hd
      obtain ⟨r', hr', rfl⟩ := Option.map_eq_some_iff.mp hd
      refine ⟨_, rfl, ?_⟩
      walk_at "e"
      refine ⟨rfl, _, vs, s, r', rfl, hp, C.z _ (List.mem_of_getElem? hs), C.z _ (List.mem_of_getElem? hr'), ?_⟩
      exact kR _ _ (by rw [LX.take_snoc hr', List.map_append]; rfl) H
    · rw [List.length_map, List.take_length] at hI
      subst hI
      walk_at "e"
      refine h_appI 1 H rfl (by omega) fun M H => ?_
      have H := Held.tail H
      refine hN M ?_
      rw [List.map_map]; exact H
  · obtain ⟨w4, rfl, H⟩ := hI
    rw [List.length_map, List.take_length] at H
    refine ⟨trivial, ?_⟩
    walk_at "e"
    walk_at "s"
    have := k _ H.tail
    unfold rowsD rowsOf at this
    rw [List.map_map] at this
    exact this
def sp_l_is_number : DSp := fun ds M P => ∃ i, ds = [.int i] ∧ P (.bl true) M
theorem ok_l_is_number (ds : List D) (M : Mh) (P : PQ) (h : sp_l_is_number ds M P) : b__law_is_number { nx := fun _ M' => P .non M', rt := P } (startD 1 ds) M := by
  obtain ⟨i, rfl, k⟩ := h
  unfold b__law_is_number
  walk_at "d"
  refine t_if1 rfl ?_
  walk_at "d"
  exact k
theorem okd_ps {ps : List (Str × Str)} (h : PsOk ps) : okD (.tup (ps.map prD)) = true := (okn_ps h).ok (by decide)
theorem mem_pr {ps : List (Str × Str)} {p : Str × Str} : memD (prD p) (ps.map prD) = decide (p ∈ ps) := by
  rw [Bool.eq_iff_iff, decide_eq_true_iff]
  unfold memD
  rw [List.any_map, List.any_eq_true]
  constructor
  · rintro ⟨x, hx, e⟩
    have e : deq (prD x) (prD p) = true := e
    rw [deq_pr, decide_eq_true_iff] at e
    rw [← e]; exact hx
  · intro h
    exact ⟨p, h, by show deq (prD p) (prD p) = true; rw [deq_pr, decide_eq_true_iff]⟩
/-- the first place of p -/
theorem first_at {α : Type} [DecidableEq α] {p : α} : ∀ {ps : List α}, p ∈ ps → ∃ j : Nat, ps[j]? = some p ∧ ∀ m : Nat, m < j → ps[m]? ≠ some p
  | [], h => by cases h
  | q :: r, h => by
    by_cases e : q = p
    · exact ⟨0, by rw [e]; rfl, fun m hm => by omega⟩
    · rcases List.mem_cons.mp h with h | h
      · exact absurd h.symm e
      · obtain ⟨j, h1, h2⟩ := first_at h
        refine ⟨j + 1, h1, fun m hm => ?_⟩
        cases m with
        | zero => intro z; cases z; exact e rfl
        | succ m => exact h2 m (by omega)
def sp_room_rows : DSp := fun ds M P => ∃ (Js : List Addr) (L : List (Addr × MO)) (zs : List Str) (ps : List (Str × Str)) (vs : List Int), ds = [.tup (zs.map D.str), .ktp (ps.map prD), .tup (vs.map D.int)] ∧ Held M Js L ∧ zs.length ≤ 10 ∧ (∀ z ∈ zs, LX.SmS z) ∧ PsOk ps ∧ vs.length = ps.length ∧
  ∀ M', Held M' Js L → P (rowsD (rowsOf zs ps vs)) M'
theorem ok_room_rows (ds : List D) (M : Mh) (P : PQ) (h : sp_room_rows ds M P) : b__law_room_rows { nx := fun _ M' => P .non M', rt := P } (startD 8 ds) M := by
  obtain ⟨Js, L, zs, ps, vs, rfl, H, z1, hz, hp, vl, k⟩ := h
  unfold b__law_room_rows
  walk_at "s"
  refine h_new H (Nat.le_of_ble_eq_true rfl) fun f M H => ?_
  walk_at "e"
  walk_at "s"
  refine for_each (fun i ρ M => ∃ (w4 w5 w6 w7 : Option D), ρ = [some (.tup (zs.map D.str)), some (.ktp (ps.map prD)), some (.tup (vs.map D.int)), some (.ref f), w4, w5, w6, w7] ∧ Held M Js ((f, .lst ((zs.take i).map fun s => .tup ((zs.map fun r => roomOf ps vs (s, r)).map D.int))) :: L))
    ⟨_, _, _, _, rfl, H⟩ (fun N i d ρ M hd hI hN => ?_) (fun ρ M hI => ?_)
  · obtain ⟨w4, w5, w6, w7, rfl, H⟩ := hI
    have il := (List.getElem?_eq_some_iff.mp hd).1
    rw [List.length_map] at il
    rw [List.getElem?_map] at hd
    obtain ⟨s, hs, rfl⟩ := Option.map_eq_some_iff.mp hd
    have hN : ∀ M (w5 w6 w7 : Option D), Held M Js ((f, .lst ((zs.take i).map (fun s => .tup ((zs.map fun r => roomOf ps vs (s, r)).map D.int)) ++ [.tup ((zs.map fun r => roomOf ps vs (s, r)).map D.int)])) :: L) → N [some (.tup (zs.map D.str)), some (.ktp (ps.map prD)), some (.tup (vs.map D.int)), some (.ref f), some (.str s), w5, w6, w7] M := fun M w5 w6 w7 H => hN _ _ ⟨_, _, _, _, rfl, by rw [LX.take_snoc hs, List.map_append]; exact H⟩
    have al : ((zs.take i).map fun s => D.tup ((zs.map fun r => roomOf ps vs (s, r)).map D.int)).length < 100 := by rw [List.length_map, List.length_take]; omega
    generalize (zs.take i).map (fun s => D.tup ((zs.map fun r => roomOf ps vs (s, r)).map D.int)) = acc at H hN al
    refine ⟨trivial, ?_⟩
    walk_at "e"
    walk_at "s"
    refine h_new H (Nat.le_of_ble_eq_true rfl) fun q M H => ?_
    walk_at "e"
    walk_at "s"
    refine for_each (fun i' ρ M => ∃ (w6 w7 : Option D), ρ = [some (.tup (zs.map D.str)), some (.ktp (ps.map prD)), some (.tup (vs.map D.int)), some (.ref f), some (.str s), some (.ref q), w6, w7] ∧ Held M Js ((q, .lst ((zs.take i').map fun r => .int (roomOf ps vs (s, r)))) :: (f, .lst acc) :: L))
      ⟨_, _, rfl, H⟩ (fun N2 i' d ρ M hd hI hN2 => ?_) (fun ρ M hI => ?_)
    · obtain ⟨w6, w7, rfl, H⟩ := hI
      have il := (List.getElem?_eq_some_iff.mp hd).1
      rw [List.length_map] at il
      rw [List.getElem?_map] at hd
      obtain ⟨r, hr, rfl⟩ := Option.map_eq_some_iff.mp hd
      have okp := (okn_pr (p := (s, r)) (hz _ (List.mem_of_getElem? hs)) (hz _ (List.mem_of_getElem? hr))).ok (by decide)
      refine ⟨trivial, ?_⟩
      walk_at "e"
      walk_at "s"
      refine t_cut (fun ρ M => ∃ (w7 : Option D), ρ = [some (.tup (zs.map D.str)), some (.ktp (ps.map prD)), some (.tup (vs.map D.int)), some (.ref f), some (.str s), some (.ref q), some (.str r), some (.int (roomOf ps vs (s, r)))] ∧ Held M Js ((q, .lst ((zs.take i').map fun r => .int (roomOf ps vs (s, r)))) :: (f, .lst acc) :: L)) (fun N3 hN3 => ?_) ?_
      · walk_at "e"
        refine v_in_ktp (.inr ⟨okp, okd_ps hp⟩) ?_
        rw [show memD (.tup [.str s, .str r]) (ps.map prD) = decide ((s, r) ∈ ps) from mem_pr (p := (s, r)) (ps := ps)]
        refine t_ite (fun e => ?_) (fun e => ?_)
        · obtain ⟨j, hj, hn⟩ := first_at (of_decide_eq_true e)
          have jl := (List.getElem?_eq_some_iff.mp hj).1
          have ev := List.getElem?_eq_getElem (show j < vs.length by omega)
          generalize vs[j] = v at ev
          walk_at "s"
          refine ⟨trivial, ?_⟩
          walk_at "e"
          refine v_index_k (j := j) (z := prD (s, r)) (okd_ps hp) okp (by rw [List.getElem?_map, hj]; rfl) (by show deq (prD (s, r)) (prD (s, r)) = true; rw [deq_pr, decide_eq_true_iff]) (fun m z' hm e => ?_) ?_
          · rw [List.getElem?_map] at e
            obtain ⟨w, hw, rfl⟩ := Option.map_eq_some_iff.mp e
            show deq (prD w) (prD (s, r)) = false
            rw [deq_pr, decide_eq_false_iff_not]
            rintro rfl
            exact hn m hm hw
          have ea : atI (vs.map D.int) (j : Int) = some (.int v) := atI_get? (by omega) (by rw [Int.toNat_natCast, List.getElem?_map, ev]; rfl)
          walk_at "e"
          exact hN3 _ _ ⟨w7, by rw [room_ix hj ev hn], H⟩
        · walk_at "e"
          exact hN3 _ _ ⟨w7, by rw [room_not (of_decide_eq_false e)], H⟩
      rintro ρ M ⟨w7, rfl, H⟩
      walk_at "s"
      refine h_app H (by rw [List.length_map, List.length_take]; omega) fun M H => ?_
      refine hN2 _ _ ⟨_, _, rfl, ?_⟩
      rw [LX.take_snoc hr, List.map_append]; exact H
    · obtain ⟨w6, w7, rfl, H⟩ := hI
      rw [List.length_map, List.take_length] at H
      refine ⟨trivial, ?_⟩
      walk_at "e"
      walk_at "s"
      refine h_app H.tail (by omega) fun M H => ?_
      refine hN M _ _ _ ?_
      rw [List.map_map]; exact H
  · obtain ⟨w4, w5, w6, w7, rfl, H⟩ := hI
    rw [List.length_map, List.take_length] at H
    refine ⟨trivial, ?_⟩
    walk_at "e"
    walk_at "s"
    have := k _ H.tail
    unfold rowsD rowsOf at this
    rw [List.map_map] at this
    exact this
theorem okn_comp {zs : List Str} {ms : List Sts} (C : COk zs ms) (rows : List (List Int)) : okD (.tup [.tup (zs.map D.str), .tup (ms.map machD), rowsD rows]) = true :=
  (okn_tup (k := 12) (okn_cons ((okn_tup (k := 0) (okn_map fun z hz => okn_str (C.z z hz))).mono (by decide)) (okn_cons (okn_tup (k := 10) (okn_map fun m hm => let ⟨_, h⟩ := C.m m hm; okn_mach h)) (okn_cons ((okn_tup (k := 2) (okn_map fun r _ => okn_tup (k := 0) (okn_map fun x _ => okn_int x))).mono (by decide)) okn_nil)))).ok (by decide)
def sp_has_rooms : DSp := fun ds M P => ∃ (Js : List Addr) (L : List (Addr × MO)) (zs : List Str) (ms : List Sts) (r : D) (ps : List (Str × Str)) (vs : List Int), ds = [.tup [.tup (zs.map D.str), .tup (ms.map machD), rowsD (rowsOf zs ps vs)], .tup [.tup (zs.map D.str), .tup (ms.map machD), r], .ktp (ps.map prD), .tup (vs.map D.int)] ∧ Held M Js L ∧ COk zs ms ∧ PsOk ps ∧ vs.length = ps.length ∧
  ∀ M', Held M' Js L → P (.bl true) M'
theorem ok_has_rooms (ds : List D) (M : Mh) (P : PQ) (h : sp_has_rooms ds M P) : b__law_has_rooms sp_l_is_number sp_room_rows { nx := fun _ M' => P .non M', rt := P } (startD 6 ds) M := by
  obtain ⟨Js, L, zs, ms, r, ps, vs, rfl, H, C, hp, vl, k⟩ := h
  unfold b__law_has_rooms
  walk_at "s"
  refine ⟨rfl, Js, _, zs, ps, vs, rfl, H, C.z1, C.z, hp, vl, fun M H => ?_⟩
  walk_at "e"
  refine v_ne_same (okn_comp C _) ?_
  refine t_if0 rfl ?_
  walk_at "e"
  unfold rowsD
  have z1 := C.z1
  have rl : ∀ row ∈ rowsOf zs ps vs, row.length ≤ 10 := fun row hr => by
    unfold rowsOf at hr
    obtain ⟨s, _, rfl⟩ := List.mem_map.mp hr
    rw [List.length_map]; exact z1
  walk_at "s"
  refine for_each (fun i ρ M => ∃ (w4 : Option D), ρ = [some (.tup [.tup (zs.map D.str), .tup (ms.map machD), .tup ((rowsOf zs ps vs).map fun r => .tup (r.map D.int))]), some (.tup [.tup (zs.map D.str), .tup (ms.map machD), r]), some (.ktp (ps.map prD)), some (.tup (vs.map D.int)), w4, none] ∧ Held M Js L)
    ⟨_, rfl, H⟩ (fun N i d ρ M hd hI hN => ?_) (fun ρ M hI => ?_)
  · obtain ⟨w4, rfl, H⟩ := hI
    rw [List.getElem?_map] at hd
    obtain ⟨row, hr, rfl⟩ := Option.map_eq_some_iff.mp hd
    have rl := rl row (List.mem_of_getElem? hr)
    refine ⟨trivial, ?_⟩
    walk_at "e"
    walk_at "s"
    refine h_lcT (fun i acc => acc = []) H (by rw [List.length_map]; omega) rfl (fun _ _ => trivial) (fun R S i' d a p M hd hI H kR kS => ?_) (fun p a M hl hI H => ?_)
    · rw [List.getElem?_map] at hd
      obtain ⟨x, hx, rfl⟩ := Option.map_eq_some_iff.mp hd
      refine ⟨_, rfl, ?_⟩
      walk_at "e"
      refine ⟨rfl, x, rfl, ?_⟩
      walk_at "e"
      refine t_if0 rfl ?_
      exact kS _ hI H
    · subst hI
      walk_at "e"
      refine t_if0 (by decide) ?_
      walk_at "e"
      exact hN _ _ ⟨_, rfl, H.tail⟩
  · obtain ⟨w4, rfl, H⟩ := hI
    refine ⟨trivial, ?_⟩
    walk_at "e"
    walk_at "s"
    exact k _ H
end K66
/-! K66r: the law's own posts; the law. -/
namespace K66
open PySem DL L2 GR K22 MX
-- where it stands in the row of things held
local macro_rules | `(tactic| walk_at "m") => `(tactic| first
  | assumption
  | exact List.mem_cons_self
  | (refine List.mem_cons_of_mem _ ?_; walk_at "m"))
-- what the heap holds at a place
local macro_rules | `(tactic| walk_at "h") => `(tactic| first
  | assumption
  | exact mup_same
  | exact Held.get (by assumption) (by walk_at "m")
  | (refine (mup_ne ?_).trans ?_ <;> first | assumption | (apply Ne.symm; assumption) | walk_at "h"))
-- small facts of numbers
local macro_rules | `(tactic| walk_at "n") => `(tactic| first
  | assumption
  | omega
  | decide
  | (exact CMul.r (by decide))
  | (exact CMul.l (by decide))
  | (refine ⟨?_, ?_⟩ <;> first | assumption | omega | decide))
-- lengths
local macro_rules | `(tactic| walk_at "l") => `(tactic| first
  | assumption
  | (rw [sizeLine_eq]; first | omega | decide | (simp; done) | (simp; omega) | decide +kernel))
-- one step
local macro_rules | `(tactic| walk_at "e1") => `(tactic| first
  | with_reducible refine t_nil ?_
  | ((with_reducible refine' t_var ?s ?_); (case s => first | exact rfl | assumption))
  | with_reducible refine t_c ?_
  | with_reducible refine t_bin ?_
  | with_reducible refine t_if ?_
  | with_reducible refine t_asg ?_
  | ((with_reducible refine' t_gN' ?e ?_); (case e => ((try simp only [List.set_cons_zero, List.set_cons_succ, startD, List.map_cons, List.map_nil, List.length_cons, List.length_nil, Nat.reduceAdd, Nat.reduceSub, List.replicate, List.cons_append, List.nil_append]); exact rfl)))
  | with_reducible refine t_ret ?_
  | with_reducible refine t_exp ?_
  | with_reducible refine t_bcmp ?_
  | with_reducible refine t_band ?_
  | with_reducible refine t_bor ?_
  | with_reducible refine t_bnot ?_
  | with_reducible refine t_btru ?_
  | with_reducible refine t_byes ?_
  | with_reducible refine t_an ?_
  | with_reducible refine t_ac ?_
  | with_reducible refine t_fn ?_
  | with_reducible refine t_call ?_
  | with_reducible refine t_cmp ?_
  | with_reducible refine t_and ?_
  | with_reducible refine t_or ?_
  | with_reducible refine t_not ?_
  | with_reducible refine t_ife ?_
  | with_reducible refine t_tupN ?_
  | ((with_reducible refine v_newT ?l ?_); (case l => exact Nat.le_of_ble_eq_true rfl))
  | with_reducible refine t_lstN ?_
  | with_reducible refine t_isi ?_
  | with_reducible refine t_sl ?_
  | with_reducible refine t_o0 ?_
  | with_reducible refine t_o1 ?_
  | with_reducible refine t_un ?_
  | with_reducible refine t_mt ?_
  | with_reducible refine t_gS ?_
  | with_reducible refine t_gsC ?_
  | with_reducible refine t_gsN ?_
  | ((with_reducible refine t_gT ?s ?_); (case s => first | assumption | exact rfl))
  | with_reducible refine t_retN ?_
  | with_reducible refine t_brk ?_
  | with_reducible refine t_cnt ?_
  | ((with_reducible refine' t_aug ?s ?_); (case s => first | exact rfl | assumption))
  | with_reducible refine t_for ?_
  | with_reducible refine t_seqi ?_
  | with_reducible refine t_rg1 ?_
  | with_reducible refine t_rg2 ?_
  | with_reducible refine t_lc ?_
  | with_reducible refine v_tru_bl ?_
  | with_reducible refine v_tru_int ?_
  | with_reducible refine v_tru_non ?_
  | with_reducible refine v_tru_tup ?_
  | with_reducible refine v_add_int ?_
  | ((with_reducible refine v_add_str ?l ?_); (case l => walk_at "l"))
  | ((with_reducible refine v_add_tup ?l ?_); (case l => walk_at "l"))
  | with_reducible refine v_iadd_int ?_
  | with_reducible refine v_sub ?_
  | ((with_reducible refine v_mul ?c ?_); (case c => walk_at "n"))
  | ((with_reducible refine v_div ?c ?_); (case c => walk_at "n"))
  | ((with_reducible refine v_mod ?c ?_); (case c => walk_at "n"))
  | ((with_reducible refine v_pow ?c ?_); (case c => exact ⟨by decide, by decide, by decide⟩))
  | with_reducible refine v_neg ?_
  | with_reducible exact trivial
  | with_reducible refine v_eq_int ?_
  | with_reducible refine v_eq_str ?_
  | with_reducible refine v_eq_bl ?_
  | with_reducible refine v_ne_int ?_
  | with_reducible refine v_ne_str ?_
  | with_reducible refine v_ne_bl ?_
  | with_reducible refine v_lt ?_
  | with_reducible refine v_lt_str ?_
  | with_reducible refine t_ks ?_
  | with_reducible refine t_rv ?_
  | with_reducible refine v_seq_ktp ?_
  | with_reducible refine v_le ?_
  | with_reducible refine v_gt ?_
  | with_reducible refine v_ge ?_
  | with_reducible refine v_isi_non ?_
  | with_reducible refine v_isi_bl ?_
  | with_reducible refine v_isi_int ?_
  | with_reducible refine v_isi_str ?_
  | with_reducible refine v_isi_tup ?_
  | with_reducible refine v_in_str ?_
  | with_reducible refine v_nin_str ?_
  | with_reducible refine v_len_tup ?_
  | with_reducible refine v_len_rol ?_
  | with_reducible refine v_len_ktp ?_
  | with_reducible refine v_tru_ktp ?_
  | with_reducible refine v_isi_ktp ?_
  | with_reducible refine v_tuple_ktp ?_
  | with_reducible refine t_zip ?_
  | with_reducible refine v_zip_tt ?_
  | with_reducible refine v_zip_tk ?_
  | with_reducible refine v_zip_kt ?_
  | with_reducible refine v_zip_kk ?_
  | ((with_reducible refine' v_zip_ll ?e ?f ?_); (case e => walk_at "h"); (case f => walk_at "h"))
  | with_reducible refine t_ix ?_
  | ((with_reducible refine' ⟨seqK_ref ?e, ?_⟩); (case e => walk_at "h"))
  | with_reducible refine t_lr ?_
  | ((with_reducible refine' v_ix_ktp ?f ?_); (case f => first | assumption | exact rfl))
  | ((with_reducible refine t_gTk ?s ?_); (case s => first | assumption | exact rfl))
  | ((with_reducible refine v_len_str ?l ?_); (case l => walk_at "l"))
  | ((with_reducible refine' v_len_ref ?e ?_); (case e => walk_at "h"))
  | with_reducible refine v_int_int ?_
  | with_reducible refine v_int_bl ?_
  | with_reducible refine v_max ?_
  | with_reducible refine v_min ?_
  | with_reducible refine v_tuple_tup ?_
  | ((with_reducible refine' v_tuple_ref ?e ?_); (case e => walk_at "h"))
  | ((with_reducible refine' v_ix_ref ?e ?f ?_); (case e => walk_at "h"); (case f => first | assumption | exact rfl))
  | ((with_reducible refine' v_ix_tup ?f ?_); (case f => first | assumption | exact rfl))
  | ((with_reducible refine v_sl_str ?l ?_); (case l => walk_at "l"))
  | with_reducible refine v_sl_tup ?_
  | with_reducible refine v_seq_tup ?_
  | with_reducible refine v_seq_str ?_
  | with_reducible refine v_seq_rol ?_
  | ((with_reducible refine' v_seq_ref ?e ?_); (case e => walk_at "h"))
  | ((with_reducible refine' ⟨v_ty_ref ?e, ?_⟩); (case e => walk_at "h")))
local macro_rules | `(tactic| walk_at "d1") => `(tactic| first | with_reducible refine t_seq ?_ | walk_at "e1")
local macro_rules | `(tactic| walk_at "d") => `(tactic| repeat walk_at "d1")
-- one statement
local macro_rules | `(tactic| walk_at "e") => `(tactic| ((repeat walk_at "e1"); try (with_reducible show sSeq _ _ _ _ _)))
local macro_rules | `(tactic| walk_at "s") => `(tactic| ((with_reducible refine t_seq ?_); walk_at "e"))
-- a drawn thing's small facts
local macro_rules | `(tactic| walk_at "gi") => `(tactic| first
  | exact gi_c trivial
  | exact gi_c ⟨_, rfl, by decide, by decide⟩
  | exact gi_c (show _ ≤ _ by decide)
  | exact gi_c (show _ ≤ _ by decide +kernel)
  | exact gi_v rfl trivial)
local macro_rules | `(tactic| walk_at "ga") => `(tactic| ((repeat (first | exact ga_nil | refine ga_cons2 ?_ ?_)); all_goals (try walk_at "gi")))
def sp_found : DSp := fun ds M P => ∃ (Js : List Addr) (L : List (Addr × MO)) (n : Nat) (m : Sts), ds = [machD m] ∧ Held M Js L ∧ MaOk n m ∧
  ∀ p (fs : List Int) M', (∀ b, b ∈ fs ↔ Reach (Edge m) 0 b) → (∀ b ∈ fs, 0 ≤ b ∧ b < n) → fs.length ≤ n → Held M' Js ((p, .lst (fs.map D.int)) :: L) → P (.ref p) M'
theorem ok_found (ds : List D) (M : Mh) (P : PQ) (h : sp_found ds M P) : b__law_found { nx := fun _ M' => P .non M', rt := P } (startD 4 ds) M := by
  obtain ⟨Js, L, n, m, rfl, H, hm, k⟩ := h
  have hml := hm.le
  have hpos := hm.pos
  have sl : (m.map LX.stD).length = n := by rw [List.length_map]; exact hm.len
  unfold b__law_found machD
  walk_at "s"
  refine h_new H (Nat.le_of_ble_eq_true rfl) fun p M H => ?_
  walk_at "e"
  walk_at "s"
  rw [sl]
  refine ⟨by omega, ?_⟩
  refine for_each (fun i ρ M => ∃ (c : Nat) (fs : List Int) (w2 w3 : Option D), ρ = [some (.tup (m.map LX.stD)), some (.ref p), w2, w3] ∧ Bfs (Edge m) n 0 c fs ∧ (c = i ∨ (fs.length ≤ c ∧ c ≤ i)) ∧ Held M Js ((p, .lst (fs.map D.int)) :: L))
    ⟨0, [0], _, _, rfl, Bfs.start (by omega) (by omega), .inl rfl, H⟩ (fun N i d ρ M hd hI hN => ?_) (fun ρ M hI => ?_)
  · obtain ⟨c, fs, w2, w3, rfl, B, hc, H⟩ := hI
    obtain ⟨rfl, hi⟩ := LX.rget hd
    have fl : (fs.map D.int).length = fs.length := List.length_map ..
    have hl := B.len
    have hle := B.le
    refine ⟨trivial, ?_⟩
    walk_at "e"
    walk_at "s"
    rw [fl]
    refine t_ite (fun e => ?_) (fun e => ?_)
    · have e : i < fs.length := by have := of_decide_eq_true e; omega
      have ec : c = i := by omega
      subst ec
      have hb := List.getElem?_eq_getElem e
      generalize fs[c] = b at hb
      obtain ⟨b0, b1⟩ := B.rng b (List.mem_of_getElem? hb)
      have eb : atI (fs.map D.int) (0 + (c : Int)) = some (.int b) := by rw [Int.zero_add]; exact atI_ints hb
      obtain ⟨o, e1, ho, e2⟩ := hm.at b0 b1
      walk_at "e"
      cases o with
      | none =>
        rw [st_none] at e2 ⊢
        walk_at "e"
        refine t_if0 (by decide +kernel) ?_
        walk_at "e"
        refine hN _ _ ⟨c + 1, fs, _, _, rfl, B.next hb fun x ex => ?_, .inl rfl, H⟩
        obtain ⟨mv, hmv, _⟩ := (edge_iff b0 e1).mp ex
        cases hmv
      | some s =>
        have q := hm.st s ho
        have ql := q.len
        rw [st_some] at e2 ⊢
        walk_at "e"
        refine t_if1 (by rw [kind_end q.kind]; rfl) ?_
        walk_at "s"
        refine for_each (fun j ρ M => ∃ (fs : List Int) (w3 : Option D), ρ = [some (.tup (m.map LX.stD)), some (.ref p), some (.int (0 + (c : Int))), w3] ∧ Bfs (Edge m) n 0 c fs ∧ fs[c]? = some b ∧ (∀ mv ∈ s.ms.take j, mv.g ∈ fs) ∧ Held M Js ((p, .lst (fs.map D.int)) :: L))
          ⟨fs, _, rfl, B, hb, by simp, H⟩ (fun N2 j d ρ M hd hI hN2 => ?_) (fun ρ M hI => ?_)
        · obtain ⟨fs, w3, rfl, B, hb, hj, H⟩ := hI
          rw [List.getElem?_map] at hd
          obtain ⟨mv, hmv, rfl⟩ := Option.map_eq_some_iff.mp hd
          have hl := B.len
          have ed : Edge m b mv.g := (edge_iff b0 e1).mpr ⟨mv, List.mem_of_getElem? hmv, rfl⟩
          obtain ⟨g0, g1⟩ := edge_rng hm ed
          refine ⟨trivial, ?_⟩
          rw [mo_d]
          walk_at "e"
          walk_at "s"
          refine v_nin_ref (H.get List.mem_cons_self) (.inl ⟨rfl, flat_ints fs⟩) ?_
          refine t_ite (fun c' => ?_) (fun c' => ?_)
          · have c' : mv.g ∉ fs := fun h => by rw [memD_ints.mpr h] at c'; cases c'
            walk_at "d"
            refine h_app H (by rw [List.length_map]; omega) fun M H => ?_
            refine hN2 _ _ ⟨fs ++ [mv.g], _, rfl, B.add (List.mem_of_getElem? hb) ed c' g0 g1, by rw [List.getElem?_append_left (List.getElem?_eq_some_iff.mp hb).1]; exact hb, fun x hx => ?_, by rw [List.map_append]; exact H⟩
            rw [LX.take_snoc hmv] at hx
            rcases List.mem_append.mp hx with hx | hx
            · exact List.mem_append_left _ (hj x hx)
            · rw [List.mem_singleton.mp hx]; simp
          · have c' : mv.g ∈ fs := memD_ints.mp (by simpa using c')
            walk_at "d"
            refine hN2 _ _ ⟨fs, _, rfl, B, hb, fun x hx => ?_, H⟩
            rw [LX.take_snoc hmv] at hx
            rcases List.mem_append.mp hx with hx | hx
            · exact hj x hx
            · rw [List.mem_singleton.mp hx]; exact c'
        · obtain ⟨fs, w3, rfl, B, hb, hj, H⟩ := hI
          rw [List.length_map, List.take_length] at hj
          refine ⟨trivial, ?_⟩
          walk_at "e"
          refine hN _ _ ⟨c + 1, fs, _, _, rfl, B.next hb fun x ex => ?_, .inl rfl, H⟩
          obtain ⟨mv, hmv, rfl⟩ := (edge_iff b0 e1).mp ex
          exact hj mv hmv
    · have e : fs.length ≤ i := by have := of_decide_eq_false e; omega
      refine t_if0 rfl ?_
      walk_at "e"
      exact hN _ _ ⟨c, fs, _, _, rfl, B, by omega, H⟩
  · obtain ⟨c, fs, w2, w3, rfl, B, hc, H⟩ := hI
    rw [LX.rlen, Int.toNat_natCast] at hc
    have hl := B.len
    have hle := B.le
    refine ⟨trivial, ?_⟩
    walk_at "e"
    walk_at "s"
    exact k p fs _ (B.done (by omega)) B.rng hl H
def sp_l_posts : DSp := fun ds M P => ∃ (Js : List Addr) (L : List (Addr × MO)) (zs : List Str) (ms : List Sts) (r : D), ds = [.tup [.tup (zs.map D.str), .tup (ms.map machD), r]] ∧ Held M Js L ∧ COk zs ms ∧
  ∀ M', Held M' Js L → P (.ktp ((posts zs ms).map prD)) M'
theorem ok_l_posts (ds : List D) (M : Mh) (P : PQ) (h : sp_l_posts ds M P) : b__law_posts sp_found { nx := fun _ M' => P .non M', rt := P } (startD 7 ds) M := by
  obtain ⟨Js, L, zs, ms, r, rfl, H, C, k⟩ := h
  have pl := (posts_ok C).1
  unfold b__law_posts
  walk_at "s"
  refine h_new H (Nat.le_of_ble_eq_true rfl) fun f M H => ?_
  walk_at "e"
  walk_at "s"
  rw [zip_items]
  refine for_each (fun i ρ M => ∃ (w2 w3 w4 w6 : Option D), ρ = [some (.tup [.tup (zs.map D.str), .tup (ms.map machD), r]), some (.ref f), w2, w3, w4, none, w6] ∧ Held M Js ((f, .lst ((((zs.zip ms).take i).flatMap (postOf zs)).map prD)) :: L))
    ⟨_, _, _, _, rfl, H⟩ (fun N i d ρ M hd hI hN => ?_) (fun ρ M hI => ?_)
  · obtain ⟨w2, w3, w4, w6, rfl, H⟩ := hI
    rw [List.getElem?_map] at hd
    obtain ⟨p, hp, rfl⟩ := Option.map_eq_some_iff.mp hd
    obtain ⟨n, hm⟩ := C.m p.2 (List.of_mem_zip (a := p.1) (b := p.2) (List.mem_of_getElem? hp)).2
    have hml := hm.le
    have sz : (((zs.zip ms).take i).flatMap (postOf zs)).length + (postOf zs p).length ≤ 200 := by
      have e : posts zs ms = ((zs.zip ms).take (i + 1)).flatMap (postOf zs) ++ ((zs.zip ms).drop (i + 1)).flatMap (postOf zs) := by
        unfold posts
        rw [← List.flatMap_append, List.take_append_drop]
      have := congrArg List.length e
      rw [take_flat hp, List.length_append, List.length_append] at this
      omega
    have hN : ∀ (w2 w3 w4 w6 : Option D) M, Held M Js ((f, .lst ((((zs.zip ms).take i).flatMap (postOf zs) ++ postOf zs p).map prD)) :: L) → N [some (.tup [.tup (zs.map D.str), .tup (ms.map machD), r]), some (.ref f), w2, w3, w4, none, w6] M := fun w2 w3 w4 w6 M H => hN _ _ ⟨_, _, _, _, rfl, by rw [take_flat hp]; exact H⟩
    generalize ((zs.zip ms).take i).flatMap (postOf zs) = acc at H sz hN
    refine ⟨trivial, ?_⟩
    walk_at "e"
    walk_at "s"
    refine ⟨rfl, Js, _, n, p.2, rfl, H, hm, fun q fs M hfs hr fl H => ?_⟩
    walk_at "e"
    refine h_lcT (fun i acc => ∃ ws : List Str, acc = ws.map D.str ∧ ∀ w, w ∈ ws ↔ ∃ b ∈ fs.take i, ∃ s, p.2[b.toNat]? = some (some s) ∧ s.kind = "say" ∧ s.who = w) H (by rw [List.length_map]; omega) ⟨[], rfl, by simp⟩ (fun _ H => H.get List.mem_cons_self) (fun R S i' d a u M hd hI H kR kS => ?_) (fun u a M hl hI H => ?_)
    · obtain ⟨ws, rfl, hw⟩ := hI
      rw [List.getElem?_map] at hd
      obtain ⟨b, hb, rfl⟩ := Option.map_eq_some_iff.mp hd
      obtain ⟨b0, b1⟩ := hr b (List.mem_of_getElem? hb)
      obtain ⟨o, e1, ho, e2⟩ := hm.at b0 b1
      refine ⟨_, rfl, ?_⟩
      unfold machD
      walk_at "e"
      have skip : (∀ s, o = some s → s.kind ≠ "say") → S M := fun hs => kS _ ⟨ws, rfl, fun w => by
        rw [hw w, LX.take_snoc hb]
        constructor
        · rintro ⟨c, hc, h⟩; exact ⟨c, List.mem_append_left _ hc, h⟩
        · rintro ⟨c, hc, s, h1, h2, h3⟩
          rcases List.mem_append.mp hc with hc | hc
          · exact ⟨c, hc, s, h1, h2, h3⟩
          · rw [List.mem_singleton.mp hc, e1] at h1
            cases h1
            exact absurd h2 (hs s rfl)⟩ H
      cases o with
      | none =>
        rw [st_none] at e2 ⊢
        walk_at "e"
        refine t_if0 (by decide +kernel) ?_
        exact skip fun s e => by cases e
      | some s =>
        rw [st_some] at e2 ⊢
        walk_at "e"
        refine t_ite (fun e => ?_) (fun e => ?_)
        · have e : s.kind = "say" := beq_iff_eq.mp e
          walk_at "e"
          refine kR _ _ ⟨ws ++ [s.who], by rw [List.map_append]; rfl, fun w => ?_⟩ H
          rw [List.mem_append, List.mem_singleton, hw w, LX.take_snoc hb]
          constructor
          · rintro (⟨c, hc, h⟩ | rfl)
            · exact ⟨c, List.mem_append_left _ hc, h⟩
            · exact ⟨b, by simp, s, e1, e, rfl⟩
          · rintro ⟨c, hc, s', h1, h2, h3⟩
            rcases List.mem_append.mp hc with hc | hc
            · exact .inl ⟨c, hc, s', h1, h2, h3⟩
            · rw [List.mem_singleton.mp hc, e1] at h1
              cases h1
              exact .inr h3.symm
        · exact skip fun s' e' => by cases e'; exact beq_eq_false_iff_ne.mp e
    obtain ⟨ws, rfl, hw⟩ := hI
    rw [List.length_map, List.take_length] at hw
    have hk : ∀ w, memD (.str w) (ws.map D.str) = heardB p.2 w := fun w => by
      rw [Bool.eq_iff_iff, memD_strs, hw w, heardB_iff]
      constructor
      · rintro ⟨b, hb, s, h1, h2, h3⟩; exact ⟨b, s, (hfs b).mp hb, h1, h2, h3⟩
      · rintro ⟨b, s, hb, h1, h2, h3⟩; exact ⟨b, (hfs b).mpr hb, s, h1, h2, h3⟩
    have H := H.tail2
    walk_at "e"
    walk_at "s"
    refine for_each (fun i' ρ M => ∃ (w6 : Option D), ρ = [some (.tup [.tup (zs.map D.str), .tup (ms.map machD), r]), some (.ref f), some (.str p.1), some (machD p.2), some (.ref u), none, w6] ∧ Held M Js ((u, .lst (ws.map D.str)) :: (f, .lst ((acc ++ ((zs.take i').filter (heardB p.2)).map fun r => (p.1, r)).map prD)) :: L))
      ⟨_, rfl, by simpa using H⟩ (fun N2 i' d ρ M hd hI hN2 => ?_) (fun ρ M hI => ?_)
    · obtain ⟨w6, rfl, H⟩ := hI
      rw [List.getElem?_map] at hd
      obtain ⟨z, hz, rfl⟩ := Option.map_eq_some_iff.mp hd
      have sz2 : ((zs.take i').filter (heardB p.2)).length ≤ 10 := by
        have := List.length_filter_le (heardB p.2) (zs.take i')
        rw [List.length_take] at this
        have := C.z1
        omega
      refine ⟨trivial, ?_⟩
      walk_at "e"
      walk_at "s"
      refine v_in_ref (H.get List.mem_cons_self) (.inl ⟨rfl, flat_strs ws⟩) ?_
      rw [hk z]
      refine t_ite (fun e => ?_) (fun e => ?_)
      · walk_at "d"
        refine h_appI 1 H rfl (by rw [List.length_map, List.length_append, List.length_map]; omega) fun M H => ?_
        refine hN2 _ _ ⟨_, rfl, ?_⟩
        have e3 : (acc ++ ((zs.take (i' + 1)).filter (heardB p.2)).map fun r => (p.1, r)).map prD = (acc ++ ((zs.take i').filter (heardB p.2)).map fun r => (p.1, r)).map prD ++ [.tup [.str p.1, .str z]] := by
          rw [LX.take_snoc hz, List.filter_append, List.map_append, List.filter_cons, if_pos e]
          simp only [List.map_append, List.append_assoc, List.filter_nil, List.map_cons, List.map_nil]
          rfl
        rw [e3]; exact H
      · walk_at "e"
        refine hN2 _ _ ⟨_, rfl, ?_⟩
        have e3 : (zs.take (i' + 1)).filter (heardB p.2) = (zs.take i').filter (heardB p.2) := by
          rw [LX.take_snoc hz, List.filter_append, List.filter_cons, if_neg (by rw [e]; decide)]; simp
        rw [e3]; exact H
    · obtain ⟨w6, rfl, H⟩ := hI
      rw [List.length_map, List.take_length] at H
      refine ⟨trivial, ?_⟩
      walk_at "e"
      exact hN _ _ _ _ M H.tail
  · obtain ⟨w2, w3, w4, w6, rfl, H⟩ := hI
    rw [List.length_map, List.take_length] at H
    refine ⟨trivial, ?_⟩
    walk_at "e"
    refine t_seq (t_ret (t_call (t_ac (t_var rfl (t_an (v_tuple_refK (H.get List.mem_cons_self) ?_))))))
    exact k _ H.tail
def sp_posts_right : DSp := fun ds M P => ∃ (Js : List Addr) (L : List (Addr × MO)) (j : Addr) (zs : List Str) (ms : List Sts) (r : D), ds = [.ref j, .tup [.tup (zs.map D.str), .tup (ms.map machD), r], .ktp ((posts zs ms).map prD)] ∧ Held M Js L ∧ j ∈ Js ∧ COk zs ms ∧
  ∀ M', Held M' Js L → P (.bl true) M'
theorem v_ne_posts {ps : List (Str × Str)} {M : Mh} {R : Bool → Prop} (h : PsOk ps) (k : R false) : neD (.tup (ps.map prD)) (.ktp (ps.map prD)) M R :=
  .inl ⟨.inr ⟨okd_ps h, (okn_ktp (k := 2) (okn_map fun p hp => okn_pr (h.2 p hp).1 (h.2 p hp).2)).ok (by decide)⟩, by
    have : deq (.tup (ps.map prD)) (.ktp (ps.map prD)) = true := deq_refl (.tup (ps.map prD)) (okd_ps h)
    rw [this]; exact k⟩
theorem v_eq_posts {ps : List (Str × Str)} {M : Mh} {R : Bool → Prop} (h : PsOk ps) (k : R true) : eqD (.tup (ps.map prD)) (.ktp (ps.map prD)) M R :=
  .inl ⟨.inr ⟨okd_ps h, (okn_ktp (k := 2) (okn_map fun p hp => okn_pr (h.2 p hp).1 (h.2 p hp).2)).ok (by decide)⟩, by
    have : deq (.tup (ps.map prD)) (.ktp (ps.map prD)) = true := deq_refl (.tup (ps.map prD)) (okd_ps h)
    rw [this]; exact k⟩
theorem ok_posts_right (ds : List D) (M : Mh) (P : PQ) (h : sp_posts_right ds M P) : b__law_posts_right sp_has_rooms sp_with_rooms sp_used_posts sp_rooms sp_pick { nx := fun _ M' => P .non M', rt := P } (startD 8 ds) M := by
  obtain ⟨Js, L, j, zs, ms, r, rfl, H, hj, C, k⟩ := h
  have hp := posts_ok C
  have pl := hp.1
  have z1 := C.z1
  unfold b__law_posts_right
  walk_at "s"
  refine ⟨rfl, Js, _, zs, ms, r, rfl, H, C, fun M H => ?_⟩
  walk_at "e"
  refine v_ne_posts hp ?_
  refine t_if0 rfl ?_
  walk_at "e"
  walk_at "s"
  refine h_lc (fun i acc => ∃ vs : List Int, acc = vs.map D.int) H (by rw [List.length_map]; omega) ⟨[], rfl⟩ (fun _ _ => trivial) (fun R i d acc p M hd hI H kR => ?_) (fun p acc M hl hI H => ?_)
  · obtain ⟨vs, rfl⟩ := hI
    refine ⟨_, rfl, ?_⟩
    walk_at "e"
    refine h_pick H hj (by omega) fun b M b0 b1 H => ?_
    exact kR _ _ ⟨vs ++ [b], by rw [List.map_append]; rfl⟩ H
  obtain ⟨vs, rfl⟩ := hI
  rw [List.length_map, List.length_map] at hl
  walk_at "e"
  have H := H.tail
  walk_at "s"
  refine ⟨rfl, Js, _, zs, ms, r, vs, rfl, H, C, fun M H => ?_⟩
  walk_at "e"
  walk_at "s"
  refine ⟨rfl, Js, _, zs, ms, r, _, vs, rfl, H, C, hp, hl, fun M H => ?_⟩
  walk_at "e"
  refine t_if0 rfl ?_
  walk_at "e"
  walk_at "s"
  rw [show ((zs.map D.str).length : Int) = ((zs.length : Nat) : Int) by rw [List.length_map]]
  refine ⟨rfl, Js, _, j, zs.length, 4, rfl, H, hj, by omega, by omega, by omega, fun rows M rl hr H => ?_⟩
  walk_at "e"
  walk_at "s"
  refine ⟨rfl, Js, _, zs, ms, _, rfl, H, C, fun M H => ?_⟩
  walk_at "e"
  refine v_ne_posts hp ?_
  refine t_if0 rfl ?_
  walk_at "e"
  refine ⟨rfl, Js, _, zs, ms, _, vs, rfl, H, C, fun M H => ?_⟩
  walk_at "e"
  refine ⟨rfl, Js, _, zs, ms, r, _, vs, rfl, H, C, hp, hl, fun M H => ?_⟩
  walk_at "e"
  refine t_if0 rfl ?_
  walk_at "e"
  walk_at "s"
  refine h_lc (fun i acc => ∃ vs : List Int, acc = vs.map D.int) H (by rw [List.length_map]; omega) ⟨[], rfl⟩ (fun _ _ => trivial) (fun R i d acc p M hd hI H kR => ?_) (fun p acc M hl hI H => ?_)
  · obtain ⟨vs, rfl⟩ := hI
    refine ⟨_, rfl, ?_⟩
    walk_at "e"
    exact kR _ _ ⟨vs ++ [0], by rw [List.map_append]; rfl⟩ H
  obtain ⟨us, rfl⟩ := hI
  rw [List.length_map, List.length_map] at hl
  walk_at "e"
  have H := H.tail
  walk_at "s"
  unfold rowsD
  refine ⟨rfl, Js, _, zs, ms, _, rfl, H, C, fun M H => ?_⟩
  walk_at "e"
  refine v_eq_posts hp ?_
  walk_at "e"
  refine t_if1 rfl ?_
  walk_at "e"
  refine ⟨rfl, Js, _, zs, ms, _, us, rfl, H, C, fun M H => ?_⟩
  walk_at "e"
  exact ⟨rfl, Js, _, zs, ms, r, _, us, rfl, H, C, hp, hl, fun M H => k M H⟩
/-! ### companies drawn -/
def sp_company : DSp := fun ds M P => ∃ (Js : List Addr) (L : List (Addr × MO)) (j i : Addr), ds = [.ref j, .ref i] ∧ Held M Js L ∧ j ∈ Js ∧ i ∈ Js ∧
  ∀ zs ms r M', COk zs ms → Held M' Js L → P (.tup [.tup (zs.map D.str), .tup (ms.map machD), r]) M'
theorem ok_company (ds : List D) (M : Mh) (P : PQ) (h : sp_company ds M P) : b__law_company sp_rooms sp_pick sp_ordered sp_mixed sp_copies LX.sp_machine LX.sp_name LX.sp_names { nx := fun _ M' => P .non M', rt := P } (startD 9 ds) M := by
  obtain ⟨Js, L, j, i, rfl, H, hj, hi, k⟩ := h
  unfold b__law_company
  walk_at "s"
  refine h_new H (Nat.le_of_ble_eq_true rfl) fun u M H => ?_
  refine h_pick H hj (by omega) fun a M a0 a1 H => ?_
  refine h_ixm (zs := [1, 2, 2, 3, 3, 4, 5, 7]) (f := D.int) H List.mem_cons_self a0 a1 fun cc hcc _ => ?_
  have hc : 1 ≤ cc ∧ cc ≤ 7 := by simp at hcc; omega
  have H := H.tail
  walk_at "e"
  refine LX.h_names H hi (by omega) (by omega) fun na zs M zl hz sz H => ?_
  have zpl : (zs.map D.str).length = zs.length := List.length_map ..
  walk_at "e"
  walk_at "s"
  refine LX.h_name H hi (by omega) (by omega) fun l1 M _ s1 H => ?_
  walk_at "e"
  refine LX.h_name H hi (by omega) (by omega) fun l2 M _ s2 H => ?_
  walk_at "e"
  refine h_new H (Nat.le_of_ble_eq_true rfl) fun la M H => ?_
  have H : Held M Js ((la, .lst ([l1, l2].map D.str)) :: (na, .lst (zs.map D.str)) :: L) := H
  walk_at "e"
  walk_at "s"
  refine h_new H (Nat.le_of_ble_eq_true rfl) fun f M H => ?_
  walk_at "e"
  walk_at "s"
  refine for_each (fun i' ρ M => ∃ (ms : List Sts) (w5 w6 w8 : Option D), ρ = [some (.ref j), some (.ref i), some (.ref na), some (.ref la), some (.ref f), w5, w6, none, w8] ∧ ms.length = i' ∧ (∀ m ∈ ms, ∃ n, MaOk n m) ∧ Held M Js ((f, .lst (ms.map machD)) :: (la, .lst ([l1, l2].map D.str)) :: (na, .lst (zs.map D.str)) :: L))
    ⟨[], _, _, _, rfl, rfl, by simp, H⟩ (fun N i' d ρ M hd hI hN => ?_) (fun ρ M hI => ?_)
  · obtain ⟨ms, w5, w6, w8, rfl, ml, hm, H⟩ := hI
    have il := (List.getElem?_eq_some_iff.mp hd).1
    rw [List.length_map] at il
    rw [List.getElem?_map] at hd
    obtain ⟨z, hzz, rfl⟩ := Option.map_eq_some_iff.mp hd
    refine ⟨H.get (by walk_at "m"), ?_⟩
    walk_at "e"
    walk_at "s"
    refine h_lcT (fun i acc => ∃ os : List Str, acc = os.map D.str ∧ ∀ z ∈ os, LX.SmS z) H (by rw [List.length_map]; omega) ⟨[], rfl, by simp⟩ (fun _ H => H.get (by walk_at "m")) (fun R S i'' d acc p M hd hI H kR kS => ?_) (fun o acc M hl hI H => ?_)
    · obtain ⟨os, rfl, ho⟩ := hI
      rw [List.getElem?_map] at hd
      obtain ⟨y, hy, rfl⟩ := Option.map_eq_some_iff.mp hd
      refine ⟨_, rfl, ?_⟩
      walk_at "e"
      refine t_ite (fun e => ?_) (fun e => ?_)
      · walk_at "e"
        refine kR _ _ ⟨os ++ [y], by rw [List.map_append]; rfl, fun x hx => ?_⟩ H
        rcases List.mem_append.mp hx with hx | hx
        · exact ho x hx
        · rw [List.mem_singleton.mp hx]; exact sz _ (List.mem_of_getElem? hy)
      · exact kS _ ⟨os, rfl, ho⟩ H
    obtain ⟨os, rfl, ho⟩ := hI
    rw [List.length_map, List.length_map] at hl
    have opl : (os.map D.str).length = os.length := List.length_map ..
    walk_at "e"
    walk_at "s"
    -- the machine
    refine t_cut (fun ρ M => ∃ (n : Nat) (m : Sts) (w6 : Option D), ρ = [some (.ref j), some (.ref i), some (.ref na), some (.ref la), some (.ref f), some (.str z), w6, none, some (machD m)] ∧ MaOk n m ∧ n ≤ 4 ∧ Held M Js ((f, .lst (ms.map machD)) :: (la, .lst ([l1, l2].map D.str)) :: (na, .lst (zs.map D.str)) :: L)) (fun N0 hN0 => ?_) ?_
    · walk_at "e"
      rw [opl]
      refine t_ite (fun e => ?_) (fun e => ?_)
      · have e : 0 < os.length := by have := of_decide_eq_true e; omega
        walk_at "s"
        refine h_pick H hj (by omega) fun b M b0 b1 H => ?_
        obtain ⟨bn, rfl⟩ := Int.eq_ofNat_of_zero_le b0
        walk_at "e"
        rw [show (1 : Int) + (bn : Int) = ((1 + bn : Nat) : Int) by omega]
        refine h_machine (zs := [l1, l2]) H hj List.mem_cons_self (by walk_at "m") (by omega) (by omega) (by simp) (by simp) (by omega) (by omega) ho (by simp [s1, s2]) fun sts M hs _ H => ?_
        walk_at "e"
        exact hN0 _ _ ⟨_, sts, _, rfl, hs, by omega, H.tail⟩
      · walk_at "e"
        exact hN0 _ _ ⟨1, [none], _, rfl, ⟨rfl, by decide, by decide, by simp⟩, by decide, H.tail⟩
    rintro ρ M ⟨n, m, w6, rfl, hm1, n4, H⟩
    walk_at "s"
    refine h_pick H hj (by omega) fun b M b0 b1 H => ?_
    obtain ⟨bn, rfl⟩ := Int.eq_ofNat_of_zero_le b0
    walk_at "e"
    rw [show (1 : Int) + (bn : Int) = ((1 + bn : Nat) : Int) by omega]
    have nb : n * (1 + bn) ≤ 4 * 2 := Nat.mul_le_mul n4 (by omega)
    refine ⟨rfl, Js, _, j, n, 1 + bn, m, rfl, H, hj, hm1, by omega, by omega, fun m M hm2 _ H => ?_⟩
    generalize n * (1 + bn) = n2 at nb hm2
    have m2l : (m.map LX.stD).length = n2 := by rw [List.length_map]; exact hm2.len
    walk_at "e"
    refine t_cut (fun ρ M => ∃ (m : Sts), ρ = [some (.ref j), some (.ref i), some (.ref na), some (.ref la), some (.ref f), some (.str z), w6, none, some (machD m)] ∧ MaOk n2 m ∧ Held M Js ((f, .lst (ms.map machD)) :: (la, .lst ([l1, l2].map D.str)) :: (na, .lst (zs.map D.str)) :: L)) (fun N0 hN0 => ?_) ?_
    · walk_at "e"
      refine h_pick H hj (by omega) fun b M b0 b1 H => ?_
      walk_at "e"
      refine t_ite (fun e => ?_) (fun e => ?_)
      · unfold machD
        walk_at "s"
        rw [m2l]
        refine ⟨rfl, Js, _, j, n2, rfl, H, hj, by omega, fun p os M hO H => ?_⟩
        walk_at "e"
        refine ⟨rfl, Js, _, n2, m, p, os, rfl, H, List.mem_cons_self, hm2, hO, fun m M hm3 _ H => ?_⟩
        walk_at "e"
        exact hN0 _ _ ⟨m, rfl, hm3, H.tail⟩
      · walk_at "e"
        exact hN0 _ _ ⟨m, rfl, hm2, H⟩
    rintro ρ M ⟨m, rfl, hm3, H⟩
    walk_at "s"
    refine h_app H (by rw [List.length_map]; omega) fun M H => hN _ _ ⟨ms ++ [m], _, _, _, rfl, by rw [List.length_append, ml]; rfl, fun x hx => ?_, by rw [List.map_append]; exact H⟩
    rcases List.mem_append.mp hx with hx | hx
    · exact hm x hx
    · rw [List.mem_singleton.mp hx]; exact ⟨n2, hm3⟩
  · obtain ⟨ms, w5, w6, w8, rfl, ml, hm, H⟩ := hI
    rw [zpl] at ml
    refine ⟨H.get (by walk_at "m"), ?_⟩
    walk_at "e"
    walk_at "s"
    rw [zpl]
    refine ⟨rfl, Js, _, j, zs.length, 4, rfl, H, hj, by omega, by omega, by omega, fun rows M rl hr H => ?_⟩
    walk_at "e"
    exact k zs ms _ _ ⟨ml, by omega, sz, hm⟩ H.tail.tail.tail
theorem ok_law (ds : List D) (M : Mh) (P : PQ) (h : lawSp ds M P) : b_law sp_posts_right sp_used_posts sp_l_posts sp_jar sp_company { nx := fun _ M' => P .non M', rt := P } (startD 5 ds) M := by
  obtain ⟨ns, rfl, _, k⟩ := h
  have H := Held.nil M
  unfold b_law
  walk_at "s"
  refine h_jar H (by omega) fun j1 M H => ?_
  walk_at "e"
  refine h_jar H (by omega) fun i1 M H => ?_
  walk_at "e"
  refine ⟨rfl, _, _, j1, i1, rfl, H, by simp, by simp, fun zs ms r M C H => ?_⟩
  walk_at "e"
  walk_at "s"
  refine h_jar H (by omega) fun j2 M H => ?_
  walk_at "e"
  refine h_jar H (by omega) fun i2 M H => ?_
  walk_at "e"
  refine ⟨rfl, _, _, j2, i2, rfl, H, by simp, by simp, fun zs2 ms2 r2 M C2 H => ?_⟩
  walk_at "e"
  walk_at "s"
  refine ⟨rfl, _, _, zs, ms, r, rfl, H, C, fun M H => ?_⟩
  walk_at "e"
  walk_at "s"
  refine h_jar H (by omega) fun j M H => ?_
  walk_at "e"
  walk_at "s"
  refine ⟨rfl, _, _, j, zs, ms, r, rfl, H, by simp, C, fun M H => ?_⟩
  walk_at "e"
  refine t_if0 rfl ?_
  walk_at "e"
  refine ⟨rfl, _, _, zs2, ms2, r2, rfl, H, C2, fun M H => ?_⟩
  walk_at "e"
  refine ⟨rfl, _, _, j, zs2, ms2, r2, rfl, H, by simp, C2, fun M H => ?_⟩
  walk_at "e"
  refine t_if0 rfl ?_
  walk_at "e"
  walk_at "s"
  refine ⟨rfl, _, _, zs, ms, r, rfl, H, C, fun M H => ?_⟩
  walk_at "e"
  refine v_eq_posts (posts_ok C) ?_
  walk_at "e"
  refine t_if1 rfl ?_
  walk_at "e"
  exact ⟨rfl, _, _, j, zs, ms, r, rfl, H, by simp, C, fun M H => k _⟩
abbrev sp_posts : DSp := sp_l_posts
theorem ok_posts (ds : List D) (M : Mh) (P : PQ) (h : sp_posts ds M P) : b__law_posts sp_found { nx := fun _ M' => P .non M', rt := P } (startD 7 ds) M := ok_l_posts ds M P h
abbrev sp_is_number : DSp := sp_l_is_number
theorem ok_is_number (ds : List D) (M : Mh) (P : PQ) (h : sp_is_number ds M P) : b__law_is_number { nx := fun _ M' => P .non M', rt := P } (startD 1 ds) M := ok_l_is_number ds M P h
end K66
/-! K66d: that these bodies are those of the text, printed by gen.py -/
namespace K66
open PySem DL L2

def topS (i : Nat) : Stmt := PySem.Challenge.pw_swapwarrant_k66_posts_used.main.body.getD i (.Pass ⟨0, 0, 0, 0⟩)
abbrev s_moves_of : Stmt := topS 1
theorem sc_moves_of : FnScope ["standing"] ["standing"] (defScope s_moves_of) := ⟨rfl, rfl, rfl, by decide +kernel, rfl, by decide +kernel, by decide +kernel⟩
theorem den_moves_of : dB (dR 24) 24 (gmOf ["standing"] (defScope s_moves_of) [] []) (defBody s_moves_of) = some (b_moves_of) := by kernel_rfl
abbrev s_standings_from : Stmt := topS 2
theorem sc_standings_from : FnScope ["machine", "start", "found", "seen", "at", "move"] ["machine", "start"] (defScope s_standings_from) := ⟨rfl, rfl, rfl, by decide +kernel, rfl, by decide +kernel, by decide +kernel⟩
theorem den_standings_from (c_moves_of : DSp) : dB (dR 24) 24 (gmOf ["machine", "start", "found", "seen", "at", "move"] (defScope s_standings_from) [("moves_of", 1, c_moves_of)] []) (defBody s_standings_from) = some (b_standings_from c_moves_of) := by kernel_rfl
abbrev s_says_from : Stmt := topS 4
theorem sc_says_from : FnScope ["machine", "seen", "at"] ["machine"] (defScope s_says_from) := ⟨rfl, rfl, rfl, by decide +kernel, rfl, by decide +kernel, by decide +kernel⟩
theorem den_says_from (c_standings_from : DSp) : dB (dR 24) 24 (gmOf ["machine", "seen", "at"] (defScope s_says_from) [("standings_from", 2, c_standings_from)] []) (defBody s_says_from) = some (b_says_from c_standings_from) := by kernel_rfl
abbrev s_used_posts : Stmt := topS 5
theorem sc_used_posts : FnScope ["company", "found", "sender", "machine", "seen", "receiver"] ["company"] (defScope s_used_posts) := ⟨rfl, rfl, rfl, by decide +kernel, rfl, by decide +kernel, by decide +kernel⟩
theorem den_used_posts (c_says_from : DSp) : dB (dR 24) 24 (gmOf ["company", "found", "sender", "machine", "seen", "receiver"] (defScope s_used_posts) [("says_from", 1, c_says_from)] []) (defBody s_used_posts) = some (b_used_posts c_says_from) := by kernel_rfl
abbrev s_room_at : Stmt := topS 6
theorem sc_room_at : FnScope ["posts", "vector", "sender", "receiver", "post", "room"] ["posts", "vector", "sender", "receiver"] (defScope s_room_at) := ⟨rfl, rfl, rfl, by decide +kernel, rfl, by decide +kernel, by decide +kernel⟩
theorem den_room_at : dB (dR 24) 24 (gmOf ["posts", "vector", "sender", "receiver", "post", "room"] (defScope s_room_at) [] []) (defBody s_room_at) = some (b_room_at) := by kernel_rfl
abbrev s_with_rooms : Stmt := topS 7
theorem sc_with_rooms : FnScope ["company", "vector", "posts", "rows", "sender", "receiver"] ["company", "vector"] (defScope s_with_rooms) := ⟨rfl, rfl, rfl, by decide +kernel, rfl, by decide +kernel, by decide +kernel⟩
theorem den_with_rooms (c_room_at : DSp) (c_used_posts : DSp) : dB (dR 24) 24 (gmOf ["company", "vector", "posts", "rows", "sender", "receiver"] (defScope s_with_rooms) [("room_at", 4, c_room_at), ("used_posts", 1, c_used_posts)] []) (defBody s_with_rooms) = some (b_with_rooms c_room_at c_used_posts) := by kernel_rfl
abbrev s__law_cell : Stmt := topS 9
theorem sc__law_cell : FnScope ["script", "place"] ["script", "place"] (defScope s__law_cell) := ⟨rfl, rfl, rfl, by decide +kernel, rfl, by decide +kernel, by decide +kernel⟩
theorem den__law_cell : dB (dR 24) 24 (gmOf ["script", "place"] (defScope s__law_cell) [] []) (defBody s__law_cell) = some (b__law_cell) := by kernel_rfl
abbrev s__law_jar : Stmt := topS 10
theorem sc__law_jar : FnScope ["script", "place", "cell", "number"] ["script", "place"] (defScope s__law_jar) := ⟨rfl, rfl, rfl, by decide +kernel, rfl, by decide +kernel, by decide +kernel⟩
theorem den__law_jar (c__law_cell : DSp) : dB (dR 24) 24 (gmOf ["script", "place", "cell", "number"] (defScope s__law_jar) [("_law_cell", 2, c__law_cell)] []) (defBody s__law_jar) = some (b__law_jar c__law_cell) := by kernel_rfl
abbrev s__law_pick : Stmt := topS 11
theorem sc__law_pick : FnScope ["jar", "many", "found"] ["jar", "many"] (defScope s__law_pick) := ⟨rfl, rfl, rfl, by decide +kernel, rfl, by decide +kernel, by decide +kernel⟩
theorem den__law_pick : dB (dR 24) 24 (gmOf ["jar", "many", "found"] (defScope s__law_pick) [] []) (defBody s__law_pick) = some (b__law_pick) := by kernel_rfl
abbrev s__law_name : Stmt := topS 12
theorem sc__law_name : FnScope ["jar", "index", "letters", "word", "count", "at"] ["jar", "index"] (defScope s__law_name) := ⟨rfl, rfl, rfl, by decide +kernel, rfl, by decide +kernel, by decide +kernel⟩
theorem den__law_name (c__law_pick : DSp) : dB (dR 24) 24 (gmOf ["jar", "index", "letters", "word", "count", "at"] (defScope s__law_name) [("_law_pick", 2, c__law_pick)] []) (defBody s__law_name) = some (b__law_name c__law_pick) := by kernel_rfl
abbrev s__law_names : Stmt := topS 13
theorem sc__law_names : FnScope ["jar", "many", "index"] ["jar", "many"] (defScope s__law_names) := ⟨rfl, rfl, rfl, by decide +kernel, rfl, by decide +kernel, by decide +kernel⟩
theorem den__law_names (c__law_name : DSp) : dB (dR 24) 24 (gmOf ["jar", "many", "index"] (defScope s__law_names) [("_law_name", 2, c__law_name)] []) (defBody s__law_names) = some (b__law_names c__law_name) := by kernel_rfl
abbrev s__law_span : Stmt := topS 14
theorem sc__law_span : FnScope ["jar", "way", "value", "low"] ["jar"] (defScope s__law_span) := ⟨rfl, rfl, rfl, by decide +kernel, rfl, by decide +kernel, by decide +kernel⟩
theorem den__law_span (c__law_pick : DSp) : dB (dR 24) 24 (gmOf ["jar", "way", "value", "low"] (defScope s__law_span) [("_law_pick", 2, c__law_pick)] []) (defBody s__law_span) = some (b__law_span c__law_pick) := by kernel_rfl
abbrev s__law_moves : Stmt := topS 15
theorem sc__law_moves : FnScope ["jar", "labels", "count", "goals", "found", "used", "index", "label", "again", "word", "span", "low", "high"] ["jar", "labels", "count", "goals"] (defScope s__law_moves) := ⟨rfl, rfl, rfl, by decide +kernel, rfl, by decide +kernel, by decide +kernel⟩
theorem den__law_moves (c__law_pick : DSp) (c__law_span : DSp) : dB (dR 24) 24 (gmOf ["jar", "labels", "count", "goals", "found", "used", "index", "label", "again", "word", "span", "low", "high"] (defScope s__law_moves) [("_law_pick", 2, c__law_pick), ("_law_span", 1, c__law_span)] []) (defBody s__law_moves) = some (b__law_moves c__law_pick c__law_span) := by kernel_rfl
abbrev s__law_machine : Stmt := topS 16
theorem sc__law_machine : FnScope ["jar", "partners", "labels", "many", "found", "at", "kind", "count", "goals", "moves", "move"] ["jar", "partners", "labels", "many"] (defScope s__law_machine) := ⟨rfl, rfl, rfl, by decide +kernel, rfl, by decide +kernel, by decide +kernel⟩
theorem den__law_machine (c__law_pick : DSp) (c__law_moves : DSp) : dB (dR 24) 24 (gmOf ["jar", "partners", "labels", "many", "found", "at", "kind", "count", "goals", "moves", "move"] (defScope s__law_machine) [("_law_pick", 2, c__law_pick), ("_law_moves", 4, c__law_moves)] []) (defBody s__law_machine) = some (b__law_machine c__law_pick c__law_moves) := by kernel_rfl
abbrev s__law_copies : Stmt := topS 17
theorem sc__law_copies : FnScope ["jar", "part", "copies", "size", "found", "at", "standing", "moves", "move"] ["jar", "part", "copies"] (defScope s__law_copies) := ⟨rfl, rfl, rfl, by decide +kernel, rfl, by decide +kernel, by decide +kernel⟩
theorem den__law_copies (c__law_pick : DSp) : dB (dR 24) 24 (gmOf ["jar", "part", "copies", "size", "found", "at", "standing", "moves", "move"] (defScope s__law_copies) [("_law_pick", 2, c__law_pick)] []) (defBody s__law_copies) = some (b__law_copies c__law_pick) := by kernel_rfl
abbrev s__law_rooms : Stmt := topS 18
theorem sc__law_rooms : FnScope ["jar", "many", "top", "rows", "one", "other"] ["jar", "many", "top"] (defScope s__law_rooms) := ⟨rfl, rfl, rfl, by decide +kernel, rfl, by decide +kernel, by decide +kernel⟩
theorem den__law_rooms (c__law_pick : DSp) : dB (dR 24) 24 (gmOf ["jar", "many", "top", "rows", "one", "other"] (defScope s__law_rooms) [("_law_pick", 2, c__law_pick)] []) (defBody s__law_rooms) = some (b__law_rooms c__law_pick) := by kernel_rfl
abbrev s__law_is_number : Stmt := topS 19
theorem sc__law_is_number : FnScope ["thing"] ["thing"] (defScope s__law_is_number) := ⟨rfl, rfl, rfl, by decide +kernel, rfl, by decide +kernel, by decide +kernel⟩
theorem den__law_is_number : dB (dR 24) 24 (gmOf ["thing"] (defScope s__law_is_number) [] []) (defBody s__law_is_number) = some (b__law_is_number) := by kernel_rfl
abbrev s__law_mixed : Stmt := topS 20
theorem sc__law_mixed : FnScope ["jar", "many", "left", "found", "count"] ["jar", "many"] (defScope s__law_mixed) := ⟨rfl, rfl, rfl, by decide +kernel, rfl, by decide +kernel, by decide +kernel⟩
theorem den__law_mixed (c__law_pick : DSp) : dB (dR 24) 24 (gmOf ["jar", "many", "left", "found", "count"] (defScope s__law_mixed) [("_law_pick", 2, c__law_pick)] []) (defBody s__law_mixed) = some (b__law_mixed c__law_pick) := by kernel_rfl
abbrev s__law_ordered : Stmt := topS 21
theorem sc__law_ordered : FnScope ["machine", "order", "found", "old", "standing", "moves", "move"] ["machine", "order"] (defScope s__law_ordered) := ⟨rfl, rfl, rfl, by decide +kernel, rfl, by decide +kernel, by decide +kernel⟩
theorem den__law_ordered : dB (dR 24) 24 (gmOf ["machine", "order", "found", "old", "standing", "moves", "move"] (defScope s__law_ordered) [] []) (defBody s__law_ordered) = some (b__law_ordered) := by kernel_rfl
abbrev s__law_company : Stmt := topS 22
theorem sc__law_company : FnScope ["jar", "ink", "names", "labels", "machines", "name", "others", "other", "machine"] ["jar", "ink"] (defScope s__law_company) := ⟨rfl, rfl, rfl, by decide +kernel, rfl, by decide +kernel, by decide +kernel⟩
theorem den__law_company (c__law_rooms : DSp) (c__law_pick : DSp) (c__law_ordered : DSp) (c__law_mixed : DSp) (c__law_copies : DSp) (c__law_machine : DSp) (c__law_name : DSp) (c__law_names : DSp) : dB (dR 24) 24 (gmOf ["jar", "ink", "names", "labels", "machines", "name", "others", "other", "machine"] (defScope s__law_company) [("_law_rooms", 3, c__law_rooms), ("_law_pick", 2, c__law_pick), ("_law_ordered", 2, c__law_ordered), ("_law_mixed", 2, c__law_mixed), ("_law_copies", 3, c__law_copies), ("_law_machine", 4, c__law_machine), ("_law_name", 2, c__law_name), ("_law_names", 2, c__law_names)] []) (defBody s__law_company) = some (b__law_company c__law_rooms c__law_pick c__law_ordered c__law_mixed c__law_copies c__law_machine c__law_name c__law_names) := by kernel_rfl
abbrev s__law_found : Stmt := topS 23
theorem sc__law_found : FnScope ["machine", "found", "count", "move"] ["machine"] (defScope s__law_found) := ⟨rfl, rfl, rfl, by decide +kernel, rfl, by decide +kernel, by decide +kernel⟩
theorem den__law_found : dB (dR 24) 24 (gmOf ["machine", "found", "count", "move"] (defScope s__law_found) [] []) (defBody s__law_found) = some (b__law_found) := by kernel_rfl
abbrev s__law_posts : Stmt := topS 24
theorem sc__law_posts : FnScope ["company", "found", "sender", "machine", "heard_by", "at", "receiver"] ["company"] (defScope s__law_posts) := ⟨rfl, rfl, rfl, by decide +kernel, rfl, by decide +kernel, by decide +kernel⟩
theorem den__law_posts (c__law_found : DSp) : dB (dR 24) 24 (gmOf ["company", "found", "sender", "machine", "heard_by", "at", "receiver"] (defScope s__law_posts) [("_law_found", 1, c__law_found)] []) (defBody s__law_posts) = some (b__law_posts c__law_found) := by kernel_rfl
abbrev s__law_room_rows : Stmt := topS 25
theorem sc__law_room_rows : FnScope ["names", "posts", "vector", "rows", "sender", "row", "receiver", "room"] ["names", "posts", "vector"] (defScope s__law_room_rows) := ⟨rfl, rfl, rfl, by decide +kernel, rfl, by decide +kernel, by decide +kernel⟩
theorem den__law_room_rows : dB (dR 24) 24 (gmOf ["names", "posts", "vector", "rows", "sender", "row", "receiver", "room"] (defScope s__law_room_rows) [] []) (defBody s__law_room_rows) = some (b__law_room_rows) := by kernel_rfl
abbrev s__law_has_rooms : Stmt := topS 26
theorem sc__law_has_rooms : FnScope ["thing", "company", "posts", "vector", "row", "room"] ["thing", "company", "posts", "vector"] (defScope s__law_has_rooms) := ⟨rfl, rfl, rfl, by decide +kernel, rfl, by decide +kernel, by decide +kernel⟩
theorem den__law_has_rooms (c__law_is_number : DSp) (c__law_room_rows : DSp) : dB (dR 24) 24 (gmOf ["thing", "company", "posts", "vector", "row", "room"] (defScope s__law_has_rooms) [("_law_is_number", 1, c__law_is_number), ("_law_room_rows", 3, c__law_room_rows)] []) (defBody s__law_has_rooms) = some (b__law_has_rooms c__law_is_number c__law_room_rows) := by kernel_rfl
abbrev s__law_posts_right : Stmt := topS 27
theorem sc__law_posts_right : FnScope ["jar", "company", "posts", "vector", "post", "roomed", "other", "zeros"] ["jar", "company", "posts"] (defScope s__law_posts_right) := ⟨rfl, rfl, rfl, by decide +kernel, rfl, by decide +kernel, by decide +kernel⟩
theorem den__law_posts_right (c__law_has_rooms : DSp) (c_with_rooms : DSp) (c_used_posts : DSp) (c__law_rooms : DSp) (c__law_pick : DSp) : dB (dR 24) 24 (gmOf ["jar", "company", "posts", "vector", "post", "roomed", "other", "zeros"] (defScope s__law_posts_right) [("_law_has_rooms", 4, c__law_has_rooms), ("with_rooms", 2, c_with_rooms), ("used_posts", 1, c_used_posts), ("_law_rooms", 3, c__law_rooms), ("_law_pick", 2, c__law_pick)] []) (defBody s__law_posts_right) = some (b__law_posts_right c__law_has_rooms c_with_rooms c_used_posts c__law_rooms c__law_pick) := by kernel_rfl
abbrev s_law : Stmt := topS 28
theorem sc_law : FnScope ["script", "one", "two", "posts", "jar"] ["script"] (defScope s_law) := ⟨rfl, rfl, rfl, by decide +kernel, rfl, by decide +kernel, by decide +kernel⟩
theorem den_law (c__law_posts_right : DSp) (c_used_posts : DSp) (c__law_posts : DSp) (c__law_jar : DSp) (c__law_company : DSp) : dB (dR 24) 24 (gmOf ["script", "one", "two", "posts", "jar"] (defScope s_law) [("_law_posts_right", 3, c__law_posts_right), ("used_posts", 1, c_used_posts), ("_law_posts", 1, c__law_posts), ("_law_jar", 2, c__law_jar), ("_law_company", 2, c__law_company)] []) (defBody s_law) = some (b_law c__law_posts_right c_used_posts c__law_posts c__law_jar c__law_company) := by kernel_rfl
end K66
/-! K66z: the defs joined, and the law; printed by gen.py -/
namespace K66
open PySem PySem.Spec DL L2 LX GR K22 MX
open PyProof.Rows hiding St
theorem all_mk {l : PySem.W.OpenLaw} {w : World} {K : PySem.W.Frag} {h : Heap} {mg : Str → Option Value} {fa : Addr} (X : K.In h) (G : h.Ns mainGlobals mg) (hfa : mg "law" = some (.ref fa))
    (e0 : DefAt K "_law_is_number" s__law_is_number)
    (e1 : DefAt K "_law_room_rows" s__law_room_rows)
    (e2 : DefAt K "_law_has_rooms" s__law_has_rooms)
    (e3 : DefAt K "room_at" s_room_at)
    (e4 : DefAt K "moves_of" s_moves_of)
    (e5 : DefAt K "standings_from" s_standings_from)
    (e6 : DefAt K "says_from" s_says_from)
    (e7 : DefAt K "used_posts" s_used_posts)
    (e8 : DefAt K "with_rooms" s_with_rooms)
    (e9 : DefAt K "_law_pick" s__law_pick)
    (e10 : DefAt K "_law_rooms" s__law_rooms)
    (e11 : DefAt K "_law_posts_right" s__law_posts_right)
    (e12 : DefAt K "_law_found" s__law_found)
    (e13 : DefAt K "_law_posts" s__law_posts)
    (e14 : DefAt K "_law_cell" s__law_cell)
    (e15 : DefAt K "_law_jar" s__law_jar)
    (e16 : DefAt K "_law_ordered" s__law_ordered)
    (e17 : DefAt K "_law_mixed" s__law_mixed)
    (e18 : DefAt K "_law_copies" s__law_copies)
    (e19 : DefAt K "_law_span" s__law_span)
    (e20 : DefAt K "_law_moves" s__law_moves)
    (e21 : DefAt K "_law_machine" s__law_machine)
    (e22 : DefAt K "_law_name" s__law_name)
    (e23 : DefAt K "_law_names" s__law_names)
    (e24 : DefAt K "_law_company" s__law_company)
    (e25 : DefAt K "law" s_law)
    (n_len : PySem.W.nsIn K mainGlobals "len" = some none) (n_int : PySem.W.nsIn K mainGlobals "int" = some none) (n_str : PySem.W.nsIn K mainGlobals "str" = some none) (n_tuple : PySem.W.nsIn K mainGlobals "tuple" = some none) (n_list : PySem.W.nsIn K mainGlobals "list" = some none) (n_sum : PySem.W.nsIn K mainGlobals "sum" = some none) (n_abs : PySem.W.nsIn K mainGlobals "abs" = some none) (n_max : PySem.W.nsIn K mainGlobals "max" = some none) (n_min : PySem.W.nsIn K mainGlobals "min" = some none) (n_range : PySem.W.nsIn K mainGlobals "range" = some none) (n_isinstance : PySem.W.nsIn K mainGlobals "isinstance" = some none) (n_bool : PySem.W.nsIn K mainGlobals "bool" = some none) (n_dict : PySem.W.nsIn K mainGlobals "dict" = some none) (n_sorted : PySem.W.nsIn K mainGlobals "sorted" = some none) (n_zip : PySem.W.nsIn K mainGlobals "zip" = some none) (n_enumerate : PySem.W.nsIn K mainGlobals "enumerate" = some none) (n_reversed : PySem.W.nsIn K mainGlobals "reversed" = some none) (n_repr : PySem.W.nsIn K mainGlobals "repr" = some none) :
    ∃ fd : FuncData, (∀ (s : Shared) (v : Value), BindsTo s fd ⟨[v], []⟩ [("script", v)]) ∧ ∀ base : Heap, K.In base → base.Ns mainGlobals mg → FnOk l.prog w K mg base CX0 7 fa fd ["script"] (upF K 1 lawSp) := by
  have bl : BltOk mg := blt_of X G (by
    intro x hx
    simp only [bltNames, List.mem_cons, List.not_mem_nil, or_false] at hx
    rcases hx with rfl | rfl | rfl | rfl | rfl | rfl | rfl | rfl | rfl | rfl | rfl | rfl | rfl | rfl | rfl | rfl | rfl | rfl
    · exact n_len
    · exact n_int
    · exact n_str
    · exact n_tuple
    · exact n_list
    · exact n_sum
    · exact n_abs
    · exact n_max
    · exact n_min
    · exact n_range
    · exact n_isinstance
    · exact n_bool
    · exact n_dict
    · exact n_sorted
    · exact n_zip
    · exact n_enumerate
    · exact n_reversed
    · exact n_repr
    )
  obtain ⟨f0, fd0, F0, m0, B0, T0⟩ := e0.get (ps := ["thing"]) X G fun _ _ _ _ _ _ us hl => match us, hl with | [_], _ => rfl
  obtain ⟨f1, fd1, F1, m1, B1, T1⟩ := e1.get (ps := ["names", "posts", "vector"]) X G fun _ _ _ _ _ _ us hl => match us, hl with | [_, _, _], _ => rfl
  obtain ⟨f2, fd2, F2, m2, B2, T2⟩ := e2.get (ps := ["thing", "company", "posts", "vector"]) X G fun _ _ _ _ _ _ us hl => match us, hl with | [_, _, _, _], _ => rfl
  obtain ⟨f3, fd3, F3, m3, B3, T3⟩ := e3.get (ps := ["posts", "vector", "sender", "receiver"]) X G fun _ _ _ _ _ _ us hl => match us, hl with | [_, _, _, _], _ => rfl
  obtain ⟨f4, fd4, F4, m4, B4, T4⟩ := e4.get (ps := ["standing"]) X G fun _ _ _ _ _ _ us hl => match us, hl with | [_], _ => rfl
  obtain ⟨f5, fd5, F5, m5, B5, T5⟩ := e5.get (ps := ["machine", "start"]) X G fun _ _ _ _ _ _ us hl => match us, hl with | [_, _], _ => rfl
  obtain ⟨f6, fd6, F6, m6, B6, T6⟩ := e6.get (ps := ["machine"]) X G fun _ _ _ _ _ _ us hl => match us, hl with | [_], _ => rfl
  obtain ⟨f7, fd7, F7, m7, B7, T7⟩ := e7.get (ps := ["company"]) X G fun _ _ _ _ _ _ us hl => match us, hl with | [_], _ => rfl
  obtain ⟨f8, fd8, F8, m8, B8, T8⟩ := e8.get (ps := ["company", "vector"]) X G fun _ _ _ _ _ _ us hl => match us, hl with | [_, _], _ => rfl
  obtain ⟨f9, fd9, F9, m9, B9, T9⟩ := e9.get (ps := ["jar", "many"]) X G fun _ _ _ _ _ _ us hl => match us, hl with | [_, _], _ => rfl
  obtain ⟨f10, fd10, F10, m10, B10, T10⟩ := e10.get (ps := ["jar", "many", "top"]) X G fun _ _ _ _ _ _ us hl => match us, hl with | [_, _, _], _ => rfl
  obtain ⟨f11, fd11, F11, m11, B11, T11⟩ := e11.get (ps := ["jar", "company", "posts"]) X G fun _ _ _ _ _ _ us hl => match us, hl with | [_, _, _], _ => rfl
  obtain ⟨f12, fd12, F12, m12, B12, T12⟩ := e12.get (ps := ["machine"]) X G fun _ _ _ _ _ _ us hl => match us, hl with | [_], _ => rfl
  obtain ⟨f13, fd13, F13, m13, B13, T13⟩ := e13.get (ps := ["company"]) X G fun _ _ _ _ _ _ us hl => match us, hl with | [_], _ => rfl
  obtain ⟨f14, fd14, F14, m14, B14, T14⟩ := e14.get (ps := ["script", "place"]) X G fun _ _ _ _ _ _ us hl => match us, hl with | [_, _], _ => rfl
  obtain ⟨f15, fd15, F15, m15, B15, T15⟩ := e15.get (ps := ["script", "place"]) X G fun _ _ _ _ _ _ us hl => match us, hl with | [_, _], _ => rfl
  obtain ⟨f16, fd16, F16, m16, B16, T16⟩ := e16.get (ps := ["machine", "order"]) X G fun _ _ _ _ _ _ us hl => match us, hl with | [_, _], _ => rfl
  obtain ⟨f17, fd17, F17, m17, B17, T17⟩ := e17.get (ps := ["jar", "many"]) X G fun _ _ _ _ _ _ us hl => match us, hl with | [_, _], _ => rfl
  obtain ⟨f18, fd18, F18, m18, B18, T18⟩ := e18.get (ps := ["jar", "part", "copies"]) X G fun _ _ _ _ _ _ us hl => match us, hl with | [_, _, _], _ => rfl
  obtain ⟨f19, fd19, F19, m19, B19, T19⟩ := e19.get (ps := ["jar"]) X G fun _ _ _ _ _ _ us hl => match us, hl with | [_], _ => rfl
  obtain ⟨f20, fd20, F20, m20, B20, T20⟩ := e20.get (ps := ["jar", "labels", "count", "goals"]) X G fun _ _ _ _ _ _ us hl => match us, hl with | [_, _, _, _], _ => rfl
  obtain ⟨f21, fd21, F21, m21, B21, T21⟩ := e21.get (ps := ["jar", "partners", "labels", "many"]) X G fun _ _ _ _ _ _ us hl => match us, hl with | [_, _, _, _], _ => rfl
  obtain ⟨f22, fd22, F22, m22, B22, T22⟩ := e22.get (ps := ["jar", "index"]) X G fun _ _ _ _ _ _ us hl => match us, hl with | [_, _], _ => rfl
  obtain ⟨f23, fd23, F23, m23, B23, T23⟩ := e23.get (ps := ["jar", "many"]) X G fun _ _ _ _ _ _ us hl => match us, hl with | [_, _], _ => rfl
  obtain ⟨f24, fd24, F24, m24, B24, T24⟩ := e24.get (ps := ["jar", "ink"]) X G fun _ _ _ _ _ _ us hl => match us, hl with | [_, _], _ => rfl
  obtain ⟨f25, fd25, F25, m25, B25, T25⟩ := e25.get (ps := ["script"]) X G fun _ _ _ _ _ _ us hl => match us, hl with | [_], _ => rfl
  have ef := hfa.symm.trans m25
  cases ef
  refine ⟨fd25, fun s v => T25 s [v] rfl, fun base XB GB => ?_⟩
  have g0 : Dfn l.prog w K mg base 1 "_law_is_number" 1 sp_is_number := dfn_of F0 sc__law_is_number m0 (by rfl) B0 (k := 0) .nil .nil bl (den__law_is_number ) ok_is_number
  have g1 : Dfn l.prog w K mg base 1 "_law_room_rows" 3 sp_room_rows := dfn_of F1 sc__law_room_rows m1 (by rfl) B1 (k := 0) .nil .nil bl (den__law_room_rows ) ok_room_rows
  have g2 : Dfn l.prog w K mg base 2 "_law_has_rooms" 4 sp_has_rooms := dfn_of F2 sc__law_has_rooms m2 (by rfl) B2 (k := 1) (.cons (g0.mono (by decide)) (.cons (g1.mono (by decide)) .nil)) .nil bl (den__law_has_rooms sp_is_number sp_room_rows) ok_has_rooms
  have g3 : Dfn l.prog w K mg base 1 "room_at" 4 sp_room_at := dfn_of F3 sc_room_at m3 (by rfl) B3 (k := 0) .nil .nil bl (den_room_at ) ok_room_at
  have g4 : Dfn l.prog w K mg base 1 "moves_of" 1 sp_moves_of := dfn_of F4 sc_moves_of m4 (by rfl) B4 (k := 0) .nil .nil bl (den_moves_of ) ok_moves_of
  have g5 : Dfn l.prog w K mg base 2 "standings_from" 2 sp_standings_from := dfn_of F5 sc_standings_from m5 (by rfl) B5 (k := 1) (.cons (g4.mono (by decide)) .nil) .nil bl (den_standings_from sp_moves_of) ok_standings_from
  have g6 : Dfn l.prog w K mg base 3 "says_from" 1 sp_says_from := dfn_of F6 sc_says_from m6 (by rfl) B6 (k := 2) (.cons (g5.mono (by decide)) .nil) .nil bl (den_says_from sp_standings_from) ok_says_from
  have g7 : Dfn l.prog w K mg base 4 "used_posts" 1 sp_used_posts := dfn_of F7 sc_used_posts m7 (by rfl) B7 (k := 3) (.cons (g6.mono (by decide)) .nil) .nil bl (den_used_posts sp_says_from) ok_used_posts
  have g8 : Dfn l.prog w K mg base 5 "with_rooms" 2 sp_with_rooms := dfn_of F8 sc_with_rooms m8 (by rfl) B8 (k := 4) (.cons (g3.mono (by decide)) (.cons (g7.mono (by decide)) .nil)) .nil bl (den_with_rooms sp_room_at sp_used_posts) ok_with_rooms
  have g9 : Dfn l.prog w K mg base 1 "_law_pick" 2 sp_pick := dfn_of F9 sc__law_pick m9 (by rfl) B9 (k := 0) .nil .nil bl (den__law_pick ) ok_pick
  have g10 : Dfn l.prog w K mg base 2 "_law_rooms" 3 sp_rooms := dfn_of F10 sc__law_rooms m10 (by rfl) B10 (k := 1) (.cons (g9.mono (by decide)) .nil) .nil bl (den__law_rooms sp_pick) ok_rooms
  have g11 : Dfn l.prog w K mg base 6 "_law_posts_right" 3 sp_posts_right := dfn_of F11 sc__law_posts_right m11 (by rfl) B11 (k := 5) (.cons (g2.mono (by decide)) (.cons (g8.mono (by decide)) (.cons (g7.mono (by decide)) (.cons (g10.mono (by decide)) (.cons (g9.mono (by decide)) .nil))))) .nil bl (den__law_posts_right sp_has_rooms sp_with_rooms sp_used_posts sp_rooms sp_pick) ok_posts_right
  have g12 : Dfn l.prog w K mg base 1 "_law_found" 1 sp_found := dfn_of F12 sc__law_found m12 (by rfl) B12 (k := 0) .nil .nil bl (den__law_found ) ok_found
  have g13 : Dfn l.prog w K mg base 2 "_law_posts" 1 sp_posts := dfn_of F13 sc__law_posts m13 (by rfl) B13 (k := 1) (.cons (g12.mono (by decide)) .nil) .nil bl (den__law_posts sp_found) ok_posts
  have g14 : Dfn l.prog w K mg base 1 "_law_cell" 2 sp_cell := dfn_of F14 sc__law_cell m14 (by rfl) B14 (k := 0) .nil .nil bl (den__law_cell ) ok_cell
  have g15 : Dfn l.prog w K mg base 2 "_law_jar" 2 sp_jar := dfn_of F15 sc__law_jar m15 (by rfl) B15 (k := 1) (.cons (g14.mono (by decide)) .nil) .nil bl (den__law_jar sp_cell) ok_jar
  have g16 : Dfn l.prog w K mg base 1 "_law_ordered" 2 sp_ordered := dfn_of F16 sc__law_ordered m16 (by rfl) B16 (k := 0) .nil .nil bl (den__law_ordered ) ok_ordered
  have g17 : Dfn l.prog w K mg base 2 "_law_mixed" 2 sp_mixed := dfn_of F17 sc__law_mixed m17 (by rfl) B17 (k := 1) (.cons (g9.mono (by decide)) .nil) .nil bl (den__law_mixed sp_pick) ok_mixed
  have g18 : Dfn l.prog w K mg base 2 "_law_copies" 3 sp_copies := dfn_of F18 sc__law_copies m18 (by rfl) B18 (k := 1) (.cons (g9.mono (by decide)) .nil) .nil bl (den__law_copies sp_pick) ok_copies
  have g19 : Dfn l.prog w K mg base 2 "_law_span" 1 sp_span := dfn_of F19 sc__law_span m19 (by rfl) B19 (k := 1) (.cons (g9.mono (by decide)) .nil) .nil bl (den__law_span sp_pick) ok_span
  have g20 : Dfn l.prog w K mg base 3 "_law_moves" 4 sp_moves := dfn_of F20 sc__law_moves m20 (by rfl) B20 (k := 2) (.cons (g9.mono (by decide)) (.cons (g19.mono (by decide)) .nil)) .nil bl (den__law_moves sp_pick sp_span) ok_moves
  have g21 : Dfn l.prog w K mg base 4 "_law_machine" 4 sp_machine := dfn_of F21 sc__law_machine m21 (by rfl) B21 (k := 3) (.cons (g9.mono (by decide)) (.cons (g20.mono (by decide)) .nil)) .nil bl (den__law_machine sp_pick sp_moves) ok_machine
  have g22 : Dfn l.prog w K mg base 2 "_law_name" 2 sp_name := dfn_of F22 sc__law_name m22 (by rfl) B22 (k := 1) (.cons (g9.mono (by decide)) .nil) .nil bl (den__law_name sp_pick) ok_name
  have g23 : Dfn l.prog w K mg base 3 "_law_names" 2 sp_names := dfn_of F23 sc__law_names m23 (by rfl) B23 (k := 2) (.cons (g22.mono (by decide)) .nil) .nil bl (den__law_names sp_name) ok_names
  have g24 : Dfn l.prog w K mg base 5 "_law_company" 2 sp_company := dfn_of F24 sc__law_company m24 (by rfl) B24 (k := 4) (.cons (g10.mono (by decide)) (.cons (g9.mono (by decide)) (.cons (g16.mono (by decide)) (.cons (g17.mono (by decide)) (.cons (g18.mono (by decide)) (.cons (g21.mono (by decide)) (.cons (g22.mono (by decide)) (.cons (g23.mono (by decide)) .nil)))))))) .nil bl (den__law_company sp_rooms sp_pick sp_ordered sp_mixed sp_copies sp_machine sp_name sp_names) ok_company
  exact fnok_of F25 sc_law (k := 6) (.cons (g11.mono (by decide)) (.cons (g7.mono (by decide)) (.cons (g13.mono (by decide)) (.cons (g15.mono (by decide)) (.cons (g24.mono (by decide)) .nil))))) .nil bl (den_law sp_posts_right sp_used_posts sp_posts sp_jar sp_company) ok_law
end K66
open PySem PySem.W PyProof.Rows
set_option maxHeartbeats 0 in
theorem PySem.Challenge.cw_swapwarrant_k66_posts_used_holds : PySem.Challenge.rw_swapwarrant_k66_posts_used.Holds := by
  w_on; o_law; k_head; (case hw => w_witness2)
  k_fill
  refine L2.walk_of (l := PySem.Challenge.rw_swapwarrant_k66_posts_used) (n := 63) (k := 7) (x := "script") (CX := fun _ => L2.CX0) (sp := fun w => DL.upF _ 1 DL.lawSp) rfl (by decide) rfl ⟨rfl, by decide, by decide⟩ (fun w h Y => PySem.W.kIn_of Y) ?F (fun _ _ a ns hl hO hS => DL.law_entry hl hO hS _) (fun _ _ _ _ _ h => h)
  case F =>
    intro w mg fa h KX G hmg
    refine' K66.all_mk KX G hmg (DL.defAt ?a0 ?l0 ?c0 ?k0) (DL.defAt ?a1 ?l1 ?c1 ?k1) (DL.defAt ?a2 ?l2 ?c2 ?k2) (DL.defAt ?a3 ?l3 ?c3 ?k3) (DL.defAt ?a4 ?l4 ?c4 ?k4) (DL.defAt ?a5 ?l5 ?c5 ?k5) (DL.defAt ?a6 ?l6 ?c6 ?k6) (DL.defAt ?a7 ?l7 ?c7 ?k7) (DL.defAt ?a8 ?l8 ?c8 ?k8) (DL.defAt ?a9 ?l9 ?c9 ?k9) (DL.defAt ?a10 ?l10 ?c10 ?k10) (DL.defAt ?a11 ?l11 ?c11 ?k11) (DL.defAt ?a12 ?l12 ?c12 ?k12) (DL.defAt ?a13 ?l13 ?c13 ?k13) (DL.defAt ?a14 ?l14 ?c14 ?k14) (DL.defAt ?a15 ?l15 ?c15 ?k15) (DL.defAt ?a16 ?l16 ?c16 ?k16) (DL.defAt ?a17 ?l17 ?c17 ?k17) (DL.defAt ?a18 ?l18 ?c18 ?k18) (DL.defAt ?a19 ?l19 ?c19 ?k19) (DL.defAt ?a20 ?l20 ?c20 ?k20) (DL.defAt ?a21 ?l21 ?c21 ?k21) (DL.defAt ?a22 ?l22 ?c22 ?k22) (DL.defAt ?a23 ?l23 ?c23 ?k23) (DL.defAt ?a24 ?l24 ?c24 ?k24) (DL.defAt ?a25 ?l25 ?c25 ?k25)  ?n_len ?n_int ?n_str ?n_tuple ?n_list ?n_sum ?n_abs ?n_max ?n_min ?n_range ?n_isinstance ?n_bool ?n_dict ?n_sorted ?n_zip ?n_enumerate ?n_reversed ?n_repr
    (case a0 => k_is); (case l0 => k_is); (case c0 => k_is); (case k0 => k_is); (case a1 => k_is); (case l1 => k_is); (case c1 => k_is); (case k1 => k_is); (case a2 => k_is); (case l2 => k_is); (case c2 => k_is); (case k2 => k_is); (case a3 => k_is); (case l3 => k_is); (case c3 => k_is); (case k3 => k_is); (case a4 => k_is); (case l4 => k_is); (case c4 => k_is); (case k4 => k_is); (case a5 => k_is); (case l5 => k_is); (case c5 => k_is); (case k5 => k_is); (case a6 => k_is); (case l6 => k_is); (case c6 => k_is); (case k6 => k_is); (case a7 => k_is); (case l7 => k_is); (case c7 => k_is); (case k7 => k_is); (case a8 => k_is); (case l8 => k_is); (case c8 => k_is); (case k8 => k_is); (case a9 => k_is); (case l9 => k_is); (case c9 => k_is); (case k9 => k_is); (case a10 => k_is); (case l10 => k_is); (case c10 => k_is); (case k10 => k_is); (case a11 => k_is); (case l11 => k_is); (case c11 => k_is); (case k11 => k_is); (case a12 => k_is); (case l12 => k_is); (case c12 => k_is); (case k12 => k_is); (case a13 => k_is); (case l13 => k_is); (case c13 => k_is); (case k13 => k_is); (case a14 => k_is); (case l14 => k_is); (case c14 => k_is); (case k14 => k_is); (case a15 => k_is); (case l15 => k_is); (case c15 => k_is); (case k15 => k_is); (case a16 => k_is); (case l16 => k_is); (case c16 => k_is); (case k16 => k_is); (case a17 => k_is); (case l17 => k_is); (case c17 => k_is); (case k17 => k_is); (case a18 => k_is); (case l18 => k_is); (case c18 => k_is); (case k18 => k_is); (case a19 => k_is); (case l19 => k_is); (case c19 => k_is); (case k19 => k_is); (case a20 => k_is); (case l20 => k_is); (case c20 => k_is); (case k20 => k_is); (case a21 => k_is); (case l21 => k_is); (case c21 => k_is); (case k21 => k_is); (case a22 => k_is); (case l22 => k_is); (case c22 => k_is); (case k22 => k_is); (case a23 => k_is); (case l23 => k_is); (case c23 => k_is); (case k23 => k_is); (case a24 => k_is); (case l24 => k_is); (case c24 => k_is); (case k24 => k_is); (case a25 => k_is); (case l25 => k_is); (case c25 => k_is); (case k25 => k_is)
    (case n_len => k_is); (case n_int => k_is); (case n_str => k_is); (case n_tuple => k_is); (case n_list => k_is); (case n_sum => k_is); (case n_abs => k_is); (case n_max => k_is); (case n_min => k_is); (case n_range => k_is); (case n_isinstance => k_is); (case n_bool => k_is); (case n_dict => k_is); (case n_sorted => k_is); (case n_zip => k_is); (case n_enumerate => k_is); (case n_reversed => k_is); (case n_repr => k_is)
